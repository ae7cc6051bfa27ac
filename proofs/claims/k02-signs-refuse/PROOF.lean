import PyProof.Rows.All
import HandS.HeadNt
import HandS.Head0
import HandS.Head1
import HandS.Head2
import HandS.HeadHook1
import HandS.HeadHook2
import HandS.IsInst
import HandS.ExcSuper
import HandS.Codes
import Wide.All
import OpenK.AllK
import Wide.FinOn
import HandS.ForMost
import HandS.Exc
import HandS.ExcOwn
import HandS.WordsExc
import HandS.TryOnly
import HandS.CallSlots
import HandS.Defaults
import HandS.Walk
import HandS.Set
import HandS.TupSets
import HandS.SetTxt0
import PyProof.Rows.SortShellSt
import HandS.Strs
import HandS.Style
import PyProof.ListStr
import PyProof.StrOps2
import HandS.More
import HandS.Wide
import HandS.HeadEnd
import KE.KExcSuper
import HandS.Small
import PyProof.ExcBaseAll.ValueError
import HandS.ExcField
import HandS.ExcIs
import KE.KExcIs
import HandS.TupAny
import HandS.TupMul
import HandS.HotCalls
import HandS.Deep
import HandS.ClsMeth
import HandS.Property
import PyProof.ListMulRight
import KE.KOpsOwn
import HandS.Dict
import HandS.SortInts
import HandS.SortRule
import HandS.Iter
import HandS.Zip
import HandS.DictComp
import KE.KEqDict
import HandS.OwnEq
import KE.GoesMore
import KE.SortData
import HandS.RevRange
import HandS.Conv
import KE.DataMinMax
import KE.DataCmp
import KE.KMinKey
import HandS.SortKw
import PyProof.NeKinds
import HandS.SuiteRaise
import HandS.RaiseFrom
import PyProof.ListMulRoad
import PyProof.Rows.RuleB_bool
import PyProof.FactsAll.dict
import HandS.Replace
import HandS.StrMore
import HandS.MakeKw
import PySem.Challenge.RW_townlines_k02_signs_refuse
set_option Elab.async false
set_option linter.all false
set_option maxRecDepth 100000
namespace Tl
open PySem PySem.Spec PyProof.Rows L2
/-- isinstance's answers, as a table that can be checked -/
def insB (K : PySem.W.Frag) (c : Str) : Bool := (He.Fa.cls c).ok K && (He.eqO (PySem.W.findIn K (.ref (He.ga K c)) "__class__") (some (some (.builtin "object.__class__"))) && (He.eqO (PySem.W.specialIn K (.builtin "object.__class__") "__get__") (some (some (.builtin "getset_descriptor.__get__"))) &&
  (decide (PySem.W.takesIn K (.builtin "object.__class__") = some true) && (decide (PySem.W.mroIn K (He.ga K c) (.type "object") = some true) && decide (PySem.W.kitOne K (.ref (He.ga K c)) (.ref (He.ga K c)) = some true)))))
def tyKeys : List String := ["str", "NoneType", "bool", "int", "list", "tuple", "dict"]
def tyArgs : List String := ["str", "int", "bool", "list", "tuple", "dict"]
/-- what the head looks at -/
def isiB (K : PySem.W.Frag) (cs : List Str) : Bool := (cs.all fun n => insB K n) && ((cs.all fun n => tyArgs.all fun T => decide (PySem.W.kitOne K (.ref (He.ga K n)) (.type T) = some false)) &&
  ((cs.all fun C => tyKeys.all fun n => decide (PySem.W.kitOne K (.type n) (.ref (He.ga K C)) = some false)) && (cs.all fun C => cs.all fun n => decide (PySem.W.kitOne K (.ref (He.ga K n)) (.ref (He.ga K C)) = some (n == C)))))
def emB (K : PySem.W.Frag) (errs : List Str) : Bool := errs.all fun y => errs.all fun c => decide (PySem.W.exmOne K (.ref (He.ga K y)) (.ref (He.ga K c)) = some (decide (y = c)))
def xCls (K : PySem.W.Frag) (C : Addr) : Bool := match K.lookup C with
  | some ⟨.type "type", _, .cls cd, sl⟩ => (match cd.mro, sl.toList with
    | .ref C' :: bm, [_, _, _, _, some (.builtin n), _] => C' == C && n == "ValueError.__new__" && !cd.hasDel && cd.hasDict && HandSPX.refsVE bm
    | _, _ => false)
  | _ => false
/-- the function of such an __init__: what the Bool looks at -/
def xFnB (prog : Program) (K : PySem.W.Frag) (C fI : Addr) (qual : Str) : Bool := match K.lookup fI with
  | some ⟨_, _, .func fd, _⟩ => (match fd.defaults, fd.kwdefaults, fd.code, fd.closure with
    | .none, .none, .ref cda, [(_, cc)] => PySem.W.codeIn K (.ref cda) qual && ((match K.lookup cda with
      | some ⟨_, _, Data.fields vs, _⟩ => (match (vs[2]? : Option Value) with
        | some (.str file _) => ((prog.main.file : Str) == file)
        | _ => false)
      | _ => false) && (match K.lookup cc with
      | some ⟨_, _, .cell (some (.ref D)), _⟩ => decide (D = C)
      | _ => false))
    | _, _, _, _ => false)
  | _ => false
abbrev FnV : Type := Option (Str × Str × Arguments × FuncBody × Scope × Addr × List Str × Addr)
def fnV (K : PySem.W.Frag) (a : Addr) : FnV := match K.lookup a with
  | some ⟨_, _, .func fd, _⟩ => some (fd.name, fd.qualname, fd.params, fd.body, fd.scope, fd.globals, fd.closure.map (·.1), fd.builtins)
  | _ => none
/-- an error class: its name, its field, its __init__ -/
structure XD where
  c : Str
  f : Str
  q : Str
  st : Stmt
def XD.val (x : XD) : FnV := some ("__init__", x.q, defArgs x.st, .stmts (defBody x.st), defScope x.st, mainGlobals, ["__class__"], builtinsNs)
def XD.at_ (K : PySem.W.Frag) (x : XD) : Addr := He.ma K (He.ga K x.c) "__init__"
/-- what else is looked at -/
def XD.ok (prog : Program) (K : PySem.W.Frag) (x : XD) : Bool :=
  xCls K (He.ga K x.c) && (He.eqO (PySem.W.findIn K (.ref (He.ga K x.c)) "__setattr__") (some (some (.builtin "object.__setattr__"))) && (He.eqO (PySem.W.findIn K (.ref (He.ga K x.c)) x.f) (some none) && (He.eqO (PySem.W.findIn K (.ref (He.ga K x.c)) "__init__") (some (some (.ref (x.at_ K)))) &&
  (decide (PySem.W.typeIn K (.ref (x.at_ K)) = some (.type "function")) && (He.eqO (PySem.W.ks_superIn K (He.ga K x.c) (He.ga K x.c) "__init__") (some (some (.builtin "ValueError.__init__"))) && (decide (PySem.W.subIn K (.ref (He.ga K x.c)) (.type "ValueError") = some true) &&
  (decide (PySem.W.mroIn K (He.ga K x.c) (.ref (He.ga K x.c)) = some true) && (xFnB prog K (He.ga K x.c) (x.at_ K) x.q &&
  (PySem.W.keepIn K (.ref (He.ga K x.c)) && (decide (PySem.W.subIn K (.ref (He.ga K x.c)) (.type "BaseException") = some true) && decide (PySem.W.typeIn K (.ref (He.ga K x.c)) = some (.type "type"))))))))))))
/-- what isinstance(e, ..) looks at -/
def excB (K : PySem.W.Frag) (D : Addr) : Bool := He.eqO (PySem.W.findIn K (.ref D) "__getattribute__") (some (some (.builtin "BaseException.__getattribute__"))) && (He.eqO (PySem.W.findIn K (.ref D) "__getattr__") (some none) && (decide (PySem.W.subIn K (.ref D) (.type "BaseException") = some true) && (PySem.W.hasDictIn K D &&
  (He.eqO (PySem.W.findIn K (.ref D) "__class__") (some (some (.builtin "object.__class__"))) && (He.eqO (PySem.W.specialIn K (.builtin "object.__class__") "__get__") (some (some (.builtin "getset_descriptor.__get__"))) && (decide (PySem.W.takesIn K (.builtin "object.__class__") = some true) && decide (PySem.W.mroIn K D (.type "object") = some true)))))))
abbrev AlG : Type := (He.AlD × Bool) × List FnV
def obsGK (fa : List He.Fa) (fn : List He5.DefA) (ex : PySem.W.Frag → Bool) (xs : List XD) (K : PySem.W.Frag) : AlG := ((He5.obsA fa fn K, ex K), xs.map fun x => fnV K (x.at_ K))
def aDef (x : Str) (st : Stmt) (dfl : List He.Dv) : He5.DefA := ⟨fun K => He.ga K x, x, x, defArgs st, defBody st, defScope st, dfl, []⟩
def aMet (c m q : Str) (st : Stmt) (dfl : List He.Dv) : He5.DefA := ⟨fun K => He.ma K (He.ga K c) m, m, q, defArgs st, defBody st, defScope st, dfl, []⟩
def aSta (c m q : Str) (st : Stmt) (dfl : List He.Dv) : He5.DefA := ⟨fun K => He5.wf K (He.ga K c) "staticmethod" m, m, q, defArgs st, defBody st, defScope st, dfl, []⟩
def aPro (c m q : Str) (st : Stmt) : He5.DefA := ⟨fun K => He5.wf K (He.ga K c) "property" m, m, q, defArgs st, defBody st, defScope st, [], []⟩
def rdB (K : PySem.W.Frag) (c : Str) : Bool := PySem.W.readsIn K (He.ga K c) (.type "type") && He.eqO (PySem.W.specialIn K (.ref (He.ga K c)) "__getattribute__") (some (some (.builtin "type.__getattribute__")))
def smB (K : PySem.W.Frag) (c m : Str) : Bool := He5.wrapB K (He.ga K c) "staticmethod" "staticmethod.__get__" m
def prB (K : PySem.W.Frag) (c m : Str) : Bool := He.eqO (PySem.W.findIn K (.ref (He.ga K c)) m) (some (some (.ref (He.ma K (He.ga K c) m)))) && (He.eqO (PySem.W.specialIn K (.ref (He.ma K (He.ga K c) m)) "__get__") (some (some (.builtin "property.__get__"))) && (decide (PySem.W.takesIn K (.ref (He.ma K (He.ga K c) m)) = some true) &&
  (match PySem.W.recIn K (He.ma K (He.ga K c) m) "property" with
    | some (.ref _ :: _) => true
    | _ => false)))
def subB (K : PySem.W.Frag) (c : Str) : Bool := tyKeys.all fun T => decide (PySem.W.subIn K (.type T) (.ref (He.ga K c)) = some false)
def ioB (K : PySem.W.Frag) (c : Str) : Bool := decide (PySem.W.subIn K (.ref (He.ga K c)) (.type "int") = some false) && decide (PySem.W.subIn K (.type "int") (.ref (He.ga K c)) = some false)
def topB (K : PySem.W.Frag) (c : Str) : Bool := match PySem.W.clsIn K (He.ga K c) with
  | some cd => decide (cd.mro = [.ref (He.ga K c), .type "object"])
  | none => false
/-- those not seen before -/
def addB {α : Type} : List Addr → List Addr → Nat → (List Addr → Nat → α) → α
  | [], acc, vis, k => k acc vis
  | a :: r, acc, vis, k => HandSHeadRun.frNat a fun a => match Nat.land (Nat.shiftRight vis a) 1 with
    | 0 => HandSHeadRun.frNat (Nat.lor vis (Nat.shiftLeft 1 a)) fun v => addB r (a :: acc) v k
    | _ + 1 => addB r acc vis k
def refsB (g : Addr → Option Obj) : List Addr → List Addr
  | [] => []
  | a :: r => match g a with
    | some o => He.refsD o ++ refsB g r
    | none => refsB g r
def levB (g : Addr → Option Obj) : Nat → List Addr → Nat → List Addr
  | 0, front, _ => front
  | n + 1, front, vis => front ++ addB (refsB g front) [] vis fun new v => levB g n new.reverse v
def asB (g : Addr → Option Obj) (n : Nat) : List Addr := cStatics :: levB g n [mainGlobals] (Nat.shiftLeft 1 mainGlobals)
/-- the head looks at an error class whose field is read -/
def xfB (K : PySem.W.Frag) (c f : Str) : Bool := excB K (He.ga K c) && He.eqO (PySem.W.findIn K (.ref (He.ga K c)) f) (some none)
end Tl
namespace Tw
open PySem PySem.Spec PyProof.Rows L2 Tl
def AL : Str := (" !\"#$&'()*+,-./0123456789:;<=>?@ABCDEFGHIJKLMNOPQRSTUVWXYZ[\\]^_`abcdefghijklmnopqrstuvwxyz{|}~" : String)
abbrev c_ALPHABET : Str := AL
abbrev c_LOWER : Str := "abcdefghijklmnopqrstuvwxyz"
end Tw
section
set_option maxHeartbeats 4000000
namespace Tw
open PySem PySem.Spec PyProof.Rows L2 Tl
def top (i : Nat) : Stmt := PySem.Challenge.pw_townlines_k02_signs_refuse.main.body.getD i (.Pass ⟨0, 0, 0, 0⟩)
abbrev inC (s : Stmt) (i : Nat) : Stmt := (C8.clsBody s).getD i (.Pass ⟨0, 0, 0, 0⟩)
abbrev st_BadItem (i : Nat) : Stmt := inC (top 7) i
abbrev st_BadForm (i : Nat) : Stmt := inC (top 8) i
abbrev st_BadName (i : Nat) : Stmt := inC (top 9) i
abbrev st_is_signs : Stmt := top 20
abbrev st_is_name : Stmt := top 21
abbrev st_is_number : Stmt := top 22
abbrev st_in_order : Stmt := top 24
abbrev st_held_signs : Stmt := top 25
abbrev st_Signs (i : Nat) : Stmt := inC (top 26) i
abbrev st_Layout (i : Nat) : Stmt := inC (top 28) i
abbrev st_followers : Stmt := top 29
abbrev st_nothing : Stmt := top 30
abbrev st_then : Stmt := top 31
abbrev st_run_piece : Stmt := top 32
abbrev st_row_of_runs : Stmt := top 33
abbrev st_kind_piece : Stmt := top 34
abbrev st_mark_piece : Stmt := top 35
abbrev st_run_places : Stmt := top 39
abbrev st_made_kind : Stmt := top 40
abbrev st_run_signs : Stmt := top 42
abbrev st_Kind (i : Nat) : Stmt := inC (top 47) i
abbrev st_Field (i : Nat) : Stmt := inC (top 53) i
abbrev st_Mark (i : Nat) : Stmt := inC (top 54) i
abbrev st_Maybe (i : Nat) : Stmt := inC (top 55) i
abbrev st_is_item : Stmt := top 56
abbrev st_own_names : Stmt := top 57
abbrev st_names_in : Stmt := top 58
abbrev st_depth_of : Stmt := top 59
abbrev st_kind_places : Stmt := top 60
abbrev st_count_places : Stmt := top 61
abbrev st_joined_marks : Stmt := top 62
abbrev st_row_piece : Stmt := top 64
abbrev st_item_piece : Stmt := top 65
abbrev st_with_line : Stmt := top 66
abbrev st_form_layout : Stmt := top 67
abbrev st_is_line : Stmt := top 82
abbrev st_line_places : Stmt := top 83
abbrev st_checked_lines : Stmt := top 84
abbrev st_Form (i : Nat) : Stmt := inC (top 85) i
abbrev st_law_bag : Stmt := top 87
abbrev st_law_draw : Stmt := top 88
abbrev st_law_alphabet : Stmt := top 89
abbrev st_law_letters : Stmt := top 90
abbrev st_law_refused : Stmt := top 91
abbrev st_law_or : Stmt := top 92
abbrev st_law_and : Stmt := top 93
abbrev st_law_less : Stmt := top 94
abbrev st_law_or_in_place : Stmt := top 95
abbrev st_law_new : Stmt := top 96
abbrev st_law_inside : Stmt := top 97
abbrev st_law_span_of : Stmt := top 98
abbrev st_law_least_of : Stmt := top 99
abbrev st_law_bad : Stmt := top 100
abbrev st_law_all_refused : Stmt := top 101
abbrev st_law_span : Stmt := top 102
abbrev st_law : Stmt := top 103
abbrev FnQ (K : PySem.W.Frag) (x q : Str) (st : Stmt) (dv : List V) (f : Addr) (fd : FuncData) : Prop := FunD K x q (defArgs st) (defBody st) (defScope st) dv [] f fd
abbrev cs : List Str := ["Signs", "Layout", "Kind", "Field", "Mark", "Maybe", "Form"]
abbrev errs : List Str := ["BadSigns", "BadText", "BadKind", "TooLarge", "BadItem", "BadForm", "BadName", "Unknown", "Missing", "BadValue", "BadNumber"]
end Tw
end
namespace Tl
open PySem PySem.Spec PyProof.Rows L2
def xiB (K : PySem.W.Frag) (c t : Str) : Bool := excB K (He.ga K c) && decide (PySem.W.kitOne K (.ref (He.ga K c)) (if t = "ValueError" then .type "ValueError" else .ref (He.ga K t)) = some true)
end Tl
namespace Tl
open PySem PySem.Spec PyProof.Rows L2
def nfB (K : PySem.W.Frag) (D : Addr) (nm : String) : Bool := He.eqO (PySem.W.findIn K (.ref D) (PySem.dunder nm)) (some none) && He.eqO (PySem.W.findIn K (.ref D) (dunderR nm)) (some none)
def npB (K : PySem.W.Frag) (c c2 : Str) : Bool := !decide (He.ga K c2 = He.ga K c) && (topB K c2 && (nfB K (He.ga K c2) "or" && (nfB K (He.ga K c2) "and" && nfB K (He.ga K c2) "sub")))
def niB (K : PySem.W.Frag) (c nm : Str) : Bool := He.eqO (PySem.W.findIn K (.ref (He.ga K c)) nm) (some none)
def neB (K : PySem.W.Frag) (c c2 : Str) : Bool := !decide (He.ga K c2 = He.ga K c) && topB K c2
end Tl
namespace Tw
open PySem PySem.Spec PyProof.Rows L2 Tl
abbrev c_UPPER : Str := "ABCDEFGHIJKLMNOPQRSTUVWXYZ"
abbrev c_FIGURES : Str := "0123456789"
end Tw
section
set_option maxHeartbeats 4000000
namespace Tw
open PySem PySem.Spec PyProof.Rows L2 Tl
def fnL : List He5.DefA := [aDef "law" st_law [], aDef "_law_span" st_law_span [], aDef "_law_refused" st_law_refused [], aDef "_law_span_of" st_law_span_of [], aSta "Signs" "span" "Signs.span" (st_Signs 1) [], aDef "is_signs" st_is_signs [], aMet "Signs" "__init__" "Signs.__init__" (st_Signs 0) [.str ""], aDef "in_order" st_in_order [], aDef "_law_or_in_place" st_law_or_in_place [], aMet "Signs" "__ror__" "Signs.__ror__" (st_Signs 6) [], aDef "held_signs" st_held_signs [], aMet "Signs" "__or__" "Signs.__or__" (st_Signs 5) [], aDef "_law_or" st_law_or [], aDef "_law_new" st_law_new [], aDef "_law_less" st_law_less [], aMet "Signs" "__sub__" "Signs.__sub__" (st_Signs 9) [], aMet "Signs" "__rsub__" "Signs.__rsub__" (st_Signs 10) [], aDef "_law_least_of" st_law_least_of [], aMet "Signs" "least" "Signs.least" (st_Signs 17) [], aDef "_law_inside" st_law_inside [], aMet "Signs" "within" "Signs.within" (st_Signs 16) [], aDef "_law_and" st_law_and [], aMet "Signs" "__rand__" "Signs.__rand__" (st_Signs 8) [], aMet "Signs" "__and__" "Signs.__and__" (st_Signs 7) [], aDef "_law_alphabet" st_law_alphabet [], aMet "Signs" "spelled" "Signs.spelled" (st_Signs 18) [], aDef "_law_letters" st_law_letters [], aDef "_law_draw" st_law_draw [], aDef "_law_bad" st_law_bad [], aDef "_law_all_refused" st_law_all_refused [], aSta "Signs" "letters" "Signs.letters" (st_Signs 2) [], aSta "Signs" "digits" "Signs.digits" (st_Signs 4) [], aSta "Signs" "capitals" "Signs.capitals" (st_Signs 3) [], aMet "Signs" "__eq__" "Signs.__eq__" (st_Signs 12) [], aMet "Signs" "__contains__" "Signs.__contains__" (st_Signs 13) [], aMet "Maybe" "__init__" "Maybe.__init__" (st_Maybe 0) [], aDef "own_names" st_own_names [], aDef "joined_marks" st_joined_marks [], aMet "Mark" "__init__" "Mark.__init__" (st_Mark 0) [], aDef "is_item" st_is_item [], aDef "depth_of" st_depth_of [], aDef "count_places" st_count_places [], aDef "kind_places" st_kind_places [], aDef "run_places" st_run_places [], aMet "Kind" "alternatives" "Kind.alternatives" (st_Kind 10) [], aSta "Kind" "run" "Kind.run" (st_Kind 1) [.int 1, .int 1], aDef "run_signs" st_run_signs [], aDef "made_kind" st_made_kind [], aMet "Kind" "__init__" "Kind.__init__" (st_Kind 0) [], aDef "is_number" st_is_number [.non], aMet "Form" "__init__" "Form.__init__" (st_Form 0) [], aDef "form_layout" st_form_layout [], aDef "with_line" st_with_line [], aDef "row_piece" st_row_piece [], aDef "then" st_then [], aDef "nothing" st_nothing [], aDef "item_piece" st_item_piece [], aDef "mark_piece" st_mark_piece [], aDef "kind_piece" st_kind_piece [], aDef "row_of_runs" st_row_of_runs [], aDef "run_piece" st_run_piece [], aMet "Layout" "__init__" "Layout.__init__" (st_Layout 0) [], aDef "followers" st_followers [], aDef "checked_lines" st_checked_lines [], aDef "names_in" st_names_in [], aDef "line_places" st_line_places [], aDef "is_line" st_is_line [], aMet "Field" "__init__" "Field.__init__" (st_Field 0) [], aDef "is_name" st_is_name [], aPro "Kind" "has_empty" "Kind.has_empty" (st_Kind 9), aDef "_law_bag" st_law_bag []]
def faL : List He.Fa := [.str "ALPHABET" c_ALPHABET, .str "FIGURES" c_FIGURES, .str "LOWER" c_LOWER, .int "MOST_DEPTH" 3, .int "MOST_FIELDS" 12, .int "MOST_LINES" 10, .int "MOST_PLACES_items" 200, .int "MOST_PLACES_kinds" 120, .int "MOST_PLACES_spelling" 200, .int "MOST_ROWS" 20, .str "UPPER" c_UPPER, .cls "Layout", .noat "Layout" "begins", .noat "Layout" "blank", .noat "Layout" "finishes", .noat "Layout" "follows", .cls "Signs", .noat "Signs" "held", .cls "Field", .noat "Field" "kind", .cls "Form", .noat "Form" "layout", .noat "Form" "lines", .noat "Field" "name", .noat "Layout" "names_at", .cls "Maybe", .noat "Maybe" "parts", .cls "Kind", .noat "Kind" "rows", .noat "Layout" "signs_at", .cls "Mark", .noat "Mark" "text", .glo "BadKind", .glo "BadSigns", .glo "BadText", .glo "Field", .glo "Kind", .glo "Mark", .glo "Maybe", .glo "Signs", .glo "TownError", .glo "_law_and", .glo "_law_inside", .glo "_law_least_of", .glo "_law_less", .glo "_law_new", .glo "_law_or", .glo "_law_or_in_place", .glo "_law_span_of", .free "ValueError", .free "bool", .free "enumerate", .free "int", .free "isinstance", .free "len", .free "list", .free "max", .free "min", .free "range", .free "sorted", .free "str", .free "sum", .free "tuple", .glo "BadForm", .free "super", .glo "BadItem", .exc "BadKind", .glo "BadName", .exc "BadSigns", .glo "law", .glo "_law_span", .glo "_law_refused", .glo "is_signs", .mkr "Signs", .glo "in_order", .meth "Signs" "__ror__", .glo "held_signs", .meth "Signs" "__or__", .meth "Signs" "__sub__", .meth "Signs" "__rsub__", .meth "Signs" "least", .meth "Signs" "within", .meth "Signs" "__rand__", .meth "Signs" "__and__", .glo "_law_alphabet", .meth "Signs" "spelled", .glo "_law_letters", .glo "_law_draw", .glo "_law_bad", .glo "_law_all_refused", .meth "Signs" "__eq__", .meth "Signs" "__contains__", .mkr "Maybe", .glo "own_names", .glo "joined_marks", .mkr "Mark", .glo "is_item", .glo "depth_of", .glo "count_places", .glo "kind_places", .glo "run_places", .meth "Kind" "alternatives", .glo "run_signs", .glo "made_kind", .mkr "Kind", .glo "is_number", .mkr "Form", .glo "Form", .glo "form_layout", .glo "with_line", .glo "row_piece", .glo "then", .glo "nothing", .glo "item_piece", .glo "mark_piece", .glo "kind_piece", .glo "row_of_runs", .glo "run_piece", .mkr "Layout", .glo "Layout", .glo "followers", .glo "checked_lines", .glo "names_in", .glo "line_places", .glo "is_line", .mkr "Field", .glo "is_name", .glo "_law_bag"]
def xdL : List XD := [⟨"BadForm", "at", "BadForm.__init__", st_BadForm 0⟩, ⟨"BadItem", "at", "BadItem.__init__", st_BadItem 0⟩, ⟨"BadName", "name", "BadName.__init__", st_BadName 0⟩]
def topL : List Str := ["Signs"]
def ioL : List Str := []
def subL : List Str := ["Signs"]
def rdL : List Str := ["Kind", "Signs"]
def smL : List (Str × Str) := [("Signs", "span"), ("Signs", "letters"), ("Signs", "digits"), ("Signs", "capitals"), ("Kind", "run")]
def prL : List (Str × Str) := [("Kind", "has_empty")]
def xfL : List (Str × Str) := []
def npL : List (Str × Str) := [("Signs", "Field"), ("Signs", "Mark"), ("Signs", "Maybe"), ("Signs", "Form")]
def niL : List (Str × Str) := [("Signs", "__ior__")]
def neL : List (Str × Str) := [("Signs", "Field"), ("Signs", "Mark"), ("Signs", "Maybe"), ("Signs", "Form"), ("Signs", "Kind")]
def xiL : List (Str × Str) := [("BadSigns", "TownError"), ("BadSigns", "ValueError")]
def exL (P : Program) (K : PySem.W.Frag) : Bool := isiB K cs && (emB K errs && ((topL.all fun c => topB K c) && ((ioL.all fun c => ioB K c) && ((subL.all fun c => subB K c) && ((rdL.all fun c => rdB K c) && ((smL.all fun q => smB K q.1 q.2) && ((prL.all fun q => prB K q.1 q.2) && ((xfL.all fun q => xfB K q.1 q.2) && ((xiL.all fun q => xiB K q.1 q.2) && ((npL.all fun q => npB K q.1 q.2) && ((niL.all fun q => niB K q.1 q.2) && ((neL.all fun q => neB K q.1 q.2) && ((xdL.all fun x => x.ok P K) && He.eqO (PySem.W.nsIn K cStatics "thirdparty.any") (some none))))))))))))))
abbrev RL : PySem.W.OpenRow := PySem.W.OpenLaw.row PySem.Challenge.rw_townlines_k02_signs_refuse
abbrev PL : Program := (PySem.Challenge.rw_townlines_k02_signs_refuse).prog
def loose0 : List Str := ["_wall", "TownError", "BadSigns", "BadText", "BadKind", "TooLarge", "BadItem", "BadForm", "BadName", "Unknown", "Missing", "BadValue", "BadNumber", "ALPHABET", "LOWER", "UPPER", "FIGURES", "LONGEST_TEXT", "is_signs", "is_name", "is_number", "text_key", "in_order", "held_signs", "Signs", "Layout", "followers", "nothing", "then", "run_piece"]
def loose1 : List Str := ["row_of_runs", "kind_piece", "mark_piece", "MOST_ROWS", "MOST_PLACES_kinds", "run_places", "made_kind", "is_words", "run_signs", "can_skip", "moved", "is_described", "is_end", "Kind", "repeated", "least_of", "MOST_PLACES_items", "MOST_DEPTH", "Field", "Mark", "Maybe", "is_item", "own_names", "names_in", "depth_of", "kind_places", "count_places", "joined_marks", "row_piece", "item_piece"]
def loose2 : List Str := ["with_line", "form_layout", "ESCAPED", "MOST_LINES", "MOST_FIELDS", "MOST_PLACES_spelling", "spelled_row", "escaped", "field_rows", "is_needed", "check_record", "row_pieces", "form_pieces", "is_line", "line_places", "checked_lines", "Form", "_law_bag", "_law_draw", "_law_alphabet", "_law_letters", "_law_refused", "_law_or", "_law_and", "_law_less", "_law_or_in_place", "_law_new", "_law_inside", "_law_span_of", "_law_least_of"]
def loose3 : List Str := ["_law_bad", "_law_all_refused", "_law_span"]
def looseL : List Str := loose0 ++ loose1 ++ loose2 ++ loose3
noncomputable abbrev runQ (w : World) (os : OsState) : Option PySem.W.SharedT := HandSHeadRun.endF (HandSHeadRun.stepQ (HandSHeadRun.denQ HandSHeadRun.tabQ) RL.prog w) 30000 RL.prog w os
abbrev kOf (s : PySem.W.SharedT) : PySem.W.Frag := He.frG (HandSHeadRun.getT s) (asB (HandSHeadRun.getT s) 5)
abbrev vwL : Program := PySem.W.view RL.prog [103]
theorem headA (w : World) (os : OsState) : (runQ w os).map (fun s => (HandSHeadRun.looksF RL.prog (PySem.W.boot_heap w.params) s.abs, HandSHeadRun.seenQ vwL looseL (PySem.importedModules RL.prog.main.body) (fun s => PySem.W.xlAt vwL [] s && PySem.W.recOk RL.toRowW.records s) s.abs)) = some (true, PySem.W.openGood vwL looseL) := by kernel_rfl
theorem headB1 (w : World) (os : OsState) : (runQ w os).map (fun s => (fun K : PySem.W.Frag => faL.all fun f => f.ok K) (kOf s)) = some true := by kernel_rfl
theorem headB2 (w : World) (os : OsState) : (runQ w os).map (fun s => (fun K : PySem.W.Frag => (fnL.all fun d => d.ok K, fnL.map fun d => He5.fnA K (d.at_ K))) (kOf s)) = some (true, fnL.map He5.DefA.val) := by kernel_rfl
theorem headB3 (w : World) (os : OsState) : (runQ w os).map (fun s => (fun K : PySem.W.Frag => (exL PL K, xdL.map fun x => fnV K (x.at_ K))) (kOf s)) = some (true, xdL.map XD.val) := by kernel_rfl
theorem headB_of {o : Option PySem.W.SharedT} (h1 : o.map (fun s => (fun K : PySem.W.Frag => faL.all fun f => f.ok K) (kOf s)) = some true) (h2 : o.map (fun s => (fun K : PySem.W.Frag => (fnL.all fun d => d.ok K, fnL.map fun d => He5.fnA K (d.at_ K))) (kOf s)) = some (true, fnL.map He5.DefA.val))
    (h3 : o.map (fun s => (fun K : PySem.W.Frag => (exL PL K, xdL.map fun x => fnV K (x.at_ K))) (kOf s)) = some (true, xdL.map XD.val)) : o.map (fun s => (fun K : PySem.W.Frag => obsGK faL fnL (exL PL) xdL K) (kOf s)) = some ((He5.valA fnL, true), xdL.map XD.val) := by
  cases o with
  | none => cases h1
  | some s =>
    have h1 : (faL.all fun f => f.ok (kOf s)) = true := Option.some.inj h1
    have h2 : (fnL.all fun d => d.ok (kOf s), fnL.map fun d => He5.fnA (kOf s) (d.at_ (kOf s))) = (true, fnL.map He5.DefA.val) := Option.some.inj h2
    have h3 : (exL PL (kOf s), xdL.map fun x => fnV (kOf s) (x.at_ (kOf s))) = (true, xdL.map XD.val) := Option.some.inj h3
    show some (obsGK faL fnL (exL PL) xdL (kOf s)) = _
    unfold obsGK He5.obsA He5.valA
    have a2 : (fnL.all fun d => d.ok (kOf s)) = true := congrArg Prod.fst h2
    have b2 : (fnL.map fun d => He5.fnA (kOf s) (d.at_ (kOf s))) = fnL.map He5.DefA.val := congrArg Prod.snd h2
    have a3 : exL PL (kOf s) = true := congrArg Prod.fst h3
    have b3 : (xdL.map fun x => fnV (kOf s) (x.at_ (kOf s))) = xdL.map XD.val := congrArg Prod.snd h3
    rw [h1, a2, b2, a3, b3]
    rfl
theorem headB (w : World) (os : OsState) : (runQ w os).map (fun s => (fun K : PySem.W.Frag => obsGK faL fnL (exL PL) xdL K) (kOf s)) = some ((He5.valA fnL, true), xdL.map XD.val) := headB_of (headB1 w os) (headB2 w os) (headB3 w os)
end Tw
end
namespace Tl
open PySem L2
/-- plain data behind a value -/
inductive D where
  | non | bl (b : Bool) | int (i : Int) | str (z : Str)
  | tup (ds : List D) | lst (ds : List D)
  | obj (c : Str) (ns : List Str) (ds : List D)
  | dct (ks : List Key) (ds : List D)
  | glo (x : Str)
  | ty (n : String)
def Ex (H J : Hp) : Prop := ∀ a o, H a = some o → J a = some o
theorem Ex.rfl {H : Hp} : Ex H H := fun _ _ h => h
theorem Ex.tr {H J L : Hp} (x : Ex H J) (y : Ex J L) : Ex H L := fun a o h => y a o (x a o h)
theorem ex_new {H : Hp} {p : Addr} {o : HO} (h : H p = none) : Ex H (upd H p o) := fun a u e => by
  rw [upd_ne (ne_of_none e h)]; exact e
mutual
/-- the value v, over the settled heap F, stands for the datum -/
def Rep (K : PySem.W.Frag) (F : Hp) : D → V → Prop
  | .non, v => v = .non
  | .bl b, v => v = .bl b
  | .int i, v => v = .int i
  | .str z, v => v = .str z
  | .tup ds, v => ∃ a vs, v = .ref a ∧ F a = some (.tup vs) ∧ RepL K F ds vs
  | .lst ds, v => ∃ a vs, v = .ref a ∧ F a = some (.lst vs) ∧ RepL K F ds vs
  | .obj c ns ds, v => ∃ a dx vs, v = .ref a ∧ F a = some (.ins (He.ga K c) dx (ns.zip vs)) ∧ F dx = some (.own a) ∧ ns.length = vs.length ∧ RepL K F ds vs
  | .dct ks ds, v => ∃ a vs, v = .ref a ∧ (∃ o, F a = some (.frz o (.dK (ks.zip vs)))) ∧ ks.length = vs.length ∧ RepL K F ds vs
  | .glo x, v => v = .ref (He.ga K x)
  | .ty n, v => v = .ty n
def RepL (K : PySem.W.Frag) (F : Hp) : List D → List V → Prop
  | [], vs => vs = []
  | d :: ds, vs => ∃ v r, vs = v :: r ∧ Rep K F d v ∧ RepL K F ds r
end
mutual
theorem Rep.up {K : PySem.W.Frag} {F J : Hp} (x : Ex F J) : ∀ (d : D) (v : V), Rep K F d v → Rep K J d v
  | .non, _, h => by unfold Rep at h ⊢; exact h
  | .bl _, _, h => by unfold Rep at h ⊢; exact h
  | .int _, _, h => by unfold Rep at h ⊢; exact h
  | .str _, _, h => by unfold Rep at h ⊢; exact h
  | .glo _, _, h => by unfold Rep at h ⊢; exact h
  | .ty _, _, h => by unfold Rep at h ⊢; exact h
  | .tup ds, _, h => by
    unfold Rep at h ⊢
    obtain ⟨a, vs, e, f, r⟩ := h
    exact ⟨a, vs, e, x _ _ f, RepL.up x ds vs r⟩
  | .lst ds, _, h => by
    unfold Rep at h ⊢
    obtain ⟨a, vs, e, f, r⟩ := h
    exact ⟨a, vs, e, x _ _ f, RepL.up x ds vs r⟩
  | .obj c ns ds, _, h => by
    unfold Rep at h ⊢
    obtain ⟨a, dx, vs, e, f, g, l, r⟩ := h
    exact ⟨a, dx, vs, e, x _ _ f, x _ _ g, l, RepL.up x ds vs r⟩
  | .dct ks ds, _, h => by
    unfold Rep at h ⊢
    obtain ⟨a, vs, e, ⟨o, f⟩, l, r⟩ := h
    exact ⟨a, vs, e, ⟨o, x _ _ f⟩, l, RepL.up x ds vs r⟩
theorem RepL.up {K : PySem.W.Frag} {F J : Hp} (x : Ex F J) : ∀ (ds : List D) (vs : List V), RepL K F ds vs → RepL K J ds vs
  | [], _, h => by unfold RepL at h ⊢; exact h
  | d :: ds, vs, h => by
    unfold RepL at h ⊢
    obtain ⟨v, r, e, a, b⟩ := h
    exact ⟨v, r, e, Rep.up x d v a, RepL.up x ds r b⟩
end
section
variable {K : PySem.W.Frag} {F J : Hp}
theorem rep_non : Rep K F .non .non := by unfold Rep; rfl
theorem rep_bl (b : Bool) : Rep K F (.bl b) (.bl b) := by unfold Rep; rfl
theorem rep_int (i : Int) : Rep K F (.int i) (.int i) := by unfold Rep; rfl
theorem rep_str (z : Str) : Rep K F (.str z) (.str z) := by unfold Rep; rfl
theorem rep_glo (x : Str) : Rep K F (.glo x) (.ref (He.ga K x)) := by unfold Rep; rfl
theorem rep_ty (n : String) : Rep K F (.ty n) (.ty n) := by unfold Rep; rfl
theorem of_non {v : V} (h : Rep K F .non v) : v = .non := by unfold Rep at h; exact h
theorem of_bl {b : Bool} {v : V} (h : Rep K F (.bl b) v) : v = .bl b := by unfold Rep at h; exact h
theorem of_int {i : Int} {v : V} (h : Rep K F (.int i) v) : v = .int i := by unfold Rep at h; exact h
theorem of_str {z : Str} {v : V} (h : Rep K F (.str z) v) : v = .str z := by unfold Rep at h; exact h
theorem of_glo {x : Str} {v : V} (h : Rep K F (.glo x) v) : v = .ref (He.ga K x) := by unfold Rep at h; exact h
theorem of_ty {n : String} {v : V} (h : Rep K F (.ty n) v) : v = .ty n := by unfold Rep at h; exact h
theorem of_tup {ds : List D} {v : V} (h : Rep K F (.tup ds) v) : ∃ a vs, v = .ref a ∧ F a = some (.tup vs) ∧ RepL K F ds vs := by unfold Rep at h; exact h
theorem of_lst {ds : List D} {v : V} (h : Rep K F (.lst ds) v) : ∃ a vs, v = .ref a ∧ F a = some (.lst vs) ∧ RepL K F ds vs := by unfold Rep at h; exact h
theorem of_obj {c : Str} {ns : List Str} {ds : List D} {v : V} (h : Rep K F (.obj c ns ds) v) : ∃ a dx vs, v = .ref a ∧ F a = some (.ins (He.ga K c) dx (ns.zip vs)) ∧ F dx = some (.own a) ∧ ns.length = vs.length ∧ RepL K F ds vs := by unfold Rep at h; exact h
theorem of_dct {ks : List Key} {ds : List D} {v : V} (h : Rep K F (.dct ks ds) v) : ∃ a vs, v = .ref a ∧ (∃ o, F a = some (.frz o (.dK (ks.zip vs)))) ∧ ks.length = vs.length ∧ RepL K F ds vs := by unfold Rep at h; exact h
theorem mk_tup {ds : List D} {a : Addr} {vs : List V} (h : F a = some (.tup vs)) (r : RepL K F ds vs) : Rep K F (.tup ds) (.ref a) := by unfold Rep; exact ⟨a, vs, rfl, h, r⟩
theorem mk_lst {ds : List D} {a : Addr} {vs : List V} (h : F a = some (.lst vs)) (r : RepL K F ds vs) : Rep K F (.lst ds) (.ref a) := by unfold Rep; exact ⟨a, vs, rfl, h, r⟩
theorem mk_obj {c : Str} {ns : List Str} {ds : List D} {a dx : Addr} {vs : List V} (h : F a = some (.ins (He.ga K c) dx (ns.zip vs))) (o : F dx = some (.own a)) (l : ns.length = vs.length) (r : RepL K F ds vs) : Rep K F (.obj c ns ds) (.ref a) := by
  unfold Rep; exact ⟨a, dx, vs, rfl, h, o, l, r⟩
theorem mk_dct {ks : List Key} {ds : List D} {a : Addr} {vs : List V} {o : Obj} (h : F a = some (.frz o (.dK (ks.zip vs)))) (l : ks.length = vs.length) (r : RepL K F ds vs) : Rep K F (.dct ks ds) (.ref a) := by
  unfold Rep; exact ⟨a, vs, rfl, ⟨o, h⟩, l, r⟩
theorem repL_nil : RepL K F [] [] := by unfold RepL; rfl
theorem repL_cons {d : D} {ds : List D} {v : V} {vs : List V} (h : Rep K F d v) (t : RepL K F ds vs) : RepL K F (d :: ds) (v :: vs) := by unfold RepL; exact ⟨v, vs, rfl, h, t⟩
theorem of_repL_nil {vs : List V} (h : RepL K F [] vs) : vs = [] := by unfold RepL at h; exact h
theorem of_repL_cons {d : D} {ds : List D} {vs : List V} (h : RepL K F (d :: ds) vs) : ∃ v r, vs = v :: r ∧ Rep K F d v ∧ RepL K F ds r := by unfold RepL at h; exact h
theorem RepL.len : ∀ {ds : List D} {vs : List V}, RepL K F ds vs → vs.length = ds.length
  | [], _, h => by rw [of_repL_nil h]; rfl
  | _ :: ds, _, h => by
    obtain ⟨v, r, rfl, _, t⟩ := of_repL_cons h
    rw [List.length_cons, List.length_cons, RepL.len t]
theorem RepL.app : ∀ {ds es : List D} {vs ws : List V}, RepL K F ds vs → RepL K F es ws → RepL K F (ds ++ es) (vs ++ ws)
  | [], _, _, _, h, t => by rw [of_repL_nil h]; exact t
  | _ :: ds, _, _, _, h, t => by
    obtain ⟨v, r, rfl, a, b⟩ := of_repL_cons h
    exact repL_cons a (RepL.app b t)
theorem RepL.get : ∀ {ds : List D} {vs : List V} {i : Nat} {d : D}, RepL K F ds vs → ds[i]? = some d → ∃ v, vs[i]? = some v ∧ Rep K F d v
  | [], _, _, _, _, e => by simp at e
  | x :: ds, _, 0, d, h, e => by
    obtain ⟨v, r, rfl, a, _⟩ := of_repL_cons h
    have q : x = d := Option.some.inj e
    subst q
    exact ⟨v, rfl, a⟩
  | _ :: ds, _, i + 1, d, h, e => by
    obtain ⟨v, r, rfl, _, b⟩ := of_repL_cons h
    exact RepL.get (i := i) b e
theorem RepL.get' : ∀ {ds : List D} {vs : List V} {i : Nat} {v : V}, RepL K F ds vs → vs[i]? = some v → ∃ d, ds[i]? = some d ∧ Rep K F d v
  | [], _, _, _, h, e => by rw [of_repL_nil h] at e; simp at e
  | x :: ds, _, 0, v, h, e => by
    obtain ⟨w, r, rfl, a, _⟩ := of_repL_cons h
    have q : w = v := Option.some.inj e
    subst q
    exact ⟨x, rfl, a⟩
  | _ :: ds, _, i + 1, v, h, e => by
    obtain ⟨w, r, rfl, _, b⟩ := of_repL_cons h
    exact RepL.get' (i := i) b e
theorem RepL.set : ∀ {ds : List D} {vs : List V} {d : D} {v : V} (i : Nat), RepL K F ds vs → Rep K F d v → RepL K F (ds.set i d) (vs.set i v)
  | [], _, _, _, _, h, _ => by rw [of_repL_nil h]; exact repL_nil
  | _ :: ds, _, _, _, 0, h, a => by
    obtain ⟨w, r, rfl, _, b⟩ := of_repL_cons h
    exact repL_cons a b
  | _ :: ds, _, _, _, i + 1, h, a => by
    obtain ⟨w, r, rfl, c, b⟩ := of_repL_cons h
    exact repL_cons c (RepL.set i b a)
theorem RepL.take : ∀ {ds : List D} {vs : List V} (n : Nat), RepL K F ds vs → RepL K F (ds.take n) (vs.take n)
  | _, _, 0, _ => by rw [List.take_zero, List.take_zero]; exact repL_nil
  | [], _, _ + 1, h => by rw [of_repL_nil h]; exact repL_nil
  | _ :: ds, _, n + 1, h => by
    obtain ⟨w, r, rfl, c, b⟩ := of_repL_cons h
    exact repL_cons c (RepL.take n b)
theorem RepL.drop : ∀ {ds : List D} {vs : List V} (n : Nat), RepL K F ds vs → RepL K F (ds.drop n) (vs.drop n)
  | _, _, 0, h => by rw [List.drop_zero, List.drop_zero]; exact h
  | [], _, _ + 1, h => by rw [of_repL_nil h]; exact repL_nil
  | _ :: ds, _, n + 1, h => by
    obtain ⟨w, r, rfl, c, b⟩ := of_repL_cons h
    exact RepL.drop n b
theorem RepL.eraseIdx : ∀ {ds : List D} {vs : List V} (n : Nat), RepL K F ds vs → RepL K F (ds.eraseIdx n) (vs.eraseIdx n)
  | [], _, _, h => by rw [of_repL_nil h]; exact repL_nil
  | _ :: ds, _, 0, h => by
    obtain ⟨w, r, rfl, c, b⟩ := of_repL_cons h
    exact b
  | _ :: ds, _, n + 1, h => by
    obtain ⟨w, r, rfl, c, b⟩ := of_repL_cons h
    exact repL_cons c (RepL.eraseIdx n b)
theorem repL_ints : ∀ ns : List Int, RepL K F (ns.map D.int) (ns.map V.int)
  | [] => repL_nil
  | n :: ns => repL_cons (rep_int n) (repL_ints ns)
theorem repL_strs : ∀ ns : List Str, RepL K F (ns.map D.str) (ns.map V.str)
  | [] => repL_nil
  | n :: ns => repL_cons (rep_str n) (repL_strs ns)
theorem of_repL_strs : ∀ {ns : List Str} {vs : List V}, RepL K F (ns.map D.str) vs → vs = ns.map V.str
  | [], _, h => of_repL_nil h
  | n :: ns, _, h => by
    obtain ⟨v, r, rfl, a, b⟩ := of_repL_cons h
    rw [of_str a, of_repL_strs b]; rfl
theorem of_repL_ints : ∀ {ns : List Int} {vs : List V}, RepL K F (ns.map D.int) vs → vs = ns.map V.int
  | [], _, h => of_repL_nil h
  | n :: ns, _, h => by
    obtain ⟨v, r, rfl, a, b⟩ := of_repL_cons h
    rw [of_int a, of_repL_ints b]; rfl
end
/-- not a tuple of ints and texts alone -/
def NoSc (vs : List V) : Prop := ∀ k : List Key, vs ≠ k.map kV
/-- a tuple of ints and texts stands there -/
def ScT (H : Hp) (a : Addr) : Prop := ∃ k : List Key, H a = some (.tup (k.map kV))
/-- something of several parts that are owned together: data, lists, tuples, dicts; h: a part that is owned elsewhere -/
inductive OT where
  | d (x : D)
  | l (a : Addr) (ts : List OT)
  | t (a : Addr) (ts : List OT)
  | k (a : Addr) (ks : List Key) (ts : List OT)
  | m (a : Addr) (ks : List (List Key)) (ts : List OT)
  | o (a da : Addr) (c : Str) (ns : List Str) (ts : List OT)
  | z (a : Addr) (ks : List (List Key)) (ds : List D)
  | h (a : Addr)
mutual
def OT.fp : OT → List Addr
  | .d _ => []
  | .l a ts => a :: OT.fps ts
  | .t a ts => a :: OT.fps ts
  | .k a _ ts => a :: OT.fps ts
  | .m a _ ts => a :: OT.fps ts
  | .o a da _ _ ts => a :: da :: OT.fps ts
  | .z _ _ _ => []
  | .h _ => []
def OT.fps : List OT → List Addr
  | [] => []
  | x :: r => OT.fp x ++ OT.fps r
end
mutual
def OT.ok (K : PySem.W.Frag) (F H : Hp) : OT → V → Prop
  | .d x, v => Rep K F x v
  | .l a ts, v => v = .ref a ∧ ∃ vs, H a = some (.lst vs) ∧ OT.oks K F H ts vs
  | .t a ts, v => v = .ref a ∧ ∃ vs, H a = some (.tup vs) ∧ OT.oks K F H ts vs ∧ NoSc vs
  | .m a ks ts, v => v = .ref a ∧ ∃ vs, H a = some (.dT (ks.zip vs)) ∧ ks.length = vs.length ∧ OT.oks K F H ts vs
  | .k a ks ts, v => v = .ref a ∧ ∃ vs, H a = some (.dK (ks.zip vs)) ∧ ks.length = vs.length ∧ OT.oks K F H ts vs
  | .o a da c ns ts, v => v = .ref a ∧ ∃ vs, H a = some (.ins (He.ga K c) da (ns.zip vs)) ∧ H da = some (.own a) ∧ ns.length = vs.length ∧ OT.oks K F H ts vs
  | .z a ks ds, v => v = .ref a ∧ ∃ vs o, F a = some (.frz o (.dT (ks.zip vs))) ∧ ks.length = vs.length ∧ RepL K F ds vs
  | .h a, v => v = .ref a
def OT.oks (K : PySem.W.Frag) (F H : Hp) : List OT → List V → Prop
  | [], vs => vs = []
  | x :: r, vs => ∃ v us, vs = v :: us ∧ OT.ok K F H x v ∧ OT.oks K F H r us
end
mutual
theorem OTok_stay {K : PySem.W.Frag} {F J H L : Hp} (x : Ex F J) : ∀ (t : OT) (v : V), (∀ p ∈ t.fp, ∀ o, H p = some o → L p = some o) → OT.ok K F H t v → OT.ok K J L t v
  | .d e, v, k, h => by rw [OT.ok] at h ⊢; exact Rep.up x e v h
  | .l a ts, v, k, h => by
    rw [OT.ok] at h ⊢
    obtain ⟨e, vs, f, r⟩ := h
    exact ⟨e, vs, k a (by rw [OT.fp]; exact List.mem_cons_self) _ f, OToks_stay x ts vs (fun p m => k p (by rw [OT.fp]; exact List.mem_cons_of_mem _ m)) r⟩
  | .t a ts, v, k, h => by
    rw [OT.ok] at h ⊢
    obtain ⟨e, vs, f, r⟩ := h
    exact ⟨e, vs, k a (by rw [OT.fp]; exact List.mem_cons_self) _ f, OToks_stay x ts vs (fun p m => k p (by rw [OT.fp]; exact List.mem_cons_of_mem _ m)) r.1, r.2⟩
  | .k a ks ts, v, k, h => by
    rw [OT.ok] at h ⊢
    obtain ⟨e, vs, f, l, r⟩ := h
    exact ⟨e, vs, k a (by rw [OT.fp]; exact List.mem_cons_self) _ f, l, OToks_stay x ts vs (fun p m => k p (by rw [OT.fp]; exact List.mem_cons_of_mem _ m)) r⟩
  | .m a ks ts, v, k, h => by
    rw [OT.ok] at h ⊢
    obtain ⟨e, vs, f, l, r⟩ := h
    exact ⟨e, vs, k a (by rw [OT.fp]; exact List.mem_cons_self) _ f, l, OToks_stay x ts vs (fun p m => k p (by rw [OT.fp]; exact List.mem_cons_of_mem _ m)) r⟩
  | .o a da c ns ts, v, k, h => by
    rw [OT.ok] at h ⊢
    obtain ⟨e, vs, f, g, l, r⟩ := h
    exact ⟨e, vs, k a (by rw [OT.fp]; exact List.mem_cons_self) _ f, k da (by rw [OT.fp]; exact List.mem_cons_of_mem _ List.mem_cons_self) _ g, l, OToks_stay x ts vs (fun p m => k p (by rw [OT.fp]; exact List.mem_cons_of_mem _ (List.mem_cons_of_mem _ m))) r⟩
  | .z a ks ds, v, k, h => by
    rw [OT.ok] at h ⊢
    obtain ⟨e, vs, o, f, l, r⟩ := h
    exact ⟨e, vs, o, x _ _ f, l, RepL.up x _ _ r⟩
  | .h a, v, k, h => by rw [OT.ok] at h ⊢; exact h
theorem OToks_stay {K : PySem.W.Frag} {F J H L : Hp} (x : Ex F J) : ∀ (ts : List OT) (vs : List V), (∀ p ∈ OT.fps ts, ∀ o, H p = some o → L p = some o) → OT.oks K F H ts vs → OT.oks K J L ts vs
  | [], vs, k, h => by rw [OT.oks] at h ⊢; exact h
  | t :: ts, vs, k, h => by
    rw [OT.oks] at h ⊢
    obtain ⟨v, us, e, a, b⟩ := h
    exact ⟨v, us, e, OTok_stay x t v (fun p m => k p (by rw [OT.fps]; exact List.mem_append_left _ m)) a, OToks_stay x ts us (fun p m => k p (by rw [OT.fps]; exact List.mem_append_right _ m)) b⟩
end
mutual
theorem OTok_there {K : PySem.W.Frag} {F H : Hp} : ∀ (t : OT) (v : V), OT.ok K F H t v → ∀ p ∈ t.fp, ∃ o, H p = some o
  | .d e, v, h, p, m => by rw [OT.fp] at m; cases m
  | .l a ts, v, h, p, m => by
    rw [OT.ok] at h
    rw [OT.fp] at m
    obtain ⟨e, vs, f, r⟩ := h
    rcases List.mem_cons.mp m with q | m
    · rw [q]; exact ⟨_, f⟩
    · exact OToks_there ts vs r p m
  | .t a ts, v, h, p, m => by
    rw [OT.ok] at h
    rw [OT.fp] at m
    obtain ⟨e, vs, f, r⟩ := h
    rcases List.mem_cons.mp m with q | m
    · rw [q]; exact ⟨_, f⟩
    · exact OToks_there ts vs r.1 p m
  | .k a ks ts, v, h, p, m => by
    rw [OT.ok] at h
    rw [OT.fp] at m
    obtain ⟨e, vs, f, l, r⟩ := h
    rcases List.mem_cons.mp m with q | m
    · rw [q]; exact ⟨_, f⟩
    · exact OToks_there ts vs r p m
  | .m a ks ts, v, h, p, m => by
    rw [OT.ok] at h
    rw [OT.fp] at m
    obtain ⟨e, vs, f, l, r⟩ := h
    rcases List.mem_cons.mp m with q | m
    · rw [q]; exact ⟨_, f⟩
    · exact OToks_there ts vs r p m
  | .o a da c ns ts, v, h, p, m => by
    rw [OT.ok] at h
    rw [OT.fp] at m
    obtain ⟨e, vs, f, g, l, r⟩ := h
    rcases List.mem_cons.mp m with q | m
    · rw [q]; exact ⟨_, f⟩
    · rcases List.mem_cons.mp m with q | m
      · rw [q]; exact ⟨_, g⟩
      · exact OToks_there ts vs r p m
  | .z _ _ _, v, h, p, m => by rw [OT.fp] at m; cases m
  | .h a, v, h, p, m => by rw [OT.fp] at m; cases m
theorem OToks_there {K : PySem.W.Frag} {F H : Hp} : ∀ (ts : List OT) (vs : List V), OT.oks K F H ts vs → ∀ p ∈ OT.fps ts, ∃ o, H p = some o
  | [], vs, h, p, m => by rw [OT.fps] at m; cases m
  | t :: ts, vs, h, p, m => by
    rw [OT.oks] at h
    rw [OT.fps] at m
    obtain ⟨v, us, e, a, b⟩ := h
    rcases List.mem_append.mp m with m | m
    · exact OTok_there t v a p m
    · exact OToks_there ts us b p m
end
inductive Res where
  | lst (p : Addr) (ds : List D)
  | bag (b l : Addr)
  | ins (x dx : Addr) (c : Str) (ns : List Str) (ds : List D)
  | exc (dd : Addr) (f : Str) (x : D)
  | dct (p : Addr) (ks : List Key) (ds : List D)
  | tre (t : OT)
def Res.fp : Res → List Addr
  | .lst p _ => [p]
  | .bag b l => [b, l]
  | .ins x dx _ _ _ => [x, dx]
  | .exc dd _ _ => [dd]
  | .dct p _ _ => [p]
  | .tre t => t.fp
abbrev fps (R : List Res) : List Addr := R.flatMap Res.fp
def BagAt (H : Hp) (b l : Addr) : Prop := ∃ (ns : List Int) (a s c : Int), H b = some (.lst [.ref l, .int a, .int s, .int c]) ∧ H l = some (.lst (ns.map V.int)) ∧ ns.length ≤ 63 ∧ 0 ≤ a ∧ 0 ≤ s ∧ s < 2147483647 ∧ 0 ≤ c
def Res.ok (K : PySem.W.Frag) (F H : Hp) : Res → Prop
  | .lst p ds => ∃ vs, H p = some (.lst vs) ∧ RepL K F ds vs
  | .bag b l => BagAt H b l
  | .ins x dx c ns ds => ∃ vs, H x = some (.ins (He.ga K c) dx (ns.zip vs)) ∧ H dx = some (.own x) ∧ ns.length = vs.length ∧ RepL K F ds vs
  | .exc dd f x => ∃ v, H dd = some (.xd [(f, v)]) ∧ Rep K F x v
  | .dct p ks ds => ∃ vs, H p = some (.dK (ks.zip vs)) ∧ ks.length = vs.length ∧ RepL K F ds vs
  | .tre t => ∃ v, OT.ok K F H t v
theorem Res.ok.stay {K : PySem.W.Frag} {F J H L : Hp} {r : Res} (h : r.ok K F H) (x : Ex F J) (k : ∀ p ∈ r.fp, ∀ o, H p = some o → L p = some o) : r.ok K J L := by
  cases r with
  | lst p ds =>
    obtain ⟨vs, a, b⟩ := h
    exact ⟨vs, k p (List.mem_singleton.mpr rfl) _ a, RepL.up x _ _ b⟩
  | bag b l =>
    obtain ⟨ns, a, s, c, h1, h2, r⟩ := h
    exact ⟨ns, a, s, c, k b (by simp [Res.fp]) _ h1, k l (by simp [Res.fp]) _ h2, r⟩
  | ins y dy c ns ds =>
    obtain ⟨vs, a, b, l, r⟩ := h
    exact ⟨vs, k y (by simp [Res.fp]) _ a, k dy (by simp [Res.fp]) _ b, l, RepL.up x _ _ r⟩
  | exc dd f y =>
    obtain ⟨v, a, b⟩ := h
    exact ⟨v, k dd (List.mem_singleton.mpr rfl) _ a, Rep.up x _ _ b⟩
  | dct p ks ds =>
    obtain ⟨vs, a, l, b⟩ := h
    exact ⟨vs, k p (List.mem_singleton.mpr rfl) _ a, l, RepL.up x _ _ b⟩
  | tre t =>
    obtain ⟨v, h⟩ := h
    exact ⟨v, OTok_stay x t v k h⟩
theorem Res.ok.there {K : PySem.W.Frag} {F H : Hp} {r : Res} (h : r.ok K F H) {p : Addr} (m : p ∈ r.fp) : ∃ o, H p = some o := by
  cases r with
  | lst q ds =>
    obtain ⟨vs, a, b⟩ := h
    rw [List.mem_singleton.mp m]; exact ⟨_, a⟩
  | bag b l =>
    obtain ⟨ns, a, s, c, h1, h2, r⟩ := h
    rcases List.mem_cons.mp m with e | m
    · rw [e]; exact ⟨_, h1⟩
    · rw [List.mem_singleton.mp m]; exact ⟨_, h2⟩
  | ins y dy c ns ds =>
    obtain ⟨vs, a, b, l, r⟩ := h
    rcases List.mem_cons.mp m with e | m
    · rw [e]; exact ⟨_, a⟩
    · rw [List.mem_singleton.mp m]; exact ⟨_, b⟩
  | exc dd f y =>
    obtain ⟨v, a, b⟩ := h
    rw [List.mem_singleton.mp m]; exact ⟨_, a⟩
  | dct q ks ds =>
    obtain ⟨vs, a, l, b⟩ := h
    rw [List.mem_singleton.mp m]; exact ⟨_, a⟩
  | tre t =>
    obtain ⟨v, h⟩ := h
    exact OTok_there t v h p m
structure ROk (K : PySem.W.Frag) (F H : Hp) (R : List Res) : Prop where
  ok : ∀ r ∈ R, r.ok K F H
  nd : (fps R).Nodup
  off : ∀ p ∈ fps R, F p = none
theorem ROk.there {K : PySem.W.Frag} {F H : Hp} {R : List Res} (h : ROk K F H R) {p : Addr} (m : p ∈ fps R) : ∃ o, H p = some o := by
  obtain ⟨r, hr, hp⟩ := List.mem_flatMap.mp m
  exact (h.ok r hr).there hp
mutual
theorem OTok_tp {K : PySem.W.Frag} {F H : Hp} : ∀ (t : OT) (v : V), OT.ok K F H t v → ∀ p ∈ t.fp, ¬ ScT H p
  | .d e, v, h, p, m => by rw [OT.fp] at m; cases m
  | .l a ts, v, h, p, m => by
    rw [OT.ok] at h
    rw [OT.fp] at m
    obtain ⟨e, vs, f, r⟩ := h
    rcases List.mem_cons.mp m with q | m
    · rw [q]; rintro ⟨k, e2⟩; rw [f] at e2; cases e2
    · exact OToks_tp ts vs r p m
  | .t a ts, v, h, p, m => by
    rw [OT.ok] at h
    rw [OT.fp] at m
    obtain ⟨e, vs, f, r, ns⟩ := h
    rcases List.mem_cons.mp m with q | m
    · rw [q]; rintro ⟨k, e2⟩; rw [f] at e2; cases e2; exact ns k rfl
    · exact OToks_tp ts vs r p m
  | .k a ks ts, v, h, p, m => by
    rw [OT.ok] at h
    rw [OT.fp] at m
    obtain ⟨e, vs, f, l, r⟩ := h
    rcases List.mem_cons.mp m with q | m
    · rw [q]; rintro ⟨k, e2⟩; rw [f] at e2; cases e2
    · exact OToks_tp ts vs r p m
  | .m a ks ts, v, h, p, m => by
    rw [OT.ok] at h
    rw [OT.fp] at m
    obtain ⟨e, vs, f, l, r⟩ := h
    rcases List.mem_cons.mp m with q | m
    · rw [q]; rintro ⟨k, e2⟩; rw [f] at e2; cases e2
    · exact OToks_tp ts vs r p m
  | .o a da c ns ts, v, h, p, m => by
    rw [OT.ok] at h
    rw [OT.fp] at m
    obtain ⟨e, vs, f, g, l, r⟩ := h
    rcases List.mem_cons.mp m with q | m
    · rw [q]; rintro ⟨k, e2⟩; rw [f] at e2; cases e2
    · rcases List.mem_cons.mp m with q | m
      · rw [q]; rintro ⟨k, e2⟩; rw [g] at e2; cases e2
      · exact OToks_tp ts vs r p m
  | .z _ _ _, v, h, p, m => by rw [OT.fp] at m; cases m
  | .h a, v, h, p, m => by rw [OT.fp] at m; cases m
theorem OToks_tp {K : PySem.W.Frag} {F H : Hp} : ∀ (ts : List OT) (vs : List V), OT.oks K F H ts vs → ∀ p ∈ OT.fps ts, ¬ ScT H p
  | [], vs, h, p, m => by rw [OT.fps] at m; cases m
  | t :: ts, vs, h, p, m => by
    rw [OT.oks] at h
    rw [OT.fps] at m
    obtain ⟨v, us, e, a, b⟩ := h
    rcases List.mem_append.mp m with m | m
    · exact OTok_tp t v a p m
    · exact OToks_tp ts us b p m
end
theorem Res.ok.tp {K : PySem.W.Frag} {F H : Hp} {r : Res} (h : r.ok K F H) {p : Addr} (m : p ∈ r.fp) : ¬ ScT H p := by
  rintro ⟨k, e⟩
  cases r with
  | lst q ds =>
    obtain ⟨vs, a, b⟩ := h
    rw [List.mem_singleton.mp m, a] at e; cases e
  | bag b l =>
    obtain ⟨ns, a, s, c, h1, h2, r⟩ := h
    rcases List.mem_cons.mp m with q | m
    · rw [q, h1] at e; cases e
    · rw [List.mem_singleton.mp m, h2] at e; cases e
  | ins y dy c ns ds =>
    obtain ⟨vs, a, b, l, r⟩ := h
    rcases List.mem_cons.mp m with q | m
    · rw [q, a] at e; cases e
    · rw [List.mem_singleton.mp m, b] at e; cases e
  | exc dd f y =>
    obtain ⟨v, a, b⟩ := h
    rw [List.mem_singleton.mp m, a] at e; cases e
  | dct q ks ds =>
    obtain ⟨vs, a, l, b⟩ := h
    rw [List.mem_singleton.mp m, a] at e; cases e
  | tre t =>
    obtain ⟨v, h⟩ := h
    exact OTok_tp t v h p m ⟨k, e⟩
theorem ROk.tp {K : PySem.W.Frag} {F H : Hp} {R : List Res} (h : ROk K F H R) {p : Addr} (m : p ∈ fps R) : ¬ ScT H p := by
  obtain ⟨r, hr, hp⟩ := List.mem_flatMap.mp m
  exact (h.ok r hr).tp hp
/-- from (F, H, R) to (F', H', R'): what a piece of code may have done -/
structure Fin (K : PySem.W.Frag) (F H : Hp) (R : List Res) (F' H' : Hp) (R' : List Res) : Prop where
  ff : Ex F F'
  fh : Ex F' H'
  kp : ∀ a o, H a = some o → a ∉ fps R → H' a = some o
  dm : ∀ a, H' a = none → H a = none
  nw : ∀ a, F a = none → F' a ≠ none → H a = none ∨ a ∈ fps R ∨ ScT H a
  rk : ROk K F' H' R'
  rn : ∀ p ∈ fps R', p ∈ fps R ∨ H p = none
theorem Fin.same {K : PySem.W.Frag} {F H : Hp} {R : List Res} (x : Ex F H) (r : ROk K F H R) : Fin K F H R F H R :=
  ⟨Ex.rfl, x, fun _ _ h _ => h, fun _ h => h, fun _ h z => absurd h z, r, fun _ h => .inl h⟩
theorem Fin.tr {K : PySem.W.Frag} {F H F1 H1 F2 H2 : Hp} {R R1 R2 : List Res} (x : Fin K F H R F1 H1 R1) (y : Fin K F1 H1 R1 F2 H2 R2) : Fin K F H R F2 H2 R2 where
  ff := x.ff.tr y.ff
  fh := y.fh
  kp := fun a o h n => y.kp a o (x.kp a o h n) fun m => by
    rcases x.rn a m with z | z
    · exact n z
    · rw [h] at z; cases z
  dm := fun a h => x.dm a (y.dm a h)
  nw := fun a h z => by
    cases e : F1 a with
    | none =>
      rcases y.nw a e z with q | q | ⟨k, q⟩
      · exact .inl (x.dm a q)
      · exact (x.rn a q).symm.imp id .inl
      · cases eh : H a with
        | none => exact .inl rfl
        | some o =>
          by_cases m : a ∈ fps R
          · exact .inr (.inl m)
          · have := x.kp a o eh m
            rw [q] at this
            cases this
            exact .inr (.inr ⟨k, eh⟩)
    | some o => exact x.nw a h (by rw [e]; exact fun q => nomatch q)
  rk := y.rk
  rn := fun p m => by
    rcases y.rn p m with z | z
    · exact x.rn p z
    · exact .inr (x.dm p z)
inductive En where
  | no | val (d : D) | adr (p : Addr)
def EnOk (K : PySem.W.Frag) (F : Hp) : En → Option V → Prop
  | .no, _ => True
  | .val d, o => ∃ v, o = some v ∧ Rep K F d v
  | .adr p, o => o = some (.ref p)
theorem EnOk.up {K : PySem.W.Frag} {F J : Hp} (x : Ex F J) {e : En} {o : Option V} (h : EnOk K F e o) : EnOk K J e o := by
  cases e with
  | no => trivial
  | val d =>
    obtain ⟨v, q, r⟩ := h
    exact ⟨v, q, Rep.up x d v r⟩
  | adr p => exact h
def EnvOk (K : PySem.W.Frag) (F : Hp) : List En → St → Prop
  | [], σ => σ = []
  | e :: env, σ => ∃ o r, σ = o :: r ∧ EnOk K F e o ∧ EnvOk K F env r
section
variable {K : PySem.W.Frag} {F J : Hp}
theorem EnvOk.up (x : Ex F J) : ∀ {env : List En} {σ : St}, EnvOk K F env σ → EnvOk K J env σ
  | [], _, h => h
  | _ :: _, _, h => by
    obtain ⟨o, r, q, a, b⟩ := h
    exact ⟨o, r, q, a.up x, EnvOk.up x b⟩
theorem EnvOk.get : ∀ {env : List En} {σ : St} {i : Nat} {e : En}, EnvOk K F env σ → env[i]? = some e → ∃ o, σ[i]? = some o ∧ EnOk K F e o
  | [], _, _, _, _, q => by simp at q
  | x :: env, _, 0, e, h, q => by
    obtain ⟨o, r, rfl, a, b⟩ := h
    have z : x = e := Option.some.inj q
    subst z
    exact ⟨o, rfl, a⟩
  | _ :: env, _, i + 1, e, h, q => by
    obtain ⟨o, r, rfl, a, b⟩ := h
    exact EnvOk.get (i := i) b q
theorem EnvOk.set : ∀ {env : List En} {σ : St} (i : Nat) {e : En} {o : Option V}, EnvOk K F env σ → EnOk K F e o → EnvOk K F (env.set i e) (σ.set i o)
  | [], _, _, _, _, h, _ => by rw [show _ = ([] : St) from h]; rfl
  | _ :: env, _, 0, e, o, h, a => by
    obtain ⟨_, r, rfl, _, b⟩ := h
    exact ⟨o, r, rfl, a, b⟩
  | _ :: env, _, i + 1, e, o, h, a => by
    obtain ⟨x, r, rfl, c, b⟩ := h
    exact ⟨x, r.set i o, rfl, c, EnvOk.set i b a⟩
def wipeE (env : List En) : List Nat → List En
  | [] => env
  | v :: vs => (wipeE env vs).set v .no
theorem EnvOk.wipe {env : List En} {σ : St} (h : EnvOk K F env σ) : ∀ vs : List Nat, EnvOk K F (wipeE env vs) (L2.wipe σ vs)
  | [] => h
  | v :: vs => EnvOk.set v (EnvOk.wipe h vs) trivial
end
def EnsOk (K : PySem.W.Frag) (F : Hp) : List En → List V → Prop
  | [], vs => vs = []
  | e :: es, vs => ∃ v r, vs = v :: r ∧ EnOk K F e (some v) ∧ EnsOk K F es r
theorem EnsOk.up {K : PySem.W.Frag} {F J : Hp} (x : Ex F J) : ∀ {es : List En} {vs : List V}, EnsOk K F es vs → EnsOk K J es vs
  | [], _, h => h
  | _ :: _, _, h => by
    obtain ⟨o, r, q, a, b⟩ := h
    exact ⟨o, r, q, a.up x, EnsOk.up x b⟩
theorem EnsOk.len {K : PySem.W.Frag} {F : Hp} : ∀ {es : List En} {vs : List V}, EnsOk K F es vs → vs.length = es.length
  | [], _, h => by rw [show _ = ([] : List V) from h]; rfl
  | _ :: es, _, h => by
    obtain ⟨o, r, rfl, a, b⟩ := h
    rw [List.length_cons, List.length_cons, EnsOk.len b]
theorem EnsOk.app {K : PySem.W.Frag} {F : Hp} : ∀ {es fs : List En} {vs ws : List V}, EnsOk K F es vs → EnsOk K F fs ws → EnsOk K F (es ++ fs) (vs ++ ws)
  | [], _, _, _, h, g => by rw [show _ = ([] : List V) from h]; exact g
  | _ :: es, _, _, _, h, g => by
    obtain ⟨o, r, rfl, a, b⟩ := h
    exact ⟨o, _, rfl, a, EnsOk.app b g⟩
structure Bs where
  F : Hp
  H : Hp
  R : List Res
structure S (K : PySem.W.Frag) (B : Bs) (env : List En) (R : List Res) (σ : St) (F H : Hp) : Prop where
  fin : Fin K B.F B.H B.R F H R
  en : EnvOk K F env σ
theorem S.go {K : PySem.W.Frag} {B : Bs} {env : List En} {R R' : List Res} {σ : St} {F H F' H' : Hp} (s : S K B env R σ F H) (f : Fin K F H R F' H' R') : S K B env R' σ F' H' := ⟨s.fin.tr f, s.en.up f.ff⟩
theorem S.now {K : PySem.W.Frag} {B : Bs} {env : List En} {R : List Res} {σ : St} {F H : Hp} (s : S K B env R σ F H) : Fin K F H R F H R := .same s.fin.fh s.fin.rk
section
variable (K : PySem.W.Frag) (B : Bs)
def Ev (te : TE) (env : List En) (R : List Res) (Φ : En → List Res → Prop) : Prop := ∀ σ F H, S K B env R σ F H → ∀ Q : VK,
  (∀ o R' v F' H', Φ o R' → S K B env R' σ F' H' → Ex F F' → EnOk K F' o (some v) → Q v H') → te σ H Q
def EvA (ta : TA) (env : List En) (R : List Res) (Φ : List En → List Res → Prop) : Prop := ∀ σ F H, S K B env R σ F H → ∀ Q : List V → Hp → Prop,
  (∀ os R' vs F' H', Φ os R' → S K B env R' σ F' H' → Ex F F' → EnsOk K F' os vs → Q vs H') → ta σ H Q
def EvT (tt : TT) (env : List En) (R : List Res) (Φ : Bool → List Res → Prop) : Prop := ∀ σ F H, S K B env R σ F H → ∀ Q : Bool → Hp → Prop,
  (∀ b R' F' H', Φ b R' → S K B env R' σ F' H' → Ex F F' → Q b H') → tt σ H Q
structure Post where
  nx : List En → List Res → Prop
  rt : En → List Res → Prop
  bk : List En → List Res → Prop := fun _ _ => False
  ct : List En → List Res → Prop := fun _ _ => False
structure Wish (E : Ends) (P : Post) : Prop where
  nx : ∀ env R σ F H, P.nx env R → S K B env R σ F H → E.nx σ H
  rt : ∀ o R v F H, P.rt o R → Fin K B.F B.H B.R F H R → EnOk K F o (some v) → E.rt v H
  bk : ∀ env R σ F H, P.bk env R → S K B env R σ F H → E.bk σ H
  ct : ∀ env R σ F H, P.ct env R → S K B env R σ F H → E.ct σ H
def Do (ts : TS) (env : List En) (R : List Res) (P : Post) : Prop := ∀ σ F H E, S K B env R σ F H → Wish K B E P → ts E σ H
end
section
variable {K : PySem.W.Frag} {F H H' : Hp} {R A B : List Res} {p : Addr} {o : HO}
theorem fps_mid {r : Res} : fps (A ++ r :: B) = fps A ++ (r.fp ++ fps B) := by
  unfold fps
  rw [List.flatMap_append, List.flatMap_cons]
theorem Ex.none (x : Ex F H) (h : H p = none) : F p = none := by
  cases e : F p with
  | none => rfl
  | some u => rw [x p u e] at h; cases h
theorem ROk.fresh (r : ROk K F H R) (h : H p = none) : p ∉ fps R := fun m => by
  obtain ⟨u, e⟩ := r.there m
  rw [h] at e; cases e
/-- a new settled object -/
theorem Fin.newF (x : Ex F H) (r : ROk K F H R) (h : H p = none) : Fin K F H R (upd F p o) (upd H p o) R := by
  have nf := x.none h
  have np := r.fresh h
  refine ⟨ex_new nf, fun a u e => ?_, fun a u e _ => ?_, fun a e => ?_, fun a e z => ?_, ⟨fun s hs => ?_, r.nd, fun q m => ?_⟩, fun q m => .inl m⟩
  · by_cases q : a = p
    · rw [q, upd_same] at e ⊢; exact e
    · rw [upd_ne q] at e ⊢; exact x a u e
  · rw [upd_ne (ne_of_none e h)]; exact e
  · by_cases q : a = p
    · rw [q]; exact h
    · rw [upd_ne q] at e; exact e
  · by_cases q : a = p
    · rw [q]; exact .inl h
    · rw [upd_ne q] at z; exact absurd e z
  · refine (r.ok s hs).stay (ex_new nf) fun q m u e => ?_
    rw [upd_ne (ne_of_none e h)]; exact e
  · have hq : q ≠ p := fun e => np (by rw [← e]; exact m)
    rw [upd_ne hq]; exact r.off q m
/-- a new owned object: s tells it -/
theorem Fin.newR {s : Res} (x : Ex F H) (r : ROk K F H R) (ex : Ex H H') (hn : ∀ q ∈ s.fp, H q = Option.none) (hd : ∀ a, H' a = Option.none → H a = Option.none) (nd : s.fp.Nodup) (ok : s.ok K F H') : Fin K F H R F H' (s :: R) := by
  have ne : ∀ q ∈ s.fp, q ∉ fps R := fun q m => r.fresh (hn q m)
  refine ⟨Ex.rfl, x.tr ex, fun a u e _ => ex a u e, hd, fun a e z => absurd e z, ⟨fun t ht => ?_, ?_, fun q m => ?_⟩, fun q m => ?_⟩
  · rcases List.mem_cons.mp ht with e | m
    · rw [e]; exact ok
    · exact (r.ok t m).stay Ex.rfl fun q _ u e => ex q u e
  · show (s.fp ++ fps R).Nodup
    exact List.nodup_append.mpr ⟨nd, r.nd, fun a ha b hb e => ne a ha (e ▸ hb)⟩
  · rcases List.mem_append.mp (show q ∈ s.fp ++ fps R from m) with m | m
    · exact x.none (hn q m)
    · exact r.off q m
  · rcases List.mem_append.mp (show q ∈ s.fp ++ fps R from m) with m | m
    · exact .inr (hn q m)
    · exact .inl m
theorem Fin.newL {ds : List D} {vs : List V} (x : Ex F H) (r : ROk K F H R) (h : H p = Option.none) (l : RepL K F ds vs) : Fin K F H R F (upd H p (.lst vs)) (.lst p ds :: R) :=
  Fin.newR (s := .lst p ds) x r (ex_new h) (fun q m => by rw [List.mem_singleton.mp m]; exact h) (fun a e => by
    by_cases q : a = p
    · rw [q]; exact h
    · rw [upd_ne q] at e; exact e) (List.nodup_cons.mpr ⟨List.not_mem_nil, List.nodup_nil⟩) ⟨vs, upd_same, l⟩
/-- an owned object changes -/
theorem Fin.mut {r s : Res} (x : Ex F H) (k : ROk K F H (A ++ r :: B)) (fp : s.fp = r.fp) (sm : ∀ a, a ∉ r.fp → H' a = H a) (hd : ∀ a ∈ r.fp, H' a ≠ Option.none) (ok : s.ok K F H') : Fin K F H (A ++ r :: B) F H' (A ++ s :: B) := by
  have nd := k.nd
  rw [fps_mid, List.nodup_append] at nd
  obtain ⟨_, nd2, d1⟩ := nd
  rw [List.nodup_append] at nd2
  obtain ⟨_, _, d2⟩ := nd2
  have inr : ∀ a ∈ r.fp, a ∈ fps (A ++ r :: B) := fun a m => by rw [fps_mid]; simp [m]
  have nF : ∀ a ∈ r.fp, F a = Option.none := fun a m => k.off a (inr a m)
  have eqf : fps (A ++ s :: B) = fps (A ++ r :: B) := by rw [fps_mid, fps_mid, fp]
  refine ⟨Ex.rfl, fun a u e => ?_, fun a u e m => ?_, fun a e => ?_, fun a e z => absurd e z, ⟨fun t ht => ?_, by rw [eqf]; exact k.nd, fun q m => by rw [eqf] at m; exact k.off q m⟩, fun q m => by rw [eqf] at m; exact .inl m⟩
  · rw [sm a fun m => by rw [nF a m] at e; cases e]; exact x a u e
  · rw [sm a fun z => m (inr a z)]; exact e
  · by_cases m : a ∈ r.fp
    · exact absurd e (hd a m)
    · rw [← sm a m]; exact e
  · have other : ∀ t ∈ A ++ r :: B, (∀ q ∈ t.fp, q ∉ r.fp) → t.ok K F H' := fun t ht hq => (k.ok t ht).stay Ex.rfl fun q m u e => by rw [sm q (hq q m)]; exact e
    rcases List.mem_append.mp ht with m | m
    · exact other t (List.mem_append_left _ m) fun q hq z => d1 q (List.mem_flatMap.mpr ⟨t, m, hq⟩) q (List.mem_append_left _ z) rfl
    · rcases List.mem_cons.mp m with e | m
      · rw [e]; exact ok
      · exact other t (List.mem_append_right _ (List.mem_cons_of_mem _ m)) fun q hq z => d2 q z q (List.mem_flatMap.mpr ⟨t, m, hq⟩) rfl
theorem Fin.mutL {ds es : List D} {ws : List V} (x : Ex F H) (k : ROk K F H (A ++ .lst p ds :: B)) (l : RepL K F es ws) : Fin K F H (A ++ .lst p ds :: B) F (upd H p (.lst ws)) (A ++ .lst p es :: B) :=
  Fin.mut (r := .lst p ds) (s := .lst p es) x k rfl (fun a m => upd_ne fun e => m (by rw [e]; exact List.mem_singleton.mpr rfl)) (fun a m => by rw [List.mem_singleton.mp m, upd_same]; exact fun z => nomatch z) ⟨ws, upd_same, l⟩
/-- an owned list is settled -/
theorem Fin.frz {ds : List D} (x : Ex F H) (k : ROk K F H (A ++ .lst p ds :: B)) : ∃ vs, H p = some (.lst vs) ∧ RepL K F ds vs ∧ Fin K F H (A ++ .lst p ds :: B) (upd F p (.lst vs)) H (A ++ B) := by
  obtain ⟨vs, hp, l⟩ := k.ok (.lst p ds) (List.mem_append_right _ List.mem_cons_self)
  have mp : p ∈ fps (A ++ .lst p ds :: B) := by rw [fps_mid]; simp [Res.fp]
  have np : F p = Option.none := k.off p mp
  have nd := k.nd
  rw [fps_mid, List.nodup_append] at nd
  obtain ⟨nA, nd2, d1⟩ := nd
  have nd3 : ([p] ++ fps B).Nodup := nd2
  rw [List.nodup_append] at nd3
  obtain ⟨_, nB, d2⟩ := nd3
  have pA : p ∉ fps A := fun m => d1 p m p (List.mem_append_left _ (show p ∈ [p] from List.mem_singleton.mpr rfl)) rfl
  have pB : p ∉ fps B := fun m => d2 p (List.mem_singleton.mpr rfl) p m rfl
  have eAB : fps (A ++ B) = fps A ++ fps B := by unfold fps; rw [List.flatMap_append]
  have sub : ∀ q ∈ fps (A ++ B), q ∈ fps (A ++ .lst p ds :: B) := fun q m => by
    rw [eAB] at m
    rw [fps_mid]
    rcases List.mem_append.mp m with m | m
    · exact List.mem_append_left _ m
    · exact List.mem_append_right _ (List.mem_append_right _ m)
  refine ⟨vs, hp, l, ex_new np, fun a u e => ?_, fun a u e _ => e, fun a e => e, fun a e z => ?_, ⟨fun t ht => ?_, ?_, fun q m => ?_⟩, fun q m => .inl (sub q m)⟩
  · by_cases q : a = p
    · rw [q, upd_same] at e
      rw [q, ← e]; exact hp
    · rw [upd_ne q] at e; exact x a u e
  · by_cases q : a = p
    · rw [q]; exact .inr (.inl mp)
    · rw [upd_ne q] at z; exact absurd e z
  · have ht2 : t ∈ A ++ Res.lst p ds :: B := by
      rcases List.mem_append.mp ht with m | m
      · exact List.mem_append_left _ m
      · exact List.mem_append_right _ (List.mem_cons_of_mem _ m)
    exact (k.ok t ht2).stay (ex_new np) fun q _ u e => e
  · rw [eAB, List.nodup_append]
    exact ⟨nA, nB, fun a ha b hb => d1 a ha b (List.mem_append_right _ hb)⟩
  · have hq : q ≠ p := fun e => by
      rw [eAB] at m
      rcases List.mem_append.mp m with m | m
      · exact pA (e ▸ m)
      · exact pB (e ▸ m)
    rw [upd_ne hq]; exact k.off q (sub q m)
theorem split_at : ∀ {R : List Res} {k : Nat} {r : Res}, R[k]? = some r → ∃ A B, R = A ++ r :: B ∧ R.eraseIdx k = A ++ B ∧ ∀ s, R.set k s = A ++ s :: B
  | [], _, _, h => by simp at h
  | x :: R, 0, r, h => by
    have e : x = r := Option.some.inj h
    subst e
    exact ⟨[], R, rfl, rfl, fun _ => rfl⟩
  | x :: R, k + 1, r, h => by
    obtain ⟨A, B, e, f, g⟩ := split_at (R := R) (k := k) h
    refine ⟨x :: A, B, by rw [e]; rfl, ?_, fun s => ?_⟩
    · show x :: R.eraseIdx k = _
      rw [f]; rfl
    · show x :: R.set k s = _
      rw [g s]; rfl
end
section
variable {K : PySem.W.Frag} {B : Bs} {env : List En} {R : List Res} {σ : St} {F H : Hp} {p : Addr}
theorem S.newF {o : HO} (s : S K B env R σ F H) (h : H p = none) : S K B env R σ (upd F p o) (upd H p o) ∧ Ex F (upd F p o) :=
  ⟨s.go (.newF s.fin.fh s.fin.rk h), ex_new (s.fin.fh.none h)⟩
theorem S.newL {ds : List D} {vs : List V} (s : S K B env R σ F H) (h : H p = none) (l : RepL K F ds vs) : S K B env (.lst p ds :: R) σ F (upd H p (.lst vs)) := s.go (.newL s.fin.fh s.fin.rk h l)
theorem S.own {k : Nat} {ds : List D} (s : S K B env R σ F H) (h : R[k]? = some (.lst p ds)) : ∃ vs, H p = some (.lst vs) ∧ RepL K F ds vs := s.fin.rk.ok _ (List.mem_of_getElem? h)
theorem S.mutL {k : Nat} {ds es : List D} {ws : List V} (s : S K B env R σ F H) (h : R[k]? = some (.lst p ds)) (l : RepL K F es ws) : S K B env (R.set k (.lst p es)) σ F (upd H p (.lst ws)) := by
  obtain ⟨X, Y, e, _, g⟩ := split_at h
  subst e
  rw [g]
  exact s.go (.mutL s.fin.fh s.fin.rk l)
theorem S.frz {k : Nat} {ds : List D} (s : S K B env R σ F H) (h : R[k]? = some (.lst p ds)) : ∃ F', S K B env (R.eraseIdx k) σ F' H ∧ Ex F F' ∧ Rep K F' (.lst ds) (.ref p) := by
  obtain ⟨X, Y, e, f, _⟩ := split_at h
  subst e
  rw [f]
  obtain ⟨vs, hp, l, z⟩ := Fin.frz s.fin.fh s.fin.rk
  exact ⟨_, s.go z, z.ff, mk_lst upd_same (RepL.up z.ff _ _ l)⟩
end
end Tl
namespace Tl
open PySem L2
inductive Er where
  | plain (c : Str)
  | fld (c f : Str) (x : D)
def ErOk (K : PySem.W.Frag) (F H : Hp) (cls : Value) (d : Option Addr) : Er → Prop
  | .plain c => cls = .ref (He.ga K c) ∧ d = none
  | .fld c f x => cls = .ref (He.ga K c) ∧ ∃ dd v, d = some dd ∧ H dd = some (.xd [(f, v)]) ∧ F dd = none ∧ Rep K F x v
abbrev XP := Er → List En → List Res → Prop
def Acc (K : PySem.W.Frag) (B : Bs) (W : WX) (Ψ : XP) : Prop := ∀ er env R σ F H cls d, Ψ er env R → S K B env R σ F H → ErOk K F H cls d er → (∀ dd, d = some dd → dd ∉ fps R ∧ B.H dd = none) → W cls d σ H
structure Tk (X : Cx) (W : WX) : Prop where
  takes : Takes X W
  own : PassesOwn (model X.prog X.w) X.A X.env X.xe
abbrev WE := List En → List Res → (En → List Res → Prop) → XP → Prop
abbrev WA := List En → List Res → (List En → List Res → Prop) → XP → Prop
abbrev WT := List En → List Res → (Bool → List Res → Prop) → XP → Prop
abbrev WS := List En → List Res → Post → XP → Prop
/-- an operation on values -/
abbrev KO := En → En → List Res → (En → List Res → Prop) → Prop
abbrev KC := List En → List Res → (En → List Res → Prop) → Prop
structure DE (X : Cx) (W : WX) (e : Expr) (te : TE) (w : WE) : Prop where
  p : PE X e te
  v : ∀ B env R Φ Ψ, Acc X.K B W Ψ → w env R Φ Ψ → Ev X.K B te env R Φ
structure DA (X : Cx) (W : WX) (es : List Expr) (ta : TA) (w : WA) : Prop where
  p : PA X es ta
  v : ∀ B env R Φ Ψ, Acc X.K B W Ψ → w env R Φ Ψ → EvA X.K B ta env R Φ
structure DT (X : Cx) (W : WX) (e : Expr) (tt : TT) (w : WT) : Prop where
  p : PT X e tt
  v : ∀ B env R Φ Ψ, Acc X.K B W Ψ → w env R Φ Ψ → EvT X.K B tt env R Φ
structure DW (X : Cx) (W : WX) (e : Expr) (tt : TT) (w : WT) : Prop where
  p : PW X e tt
  v : ∀ B env R Φ Ψ, Acc X.K B W Ψ → w env R Φ Ψ → EvT X.K B tt env R Φ
structure DS (X : Cx) (W : WX) (st : Stmt) (ts : TS) (w : WS) : Prop where
  p : PS X st ts
  v : ∀ B env R P Ψ, Acc X.K B W Ψ → w env R P Ψ → Do X.K B ts env R P
structure DSs (X : Cx) (W : WX) (sts : List Stmt) (ts : TS) (w : WS) : Prop where
  p : PSs X sts ts
  v : ∀ B env R P Ψ, Acc X.K B W Ψ → w env R P Ψ → Do X.K B ts env R P
section
variable {X : Cx} {W : WX} {e a b : Expr} {te ta tb : TE} {wa wb we : WE} {pos : Pos} {r : R2}
def wVar (i : Nat) : WE := fun env R Φ _ => match env[i]? with
  | some (.val d) => Φ (.val d) R
  | some (.adr p) => Φ (.adr p) R
  | _ => False
theorem dv (i : Nat) {x : Str} {pos : Pos} (hN : X.N[i]? = some x := by rfl) (hv : Vis X.env.scope x := by first | exact Or.inl rfl | exact Or.inr (Or.inl rfl) | exact Or.inr (Or.inr rfl)) (hd : (x == ("__debug__" : Str)) = false := by decide)
    (hcd : (x == ("__classdict__" : Str)) = false := by decide) : DE X W (.Name x pos) (tVar i) (wVar i) := ⟨pe_var hN hv hd hcd, fun B env R Φ Ψ acc h σ F H s Q k => by
  unfold wVar at h
  cases q : env[i]? with
  | none => rw [q] at h; exact h.elim
  | some e =>
    obtain ⟨o, z, y⟩ := s.en.get q
    rw [q] at h
    cases e with
    | no => exact h.elim
    | val d =>
      obtain ⟨v, rfl, r⟩ := y
      exact ⟨v, z, k _ _ v F H h s Ex.rfl ⟨v, rfl, r⟩⟩
    | adr p =>
      have y' : o = some (.ref p) := y
      subst y'
      exact ⟨_, z, k _ _ _ F H h s Ex.rfl rfl⟩⟩
def wC (d : D) : WE := fun _ R Φ _ => Φ (.val d) R
theorem de_c {v : V} {d : D} (h : PE X e (tC v)) (r : ∀ F, Rep X.K F d v) : DE X W e (tC v) (wC d) := ⟨h, fun B env R Φ Ψ acc w σ F H s Q k => k _ _ v F H w s Ex.rfl ⟨v, rfl, r F⟩⟩
theorem d_int {i : Int} {j : Nat} {pos : Pos} : DE X W (.Constant (.int i) j pos) (tC (.int i)) (wC (.int i)) := de_c pe_int fun _ => rep_int i
theorem d_bl {i : Bool} {j : Nat} {pos : Pos} : DE X W (.Constant (.bool i) j pos) (tC (.bl i)) (wC (.bl i)) := de_c pe_bl fun _ => rep_bl i
theorem d_non {j : Nat} {pos : Pos} : DE X W (.Constant .none j pos) (tC .non) (wC .non) := de_c pe_non fun _ => rep_non
theorem d_str {i : Str} {j : Nat} {pos : Pos} : DE X W (.Constant (.str i) j pos) (tC (.str i)) (wC (.str i)) := de_c pe_str fun _ => rep_str i
/-- a module's name: a text, an int -/
theorem d_gs {x z : Str} {pos : Pos} (h : ∃ t, X.mg x = some (.str z t)) (hg : Gl X x := by rfl) (hd : (x == ("__debug__" : Str)) = false := by decide) : DE X W (.Name x pos) (tC (.str z)) (wC (.str z)) := by
  obtain ⟨t, m⟩ := h
  exact de_c (pe_glob (v := .str z) hg m ⟨t, rfl⟩ hd) fun _ => rep_str z
theorem d_gi {x : Str} {i : Int} {pos : Pos} (h : ∃ t, X.mg x = some (.int i t)) (hg : Gl X x := by rfl) (hd : (x == ("__debug__" : Str)) = false := by decide) : DE X W (.Name x pos) (tC (.int i)) (wC (.int i)) := by
  obtain ⟨t, m⟩ := h
  exact de_c (pe_glob (v := .int i) hg m ⟨t, rfl⟩ hd) fun _ => rep_int i
/-- a module's name: a class or a def of its own -/
theorem d_gr {x : Str} {pos : Pos} (m : X.mg x = some (.ref (He.ga X.K x))) (hg : Gl X x := by rfl) (hd : (x == ("__debug__" : Str)) = false := by decide) : DE X W (.Name x pos) (tC (.ref (He.ga X.K x))) (wC (.glo x)) :=
  de_c (pe_glob (v := .ref (He.ga X.K x)) hg m rfl hd) fun _ => rep_glo x
/-- a built-in class -/
theorem d_ty {x : Str} {n : String} {pos : Pos} (hm : X.mg x = none) (hv : bootBuiltins x = some (.type n)) (hg : Gl X x := by rfl) (hn : x ≠ "__name__" := by decide) (hd : (x == ("__debug__" : Str)) = false := by decide) : DE X W (.Name x pos) (tC (.ty n)) (wC (.ty n)) :=
  de_c (pe_bltn (v := .ty n) hg hm hv rfl hn hd) fun _ => rep_ty n
def settle (k : Nat) (o : En) (R : List Res) (Φ : En → List Res → Prop) : Prop := match o with
  | .adr p => ∃ ds, R[k]? = some (.lst p ds) ∧ Φ (.val (.lst ds)) (R.eraseIdx k)
  | .val d => Φ (.val d) R
  | .no => False
def wSet (k : Nat) (w : WE) : WE := fun env R Φ Ψ => w env R (fun o R1 => settle k o R1 Φ) Ψ
theorem de_set (k : Nat) (h : DE X W e te we) : DE X W e te (wSet k we) := by
  refine ⟨h.p, fun B env R Φ Ψ acc w σ F H s Q q => h.v B env R _ Ψ acc w σ F H s Q fun o R1 v F1 H1 φ s1 x1 eo => ?_⟩
  cases o with
  | no => exact φ.elim
  | val d => exact q _ _ v F1 H1 φ s1 x1 eo
  | adr p =>
    obtain ⟨ds, g, φ⟩ := φ
    obtain ⟨F2, s2, x2, r⟩ := s1.frz g
    have ev : some v = some (V.ref p) := eo
    cases ev
    exact q _ _ _ F2 H1 φ s2 (x1.tr x2) ⟨_, rfl, r⟩
structure DOp (X : Cx) (f : Value → Value → Sem Value) (r : R2) (k : KO) : Prop where
  p : OpR X f r
  v : ∀ B env R σ F H x y v u Φ (Q : VK), S X.K B env R σ F H → EnOk X.K F x (some v) → EnOk X.K F y (some u) → k x y R Φ →
    (∀ o R' z F' H', Φ o R' → S X.K B env R' σ F' H' → Ex F F' → EnOk X.K F' o (some z) → Q z H') → r v u H Q
def w2 (wa wb : WE) (k : KO) : WE := fun env R Φ Ψ => wa env R (fun x R1 => wb env R1 (fun y R2 => k x y R2 Φ) Ψ) Ψ
theorem run2 {k : KO} {B : Bs} {env : List En} {R : List Res} {Φ : En → List Res → Prop} {Ψ : XP} (acc : Acc X.K B W Ψ)
    (hr : ∀ B env R σ F H x y v u Φ (Q : VK), S X.K B env R σ F H → EnOk X.K F x (some v) → EnOk X.K F y (some u) → k x y R Φ → (∀ o R' z F' H', Φ o R' → S X.K B env R' σ F' H' → Ex F F' → EnOk X.K F' o (some z) → Q z H') → r v u H Q)
    (ha : ∀ B env R Φ Ψ, Acc X.K B W Ψ → wa env R Φ Ψ → Ev X.K B ta env R Φ) (hb : ∀ B env R Φ Ψ, Acc X.K B W Ψ → wb env R Φ Ψ → Ev X.K B tb env R Φ) (h : w2 wa wb k env R Φ Ψ) : Ev X.K B (tOp r ta tb) env R Φ := by
  intro σ F H s Q q
  refine ha B env R _ Ψ acc h σ F H s _ fun x R1 v F1 H1 φ1 s1 x1 e1 => ?_
  refine hb B env R1 _ Ψ acc φ1 σ F1 H1 s1 _ fun y R2 u F2 H2 φ2 s2 x2 e2 => ?_
  exact hr B env R2 σ F2 H2 x y v u Φ Q s2 (e1.up x2) e2 φ2 fun o R3 z F3 H3 φ3 s3 x3 e3 => q o R3 z F3 H3 φ3 s3 ((x1.tr x2).tr x3) e3
theorem d_op {op : Operator} {k : KO} (ho : DOp X (binaryOp op) r k) (ha : DE X W a ta wa) (hb : DE X W b tb wb) : DE X W (.BinOp a op b pos) (tOp r ta tb) (w2 wa wb k) :=
  ⟨pe_op ho.p ha.p hb.p, fun B env R Φ Ψ acc w => run2 acc ho.v ha.v hb.v w⟩
theorem d_cmp {op : CmpOp} {k : KO} (ho : DOp X (compareOp op) r k) (ha : DE X W a ta wa) (hb : DE X W b tb wb) (hm : behindInMarks op b = false := by first | exact nomark _ | rfl) : DE X W (.Compare a [op] [b] pos) (tOp r ta tb) (w2 wa wb k) :=
  ⟨pe_cmpR ho.p ha.p hb.p hm, fun B env R Φ Ψ acc w => run2 acc ho.v ha.v hb.v w⟩
def wTst (w : WE) : WT := fun env R Φ Ψ => w env R (fun o R1 => match o with | .val (.bl b) => Φ b R1 | _ => False) Ψ
theorem tst_ok {B : Bs} {env : List En} {R : List Res} {Φ : Bool → List Res → Prop} (h : Ev X.K B te env R (fun o R1 => match o with | .val (.bl b) => Φ b R1 | _ => False)) : EvT X.K B (tTest te) env R Φ := by
  intro σ F H s Q q
  refine h σ F H s _ fun o R1 v F1 H1 φ s1 x1 e1 => ?_
  cases o with
  | no => exact φ.elim
  | adr p => exact φ.elim
  | val d =>
    cases d with
    | bl k =>
      obtain ⟨u, e, r⟩ := e1
      cases e
      exact ⟨k, of_bl r, q k R1 F1 H1 φ s1 x1⟩
    | _ => exact φ.elim
theorem t_cmp {op : CmpOp} {k : KO} (ho : DOp X (compareOp op) r k) (ha : DE X W a ta wa) (hb : DE X W b tb wb) (hm : behindInMarks op b = false := by first | exact nomark _ | rfl) : DT X W (.Compare a [op] [b] pos) (tTest (tOp r ta tb)) (wTst (w2 wa wb k)) :=
  ⟨pt_cmpR ho.p ha.p hb.p hm, fun B env R Φ Ψ acc w => tst_ok (run2 acc ho.v ha.v hb.v w)⟩
theorem t_val (h : DE X W e te we) (he : ∀ whole, isTrue e X.env whole = (do let v ← whole; standAt e.pos; holding [v] (truthy v)) := by intro _; rfl) : DT X W e (tB te) (wTst we) :=
  ⟨pt_val h.p he, fun B env R Φ Ψ acc w => tst_ok (h.v B env R _ Ψ acc w)⟩
/-- both operands are ints -/
def kI (C : Int → Int → Prop) (g : Int → Int → D) : KO := fun x y R Φ => match x, y with
  | .val (.int i), .val (.int j) => C i j ∧ Φ (.val (g i j)) R
  | _, _ => False
theorem dop_I {f : Value → Value → Sem Value} {C : Int → Int → Prop} {g : Int → Int → V} {gd : Int → Int → D} (h : OpR X f (rI C g)) (hg : ∀ F i j, Rep X.K F (gd i j) (g i j)) : DOp X f (rI C g) (kI C gd) := ⟨h, fun B env R σ F H x y v u Φ Q s ex ey k q => by
  cases x with
  | no => exact k.elim
  | adr p => exact k.elim
  | val d =>
    cases d with
    | int i =>
      cases y with
      | no => exact k.elim
      | adr p => exact k.elim
      | val d =>
        cases d with
        | int j =>
          obtain ⟨_, e, r⟩ := ex
          cases e
          obtain ⟨_, e, r2⟩ := ey
          cases e
          exact ⟨i, j, of_int r, of_int r2, k.1, q _ R _ F H k.2 s Ex.rfl ⟨_, rfl, hg F i j⟩⟩
        | _ => exact k.elim
    | _ => exact k.elim⟩
theorem rI_of {f : Value → Value → Sem Value} {g : Int → Int → V} (h : OpR X f (rI0 g)) : OpR X f (rI (fun _ _ => True) g) := fun pins s σ H x y v u Q I rx ry z => by
  obtain ⟨i, j, e1, e2, _, q⟩ := z
  exact h pins s σ H x y v u Q I rx ry ⟨i, j, e1, e2, q⟩
theorem o_add : DOp X (binaryOp .Add) (rI (fun _ _ => True) fun i j => .int (i + j)) (kI (fun _ _ => True) fun i j => .int (i + j)) := dop_I (rI_of op_add) fun _ _ _ => rep_int _
theorem o_sub : DOp X (binaryOp .Sub) (rI (fun _ _ => True) fun i j => .int (i - j)) (kI (fun _ _ => True) fun i j => .int (i - j)) := dop_I (rI_of op_sub) fun _ _ _ => rep_int _
theorem o_mul : DOp X (binaryOp .Mult) (rI CMul fun i j => .int (i * j)) (kI CMul fun i j => .int (i * j)) := dop_I op_mul fun _ _ _ => rep_int _
theorem o_lt : DOp X (compareOp .Lt) (rI (fun _ _ => True) fun i j => .bl (decide (i < j))) (kI (fun _ _ => True) fun i j => .bl (decide (i < j))) := dop_I (rI_of op_lt) fun _ _ _ => rep_bl _
theorem o_le : DOp X (compareOp .LtE) (rI (fun _ _ => True) fun i j => .bl (decide (i ≤ j))) (kI (fun _ _ => True) fun i j => .bl (decide (i ≤ j))) := dop_I (rI_of op_le) fun _ _ _ => rep_bl _
theorem o_gt : DOp X (compareOp .Gt) (rI (fun _ _ => True) fun i j => .bl (decide (j < i))) (kI (fun _ _ => True) fun i j => .bl (decide (j < i))) := dop_I (rI_of op_gt) fun _ _ _ => rep_bl _
theorem o_ge : DOp X (compareOp .GtE) (rI (fun _ _ => True) fun i j => .bl (decide (j ≤ i))) (kI (fun _ _ => True) fun i j => .bl (decide (j ≤ i))) := dop_I (rI_of op_ge) fun _ _ _ => rep_bl _
/-- both operands are texts -/
def rS (C : Str → Str → Prop) (g : Str → Str → V) : R2 := fun x y H Q => ∃ i j, x = .str i ∧ y = .str j ∧ C i j ∧ Q (g i j) H
def kS (C : Str → Str → Prop) (g : Str → Str → D) : KO := fun x y R Φ => match x, y with
  | .val (.str i), .val (.str j) => C i j ∧ Φ (.val (g i j)) R
  | _, _ => False
theorem dop_S {f : Value → Value → Sem Value} {C : Str → Str → Prop} {g : Str → Str → V} {gd : Str → Str → D} (h : OpR X f (rS C g)) (hg : ∀ F i j, Rep X.K F (gd i j) (g i j)) : DOp X f (rS C g) (kS C gd) := ⟨h, fun B env R σ F H x y v u Φ Q s ex ey k q => by
  cases x with
  | no => exact k.elim
  | adr p => exact k.elim
  | val d =>
    cases d with
    | str i =>
      cases y with
      | no => exact k.elim
      | adr p => exact k.elim
      | val d =>
        cases d with
        | str j =>
          obtain ⟨_, e, r⟩ := ex
          cases e
          obtain ⟨_, e, r2⟩ := ey
          cases e
          exact ⟨i, j, of_str r, of_str r2, k.1, q _ R _ F H k.2 s Ex.rfl ⟨_, rfl, hg F i j⟩⟩
        | _ => exact k.elim
    | _ => exact k.elim⟩
theorem rS_of {f : Value → Value → Sem Value} {g : Str → Str → V} (h : OpR X f (fun x y H Q => ∃ i j, x = .str i ∧ y = .str j ∧ Q (g i j) H)) : OpR X f (rS (fun _ _ => True) g) := fun pins s σ H x y v u Q I rx ry z => by
  obtain ⟨i, j, e1, e2, _, q⟩ := z
  exact h pins s σ H x y v u Q I rx ry ⟨i, j, e1, e2, q⟩
theorem o_addS : DOp X (binaryOp .Add) (rS (fun i j => i.length + j.length ≤ sizeLine) fun i j => .str (i ++ j)) (kS (fun i j => i.length + j.length ≤ sizeLine) fun i j => .str (i ++ j)) := dop_S op_add_str fun _ _ _ => rep_str _
theorem o_ltS : DOp X (compareOp .Lt) (rS (fun _ _ => True) fun i j => .bl (decide (i.cps.toList < j.cps.toList))) (kS (fun _ _ => True) fun i j => .bl (decide (i.cps.toList < j.cps.toList))) := dop_S (rS_of op_lt_str) fun _ _ _ => rep_bl _
theorem o_gtS : DOp X (compareOp .Gt) (rS (fun _ _ => True) fun i j => .bl (decide (j.cps.toList < i.cps.toList))) (kS (fun _ _ => True) fun i j => .bl (decide (j.cps.toList < i.cps.toList))) := dop_S (rS_of op_gt_str) fun _ _ _ => rep_bl _
/-- one sign in a text -/
def rIn (neg : Bool) : R2 := fun x y H Q => ∃ (c : Nat) (z : Str), x = .str ⟨#[c]⟩ ∧ y = .str z ∧ Q (.bl (if neg then !decide (c ∈ z.cps.toList) else decide (c ∈ z.cps.toList))) H
def kIn (neg : Bool) : KO := fun x y R Φ => match x, y with
  | .val (.str i), .val (.str j) => ∃ c, i = ⟨#[c]⟩ ∧ Φ (.val (.bl (if neg then !decide (c ∈ j.cps.toList) else decide (c ∈ j.cps.toList)))) R
  | _, _ => False
theorem dop_in {f : Value → Value → Sem Value} {neg : Bool} (h : OpR X f (rIn neg)) : DOp X f (rIn neg) (kIn neg) := ⟨h, fun B env R σ F H x y v u Φ Q s ex ey k q => by
  cases x with
  | no => exact k.elim
  | adr p => exact k.elim
  | val d =>
    cases d with
    | str i =>
      cases y with
      | no => exact k.elim
      | adr p => exact k.elim
      | val d =>
        cases d with
        | str j =>
          obtain ⟨_, e, r⟩ := ex
          cases e
          obtain ⟨_, e, r2⟩ := ey
          cases e
          obtain ⟨c, rfl, k⟩ := k
          exact ⟨c, j, of_str r, of_str r2, q _ R _ F H k s Ex.rfl ⟨_, rfl, rep_bl _⟩⟩
        | _ => exact k.elim
    | _ => exact k.elim⟩
theorem o_inS : DOp X (compareOp .In) (rIn false) (kIn false) := dop_in op_in_sign
theorem o_ninS : DOp X (compareOp .NotIn) (rIn true) (kIn true) := dop_in op_notIn_sign
/-- == of plain things -/
def scD : D → D → Option Bool
  | .non, .non => some true | .non, .int _ => some false | .int _, .non => some false | .non, .bl _ => some false | .bl _, .non => some false | .non, .str _ => some false | .str _, .non => some false
  | .int i, .int j => some (decide (i = j)) | .bl i, .bl j => some (decide (i = j)) | .str i, .str j => some (decide (i = j))
  | .int _, .str _ => some false | .str _, .int _ => some false | .bl _, .str _ => some false | .str _, .bl _ => some false
  | _, _ => none
theorem scD_ok {K : PySem.W.Frag} {F : Hp} {x y : D} {b : Bool} {v u : V} (h : scD x y = some b) (rx : Rep K F x v) (ry : Rep K F y u) : scal v u = true ∧ decide (v = u) = b := by
  cases x <;> cases y <;> first | cases h | skip
  all_goals first | (have ex := of_non rx; subst ex) | (have ex := of_bl rx; subst ex) | (have ex := of_int rx; subst ex) | (have ex := of_str rx; subst ex)
  all_goals first | (have ey := of_non ry; subst ey) | (have ey := of_bl ry; subst ey) | (have ey := of_int ry; subst ey) | (have ey := of_str ry; subst ey)
  all_goals (refine ⟨rfl, ?_⟩)
  all_goals first | (simp; done) | rfl
def rEqN (neg : Bool) : R2 := fun x y H Q => scal x y = true ∧ Q (.bl (if neg then !decide (x = y) else decide (x = y))) H
def kEq (neg : Bool) : KO := fun x y R Φ => match x, y with
  | .val i, .val j => ∃ b, scD i j = some b ∧ Φ (.val (.bl (if neg then !b else b))) R
  | _, _ => False
theorem dop_eq {f : Value → Value → Sem Value} {neg : Bool} (h : OpR X f (rEqN neg)) : DOp X f (rEqN neg) (kEq neg) := ⟨h, fun B env R σ F H x y v u Φ Q s ex ey k q => by
  cases x with
  | no => exact k.elim
  | adr p => exact k.elim
  | val d =>
    cases y with
    | no => exact k.elim
    | adr p => exact k.elim
    | val d2 =>
      obtain ⟨_, e, r⟩ := ex
      cases e
      obtain ⟨_, e, r2⟩ := ey
      cases e
      obtain ⟨b, e, k⟩ := k
      obtain ⟨h1, h2⟩ := scD_ok e r r2
      refine ⟨h1, ?_⟩
      rw [h2]
      exact q _ R _ F H k s Ex.rfl ⟨_, rfl, rep_bl _⟩⟩
theorem o_eq : DOp X (compareOp .Eq) (rEqN false) (kEq false) := dop_eq op_eq
theorem o_ne : DOp X (compareOp .NotEq) (rEqN true) (kEq true) := dop_eq op_ne
/-- is None, is not None -/
def isNon : D → Bool
  | .non => true
  | _ => false
theorem isNon_ok {K : PySem.W.Frag} {F : Hp} {x : D} {v : V} (r : Rep K F x v) : decide (v = .non) = isNon x := by
  cases x with
  | non => rw [of_non r]; rfl
  | bl b => rw [of_bl r]; rfl
  | int b => rw [of_int r]; rfl
  | str b => rw [of_str r]; rfl
  | glo b => rw [of_glo r]; rfl
  | ty b => rw [of_ty r]; rfl
  | tup ds => obtain ⟨a, vs, rfl, _⟩ := of_tup r; rfl
  | lst ds => obtain ⟨a, vs, rfl, _⟩ := of_lst r; rfl
  | obj c ns ds => obtain ⟨a, dx, vs, rfl, _⟩ := of_obj r; rfl
  | dct ks ds => obtain ⟨a, vs, rfl, _⟩ := of_dct r; rfl
def rIsNn (neg : Bool) : R2 := fun x y H Q => y = .non ∧ Q (.bl (if neg then !decide (x = .non) else decide (x = .non))) H
def kIs (neg : Bool) : KO := fun x y R Φ => match x, y with
  | .val i, .val .non => Φ (.val (.bl (if neg then !isNon i else isNon i))) R
  | _, _ => False
theorem dop_is {f : Value → Value → Sem Value} {neg : Bool} (h : OpR X f (rIsNn neg)) : DOp X f (rIsNn neg) (kIs neg) := ⟨h, fun B env R σ F H x y v u Φ Q s ex ey k q => by
  cases x with
  | no => exact k.elim
  | adr p => exact k.elim
  | val d =>
    cases y with
    | no => exact k.elim
    | adr p => exact k.elim
    | val d2 =>
      cases d2 with
      | non =>
        obtain ⟨_, e, r⟩ := ex
        cases e
        obtain ⟨_, e, r2⟩ := ey
        cases e
        refine ⟨of_non r2, ?_⟩
        rw [isNon_ok r]
        exact q _ R _ F H k s Ex.rfl ⟨_, rfl, rep_bl _⟩
      | _ => exact k.elim⟩
theorem o_isN : DOp X (compareOp .Is) (rIsNn false) (kIs false) := dop_is op_isN
theorem o_notN : DOp X (compareOp .IsNot) (rIsNn true) (kIs true) := dop_is op_notN
end
end Tl
namespace Tl
open PySem L2
section
variable {X : Cx} {W : WX} {e a b c : Expr} {wa wb we : WE} {ta tb : WT} {t u : TT} {te tf tg : TE} {pos : Pos} {rest : List Expr}
def wAnd (s t : WT) : WT := fun env R Φ Ψ => s env R (fun k R1 => if k = true then t env R1 Φ Ψ else Φ false R1) Ψ
def wOr (s t : WT) : WT := fun env R Φ Ψ => s env R (fun k R1 => if k = true then Φ true R1 else t env R1 Φ Ψ) Ψ
def wNot (s : WT) : WT := fun env R Φ Ψ => s env R (fun k R1 => Φ (!k) R1) Ψ
theorem DW.tst (h : DW X W e t ta) : DT X W e t ta := ⟨h.p.pt, h.v⟩
theorem t_and1 (h : DT X W a t ta) : DW X W (.BoolOp .And [a] pos) t ta := ⟨pw_and1 h.p, h.v⟩
theorem t_or1 (h : DT X W a t ta) : DW X W (.BoolOp .Or [a] pos) t ta := ⟨pw_or1 h.p, h.v⟩
theorem t_and (h : DT X W a t ta) (g : DW X W (.BoolOp .And (b :: rest) pos) u tb) : DW X W (.BoolOp .And (a :: b :: rest) pos) (tAnd t u) (wAnd ta tb) := by
  obtain ⟨p, q⟩ := h
  obtain ⟨p2, q2⟩ := g
  refine ⟨pw_and p p2, fun B env R Φ Ψ acc w σ F H s Q k => q B env R _ Ψ acc w σ F H s _ fun b R1 F1 H1 φ s1 x1 => ?_⟩
  cases b with
  | true => exact q2 B env R1 Φ Ψ acc φ σ F1 H1 s1 Q fun b R2 F2 H2 φ s2 x2 => k b R2 F2 H2 φ s2 (x1.tr x2)
  | false => exact k false R1 F1 H1 φ s1 x1
theorem t_or (h : DT X W a t ta) (g : DW X W (.BoolOp .Or (b :: rest) pos) u tb) : DW X W (.BoolOp .Or (a :: b :: rest) pos) (tOr t u) (wOr ta tb) := by
  obtain ⟨p, q⟩ := h
  obtain ⟨p2, q2⟩ := g
  refine ⟨pw_or p p2, fun B env R Φ Ψ acc w σ F H s Q k => q B env R _ Ψ acc w σ F H s _ fun b R1 F1 H1 φ s1 x1 => ?_⟩
  cases b with
  | true => exact k true R1 F1 H1 φ s1 x1
  | false => exact q2 B env R1 Φ Ψ acc φ σ F1 H1 s1 Q fun b R2 F2 H2 φ s2 x2 => k b R2 F2 H2 φ s2 (x1.tr x2)
theorem t_not (h : DT X W a t ta) : DT X W (.UnaryOp .Not a pos) (tNot t) (wNot ta) := by
  obtain ⟨p, q⟩ := h
  exact ⟨pt_not p, fun B env R Φ Ψ acc w σ F H s Q k => q B env R _ Ψ acc w σ F H s _ fun b R1 F1 H1 φ s1 x1 => k _ R1 F1 H1 φ s1 x1⟩
/-- the same as values: all parts are True or False -/
def wBl (o : En) (k : Bool → Prop) : Prop := match o with
  | .val (.bl b) => k b
  | _ => False
def wAndV (s t : WE) : WE := fun env R Φ Ψ => s env R (fun o R1 => wBl o fun k => if k = true then t env R1 Φ Ψ else Φ (.val (.bl false)) R1) Ψ
def wOrV (s t : WE) : WE := fun env R Φ Ψ => s env R (fun o R1 => wBl o fun k => if k = true then Φ (.val (.bl true)) R1 else t env R1 Φ Ψ) Ψ
def wNotV (s : WE) : WE := fun env R Φ Ψ => s env R (fun o R1 => wBl o fun k => Φ (.val (.bl (!k))) R1) Ψ
theorem bl_of {K : PySem.W.Frag} {F : Hp} {o : En} {v : V} {k : Bool → Prop} (h : wBl o k) (e : EnOk K F o (some v)) : ∃ b, v = .bl b ∧ k b := by
  cases o with
  | no => exact h.elim
  | adr p => exact h.elim
  | val d =>
    cases d with
    | bl b =>
      obtain ⟨u, q, r⟩ := e
      cases q
      exact ⟨b, of_bl r, h⟩
    | _ => exact h.elim
theorem d_one {op : BoolOp} (h : DE X W a te wa) : DE X W (.BoolOp op [a] pos) te wa := ⟨pe_one h.p, h.v⟩
theorem d_and (h : DE X W a te wa) (g : DE X W (.BoolOp .And (b :: rest) pos) tf wb) : DE X W (.BoolOp .And (a :: b :: rest) pos) (tAndV te tf) (wAndV wa wb) := by
  obtain ⟨p, q⟩ := h
  obtain ⟨p2, q2⟩ := g
  refine ⟨pe_and p p2, fun B env R Φ Ψ acc w σ F H s Q k => q B env R _ Ψ acc w σ F H s _ fun o R1 v F1 H1 φ s1 x1 eo => ?_⟩
  obtain ⟨b, rfl, φ⟩ := bl_of φ eo
  refine ⟨b, rfl, ?_⟩
  cases b with
  | true => exact q2 B env R1 Φ Ψ acc φ σ F1 H1 s1 Q fun b R2 v F2 H2 φ s2 x2 => k b R2 v F2 H2 φ s2 (x1.tr x2)
  | false => exact k _ R1 _ F1 H1 φ s1 x1 ⟨_, rfl, rep_bl _⟩
theorem d_or (h : DE X W a te wa) (g : DE X W (.BoolOp .Or (b :: rest) pos) tf wb) : DE X W (.BoolOp .Or (a :: b :: rest) pos) (tOrV te tf) (wOrV wa wb) := by
  obtain ⟨p, q⟩ := h
  obtain ⟨p2, q2⟩ := g
  refine ⟨pe_or p p2, fun B env R Φ Ψ acc w σ F H s Q k => q B env R _ Ψ acc w σ F H s _ fun o R1 v F1 H1 φ s1 x1 eo => ?_⟩
  obtain ⟨b, rfl, φ⟩ := bl_of φ eo
  refine ⟨b, rfl, ?_⟩
  cases b with
  | true => exact k _ R1 _ F1 H1 φ s1 x1 ⟨_, rfl, rep_bl _⟩
  | false => exact q2 B env R1 Φ Ψ acc φ σ F1 H1 s1 Q fun b R2 v F2 H2 φ s2 x2 => k b R2 v F2 H2 φ s2 (x1.tr x2)
theorem d_not (h : DE X W a te wa) : DE X W (.UnaryOp .Not a pos) (tNotV te) (wNotV wa) := by
  obtain ⟨p, q⟩ := h
  refine ⟨pe_not p, fun B env R Φ Ψ acc w σ F H s Q k => q B env R _ Ψ acc w σ F H s _ fun o R1 v F1 H1 φ s1 x1 eo => ?_⟩
  obtain ⟨b, rfl, φ⟩ := bl_of φ eo
  exact ⟨b, rfl, k _ R1 _ F1 H1 φ s1 x1 ⟨_, rfl, rep_bl _⟩⟩
def aNil : WA := fun _ R Φ _ => Φ [] R
def aCons (w : WE) (v : WA) : WA := fun env R Φ Ψ => w env R (fun o R1 => v env R1 (fun os R2 => Φ (o :: os) R2) Ψ) Ψ
theorem a_nil : DA X W [] tNil aNil := ⟨pa_nil, fun B env R Φ Ψ acc w σ F H s Q k => k [] R [] F H w s Ex.rfl rfl⟩
theorem a_cons {es : List Expr} {v : WA} {ts : TA} (h : DE X W e te we) (g : DA X W es ts v) (hs : starEach (e :: es) X.env = (false, eval e X.env) :: starEach es X.env := by rfl) : DA X W (e :: es) (tCons te ts) (aCons we v) := by
  obtain ⟨p, q⟩ := h
  obtain ⟨p2, q2⟩ := g
  exact ⟨pa_cons p p2 hs, fun B env R Φ Ψ acc w σ F H s Q k => q B env R _ Ψ acc w σ F H s _ fun o R1 v F1 H1 φ s1 x1 eo =>
    q2 B env R1 _ Ψ acc φ σ F1 H1 s1 _ fun os R2 vs F2 H2 φ2 s2 x2 eos => k (o :: os) R2 (v :: vs) F2 H2 φ2 s2 (x1.tr x2) ⟨v, vs, rfl, eo.up x2, eos⟩⟩
/-- all outcomes are data -/
def vals : List En → Option (List D)
  | [] => some []
  | .val d :: r => (vals r).map (d :: ·)
  | _ :: _ => none
theorem vals_ok {K : PySem.W.Frag} {F : Hp} : ∀ {os : List En} {vs : List V} {ds : List D}, vals os = some ds → EnsOk K F os vs → RepL K F ds vs
  | [], _, _, h, e => by
    cases h
    rw [show _ = ([] : List V) from e]; exact repL_nil
  | .val d :: r, _, ds, h, e => by
    obtain ⟨v, w, rfl, ⟨u, q, a⟩, b⟩ := e
    cases q
    have h2 : (vals r).map (d :: ·) = some ds := h
    cases z : vals r with
    | none => rw [z] at h2; cases h2
    | some l =>
      rw [z] at h2
      have h3 : d :: l = ds := Option.some.inj h2
      rw [← h3]
      exact repL_cons a (vals_ok z b)
  | .no :: _, _, _, h, _ => nomatch h
  | .adr _ :: _, _, _, h, _ => nomatch h
def wTup (v : WA) : WE := fun env R Φ Ψ => v env R (fun os R1 => ∃ ds, vals os = some ds ∧ ds.length ≤ sizeLine ∧ Φ (.val (.tup ds)) R1) Ψ
def wLst (v : WA) : WE := fun env R Φ Ψ => v env R (fun os R1 => ∃ ds, vals os = some ds ∧ ds.length ≤ sizeLine ∧ ∀ p, Φ (.adr p) (.lst p ds :: R1)) Ψ
theorem d_tup {es : List Expr} {v : WA} {ts : TA} {j : Nat} (h : DA X W es ts v) : DE X W (.Tuple es j pos) (tTup ts) (wTup v) := by
  obtain ⟨p, q⟩ := h
  refine ⟨pe_tup p, fun B env R Φ Ψ acc w σ F H s Q k => q B env R _ Ψ acc w σ F H s _ fun os R1 vs F1 H1 φ s1 x1 eos => ?_⟩
  obtain ⟨ds, e, l, φ⟩ := φ
  have r := vals_ok e eos
  refine ⟨by rw [r.len]; exact l, fun p hp => ?_⟩
  obtain ⟨s2, x2⟩ := s1.newF (o := .tup vs) hp
  exact k _ R1 _ _ _ φ s2 (x1.tr x2) ⟨_, rfl, mk_tup upd_same (RepL.up x2 _ _ r)⟩
theorem d_lst {es : List Expr} {v : WA} {ts : TA} (h : DA X W es ts v) : DE X W (.List es pos) (tLst ts) (wLst v) := by
  obtain ⟨p, q⟩ := h
  refine ⟨pe_lst p, fun B env R Φ Ψ acc w σ F H s Q k => q B env R _ Ψ acc w σ F H s _ fun os R1 vs F1 H1 φ s1 x1 eos => ?_⟩
  obtain ⟨ds, e, l, φ⟩ := φ
  have r := vals_ok e eos
  refine ⟨by rw [r.len]; exact l, fun p hp => ?_⟩
  exact k _ _ _ _ _ (φ p) (s1.newL hp r) x1 rfl
structure DCall (X : Cx) (f : Value) (r : List V → Hp → VK → Prop) (k : KC) : Prop where
  p : CallR X f r
  v : ∀ B env R σ F H os vs Φ (Q : VK), S X.K B env R σ F H → EnsOk X.K F os vs → k os R Φ →
    (∀ o R' z F' H', Φ o R' → S X.K B env R' σ F' H' → Ex F F' → EnOk X.K F' o (some z) → Q z H') → r vs H Q
def wCB (v : WA) (k : KC) : WE := fun env R Φ Ψ => v env R (fun os R1 => k os R1 Φ) Ψ
theorem d_callB {x : Str} {id : String} {es : List Expr} {v : WA} {ts : TA} {r : List V → Hp → VK → Prop} {k : KC} {p pos : Pos} (hc : DCall X (.builtin id) r k) (hm : X.mg x = none) (hv : bootBuiltins x = some (.builtin id)) (h : DA X W (e :: es) ts v) (hg : Gl X x := by rfl) (hn : x ≠ "__name__" := by decide) (hdb : (x == ("__debug__" : Str)) = false := by decide)
    (he : starEach (e :: es) X.env = (false, eval e X.env) :: starEach es X.env := by rfl) (hpl : (backTo pos (starEach es X.env)).any (·.1) = false := by rfl) : DE X W (.Call (.Name x p) (e :: es) [] pos) (tCB r ts) (wCB v k) := by
  obtain ⟨hr, hk⟩ := hc
  obtain ⟨pt, q⟩ := h
  exact ⟨pe_callB hr hg hm hv pt hn hdb he hpl, fun B env R Φ Ψ acc w σ F H s Q kk => q B env R _ Ψ acc w σ F H s _ fun os R1 vs F1 H1 φ s1 x1 eos =>
    hk B env R1 σ F1 H1 os vs Φ Q s1 eos φ fun o R2 z F2 H2 φ2 s2 x2 e2 => kk o R2 z F2 H2 φ2 s2 (x1.tr x2) e2⟩
theorem d_callTy {x : Str} {T : String} {es : List Expr} {v : WA} {ts : TA} {r : List V → Hp → VK → Prop} {k : KC} {p pos : Pos} (hc : DCall X (.type T) r k) (hm : X.mg x = none) (hv : bootBuiltins x = some (.type T)) (h : DA X W (e :: es) ts v) (hg : Gl X x := by rfl) (hn : x ≠ "__name__" := by decide) (hdb : (x == ("__debug__" : Str)) = false := by decide)
    (he : starEach (e :: es) X.env = (false, eval e X.env) :: starEach es X.env := by rfl) (hpl : (backTo pos (starEach es X.env)).any (·.1) = false := by rfl) : DE X W (.Call (.Name x p) (e :: es) [] pos) (tCB r ts) (wCB v k) := by
  obtain ⟨hr, hk⟩ := hc
  obtain ⟨pt, q⟩ := h
  exact ⟨pe_callTy hr hg hm hv pt hn hdb he hpl, fun B env R Φ Ψ acc w σ F H s Q kk => q B env R _ Ψ acc w σ F H s _ fun os R1 vs F1 H1 φ s1 x1 eos =>
    hk B env R1 σ F1 H1 os vs Φ Q s1 eos φ fun o R2 z F2 H2 φ2 s2 x2 e2 => kk o R2 z F2 H2 φ2 s2 (x1.tr x2) e2⟩
variable {st : Stmt} {sts : List Stmt} {ws vs us : WS} {z y : TS}
def sNext : WS := fun env R P _ => P.nx env R
def sSeq (w v : WS) : WS := fun env R P Ψ => w env R { P with nx := fun env' R' => v env' R' P Ψ } Ψ
theorem ss_nil : DSs X W [] tNext sNext := ⟨pss_nil, fun B env R P Ψ acc w σ F H E s k => k.nx env R σ F H w s⟩
theorem ss_cons (h : DS X W st z ws) (g : DSs X W sts y vs) : DSs X W (st :: sts) (tSeq z y) (sSeq ws vs) := by
  obtain ⟨p, q⟩ := h
  obtain ⟨p2, q2⟩ := g
  exact ⟨pss_cons p p2, fun B env R P Ψ acc w σ F H E s k => q B env R _ Ψ acc w σ F H _ s
    ⟨fun env' R' σ' F' H' φ s' => q2 B env' R' P Ψ acc φ σ' F' H' E s' k, k.rt, k.bk, k.ct⟩⟩
theorem ss_one (h : DS X W st z ws) : DSs X W [st] z ws := ⟨pss_one h.p, h.v⟩
def sNever : WS := fun _ _ _ _ => False
theorem ss_never : DSs X W sts tNever sNever := ⟨pss_never, fun B env R P Ψ acc w => w.elim⟩
def sDrop (w : WE) : WS := fun env R P Ψ => w env R (fun _ R1 => P.nx env R1) Ψ
theorem s_expr (h : DE X W e te we) (hs : swapsWith e none pos.line X.env = pure false := by rfl) : DS X W (.Expr e pos) (tDrop te) (sDrop we) := by
  obtain ⟨p, q⟩ := h
  exact ⟨ps_expr p hs, fun B env R P Ψ acc w σ F H E s k => q B env R _ Ψ acc w σ F H s _ fun o R1 v F1 H1 φ s1 x1 eo => k.nx env R1 σ F1 H1 φ s1⟩
def sRet (w : WE) : WS := fun env R P Ψ => w env R (fun o R1 => P.rt o R1) Ψ
theorem s_ret (h : DE X W e te we) : DS X W (.Return (some e) pos) (tRet te) (sRet we) := by
  obtain ⟨p, q⟩ := h
  exact ⟨ps_ret p, fun B env R P Ψ acc w σ F H E s k => q B env R _ Ψ acc w σ F H s _ fun o R1 v F1 H1 φ s1 x1 eo => k.rt o R1 v F1 H1 φ s1.fin eo⟩
def sIf (t : WT) (w v : WS) : WS := fun env R P Ψ => t env R (fun k R1 => if k = true then w env R1 P Ψ else v env R1 P Ψ) Ψ
theorem s_if {l m : List Stmt} (h : DT X W c t ta) (ha : DSs X W l z ws) (hb : DSs X W m y vs) : DS X W (.If c l m pos) (tIfS t z y) (sIf ta ws vs) := by
  obtain ⟨p, q⟩ := h
  obtain ⟨p2, q2⟩ := ha
  obtain ⟨p3, q3⟩ := hb
  refine ⟨ps_if p p2 p3, fun B env R P Ψ acc w σ F H E s k => q B env R _ Ψ acc w σ F H s _ fun o R1 F1 H1 φ s1 x1 => ?_⟩
  cases o with
  | true => exact q2 B env R1 P Ψ acc φ σ F1 H1 E s1 k
  | false => exact q3 B env R1 P Ψ acc φ σ F1 H1 E s1 k
/-- x = e, x in slot i -/
def sSet (i : Nat) (w : WE) : WS := fun env R P Ψ => w env R (fun o R1 => P.nx (env.set i o) R1) Ψ
theorem S.set {K : PySem.W.Frag} {B : Bs} {env : List En} {R : List Res} {σ : St} {F H : Hp} {o : En} {v : V} (s : S K B env R σ F H) (i : Nat) (h : EnOk K F o (some v)) : S K B (env.set i o) R (σ.set i (some v)) F H := ⟨s.fin, s.en.set i h⟩
theorem s_set {i : Nat} {x : Str} {pos' : Pos} (hN : X.N.Nodup) (h : DE X W e te we) (hi : X.N[i]? = some x := by rfl) (hx : Loc X.env.scope x := by first | exact Or.inl rfl | exact Or.inr rfl)
    (hs : swapsWith e (some (.Name x pos')) pos.line X.env = pure false := by rfl) (hf : X.fn x = true ∨ X.env.scope.names.lookup x = some .local := by first | exact .inl rfl | exact .inr rfl | assumption) : DS X W (.Assign [.Name x pos'] e pos) (tAsg te (gName i)) (sSet i we) := by
  obtain ⟨p, q⟩ := h
  exact ⟨ps_set (i := i) hN hi hx p hs hf, fun B env R P Ψ acc w σ F H E s k => q B env R _ Ψ acc w σ F H s _ fun o R1 v F1 H1 φ s1 x1 eo => k.nx _ R1 _ F1 H1 φ (s1.set i eo)⟩
/-- the owned list in slot i is settled (ahead of the statements) -/
def sSettle (i k : Nat) (w : WS) : WS := fun env R P Ψ => match env[i]? with
  | some (.adr p) => ∃ ds, R[k]? = some (.lst p ds) ∧ w (env.set i (.val (.lst ds))) (R.eraseIdx k) P Ψ
  | _ => False
theorem set_self {α : Type} : ∀ {l : List α} {i : Nat} {x : α}, l[i]? = some x → l.set i x = l
  | [], _, _, h => by simp at h
  | y :: l, 0, x, h => by
    have e : y = x := Option.some.inj h
    rw [e]; rfl
  | y :: l, i + 1, x, h => by
    show y :: l.set i x = y :: l
    rw [set_self (l := l) (i := i) h]
theorem ss_settle (i k : Nat) (h : DSs X W sts z ws) : DSs X W sts z (sSettle i k ws) := by
  obtain ⟨p, q⟩ := h
  refine ⟨p, fun B env R P Ψ acc w σ F H E s kk => ?_⟩
  unfold sSettle at w
  cases z : env[i]? with
  | none => rw [z] at w; exact w.elim
  | some o =>
    rw [z] at w
    cases o with
    | no => exact w.elim
    | val d => exact w.elim
    | adr p =>
      obtain ⟨ds, g, w⟩ := w
      obtain ⟨o, zo, eo⟩ := s.en.get z
      have e2 : o = some (.ref p) := eo
      subst e2
      obtain ⟨F2, s2, x2, r⟩ := s.frz g
      have s3 := s2.set i (o := .val (.lst ds)) (v := .ref p) ⟨_, rfl, r⟩
      rw [set_self zo] at s3
      exact q B _ _ P Ψ acc w σ F2 H E s3 kk
end
end Tl
namespace Tl
open PySem L2
theorem Fin.base {K : PySem.W.Frag} {B : Bs} {env : List En} {R R1 : List Res} {σ : St} {F H F1 H1 : Hp} (b : Fin K B.F B.H B.R F1 H1 R1) (s : S K ⟨F1, H1, R1⟩ env R σ F H) : S K B env R σ F H := ⟨b.tr s.fin, s.en⟩
theorem Acc.base {K : PySem.W.Frag} {B : Bs} {W : WX} {Ψ : XP} {R1 : List Res} {F1 H1 : Hp} (a : Acc K B W Ψ) (b : Fin K B.F B.H B.R F1 H1 R1) : Acc K ⟨F1, H1, R1⟩ W Ψ :=
  fun er env R σ F H cls d h s e n => a er env R σ F H cls d h (b.base s) e fun dd z => ⟨(n dd z).1, b.dm dd (n dd z).2⟩
abbrev WG := En → List En → List Res → (List En → List Res → Prop) → Prop
structure DG (X : Cx) (tg : Expr) (g : TG) (w : WG) : Prop where
  p : PG X tg g
  v : ∀ B env R σ F H o v k (Q : St → Hp → Prop), S X.K B env R σ F H → EnOk X.K F o (some v) → w o env R k → (∀ env' R' σ' F' H', k env' R' → S X.K B env' R' σ' F' H' → Ex F F' → Q σ' H') → g v σ H Q
structure DGs (X : Cx) (ts : List Expr) (g : TGs) (w : List D → List En → List Res → (List En → List Res → Prop) → Prop) : Prop where
  p : PGs X ts g
  v : ∀ B env R σ F H ds vs k (Q : St → Hp → Prop), S X.K B env R σ F H → RepL X.K F ds vs → w ds env R k → (∀ env' R' σ' F' H', k env' R' → S X.K B env' R' σ' F' H' → Ex F F' → Q σ' H') → g vs σ H Q
section
variable {X : Cx} {e : Expr} {es : List Expr} {g : TG} {w : WG} {gs : TGs} {ws : List D → List En → List Res → (List En → List Res → Prop) → Prop} {pos : Pos}
def gSet (i : Nat) : WG := fun o env R k => k (env.set i o) R
theorem g_name {i : Nat} {x : Str} (hN : X.N.Nodup) (hi : X.N[i]? = some x := by rfl) (hx : Loc X.env.scope x := by first | exact Or.inl rfl | exact Or.inr rfl) (hf : X.fn x = true ∨ X.env.scope.names.lookup x = some .local := by first | exact .inl rfl | exact .inr rfl | assumption) : DG X (.Name x pos) (gName i) (gSet i) :=
  ⟨pg_name hN hi hx hf, fun B env R σ F H o v k Q s eo h q => q _ R _ F H h (s.set i eo) Ex.rfl⟩
def gsNil : List D → List En → List Res → (List En → List Res → Prop) → Prop := fun ds env R k => ds = [] ∧ k env R
def gsCons (w : WG) (ws : List D → List En → List Res → (List En → List Res → Prop) → Prop) : List D → List En → List Res → (List En → List Res → Prop) → Prop := fun ds env R k => match ds with
  | d :: r => w (.val d) env R fun env' R' => ws r env' R' k
  | [] => False
theorem gs_nil : DGs X [] gNil gsNil := ⟨pgs_nil, fun B env R σ F H ds vs k Q s r h q => by
  obtain ⟨rfl, h⟩ := h
  exact ⟨of_repL_nil r, q env R σ F H h s Ex.rfl⟩⟩
theorem gs_cons (h1 : DG X e g w) (h2 : DGs X es gs ws) (hs : (assignEach (e :: es) X.env).map (·.2) = assign e X.env :: (assignEach es X.env).map (·.2) := by rfl) : DGs X (e :: es) (gCons g gs) (gsCons w ws) := ⟨pgs_cons h1.p h2.p hs, fun B env R σ F H ds vs k Q s r h q => by
  cases ds with
  | nil => exact h.elim
  | cons d ds =>
    obtain ⟨v, vr, rfl, rv, rr⟩ := of_repL_cons r
    exact ⟨v, vr, rfl, h1.v B env R σ F H (.val d) v _ _ s ⟨v, rfl, rv⟩ h fun env1 R1 σ1 F1 H1 h s1 x1 => h2.v B env1 R1 σ1 F1 H1 ds vr k Q s1 (RepL.up x1 _ _ rr) h fun env2 R2 σ2 F2 H2 h s2 x2 => q env2 R2 σ2 F2 H2 h s2 (x1.tr x2)⟩⟩
def gsTup (n : Nat) (ws : List D → List En → List Res → (List En → List Res → Prop) → Prop) : WG := fun o env R k => match o with
  | .val (.tup ds) => ds.length = n ∧ ws ds env R k
  | _ => False
theorem g_tup {k n : Nat} (hc : X.calm = true) (h : DGs X es gs ws) (hn : (assignEach es X.env).length = n := by rfl) (hst : (assignEach es X.env).findIdx? (·.1) = none := by rfl) : DG X (.Tuple es k pos) (gTup X.K n gs) (gsTup n ws) := ⟨pg_tup hc h.p hn hst, fun B env R σ F H o v k Q s eo hw q => by
  cases o with
  | no => exact hw.elim
  | adr p => exact hw.elim
  | val d =>
    cases d with
    | tup ds =>
      obtain ⟨u, e, r⟩ := eo
      cases e
      obtain ⟨a, vs, rfl, fa, rl⟩ := of_tup r
      exact ⟨a, vs, rfl, .inl (.inl (s.fin.fh _ _ fa)), by rw [rl.len]; exact hw.1, h.v B env R σ F H ds vs k Q s rl hw.2 q⟩
    | _ => exact hw.elim⟩
/-- x = e by any target -/
def sAsg (w : WE) (g : WG) : WS := fun env R P Ψ => w env R (fun o R1 => g o env R1 P.nx) Ψ
theorem s_asg {W : WX} {tg a : Expr} {te : TE} {we : WE} (h : DE X W a te we) (hg : DG X tg g w) (hs : swapsWithSole [tg] a pos.line X.env = pure false := by rfl) (hw : swappedStores [tg] a X.env = pure none := by rfl) (h1 : (assignEach [tg] X.env).map (·.2) = [assign tg X.env] := by rfl) : DS X W (.Assign [tg] a pos) (tAsg te g) (sAsg we w) :=
  ⟨ps_asg h.p hg.p hs hw h1, fun B env R P Ψ acc z σ F H E s k => h.v B env R _ Ψ acc z σ F H s _ fun o R1 v F1 H1 φ s1 x1 eo => hg.v B env R1 σ F1 H1 o v _ _ s1 eo φ fun env2 R2 σ2 F2 H2 φ2 s2 x2 => k.nx env2 R2 σ2 F2 H2 φ2 s2⟩
end
section
variable {K : PySem.W.Frag} {B : Bs} {env : List En} {R : List Res} {σ : L2.St} {F H : Hp}
/-- a tuple of ints and texts that stands may be taken for settled -/
theorem S.takeS {q : Addr} {k : List Key} (s : S K B env R σ F H) (e : H q = some (.tup (k.map kV))) : ∃ F', S K B env R σ F' H ∧ Ex F F' ∧ F' q = some (.tup (k.map kV)) := by
  cases c : F q with
  | some o =>
    have := s.fin.fh q o c
    rw [e] at this
    cases this
    exact ⟨F, s, Ex.rfl, c⟩
  | none =>
    have nq : q ∉ fps R := fun m => s.fin.rk.tp m ⟨k, e⟩
    refine ⟨upd F q (.tup (k.map kV)), s.go ⟨ex_new c, fun a u h => ?_, fun a u h _ => h, fun a h => h, fun a h z => ?_, ⟨fun t ht => (s.fin.rk.ok t ht).stay (ex_new c) fun p _ o h => h, s.fin.rk.nd, fun p m => ?_⟩, fun p m => .inl m⟩, ex_new c, upd_same⟩
    · by_cases z : a = q
      · rw [z, upd_same] at h
        rw [z, ← h]; exact e
      · rw [upd_ne z] at h; exact s.fin.fh a u h
    · by_cases y : a = q
      · rw [y]; exact .inr (.inr ⟨k, e⟩)
      · rw [upd_ne y] at z; exact absurd h z
    · rw [upd_ne fun z => nq (by rw [← z]; exact m)]; exact s.fin.rk.off p m
/-- ints and texts as data -/
def scD2 : Key → D
  | .inl i => .int i
  | .inr z => .str z
def keyTup (k : List Key) : D := .tup (k.map scD2)
theorem rep_sc {F : Hp} : ∀ k : Key, Rep K F (scD2 k) (kV k)
  | .inl i => rep_int i
  | .inr z => rep_str z
theorem repL_sc {F : Hp} : ∀ k : List Key, RepL K F (k.map scD2) (k.map kV)
  | [] => repL_nil
  | x :: k => by rw [List.map_cons, List.map_cons]; exact repL_cons (rep_sc x) (repL_sc k)
theorem rep_keyT {F : Hp} {q : Addr} {k : List Key} (e : F q = some (.tup (k.map kV))) : Rep K F (keyTup k) (.ref q) := mk_tup e (repL_sc k)
end
/-- at turn i of J the datum items[i] comes -/
structure WalkD (K : PySem.W.Frag) (F : Hp) (J : It) (items : List D) : Prop where
  ex : ∃ (G : Hp → Prop) (Y : Nat → Hp → V → Hp → Prop), Walk J items.length G Y ∧ (∀ H, Ex F H → G H) ∧ ∀ i H v H', i < items.length → Ex F H → Y i H v H' →
    ∃ d, items[i]? = some d ∧ ((H' = H ∧ Rep K F d v) ∨ (∃ T vs ds, d = .tup ds ∧ v = .ref T ∧ H T = none ∧ H' = upd H T (.tup vs) ∧ RepL K F ds vs) ∨ (∃ (T q : Addr) (k : List Key) (d2 : D) (v2 : V), d = .tup [keyTup k, d2] ∧ v = .ref T ∧ H T = none ∧ H q = some (.tup (k.map kV)) ∧ H' = upd H T (.tup [.ref q, v2]) ∧ Rep K F d2 v2) ∨ ∃ (q : Addr) (k : List Key), d = keyTup k ∧ v = .ref q ∧ H' = H ∧ H q = some (.tup (k.map kV)))
abbrev WI := List En → List Res → (List D → List Res → Prop) → XP → Prop
structure DI (X : Cx) (W : WX) (tg iter : Expr) (wi : TI) (w : WI) : Prop where
  p : PI X tg iter wi
  v : ∀ B env R Φ Ψ, Acc X.K B W Ψ → w env R Φ Ψ → ∀ σ F H, S X.K B env R σ F H → ∀ Rj : It → Hp → Prop, (∀ items R1 F1 H1 J, Φ items R1 → S X.K B env R1 σ F1 H1 → Ex F F1 → WalkD X.K F1 J items → Rj J H1) → wi σ H Rj
section
variable {X : Cx} {W : WX} {tg l : Expr} {te : TE} {we : WE} {pos : Pos}
def signs (z : Str) : List D := z.cps.toList.map fun c => .str ⟨#[c]⟩
theorem walkD_list {K : PySem.W.Frag} {F : Hp} {a : Addr} {vs : List V} {ds : List D} (h : F a = some (.lst vs)) (r : RepL K F ds vs) : WalkD K F (Itl K a) ds := ⟨fun H => SqL K H a vs, YAt vs, by rw [← r.len]; exact walk_list (xs := vs), fun H x => Or.inl (Or.inl (x _ _ h)), fun i H v H' hi x y => by
  obtain ⟨e, y⟩ := y
  obtain ⟨d, g, rd⟩ := r.get' y
  exact ⟨d, g, .inl ⟨e, rd⟩⟩⟩
theorem walkD_tup {K : PySem.W.Frag} {F : Hp} {a : Addr} {vs : List V} {ds : List D} (h : F a = some (.tup vs)) (r : RepL K F ds vs) : WalkD K F (Itt K a) ds := ⟨fun H => SqT K H a vs, YAt vs, by rw [← r.len]; exact walk_tup (xs := vs), fun H x => Or.inl (Or.inl (x _ _ h)), fun i H v H' hi x y => by
  obtain ⟨e, y⟩ := y
  obtain ⟨d, g, rd⟩ := r.get' y
  exact ⟨d, g, .inl ⟨e, rd⟩⟩⟩
theorem signs_len (z : Str) : (signs z).length = z.cps.size := by simp [signs]
theorem walkD_str {K : PySem.W.Frag} {F : Hp} {z : Str} : WalkD K F (Its z) (signs z) := ⟨_, _, by rw [signs_len]; exact walk_str, fun H x => trivial, fun i H v H' hi x y => by
  obtain ⟨e, c, g, rfl⟩ := y
  refine ⟨.str ⟨#[c]⟩, ?_, .inl ⟨e, rep_str _⟩⟩
  simp [signs, g]⟩
/-- lo, lo + 1, .. -/
def intsFrom (lo : Int) (n : Nat) : List D := (List.range n).map fun i => .int (lo + (i : Nat))
def iRg1 (v : WA) : WI := fun env R Φ Ψ => v env R (fun os R1 => match os with | [.val (.int n)] => -(2 ^ 62) ≤ n ∧ n < 2 ^ 62 ∧ Φ (intsFrom 0 n.toNat) R1 | _ => False) Ψ
def iRg2 (v : WA) : WI := fun env R Φ Ψ => v env R (fun os R1 => match os with | [.val (.int m), .val (.int n)] => (-(2 ^ 62) ≤ m ∧ m < 2 ^ 62 ∧ -(2 ^ 62) ≤ n ∧ n < 2 ^ 62) ∧ Φ (intsFrom m (n - m).toNat) R1 | _ => False) Ψ
theorem intsFrom_len (lo : Int) (n : Nat) : (intsFrom lo n).length = n := by simp [intsFrom]
theorem walkD_range {K : PySem.W.Frag} {F : Hp} {lo : Int} {n : Nat} : WalkD K F (Itr lo n) (intsFrom lo n) := ⟨_, _, by rw [intsFrom_len]; exact walk_range, fun H x => trivial, fun i H v H' hi x y => by
  obtain ⟨e, rfl⟩ := y
  rw [intsFrom_len] at hi
  exact ⟨.int (lo + (i : Nat)), by simp [intsFrom, hi], .inl ⟨e, rep_int _⟩⟩⟩
theorem one_int {K : PySem.W.Frag} {F : Hp} {n : Int} {vs : List V} (h : EnsOk K F [.val (.int n)] vs) : vs = [.int n] := by
  obtain ⟨v, r, rfl, ⟨u, e, rr⟩, t⟩ := h
  cases e
  rw [show r = [] from t, of_int rr]
theorem two_int {K : PySem.W.Frag} {F : Hp} {m n : Int} {vs : List V} (h : EnsOk K F [.val (.int m), .val (.int n)] vs) : vs = [.int m, .int n] := by
  obtain ⟨v, r, rfl, ⟨u, e, rr⟩, t⟩ := h
  cases e
  rw [one_int t, of_int rr]
theorem i_range1 {a : Expr} {ts : TA} {v : WA} {p pos : Pos} (hm : X.mg "range" = none) (h : DA X W [a] ts v) (hg : Gl X "range" := by rfl) (hs : starEach [a] X.env = [(false, eval a X.env)] := by rfl) : DI X W tg (.Call (.Name "range" p) [a] [] pos) (iRng1 ts) (iRg1 v) := ⟨pi_range1 hg hm h.p hs, fun B env R Φ Ψ acc w σ F H s Rj q => h.v B env R _ Ψ acc w σ F H s _ fun os R1 vs F1 H1 φ s1 x1 eo => by
  split at φ
  · rename_i n
    exact ⟨n, one_int eo, φ.1, φ.2.1, q _ R1 F1 H1 _ φ.2.2 s1 x1 walkD_range⟩
  · exact φ.elim⟩
theorem i_range2 {a b : Expr} {ts : TA} {v : WA} {p pos : Pos} (hm : X.mg "range" = none) (h : DA X W [a, b] ts v) (hg : Gl X "range" := by rfl) (hs : starEach [a, b] X.env = [(false, eval a X.env), (false, eval b X.env)] := by rfl) (hs2 : starEach [b] X.env = [(false, eval b X.env)] := by rfl) : DI X W tg (.Call (.Name "range" p) [a, b] [] pos) (iRng2 ts) (iRg2 v) := ⟨pi_range2 hg hm h.p hs hs2, fun B env R Φ Ψ acc w σ F H s Rj q => h.v B env R _ Ψ acc w σ F H s _ fun os R1 vs F1 H1 φ s1 x1 eo => by
  split at φ
  · rename_i m n
    exact ⟨m, n, two_int eo, φ.1, q _ R1 F1 H1 _ φ.2 s1 x1 walkD_range⟩
  · exact φ.elim⟩
end
/-- a turn's datum has come -/
theorem S.yield {K : PySem.W.Frag} {B : Bs} {env : List En} {R : List Res} {σ : St} {F F1 H H' : Hp} {d : D} {v : V} (s : S K B env R σ F H) (x : Ex F1 F)
    (h : (H' = H ∧ Rep K F1 d v) ∨ (∃ T vs ds, d = .tup ds ∧ v = .ref T ∧ H T = none ∧ H' = upd H T (.tup vs) ∧ RepL K F1 ds vs) ∨ (∃ (T q : Addr) (k : List Key) (d2 : D) (v2 : V), d = .tup [keyTup k, d2] ∧ v = .ref T ∧ H T = none ∧ H q = some (.tup (k.map kV)) ∧ H' = upd H T (.tup [.ref q, v2]) ∧ Rep K F1 d2 v2) ∨ ∃ (q : Addr) (k : List Key), d = keyTup k ∧ v = .ref q ∧ H' = H ∧ H q = some (.tup (k.map kV))) : ∃ F', S K B env R σ F' H' ∧ Ex F F' ∧ EnOk K F' (.val d) (some v) := by
  rcases h with ⟨rfl, r⟩ | ⟨T, vs, ds, rfl, rfl, n, rfl, r⟩ | ⟨T, q, k, d2, v2, rfl, rfl, n, hq, rfl, r⟩ | ⟨q, k, rfl, rfl, rfl, hq⟩
  · exact ⟨F, s, Ex.rfl, v, rfl, Rep.up x _ _ r⟩
  · obtain ⟨s2, x2⟩ := s.newF (o := .tup vs) n
    exact ⟨_, s2, x2, _, rfl, mk_tup upd_same (RepL.up (x.tr x2) _ _ r)⟩
  · obtain ⟨F2, s2, x2, e2⟩ := s.takeS hq
    obtain ⟨s3, x3⟩ := s2.newF (o := .tup [.ref q, v2]) n
    exact ⟨_, s3, x2.tr x3, _, rfl, mk_tup upd_same (repL_cons (rep_keyT (x3 _ _ e2)) (repL_cons (Rep.up ((x.tr x2).tr x3) _ _ r) repL_nil))⟩
  · obtain ⟨F2, s2, x2, e2⟩ := s.takeS hq
    exact ⟨_, s2, x2, _, rfl, rep_keyT e2⟩
section
variable {X : Cx} {W : WX} {tg iter : Expr} {body : List Stmt} {wi : TI} {w : WI} {g : TG} {wg : WG} {tb : TS} {ws : WS} {pos : Pos}
/-- for: I tells what holds between two turns -/
def sFor (w : WI) (g : WG) (b : WS) : WS := fun env R P Ψ => w env R (fun items R1 => ∃ I : Nat → List En → List Res → Prop, I 0 env R1 ∧
  (∀ i d env' R', items[i]? = some d → I i env' R' → g (.val d) env' R' fun env2 R2 => b env2 R2 { P with nx := I (i + 1), ct := I (i + 1), bk := P.nx } Ψ) ∧ ∀ env' R', I items.length env' R' → P.nx env' R') Ψ
theorem s_for (tk : Tk X W) (hc : X.calm = true) (hi : DI X W tg iter wi w) (hg : DG X tg g wg) (hb : DSs X W body tb ws) (hs : ∀ x, foldedSetIterable iter X.env x = pure x := by intro _; rfl) : DS X W (.For tg iter body [] pos) (tFor wi g tb) (sFor w wg ws) := ⟨ps_for tk.own hc hi.p hg.p hb.p hs, fun B env R P Ψ acc z σ F H E s k => hi.v B env R _ Ψ acc z σ F H s _ fun items R1 F1 H1 J φ s1 x1 wd => by
  obtain ⟨I, i0, turn, fin⟩ := φ
  obtain ⟨G, Y, wk, hG, hY⟩ := wd.ex
  have b1 := s1.fin
  have sB : S X.K ⟨F1, H1, R1⟩ env R1 σ F1 H1 := ⟨.same b1.fh b1.rk, s1.en⟩
  refine for_it wk (fun i σ' H' => ∃ env' R' F', I i env' R' ∧ S X.K ⟨F1, H1, R1⟩ env' R' σ' F' H') ⟨env, R1, F1, i0, sB⟩ (fun i σ' H' _ ⟨env', R', F', _, s'⟩ => hG H' (s'.fin.ff.tr s'.fin.fh)) ?_ ?_
  · rintro i v σ' H' H2 hlt ⟨env', R', F', hI, s'⟩ y
    obtain ⟨d, gd, hd⟩ := hY i H' v H2 hlt (s'.fin.ff.tr s'.fin.fh) y
    obtain ⟨F2, s2, x2, ev⟩ := s'.yield s'.fin.ff hd
    refine hg.v _ env' R' σ' F2 H2 (.val d) v _ _ s2 ev (turn i d env' R' gd hI) fun env3 R3 σ3 F3 H3 φ3 s3 x3 => ?_
    refine hb.v _ env3 R3 _ Ψ (acc.base b1) φ3 σ3 F3 H3 _ s3 ⟨fun env4 R4 σ4 F4 H4 φ4 s4 => ⟨env4, R4, F4, φ4, s4⟩, fun o R4 v4 F4 H4 φ4 f4 e4 => k.rt o R4 v4 F4 H4 φ4 (b1.tr f4) e4, fun env4 R4 σ4 F4 H4 φ4 s4 => k.nx env4 R4 σ4 F4 H4 φ4 (b1.base s4), fun env4 R4 σ4 F4 H4 φ4 s4 => ⟨env4, R4, F4, φ4, s4⟩⟩
  · rintro σ' H' ⟨env', R', F', hI, s'⟩
    exact k.nx env' R' σ' F' H' (fin env' R' hI) (b1.base s')⟩
end
abbrev X0 : XP := fun _ _ _ => False
abbrev W0 : WX := fun _ _ _ _ => False
theorem acc0 {K : PySem.W.Frag} {B : Bs} {W : WX} : Acc K B W X0 := fun _ _ _ _ _ _ _ _ h => h.elim
/-- the target sets slots of vs alone -/
def GW (g : TG) (vs : List Nat) : Prop := ∀ v σ H Q, g v σ H Q → g v σ H fun σ2 H2 => L2.wipe σ2 vs = L2.wipe σ vs ∧ Q σ2 H2
theorem wipe_set {i : Nat} {o : Option V} : ∀ {vs : List Nat} {σ : St}, i ∈ vs → L2.wipe (σ.set i o) vs = L2.wipe σ vs
  | [], _, h => by simp at h
  | v :: vs, σ, h => by
    show (L2.wipe (σ.set i o) vs).set v none = (L2.wipe σ vs).set v none
    rcases List.mem_cons.mp h with e | m
    · subst e
      by_cases m : i ∈ vs
      · rw [wipe_set m]
      · have swap : ∀ (ws : List Nat) (τ : St), i ∉ ws → L2.wipe (τ.set i o) ws = (L2.wipe τ ws).set i o := by
          intro ws
          induction ws with
          | nil => intro τ _; rfl
          | cons w ws ih =>
            intro τ hn
            have n1 : i ≠ w := fun e => hn (by rw [e]; exact List.mem_cons_self)
            have n2 : i ∉ ws := fun z => hn (List.mem_cons_of_mem _ z)
            show (L2.wipe (τ.set i o) ws).set w none = ((L2.wipe τ ws).set w none).set i o
            rw [ih τ n2, List.set_comm _ _ n1]
        rw [swap vs σ m, List.set_set]
    · rw [wipe_set m]
theorem gw_name {i : Nat} {vs : List Nat} (h : i ∈ vs := by decide) : GW (gName i) vs := fun v σ H Q q => ⟨wipe_set h, q⟩
def GWs (g : TGs) (vs : List Nat) : Prop := ∀ v σ H Q, g v σ H Q → g v σ H fun σ2 H2 => L2.wipe σ2 vs = L2.wipe σ vs ∧ Q σ2 H2
theorem gws_nil {vs : List Nat} : GWs gNil vs := fun v σ H Q q => ⟨q.1, rfl, q.2⟩
theorem gws_cons {g : TG} {gs : TGs} {vs : List Nat} (mono : ∀ v σ H Q Q', (∀ a b, Q a b → Q' a b) → g v σ H Q → g v σ H Q') (mono2 : ∀ v σ H Q Q', (∀ a b, Q a b → Q' a b) → gs v σ H Q → gs v σ H Q') (h : GW g vs) (t : GWs gs vs) : GWs (gCons g gs) vs := fun v σ H Q q => by
  obtain ⟨x, r, e, q⟩ := q
  refine ⟨x, r, e, mono _ _ _ _ _ (fun a b z => ?_) (h _ _ _ _ q)⟩
  obtain ⟨z1, z2⟩ := z
  exact mono2 _ _ _ _ _ (fun c d y => ⟨y.1.trans z1, y.2⟩) (t _ _ _ _ z2)
theorem mono_name {i : Nat} : ∀ v σ H (Q Q' : St → Hp → Prop), (∀ a b, Q a b → Q' a b) → gName i v σ H Q → gName i v σ H Q' := fun v σ H Q Q' k h => k _ _ h
theorem mono_nil : ∀ v σ H (Q Q' : St → Hp → Prop), (∀ a b, Q a b → Q' a b) → gNil v σ H Q → gNil v σ H Q' := fun v σ H Q Q' k h => ⟨h.1, k _ _ h.2⟩
theorem mono_cons {i : Nat} {gs : TGs} (m : ∀ v σ H (Q Q' : St → Hp → Prop), (∀ a b, Q a b → Q' a b) → gs v σ H Q → gs v σ H Q') : ∀ v σ H (Q Q' : St → Hp → Prop), (∀ a b, Q a b → Q' a b) → gCons (gName i) gs v σ H Q → gCons (gName i) gs v σ H Q' := fun v σ H Q Q' k h => by
  obtain ⟨x, r, e, q⟩ := h
  exact ⟨x, r, e, m _ _ _ _ _ k q⟩
theorem gw_tup {K : PySem.W.Frag} {n : Nat} {gs : TGs} {vs : List Nat} (h : GWs gs vs) : GW (gTup K n gs) vs := fun v σ H Q q => by
  obtain ⟨a, xs, e, sq, l, q⟩ := q
  exact ⟨a, xs, e, sq, l, h _ _ _ _ q⟩
theorem gw_two {K : PySem.W.Frag} {n i j : Nat} {vs : List Nat} (h : i ∈ vs := by decide) (h2 : j ∈ vs := by decide) : GW (gTup K n (gCons (gName i) (gCons (gName j) gNil))) vs :=
  gw_tup (gws_cons mono_name (mono_cons mono_nil) (gw_name h) (gws_cons mono_name mono_nil (gw_name h2) gws_nil))
/-- the tests of a comprehension -/
structure DTs (X : Cx) (W : WX) (es : List Expr) (tt : TT) (w : WT) : Prop where
  p : PTs X es tt
  v : ∀ B env R Φ Ψ, Acc X.K B W Ψ → w env R Φ Ψ → EvT X.K B tt env R Φ
def wYes : WT := fun _ R Φ _ => Φ true R
theorem ts_nil {X : Cx} {W : WX} : DTs X W [] tYes wYes := ⟨pts_nil, fun B env R Φ Ψ acc w σ F H s Q k => k true R F H w s Ex.rfl⟩
theorem ts_one {X : Cx} {W : WX} {c : Expr} {t : TT} {w : WT} (h : DT X W c t w) : DTs X W [c] t w := ⟨pts_one h.p, h.v⟩
section
variable {X : Cx} {W : WX} {elt tg iter : Expr} {ifs : List Expr} {scope : Scope} {own : List (Str × Nat)} {pos spos : Pos} {wi : TI} {w : WI} {g : TG} {wg : WG} {tt : TT} {wt : WT} {te : TE} {we : WE}
def lcPut (p : Addr) (k : List D → List Res → Prop) (o : En) (R : List Res) : Prop := match o, R with
  | .val d, .lst q a :: R5 => q = p ∧ a.length < 1000000 ∧ k (a ++ [d]) R5
  | _, _ => False
def lcSkip (p : Addr) (k : List D → List Res → Prop) (R : List Res) : Prop := match R with
  | .lst q a :: R5 => q = p ∧ k a R5
  | _ => False
theorem lcPut_ok {p : Addr} {k : List D → List Res → Prop} {o : En} {R : List Res} (h : lcPut p k o R) : ∃ d a R5, o = .val d ∧ R = .lst p a :: R5 ∧ a.length < 1000000 ∧ k (a ++ [d]) R5 := by
  unfold lcPut at h
  split at h
  · obtain ⟨rfl, l, z⟩ := h
    exact ⟨_, _, _, rfl, rfl, l, z⟩
  · exact h.elim
theorem lcSkip_ok {p : Addr} {k : List D → List Res → Prop} {R : List Res} (h : lcSkip p k R) : ∃ a R5, R = .lst p a :: R5 ∧ k a R5 := by
  unfold lcSkip at h
  split at h
  · obtain ⟨rfl, z⟩ := h
    exact ⟨_, _, rfl, z⟩
  · exact h.elim
/-- I: behind i turns, what is in the list and what is owned besides -/
def wLc (w : WI) (g : WG) (t : WT) (e : WE) (vs : List Nat) : WE := fun env R Φ Ψ => w env R (fun items R1 => ∃ I : Nat → List D → List Res → Prop, I 0 [] R1 ∧
  (∀ i d acc R' p, items[i]? = some d → I i acc R' → g (.val d) (wipeE env vs) (.lst p acc :: R') fun env2 R2 => t env2 R2 (fun b R3 =>
    if b = true then e env2 R3 (fun o R4 => lcPut p (I (i + 1)) o R4) X0 else lcSkip p (I (i + 1)) R3) X0) ∧ ∀ acc R' p, I items.length acc R' → Φ (.adr p) (.lst p acc :: R')) Ψ
theorem lc_ev (gw : GW g (own.map (·.2))) (hi : DI X W tg iter wi w) (hg : ∀ B env R σ F H o v k (Q : St → Hp → Prop), S X.K B env R σ F H → EnOk X.K F o (some v) → wg o env R k → (∀ env' R' σ' F' H', k env' R' → S X.K B env' R' σ' F' H' → Ex F F' → Q σ' H') → g v σ H Q)
    (ht : ∀ B env R Φ Ψ, Acc X.K B W0 Ψ → wt env R Φ Ψ → EvT X.K B tt env R Φ) (he : ∀ B env R Φ Ψ, Acc X.K B W0 Ψ → we env R Φ Ψ → Ev X.K B te env R Φ)
    (B : Bs) (env : List En) (R : List Res) (Φ : En → List Res → Prop) (Ψ : XP) (acc : Acc X.K B W Ψ) (z : wLc w wg wt we (own.map (·.2)) env R Φ Ψ) : Ev X.K B (tLc wi g tt te (own.map (·.2))) env R Φ := fun σ F H s Q k => hi.v B env R _ Ψ acc z σ F H s _ fun items R1 F1 H1 J φ s1 x1 wd => by
  obtain ⟨I, i0, turn, fin⟩ := φ
  obtain ⟨G, Y, wk, hG, hY⟩ := wd.ex
  have b1 := s1.fin
  have sB : S X.K ⟨F1, H1, R1⟩ env R1 σ F1 H1 := ⟨.same b1.fh b1.rk, s1.en⟩
  intro Dl hD
  have s0 : S X.K ⟨F1, H1, R1⟩ env (.lst Dl [] :: R1) σ F1 (upd H1 Dl (.lst [])) := sB.newL hD repL_nil
  refine lc_it wk (fun i H' => ∃ a R' F', I i a R' ∧ S X.K ⟨F1, H1, R1⟩ env (.lst Dl a :: R') σ F' H') ⟨[], R1, F1, i0, s0⟩ (fun i H' _ ⟨a, R', F', _, s'⟩ => hG H' (s'.fin.ff.tr s'.fin.fh)) ?_ ?_
  · rintro i v H' H2 hlt ⟨a, R', F', hI, s'⟩ y
    obtain ⟨d, gd, hd⟩ := hY i H' v H2 hlt (s'.fin.ff.tr s'.fin.fh) y
    obtain ⟨F2, s2, x2, ev⟩ := s'.yield s'.fin.ff hd
    have sw : S X.K ⟨F1, H1, R1⟩ (wipeE env (own.map (·.2))) (.lst Dl a :: R') (L2.wipe σ (own.map (·.2))) F2 H2 := ⟨s2.fin, s2.en.wipe _⟩
    have ww : L2.wipe (L2.wipe σ (own.map (·.2))) (own.map (·.2)) = L2.wipe σ (own.map (·.2)) := by
      have gen : ∀ (vs ws : List Nat) (τ : St), (∀ v ∈ vs, v ∈ ws) → L2.wipe (L2.wipe τ vs) ws = L2.wipe τ ws := by
        intro vs
        induction vs with
        | nil => intro ws τ _; rfl
        | cons v vs ih =>
          intro ws τ h
          show L2.wipe ((L2.wipe τ vs).set v none) ws = _
          rw [wipe_set (h v List.mem_cons_self)]
          exact ih ws τ fun x hx => h x (List.mem_cons_of_mem _ hx)
      exact gen _ _ _ fun v h => h
    have back : ∀ {env3 : List En} {R3 : List Res} {σ3 : St} {F3 H3 : Hp}, Ex F2 F3 → S X.K ⟨F1, H1, R1⟩ env3 R3 σ3 F3 H3 → S X.K ⟨F1, H1, R1⟩ env R3 σ F3 H3 := fun x s3 => ⟨s3.fin, s2.en.up x⟩
    have key := hg _ _ _ _ F2 H2 (.val d) v _ (fun σ3 H3 => tt σ3 H3 fun b H4 => if b = true then te σ3 H4 fun y H5 => ∃ ac, H5 Dl = some (.lst ac) ∧ ac.length < sizeLine ∧ ∃ a R' F', I (i + 1) a R' ∧ S X.K ⟨F1, H1, R1⟩ env (.lst Dl a :: R') σ F' (upd H5 Dl (.lst (ac ++ [y]))) else ∃ a R' F', I (i + 1) a R' ∧ S X.K ⟨F1, H1, R1⟩ env (.lst Dl a :: R') σ F' H4) sw ev (turn i d a R' Dl gd hI) fun env3 R3 σ3 F3 H3 φ3 s3 x3 => by
      refine ht _ env3 R3 _ X0 acc0 φ3 σ3 F3 H3 s3 _ fun b R4 F4 H4 φ4 s4 x4 => ?_
      cases b with
      | true =>
        refine he _ env3 R4 _ X0 acc0 φ4 σ3 F4 H4 s4 _ fun o R5 v5 F5 H5 φ5 s5 x5 e5 => ?_
        obtain ⟨d2, acc2, R6, rfl, rfl, len, hI2⟩ := lcPut_ok φ5
        obtain ⟨u, eu, r5⟩ := e5
        cases eu
        have s6 := back ((x3.tr x4).tr x5) s5
        obtain ⟨vs, hv, rl⟩ := s6.own (k := 0) rfl
        refine ⟨vs, hv, by rw [rl.len]; exact Nat.lt_of_lt_of_le len (by decide), acc2 ++ [d2], R6, F5, hI2, ?_⟩
        exact s6.mutL (k := 0) rfl (rl.app (repL_cons r5 repL_nil))
      | false =>
        obtain ⟨acc2, R5, rfl, hI2⟩ := lcSkip_ok (show lcSkip Dl (I (i + 1)) R4 from φ4)
        exact ⟨acc2, R5, F4, hI2, back (x3.tr x4) s4⟩
    have key2 := gw _ _ _ _ key
    rw [ww] at key2
    exact key2
  · rintro H' ⟨a, R', F', hI, s'⟩
    exact k _ _ _ F' H' (fin a R' Dl hI) (b1.base s') (x1.tr s'.fin.ff) rfl
theorem d_lc (own : List (Str × Nat)) (hc : X.calm = true) (hN : X.N.Nodup) (gw : GW g (own.map (·.2))) (hi : DI X W tg iter wi w) (ok : BlkOk X.N X.env.scope scope own)
    (hg : ∀ (s : Shared) (H : Hp) (C : Addr) (cl : List (Str × Addr)) (fp : List Addr), DG (X.blk s H scope (compEnvC scope cl C X.env) fp) tg g wg) (ht : ∀ (s : Shared) (H : Hp) (C : Addr) (cl : List (Str × Addr)) (fp : List Addr), DTs (X.blk s H scope (compEnvC scope cl C X.env) fp) W0 ifs tt wt)
    (he : ∀ (s : Shared) (H : Hp) (C : Addr) (cl : List (Str × Addr)) (fp : List Addr), DE (X.blk s H scope (compEnvC scope cl C X.env) fp) W0 elt te we) (hs : ∀ x, foldedSetIterable iter X.env x = pure x := by intro _; rfl) :
    DE X W (.ListComp elt [⟨tg, iter, ifs, 0⟩] scope pos) (tLc wi g tt te (own.map (·.2))) (wLc w wg wt we (own.map (·.2))) := by
  refine ⟨pe_lc hc hN hi.p ok (fun s H C cl fp => (hg s H C cl fp).p) (fun s H C cl fp => (ht s H C cl fp).p) (fun s H C cl fp => (he s H C cl fp).p) hs, ?_⟩
  exact lc_ev gw hi (hg X.s_0 X.H_0 0 [] []).v (ht X.s_0 X.H_0 0 [] []).v (he X.s_0 X.H_0 0 [] []).v
/-- y = [..] -/
theorem s_setLc {i : Nat} {y : Str} {py : Pos} (own : List (Str × Nat)) (hc : X.calm = true) (hN : X.N.Nodup) (gw : GW g (own.map (·.2))) (hi : DI X W tg iter wi w) (ok : BlkOk X.N X.env.scope scope own)
    (hg : ∀ (s : Shared) (H : Hp) (C : Addr) (cl : List (Str × Addr)) (fp : List Addr), DG (X.blk s H scope (compEnvC scope cl C X.env) fp) tg g wg) (ht : ∀ (s : Shared) (H : Hp) (C : Addr) (cl : List (Str × Addr)) (fp : List Addr), DTs (X.blk s H scope (compEnvC scope cl C X.env) fp) W0 ifs tt wt)
    (he : ∀ (s : Shared) (H : Hp) (C : Addr) (cl : List (Str × Addr)) (fp : List Addr), DE (X.blk s H scope (compEnvC scope cl C X.env) fp) W0 elt te we) (hy : X.N[i]? = some y := by rfl) (hyl : X.env.scope.names.lookup y = some .local := by rfl)
    (hsw : swapsWith (.ListComp elt [⟨tg, iter, ifs, 0⟩] scope pos) (some (.Name y py)) spos.line X.env = pure true := by exact sw_true rfl rfl rfl (by decide +kernel)) (hs : ∀ x, foldedSetIterable iter X.env x = pure x := by intro _; rfl) :
    DS X W (.Assign [.Name y py] (.ListComp elt [⟨tg, iter, ifs, 0⟩] scope pos) spos) (tAsg (tLc wi g tt te (own.map (·.2))) (gName i)) (sSet i (wLc w wg wt we (own.map (·.2)))) := by
  refine ⟨ps_setLc (i := i) hc hN hy hyl hsw hi.p ok (fun s H C cl fp => (hg s H C cl fp).p) (fun s H C cl fp => (ht s H C cl fp).p) (fun s H C cl fp => (he s H C cl fp).p) hs, ?_⟩
  intro B env R P Ψ acc z σ F H E s k
  exact lc_ev gw hi (hg X.s_0 X.H_0 0 [] []).v (ht X.s_0 X.H_0 0 [] []).v (he X.s_0 X.H_0 0 [] []).v B env R _ Ψ acc z σ F H s _ fun o R1 v F1 H1 φ s1 x1 eo => k.nx _ R1 _ F1 H1 φ (s1.set i eo)
end
end Tl
namespace Tl
open PySem PySem.Spec PyProof.Rows L2
abbrev FS := List En → List Res → (En → List Res → Prop) → (Er → List Res → Prop) → Prop
/-- a def's promise from what it does to data -/
def spOf (K : PySem.W.Frag) (fs : FS) : Sp := fun vs H Q E => ∃ F os R, Ex F H ∧ ROk K F H R ∧ EnsOk K F os vs ∧
  fs os R (fun o R' => ∀ v F' H', Fin K F H R F' H' R' → EnOk K F' o (some v) → Q v H')
    (fun er R' => ∀ cls d F' H', Fin K F H R F' H' R' → ErOk K F' H' cls d er → (∀ dd, d = some dd → dd ∉ fps R' ∧ H dd = none) → E cls d H')
def startE (n : Nat) (os : List En) : List En := os ++ List.replicate (n - os.length) .no
theorem env_no {K : PySem.W.Frag} {F : Hp} : ∀ n : Nat, EnvOk K F (List.replicate n .no) (List.replicate n none)
  | 0 => rfl
  | n + 1 => ⟨none, List.replicate n none, rfl, trivial, env_no n⟩
theorem env_app {K : PySem.W.Frag} {F : Hp} {env : List En} {σ : L2.St} (h : EnvOk K F env σ) : ∀ {os : List En} {vs : List V}, EnsOk K F os vs → EnvOk K F (os ++ env) (vs.map some ++ σ)
  | [], _, e => by rw [show _ = ([] : List V) from e]; exact h
  | o :: os, _, e => by
    obtain ⟨v, r, rfl, a, b⟩ := e
    exact ⟨some v, _, rfl, a, env_app h b⟩
theorem env_start {K : PySem.W.Frag} {F : Hp} {N : List Str} {os : List En} {vs : List V} (h : EnsOk K F os vs) : EnvOk K F (startE N.length os) (L2.start N vs) := by
  unfold startE L2.start
  rw [h.len]
  exact env_app (env_no _) h
section
variable {P : Program} {w : World} {K : PySem.W.Frag} {mg : Str → Option Value} {base : Heap}
abbrev WF (E : XK) : WX := fun cls d _ H => E cls d H
/-- THE RULE for a def -/
theorem fn_body {x qual : Str} {params : Arguments} {body : List Stmt} {scope : Scope} {dvs : List V} {kws : List (Str × V)} {f : Addr} {fd : FuncData} {N ps : List Str} {k : Nat} {fs : FS}
    (Fd : FunD K x qual params body scope dvs kws f fd) (Sc : FnScope N ps scope) (len : ∀ os R Φ Ψ, fs os R Φ Ψ → os.length = ps.length)
    (hb : ∀ (cdv : Value) (A : Around) (outer : List Env) (s : Shared) (H : Hp) (E : XK), Room k (A.deeper (envOfC qual scope s.heap.objs.size f cdv)) → Tk (cxOf (L2.CX P w) P w K mg base N qual scope f cdv A outer s H E) (WF E) →
      ∃ ts ws, DSs (cxOf (L2.CX P w) P w K mg base N qual scope f cdv A outer s H E) (WF E) body ts ws ∧
        ∀ os R Φ Ψ, fs os R Φ Ψ → ws (startE N.length os) R { nx := fun _ R' => Φ (.val .non) R', rt := Φ } (fun er _ R' => Ψ er R')) :
    FnOk P w K mg base (L2.CX P w) (k + 1) f fd ps (spOf K fs) := by
  refine Fd.ok Sc (fun vs H Q E h => ?_) (fun cdv A outer s H vs Q E hr h => ?_)
  · obtain ⟨F, os, R, _, _, e, h⟩ := h
    rw [e.len, len _ _ _ _ h]
  · obtain ⟨F, os, R, x, r, e, h⟩ := h
    obtain ⟨ts, ws, dd, go⟩ := hb cdv A outer s H E hr ⟨takes_of rfl rfl rfl rfl, passes_of rfl⟩
    refine ⟨ts, dd.p, ?_⟩
    have st : S K ⟨F, H, R⟩ (startE N.length os) R (L2.start N vs) F H := ⟨.same x r, env_start e⟩
    refine dd.v ⟨F, H, R⟩ _ R _ _ (fun er env R' σ F' H' cls d hp s' eo nd => ?_) (go os R _ _ h) _ F H _ st ⟨fun env R' σ F' H' hp s' => ?_, fun o R' v F' H' hp f' eo => ?_, fun env R' σ F' H' hp s' => False.elim hp, fun env R' σ F' H' hp s' => False.elim hp⟩
    · exact hp cls d F' H' s'.fin eo nd
    · exact hp .non F' H' s'.fin ⟨_, rfl, rep_non⟩
    · exact hp v F' H' f' eo
end
/-- a constant's value -/
def lit : D → V
  | .bl b => .bl b
  | .int i => .int i
  | .str z => .str z
  | .ty n => .ty n
  | _ => .non
def isLit : D → Bool
  | .non => true | .bl _ => true | .int _ => true | .str _ => true | .ty _ => true
  | _ => false
theorem lit_ok {K : PySem.W.Frag} {F : Hp} : ∀ {d : D}, isLit d = true → Rep K F d (lit d)
  | .non, _ => rep_non
  | .bl b, _ => rep_bl b
  | .int i, _ => rep_int i
  | .str z, _ => rep_str z
  | .ty n, _ => rep_ty n
  | .tup _, h => nomatch h
  | .lst _, h => nomatch h
  | .obj _ _ _, h => nomatch h
  | .dct _ _, h => nomatch h
  | .glo _, h => nomatch h
theorem lits_ok {K : PySem.W.Frag} {F : Hp} : ∀ {ds : List D}, ds.all isLit = true → EnsOk K F (ds.map En.val) (ds.map lit)
  | [], _ => rfl
  | d :: ds, h => by
    obtain ⟨h1, h2⟩ := Bool.and_eq_true_iff.mp (show (isLit d && ds.all isLit) = true from h)
    exact ⟨lit d, ds.map lit, rfl, ⟨_, rfl, lit_ok h1⟩, lits_ok h2⟩
/-- a def that may be called by its name -/
structure Fx (P : Program) (w : World) (K : PySem.W.Frag) (mg : Str → Option Value) (base : Heap) (k : Nat) (x : Str) (fs : FS) (dv : List D) : Prop where
  ex : ∃ (f : Addr) (fd : FuncData) (ps : List Str) (ds : List Value), FnOk P w K mg base (L2.CX P w) k f fd ps (spOf K fs) ∧ mg x = some (.ref f) ∧ PySem.W.keepIn K (.ref f) = true ∧ Binds K fd ps ds ∧ Vals (dv.map lit) ds
  lit : dv.all isLit = true
/-- a method of the class named c -/
structure Mx (P : Program) (w : World) (K : PySem.W.Frag) (mg : Str → Option Value) (base : Heap) (k : Nat) (c m : Str) (fs : FS) (dv : List D) : Prop where
  ex : ∃ (f : Addr) (fd : FuncData) (ps : List Str) (ds : List Value), Cls K (He.ga K c) ∧ Meth K (He.ga K c) m f ∧ FnOk P w K mg base (L2.CX P w) k f fd ps (spOf K fs) ∧ Binds K fd ps ds ∧ Vals (dv.map Tl.lit) ds
  lit : dv.all isLit = true
/-- a class that may be made; fs: its __init__ -/
structure Cx' (P : Program) (w : World) (K : PySem.W.Frag) (mg : Str → Option Value) (base : Heap) (k : Nat) (c : Str) (fs : FS) (dv : List D) : Prop where
  ex : ∃ (f : Addr) (fd : FuncData) (ps : List Str) (ds : List Value), Mk K (He.ga K c) f ∧ FnOk P w K mg base (L2.CX P w) k f fd ps (spOf K fs) ∧ mg c = some (.ref (He.ga K c)) ∧ Binds K fd ps ds ∧ Vals (dv.map Tl.lit) ds
  lit : dv.all isLit = true
/-- a promise kept: what follows at the caller -/
theorem call_go {K : PySem.W.Frag} {B : Bs} {env : List En} {R : List Res} {σ : L2.St} {F H : Hp} {W : WX} {Ψ : XP} {fs : FS} {os : List En} {vs : List V} {Φ : En → List Res → Prop} {Q : VK} (acc : Acc K B W Ψ) (s : S K B env R σ F H) (e : EnsOk K F os vs)
    (h : fs os R Φ (fun er R2 => Ψ er env R2)) (mono : ∀ os R Φ Φ' Ψ Ψ', (∀ o R, Φ o R → Φ' o R) → (∀ o R, Ψ o R → Ψ' o R) → fs os R Φ Ψ → fs os R Φ' Ψ')
    (q : ∀ o R' v F' H', Φ o R' → S K B env R' σ F' H' → Ex F F' → EnOk K F' o (some v) → Q v H') : spOf K fs vs H Q (L2.WE W σ) :=
  ⟨F, os, R, s.fin.fh, s.fin.rk, e, mono _ _ _ _ _ _ (fun o R' φ v F' H' f eo => q o R' v F' H' φ (s.go f) f.ff eo) (fun er R' φ cls d F' H' f eo nd => acc er env R' σ F' H' cls d φ (s.go f) eo fun dd z => ⟨(nd dd z).1, s.fin.dm dd (nd dd z).2⟩) h⟩
/-- what a promise must bear: more may follow -/
def Mono (fs : FS) : Prop := ∀ os R Φ Φ' Ψ Ψ', (∀ o R, Φ o R → Φ' o R) → (∀ o R, Ψ o R → Ψ' o R) → fs os R Φ Ψ → fs os R Φ' Ψ'
section
variable {X : Cx} {W : WX} {x m c : Str} {k j : Nat} {fs : FS} {dv : List D} {e o : Expr} {es : List Expr} {ts : TA} {wa : WA} {te : TE} {wo : WE} {p pos apos : Pos}
def wCall (fs : FS) (dv : List D) (wa : WA) : WE := fun env R Φ Ψ => wa env R (fun os R1 => fs (os ++ dv.map En.val) R1 Φ fun er R2 => Ψ er env R2) Ψ
theorem call_ev (mo : Mono fs) (hl : dv.all isLit = true) (ha : ∀ B env R Φ Ψ, Acc X.K B W Ψ → wa env R Φ Ψ → EvA X.K B ts env R Φ) (B : Bs) (env : List En) (R : List Res) (Φ : En → List Res → Prop) (Ψ : XP) (acc : Acc X.K B W Ψ) (h : wCall fs dv wa env R Φ Ψ) :
    Ev X.K B (tCallSD (spOf X.K fs) (dv.map lit) (L2.WE W) ts) env R Φ := fun σ F H s Q q => ha B env R _ Ψ acc h σ F H s _ fun os R1 vs F1 H1 φ s1 x1 eo =>
  call_go acc s1 (eo.app (lits_ok hl)) φ mo fun o R2 v F2 H2 φ2 s2 x2 e2 => q o R2 v F2 H2 φ2 s2 (x1.tr x2) e2
theorem d_call (mo : Mono fs) (cc : Fx X.prog X.w X.K X.mg X.base k x fs dv) (hr : Room j X.A) (hk : k ≤ j) (tk : Tk X W) (ha : DA X W (e :: es) ts wa) (hg : Gl X x := by rfl) (hdb : (x == ("__debug__" : Str)) = false := by decide)
    (he : starEach (e :: es) X.env = (false, eval e X.env) :: starEach es X.env := by rfl) (hpl : (backTo pos (starEach es X.env)).any (·.1) = false := by rfl) :
    DE X W (.Call (.Name x p) (e :: es) [] pos) (tCallSD (spOf X.K fs) (dv.map lit) (L2.WE W) ts) (wCall fs dv wa) := by
  obtain ⟨f, fd, ps, ds, F, hm, kp, b, d⟩ := cc.ex
  exact ⟨pe_callSD F (hr.mono hk) hg hm kp b d (fun σ => passAt tk.takes σ) ha.p hdb he hpl, call_ev mo cc.lit ha.v⟩
/-- f() -/
theorem d_call0 (mo : Mono fs) (cc : Fx X.prog X.w X.K X.mg X.base k x fs dv) (hr : Room j X.A) (hk : k ≤ j) (tk : Tk X W) (hg : Gl X x := by rfl) (hdb : (x == ("__debug__" : Str)) = false := by decide) :
    DE X W (.Call (.Name x p) [] [] pos) (tCallSD (spOf X.K fs) (dv.map lit) (L2.WE W) tNil) (wCall fs dv aNil) := by
  obtain ⟨f, fd, ps, ds, F, hm, kp, b, d⟩ := cc.ex
  refine ⟨⟨fun pins s σ H Q I h => ?_⟩, call_ev mo cc.lit a_nil.v⟩
  · exact wpAny_Call_Name_kw (ld_glob I hg hm (PySem.W.callWith_K0 I.kIn kp (run_fnSD (us := []) (vs := []) F (hr.mono hk) b d (passAt tk.takes σ) I .nil h)) hdb)
  where a_nil : DA X W [] tNil aNil := Tl.a_nil
def tMethSD (C : Addr) (m : Str) (sp : Sp) (dvs : List V) (E : L2.St → XK) (ta : TE) (t : TA) : TE := fun σ H Q => ta σ H fun x H1 => ∃ a dx fs, x = .ref a ∧ H1 a = some (.ins C dx fs) ∧ fs.lookup m = none ∧ t σ H1 fun vs H2 => sp (x :: (vs ++ dvs)) H2 Q (E σ)
def wMeth (c m : Str) (fs : FS) (dv : List D) (wo : WE) (wa : WA) : WE := fun env R Φ Ψ => wo env R (fun o R1 => match o with
  | .val (.obj c' ns ds) => c' = c ∧ m ∉ ns ∧ wa env R1 (fun os R2 => fs (.val (.obj c' ns ds) :: (os ++ dv.map En.val)) R2 Φ fun er R3 => Ψ er env R3) Ψ
  | _ => False) Ψ
theorem lookup_none {m : Str} : ∀ {ns : List Str} {vs : List V}, m ∉ ns → (ns.zip vs).lookup m = none
  | [], _, _ => rfl
  | _ :: _, [], _ => rfl
  | n :: ns, v :: vs, h => by
    have h1 : (m == n) = false := beq_eq_false_iff_ne.mpr fun e => h (by rw [e]; exact List.mem_cons_self)
    show (match m == n with | true => some v | false => (ns.zip vs).lookup m) = none
    rw [h1]
    exact lookup_none fun z => h (List.mem_cons_of_mem _ z)
theorem meth_ev (mo : Mono fs) (hl : dv.all isLit = true) (ho : ∀ B env R Φ Ψ, Acc X.K B W Ψ → wo env R Φ Ψ → Ev X.K B te env R Φ) (ha : ∀ B env R Φ Ψ, Acc X.K B W Ψ → wa env R Φ Ψ → EvA X.K B ts env R Φ) (B : Bs) (env : List En) (R : List Res) (Φ : En → List Res → Prop) (Ψ : XP) (acc : Acc X.K B W Ψ)
    (h : wMeth c m fs dv wo wa env R Φ Ψ) : Ev X.K B (tMethSD (He.ga X.K c) m (spOf X.K fs) (dv.map lit) (L2.WE W) te ts) env R Φ := fun σ F H s Q q => ho B env R _ Ψ acc h σ F H s _ fun o R1 v F1 H1 φ s1 x1 eo => by
  cases o with
  | no => exact False.elim φ
  | adr p => exact False.elim φ
  | val d =>
    cases d with
    | obj c' ns ds =>
      obtain ⟨rfl, nm, φ⟩ := φ
      obtain ⟨u, e, r⟩ := id eo
      cases e
      obtain ⟨a, dx, vs, rfl, fa, _, _, _⟩ := of_obj r
      refine ⟨a, dx, _, rfl, s1.fin.fh _ _ fa, lookup_none nm, ?_⟩
      refine ha B env R1 _ Ψ acc φ σ F1 H1 s1 _ fun os R2 ws F2 H2 φ2 s2 x2 eos => ?_
      exact call_go acc s2 (os := .val (.obj c' ns ds) :: (os ++ dv.map En.val)) ⟨_, _, rfl, eo.up x2, eos.app (lits_ok hl)⟩ φ2 mo fun o R3 v F3 H3 φ3 s3 x3 e3 => q o R3 v F3 H3 φ3 s3 ((x1.tr x2).tr x3) e3
    | _ => exact False.elim φ
theorem d_meth {pl : Sem Bool} (mo : Mono fs) (cc : Mx X.prog X.w X.K X.mg X.base k c m fs dv) (hr : Room j X.A) (hk : k ≤ j) (tk : Tk X W) (ho : DE X W o te wo) (ha : DA X W (e :: es) ts wa)
    (hst : starEach (e :: es) X.env = (false, eval e X.env) :: starEach es X.env := by rfl) (hpl : (backTo pos (starEach es X.env)).any (·.1) = false := by rfl)
    (ht : eval (.Call (.Attribute o m apos) (e :: es) [] pos) X.env = (eval o X.env >>= fun ov => standAt apos.atName >>= fun _ => holding [ov] (getMethod ov m pl) >>= fun q => callWith pos q.1 q.2 (backTo pos (starEach (e :: es) X.env)) (backToKw pos (keywordEach [] X.env))) := by rfl) :
    DE X W (.Call (.Attribute o m apos) (e :: es) [] pos) (tMethSD (He.ga X.K c) m (spOf X.K fs) (dv.map lit) (L2.WE W) te ts) (wMeth c m fs dv wo wa) := by
  obtain ⟨f, fd, ps, ds, hc, hm, F, b, d⟩ := cc.ex
  refine ⟨⟨fun pins s σ H Q I h => ?_⟩, meth_ev mo cc.lit ho.v ha.v⟩
  refine PySem.W.methodCall_KW (pl := pl) (thn (ho.p.run pins s σ H _ I h) fun u s1 hh => ?_) ht
  obtain ⟨y, H1, I1, ry, a, dx, gs, rfl, ea, l, q⟩ := hh
  obtain rfl : u = Value.ref a := ry
  refine getmeth_ok I1 ea hc hm l (PySem.W.callWith_K (first := [.ref a]) (h₀ := X.base) I.ok.mod.kin hm.kp (thn (ha.p.run pos pins s1 σ H1 _ I1 q) fun us s2 hz => ?_) hst hpl)
  obtain ⟨vs, H2, I2, r, q2⟩ := hz
  exact ⟨I2.kIn, run_fnSD (us := .ref a :: us) (vs := .ref a :: vs) F (hr.mono hk) b d (passAt tk.takes σ) I2 (.cons rfl r) q2⟩
theorem d_meth0 {pl : Sem Bool} (mo : Mono fs) (cc : Mx X.prog X.w X.K X.mg X.base k c m fs dv) (hr : Room j X.A) (hk : k ≤ j) (tk : Tk X W) (ho : DE X W o te wo)
    (ht : eval (.Call (.Attribute o m apos) [] [] pos) X.env = (eval o X.env >>= fun ov => standAt apos.atName >>= fun _ => holding [ov] (getMethod ov m pl) >>= fun q => callWith pos q.1 q.2 (backTo pos (starEach [] X.env)) (backToKw pos (keywordEach [] X.env))) := by rfl) :
    DE X W (.Call (.Attribute o m apos) [] [] pos) (tMethSD (He.ga X.K c) m (spOf X.K fs) (dv.map lit) (L2.WE W) te tNil) (wMeth c m fs dv wo aNil) := by
  obtain ⟨f, fd, ps, ds, hc, hm, F, b, d⟩ := cc.ex
  refine ⟨⟨fun pins s σ H Q I h => ?_⟩, meth_ev mo cc.lit ho.v (a_nil (X := X) (W := W)).v⟩
  refine PySem.W.methodCall_KW (pl := pl) (thn (ho.p.run pins s σ H _ I h) fun u s1 hh => ?_) ht
  obtain ⟨y, H1, I1, ry, a, dx, gs, rfl, ea, l, q⟩ := hh
  obtain rfl : u = Value.ref a := ry
  exact getmeth_ok I1 ea hc hm l (PySem.W.callWith_K0 (first := [.ref a]) I1.kIn hm.kp (run_fnSD (us := [.ref a]) (vs := [.ref a]) F (hr.mono hk) b d (passAt tk.takes σ) I1 (.cons rfl .nil) q))
/-- o.f, o of one of the classes cs -/
structure FldOk (K : PySem.W.Frag) (cs : List Str) (f : Str) : Prop where
  at_ : ∀ c ∈ cs, Cls K (He.ga K c) ∧ NoAttr K (He.ga K c) f
def fldOf (f : Str) : List Str → List D → Option D
  | n :: ns, d :: ds => if n = f then some d else fldOf f ns ds
  | _, _ => none
theorem fldOf_ok {K : PySem.W.Frag} {F : Hp} {f : Str} : ∀ {ns : List Str} {ds : List D} {vs : List V} {d : D}, fldOf f ns ds = some d → RepL K F ds vs → ∃ v, (ns.zip vs).lookup f = some v ∧ Rep K F d v
  | [], _, _, _, h, _ => nomatch h
  | _ :: _, [], _, _, h, _ => nomatch h
  | n :: ns, y :: ds, _, d, h, r => by
    obtain ⟨v, vr, rfl, a, b⟩ := of_repL_cons r
    unfold fldOf at h
    by_cases q : n = f
    · rw [if_pos q] at h
      have e : y = d := Option.some.inj h
      subst e
      refine ⟨v, ?_, a⟩
      show (match f == n with | true => some v | false => (ns.zip vr).lookup f) = some v
      rw [beq_iff_eq.mpr q.symm]
    · rw [if_neg q] at h
      obtain ⟨u, l, ru⟩ := fldOf_ok (f := f) h b
      refine ⟨u, ?_, ru⟩
      show (match f == n with | true => some v | false => (ns.zip vr).lookup f) = some u
      rw [beq_eq_false_iff_ne.mpr fun z => q z.symm]
      exact l
def wFld (cs : List Str) (f : Str) (wo : WE) : WE := fun env R Φ Ψ => wo env R (fun o R1 => match o with
  | .val (.obj c ns ds) => c ∈ cs ∧ ∃ d, fldOf f ns ds = some d ∧ Φ (.val d) R1
  | .adr x => ∃ (k : Nat) (dx : Addr) (c : Str) (ns : List Str) (ds : List D), R1[k]? = some (Res.ins x dx c ns ds) ∧ c ∈ cs ∧ ∃ d, fldOf f ns ds = some d ∧ Φ (.val d) R1
  | _ => False) Ψ
theorem d_fld {cs : List Str} {f : Str} (h : FldOk X.K cs f) (ho : DE X W o te wo) (hb : attributeBase o f X.env (eval o X.env) = eval o X.env := by rfl) : DE X W (.Attribute o f pos) (tFld X.K te f) (wFld cs f wo) := ⟨pe_fld ho.p hb, fun B env R Φ Ψ acc w σ F H s Q q => ho.v B env R _ Ψ acc w σ F H s _ fun o R1 v F1 H1 φ s1 x1 eo => by
  cases o with
  | no => exact False.elim φ
  | adr x =>
    obtain ⟨k, dx, c, ns, ds, g, hc, d, fl, φ⟩ := φ
    obtain ⟨vs, hx, _, _, rl⟩ := s1.fin.rk.ok _ (List.mem_of_getElem? g)
    obtain ⟨u, lu, ru⟩ := fldOf_ok fl rl
    have ev : some v = some (V.ref x) := eo
    cases ev
    exact ⟨x, _, dx, _, u, rfl, hx, (h.at_ c hc).1, (h.at_ c hc).2, lu, q _ R1 u F1 H1 φ s1 x1 ⟨_, rfl, ru⟩⟩
  | val d =>
    cases d with
    | obj c ns ds =>
      obtain ⟨hc, d, fl, φ⟩ := φ
      obtain ⟨u, e, r⟩ := eo
      cases e
      obtain ⟨a, dx, vs, rfl, fa, _, _, rl⟩ := of_obj r
      obtain ⟨u, lu, ru⟩ := fldOf_ok fl rl
      exact ⟨a, _, dx, _, u, rfl, s1.fin.fh _ _ fa, (h.at_ c hc).1, (h.at_ c hc).2, lu, q _ R1 u F1 H1 φ s1 x1 ⟨_, rfl, ru⟩⟩
    | _ => exact False.elim φ⟩
theorem putF_new {f : Str} {y : V} : ∀ {ns : List Str} {vs : List V}, f ∉ ns → ns.length = vs.length → putF f y (ns.zip vs) = (ns ++ [f]).zip (vs ++ [y])
  | [], [], _, _ => rfl
  | [], _ :: _, _, e => nomatch e
  | _ :: _, [], _, e => nomatch e
  | n :: ns, v :: vs, h, e => by
    have h1 : ¬ n = f := fun z => h (by rw [z]; exact List.mem_cons_self)
    show (if n = f then (n, y) :: ns.zip vs else (n, v) :: putF f y (ns.zip vs)) = (n, v) :: (ns ++ [f]).zip (vs ++ [y])
    rw [if_neg h1, putF_new (fun z => h (List.mem_cons_of_mem _ z)) (Nat.succ.inj e)]
/-- an owned instance is settled; an owned thing is let go -/
theorem Fin.frzI {K : PySem.W.Frag} {F H : Hp} {R : List Res} {y dy : Addr} {c : Str} {ns : List Str} {ds : List D} (ex : Ex F H) (k : ROk K F H (.ins y dy c ns ds :: R)) : ∃ F', Fin K F H (.ins y dy c ns ds :: R) F' H R ∧ Rep K F' (.obj c ns ds) (.ref y) := by
  obtain ⟨vs, hy, hdy, l, rl⟩ := k.ok (.ins y dy c ns ds) List.mem_cons_self
  have ne : dy ≠ y := by
    intro z
    rw [z, hy] at hdy
    cases hdy
  have nF : F y = none := k.off y (by simp [fps, Res.fp])
  have nG : F dy = none := k.off dy (by simp [fps, Res.fp])
  have nd : ([y, dy] ++ fps R).Nodup := k.nd
  rw [List.nodup_append] at nd
  obtain ⟨_, ndR, dj⟩ := nd
  have ex2 : Ex F (upd (upd F dy (.own y)) y (.ins (He.ga K c) dy (ns.zip vs))) := (ex_new nG).tr (ex_new (by rw [upd_ne (Ne.symm ne)]; exact nF))
  refine ⟨_, ⟨ex2, fun a u e => ?_, fun a u e _ => e, fun a e => e, fun a e z => ?_, ⟨fun t ht => (k.ok t (List.mem_cons_of_mem _ ht)).stay ex2 fun q _ u e => e, ndR, fun q m => ?_⟩, fun q m => .inl (List.mem_append_right _ m)⟩, ?_⟩
  · by_cases q : a = y
    · rw [q, upd_same] at e
      rw [q, ← e]; exact hy
    · rw [upd_ne q] at e
      by_cases q2 : a = dy
      · rw [q2, upd_same] at e
        rw [q2, ← e]; exact hdy
      · rw [upd_ne q2] at e; exact ex a u e
  · by_cases q : a = y
    · rw [q]; exact .inr (.inl (by simp [fps, Res.fp]))
    · rw [upd_ne q] at z
      by_cases q2 : a = dy
      · rw [q2]; exact .inr (.inl (by simp [fps, Res.fp]))
      · rw [upd_ne q2] at z; exact absurd e z
  · rw [upd_ne fun z => dj y (by simp) q m z.symm, upd_ne fun z => dj dy (by simp) q m z.symm]
    exact k.off q (List.mem_append_right _ m)
  · refine mk_obj upd_same ?_ l (RepL.up ex2 _ _ rl)
    rw [upd_ne ne, upd_same]
theorem Fin.drop {K : PySem.W.Frag} {F H : Hp} {R : List Res} {r : Res} (ex : Ex F H) (k : ROk K F H (r :: R)) : Fin K F H (r :: R) F H R :=
  ⟨Ex.rfl, ex, fun a u e _ => e, fun a e => e, fun a e z => absurd e z, ⟨fun t ht => k.ok t (List.mem_cons_of_mem _ ht), (List.nodup_append.mp (show (r.fp ++ fps R).Nodup from k.nd)).2.1, fun q m => k.off q (List.mem_append_right _ m)⟩, fun q m => .inl (List.mem_append_right _ m)⟩
def tMakeSD (C : Addr) (sp : Sp) (dvs : List V) (E : L2.St → XK) (t : TA) : TE := fun σ H Q => t σ H fun vs H1 => ∀ x dx, H1 x = none → H1 dx = none → dx ≠ x →
  sp (.ref x :: (vs ++ dvs)) (upd (upd H1 dx (.own x)) x (.ins C dx [])) (fun v H2 => v = .non ∧ Q (.ref x) H2) (E σ)
def mkPut (x dx : Addr) (c : Str) (k : En → List Res → Prop) (o : En) (R : List Res) : Prop := match o, R with
  | .val .non, .ins y dy c' ns ds :: R3 => y = x ∧ c' = c ∧ k (.val (.obj c ns ds)) R3
  | _, _ => False
def mkErr (k : List Res → Prop) (R : List Res) : Prop := match R with
  | _ :: R3 => k R3
  | [] => False
def wMake (c : Str) (fs : FS) (dv : List D) (wa : WA) : WE := fun env R Φ Ψ => wa env R (fun os R1 => ∀ x dx, fs (.adr x :: (os ++ dv.map En.val)) (.ins x dx c [] [] :: R1) (mkPut x dx c Φ) fun er R2 => mkErr (Ψ er env) R2) Ψ
theorem make_ev (mo : Mono fs) (hl : dv.all isLit = true) (ha : ∀ B env R Φ Ψ, Acc X.K B W Ψ → wa env R Φ Ψ → EvA X.K B ts env R Φ) (B : Bs) (env : List En) (R : List Res) (Φ : En → List Res → Prop) (Ψ : XP) (acc : Acc X.K B W Ψ) (h : wMake c fs dv wa env R Φ Ψ) :
    Ev X.K B (tMakeSD (He.ga X.K c) (spOf X.K fs) (dv.map lit) (L2.WE W) ts) env R Φ := fun σ F H s Q q => ha B env R _ Ψ acc h σ F H s _ fun os R1 vs F1 H1 φ s1 x1 eo y dy ny ndy ne => by
  have nH : ∀ a o, H1 a = some o → a ≠ y ∧ a ≠ dy := fun a o e => ⟨ne_of_none e ny, ne_of_none e ndy⟩
  have f0 : Fin X.K F1 H1 R1 F1 (upd (upd H1 dy (.own y)) y (.ins (He.ga X.K c) dy [])) (.ins y dy c [] [] :: R1) := by
    refine Fin.newR (s := .ins y dy c [] []) s1.fin.fh s1.fin.rk (fun a o e => ?_) (fun a m => ?_) (fun a e => ?_) ?_ ⟨[], upd_same, ?_, rfl, repL_nil⟩
    · rw [upd_ne (nH a o e).1, upd_ne (nH a o e).2]; exact e
    · rcases List.mem_cons.mp m with z | z
      · rw [z]; exact ny
      · rw [List.mem_singleton.mp z]; exact ndy
    · by_cases z : a = y
      · rw [z]; exact ny
      · rw [upd_ne z] at e
        by_cases z2 : a = dy
        · rw [z2]; exact ndy
        · rw [upd_ne z2] at e; exact e
    · show [y, dy].Nodup
      simp only [List.nodup_cons, List.mem_singleton, List.not_mem_nil, not_false_eq_true, List.nodup_nil, and_true]
      exact Ne.symm ne
    · rw [upd_ne ne, upd_same]
  have s2 := s1.go f0
  refine ⟨F1, .adr y :: (os ++ dv.map En.val), .ins y dy c [] [] :: R1, s2.fin.fh, s2.fin.rk, ⟨_, _, rfl, rfl, eo.app (lits_ok hl)⟩, mo _ _ _ _ _ _ (fun o R' φ v F' H' f eo' => ?_) (fun er R' φ cls d F' H' f eo' nd => ?_) (φ y dy)⟩
  · unfold mkPut at φ
    split at φ
    · rename_i y' dy' c' ns ds R3
      obtain ⟨rfl, rfl, φ⟩ := φ
      obtain ⟨u, e, r⟩ := eo'
      cases e
      refine ⟨of_non r, ?_⟩
      have s3 := s2.go f
      obtain ⟨F4, f4, r4⟩ := Fin.frzI s3.fin.fh s3.fin.rk
      exact q _ R3 _ F4 H' φ (s3.go f4) ((x1.tr f.ff).tr f4.ff) ⟨_, rfl, r4⟩
    · exact False.elim φ
  · unfold mkErr at φ
    split at φ
    · rename_i r R3
      have s3 := s2.go f
      refine acc er env R3 σ F' H' cls d φ (s3.go (Fin.drop s3.fin.fh s3.fin.rk)) eo' fun dd z => ⟨fun m => (nd dd z).1 (List.mem_append_right _ m), s2.fin.dm dd (nd dd z).2⟩
    · exact False.elim φ
theorem run_makeS {f : Addr} {fd : FuncData} {ps : List Str} {sp : Sp} {dvs : List V} {ds : List Value} {C : Addr} {E : L2.St → XK} {pins : List (Addr × Obj)} {σ : L2.St} {H : Hp} {s : Shared} {Q : VK} {us : List Value} {vs : List V} (M : Mk X.K C f)
    (F : FnOk X.prog X.w X.K X.mg X.base (L2.CX X.prog X.w) k f fd ps sp) (hr : Room (k + 1) X.A) (hb : Binds X.K fd ps ds) (hd : Vals dvs ds) (hx : PassesAt (L2.CX X.prog X.w) X σ (E σ)) (I : Inv X pins σ H s) (r : Vals vs us)
    (h : ∀ x dx, H x = none → H dx = none → dx ≠ x → sp (.ref x :: (vs ++ dvs)) (upd (upd H dx (.own x)) x (.ins C dx [])) (fun v H2 => v = .non ∧ Q (.ref x) H2) (E σ)) : wpAny (model X.prog X.w) X.A (call (.ref C) us) (EP X pins σ Q) X.xe s := by
  have want := h (s.heap.objs.size + 1) s.heap.objs.size (I.hok.fresh (Nat.le_succ _)) (I.hok.fresh (Nat.le_refl _)) (Nat.ne_of_lt (Nat.lt_succ_self _))
  have J := Inv.made (C := C) I
  have rr : Vals (V.ref (s.heap.objs.size + 1) :: (vs ++ dvs)) (Value.ref (s.heap.objs.size + 1) :: (us ++ ds)) := .cons rfl (r.append hd)
  have ln : (Value.ref (s.heap.objs.size + 1) :: us ++ ds).length = ps.length := by
    have z := rr.length
    rw [F.len _ _ _ _ want] at z
    exact z.symm
  have run := F.run _ X.stack _ _ ⟨Value.ref (s.heap.objs.size + 1) :: us, []⟩ (Value.ref (s.heap.objs.size + 1) :: (us ++ ds)) _ _ (E σ) (hr.make C us []) (J.env0.make C us []) (hb _ (Value.ref (s.heap.objs.size + 1) :: us) J.kIn ln) rr want
  refine wpAny_call (make_map (f := f) I.kIn M.makes M.init (beq_iff_eq.mp M.fn) (codeAny_mono run fun res s' got => ?_))
  cases res with
  | error e => exact hx pins _ _ e s' J got
  | ok fl =>
    cases fl with
    | ret u =>
      obtain ⟨v, H', J', rv, ev, q⟩ := J.after got
      subst ev
      exact ⟨rv, V.ref (s.heap.objs.size + 1), H', J', rfl, q⟩
    | next => exact False.elim got
    | brk => exact False.elim got
    | cont => exact False.elim got
theorem d_make (mo : Mono fs) (cc : Cx' X.prog X.w X.K X.mg X.base k c fs dv) (hr : Room j X.A) (hk : k + 1 ≤ j) (tk : Tk X W) (ha : DA X W (e :: es) ts wa) (hg : Gl X c := by rfl) (hdb : (c == ("__debug__" : Str)) = false := by decide)
    (he : starEach (e :: es) X.env = (false, eval e X.env) :: starEach es X.env := by rfl) (hpl : (backTo pos (starEach es X.env)).any (·.1) = false := by rfl) :
    DE X W (.Call (.Name c p) (e :: es) [] pos) (tMakeSD (He.ga X.K c) (spOf X.K fs) (dv.map lit) (L2.WE W) ts) (wMake c fs dv wa) := by
  obtain ⟨f, fd, ps, ds, M, F, hm, b, d⟩ := cc.ex
  refine ⟨⟨fun pins s σ H Q I h => ?_⟩, make_ev mo cc.lit ha.v⟩
  refine wpAny_Call_Name_kw (ld_glob I hg hm (PySem.W.callWith_K (h₀ := X.base) I.ok.mod.kin M.kp (thn (ha.p.run pos pins s σ H _ I h) fun us s1 hz => ?_) he hpl) hdb)
  obtain ⟨vs, H1, I1, r, q⟩ := hz
  exact ⟨I1.kIn, run_makeS M F (hr.mono hk) b d (passAt tk.takes σ) I1 r q⟩
theorem d_make0 (mo : Mono fs) (cc : Cx' X.prog X.w X.K X.mg X.base k c fs dv) (hr : Room j X.A) (hk : k + 1 ≤ j) (tk : Tk X W) (hg : Gl X c := by rfl) (hdb : (c == ("__debug__" : Str)) = false := by decide) :
    DE X W (.Call (.Name c p) [] [] pos) (tMakeSD (He.ga X.K c) (spOf X.K fs) (dv.map lit) (L2.WE W) tNil) (wMake c fs dv aNil) := by
  obtain ⟨f, fd, ps, ds, M, F, hm, b, d⟩ := cc.ex
  refine ⟨⟨fun pins s σ H Q I h => ?_⟩, make_ev mo cc.lit (a_nil (X := X) (W := W)).v⟩
  exact wpAny_Call_Name_kw (ld_glob I hg hm (PySem.W.callWith_K0 I.kIn M.kp (run_makeS (us := []) (vs := []) M F (hr.mono hk) b d (passAt tk.takes σ) I .nil h)) hdb)
end
theorem tk_blk {X : Cx} {s : Shared} {H : Hp} {scope : Scope} {ce : Env} {fp : List Addr} : Tk (X.blk s H scope ce fp) W0 := ⟨takes0, PassesOwn.never⟩
end Tl
namespace Own
open PySem PySem.W PySem.Spec PySem.Calls PyProof.Rows
section
variable {M : Model} {h : Heap} {K : Frag} {C f : Addr} {cd : ClassData} {r : List Value} {nm : String} {A : Around} {E : Value → Shared → Prop} {s : Shared} {x : Addr} {ox : Obj} {od : Option Obj}
theorem looks_fills (X : K.In h) (hc : clsIn K C = some cd) (hm : cd.mro = .ref C :: r) (hf : findIn K (.ref C) (PySem.dunder nm) = some (some (.ref f))) : Looks M h (fillsNumberSlot (.ref C) nm) true := by
  intro A Q E s k q
  unfold fillsNumberSlot
  have lm : Looks M h (mroOf (.ref C)) cd.mro := (looks_clsIn X hc).andThen .now
  have lf := looks_findIn (M := M) X hf
  refine wpAny_bind (lm A _ E s k ?_)
  rw [hm]
  simp only [List.anyM_cons]
  refine wpAny_bind (wpAny_bind (wpAny_bind (lf A _ E s k ?_)))
  exact wpAny_pure (wpAny_pure (wpAny_pure q))
/-- a method's value is never NotImplemented -/
def Back (Q : Value → Shared → Prop) (v : Value) (s' : Shared) : Prop := v ≠ .notImplemented ∧ Q v s'
theorem try_own {name : Str} {b : Value} {Q : Option Value → Shared → Prop} (X : K.In s.heap) (I : InstAt s.heap x ox C od) (hs : findIn K (.ref C) name = some (some (.ref f))) (hf : isFn K (.ref f) = true)
    (hq : wpAny M A (call (.ref f) [.ref x, b]) (Back fun v => Q (some v)) E s) : wpAny M A (tryMethod (.ref x) name b) Q E s := by
  unfold tryMethod
  refine wpAny_bind (special_fn X I hs (beq_iff_eq.mp hf) (wpAny_mono hq (fun v s' z => ?_) fun _ _ z => z))
  obtain ⟨n, z⟩ := z
  cases v <;> first | exact absurd rfl n | exact wpAny_pure z
theorem bin_of {op : Operator} {a b : Value} {Q : Value → Shared → Prop} (hq : wpAny M A (binaryOp1 op.info.2 a b) (fun o s' => ∃ v, o = some v ∧ Q v s') E s) : wpAny M A (binaryOp op a b) Q E s := by
  unfold binaryOp
  refine wpAny_holding (wpAny_bind (wpAny_mono hq (fun o s' z => ?_) fun _ _ z => z))
  obtain ⟨v, rfl, z⟩ := z
  exact wpAny_pure z
/-- x op y, both of the class -/
theorem bin_same {y : Addr} {oy : Obj} {oe : Option Obj} {Q : Option Value → Shared → Prop} (X : K.In s.heap) (hc : clsIn K C = some cd) (hm : cd.mro = .ref C :: r) (I : InstAt s.heap x ox C od) (J : InstAt s.heap y oy C oe)
    (hs : findIn K (.ref C) (PySem.dunder nm) = some (some (.ref f))) (hf : isFn K (.ref f) = true) (hq : wpAny M A (call (.ref f) [.ref x, .ref y]) (Back fun v => Q (some v)) E s) : wpAny M A (binaryOp1 nm (.ref x) (.ref y)) Q E s := by
  unfold binaryOp1
  refine wpAny_bind (I.type.here (wpAny_bind (J.type.here (wpAny_bind ((looks_fills X hc hm hs).here ?_)))))
  simp only [beq_self_eq_true, if_true, pure_bind, Bool.and_false, Bool.false_eq_true, if_false, Bool.false_and]
  refine wpAny_bind (try_own X I hs hf (wpAny_mono hq (fun v s' z => ⟨z.1, ?_⟩) fun _ _ z => z))
  exact wpAny_pure z.2
/-- x op v, v of a built-in type without the slot -/
theorem bin_left {v : Value} {T : String} {Q : Option Value → Shared → Prop} (X : K.In s.heap) (hc : clsIn K C = some cd) (hm : cd.mro = .ref C :: r) (I : InstAt s.heap x ox C od) (hT : s.TypeIs v T) (hn : fillsNumberSlot (.type T) nm = pure false)
    (hs : findIn K (.ref C) (PySem.dunder nm) = some (some (.ref f))) (hf : isFn K (.ref f) = true) (hq : wpAny M A (call (.ref f) [.ref x, v]) (Back fun v => Q (some v)) E s) : wpAny M A (binaryOp1 nm (.ref x) v) Q E s := by
  unfold binaryOp1
  refine wpAny_bind (I.type.here (wpAny_bind (wpAny_typeOf hT (wpAny_bind ((looks_fills X hc hm hs).here ?_)))))
  rw [hn]
  simp only [show (Value.ref C == Value.type T) = false from rfl, if_true, pure_bind, Bool.and_false, Bool.false_eq_true, if_false, Bool.false_and]
  refine wpAny_bind (try_own X I hs hf (wpAny_mono hq (fun v s' z => ⟨z.1, ?_⟩) fun _ _ z => z))
  exact wpAny_pure z.2
/-- v op x, v of a built-in type without the slot -/
theorem bin_right {v : Value} {T : String} {g : Addr} {Q : Option Value → Shared → Prop} (X : K.In s.heap) (hc : clsIn K C = some cd) (hm : cd.mro = .ref C :: r) (I : InstAt s.heap x ox C od) (hT : s.TypeIs v T) (hn : fillsNumberSlot (.type T) nm = pure false)
    (hs : findIn K (.ref C) (PySem.dunder nm) = some (some (.ref g))) (hr : findIn K (.ref C) (dunderR nm) = some (some (.ref f))) (hf : isFn K (.ref f) = true) (hq : wpAny M A (call (.ref f) [.ref x, v]) (Back fun v => Q (some v)) E s) : wpAny M A (binaryOp1 nm v (.ref x)) Q E s := by
  unfold binaryOp1
  refine wpAny_bind (wpAny_typeOf hT (wpAny_bind (I.type.here ?_)))
  rw [hn]
  simp only [show (Value.type T == Value.ref C) = false from rfl, pure_bind, Bool.false_eq_true, if_false, Bool.false_and]
  refine wpAny_bind ((looks_fills X hc hm hs).here ?_)
  simp only [Bool.not_false, Bool.and_self, if_true]
  refine wpAny_bind (try_own X I hr hf (wpAny_mono hq (fun v s' z => ⟨z.1, ?_⟩) fun _ _ z => z))
  exact wpAny_bind (wpAny_rule (wpAny_pure z.2))
/-- v in x, v not in x -/
def InBack (Q : Bool → Shared → Prop) (v : Value) (s' : Shared) : Prop := ∃ b, v = .bool b ∧ Q b s'
theorem in_own {b : Value} {Q : Bool → Shared → Prop} (X : K.In s.heap) (I : InstAt s.heap x ox C od) (hs : findIn K (.ref C) "__contains__" = some (some (.ref f))) (hf : isFn K (.ref f) = true)
    (hq : wpAny M A (call (.ref f) [.ref x, b]) (InBack Q) E s) : wpAny M A (contains (.ref x) b) Q E s := by
  have lf := looks_findIn (M := M) X hs
  unfold contains
  have hn : stdlibNamesSay? (Value.ref x) b = none := rfl
  rw [hn]
  refine wpAny_holding (wpAny_bind (wpAny_bind (I.type.here (lf.here ?_))))
  rw [if_neg (by simp)]
  refine wpAny_bind ?_
  unfold callSpecialUnlessNone?
  refine wpAny_bind (wpAny_bind (I.type.here (lf.here ?_)))
  refine wpAny_holding (wpAny_bind ((bind_fn X _ (beq_iff_eq.mp hf)).here ?_))
  dsimp only
  rw [if_neg (by simp)]
  refine wpAny_bind (wpAny_mono hq (fun v s' z => ?_) fun _ _ z => z)
  obtain ⟨k, rfl, z⟩ := z
  exact wpAny_pure (wpAny_truthy_bool z)
/-- x op v by an own comparison -/
theorem cmp_own {prog : Program} {w : World} {op : CmpOp} {b tb : Value} {Q : Value → Shared → Prop} (hu : A.units < cLine) (X : K.In s.heap) (I : InstAt s.heap x ox C od) (hb : Looks (model prog w) s.heap (typeOf b) tb) (hn : tb = .ref C ∨ subIn K tb (.ref C) = some false)
    (hs : findIn K (.ref C) (cmpInfo op).2.1 = some (some (.ref f))) (hf : isFn K (.ref f) = true) (hq : wpAny (model prog w) A (call (.ref f) [.ref x, b]) (Back Q) E s) : wpAny (model prog w) A (richCompare op (.ref x) b) Q E s := by
  have one : wpAny (model prog w) A (tryCompare (.ref x) (cmpInfo op).2.1 b) (fun o s' => ∃ v, o = some v ∧ Q v s') E s := by
    unfold tryCompare
    refine wpAny_bind (ifBound_K X I hs hf (wpAny_mono hq (fun v s' z => ?_) fun _ _ z => z))
    obtain ⟨n, z⟩ := z
    cases v <;> first | exact absurd rfl n | exact wpAny_pure ⟨_, rfl, z⟩
  have go : ∀ {t : Sem Value}, wpAny (model prog w) A (tryCompare (.ref x) (cmpInfo op).2.1 b >>= fun o => match o with | some v => pure v | _ => t) Q E s := fun {t} => by
    refine wpAny_bind (wpAny_mono one (fun o s' z => ?_) fun _ _ z => z)
    obtain ⟨v, rfl, z⟩ := z
    exact wpAny_pure z
  unfold richCompare
  simp only [oneThing_ref]
  refine wpAny_holding (wpAny_bind (wpAny_cRoomFor hu (wpAny_bind (I.type.here (wpAny_bind (hb.here ?_))))))
  rcases hn with rfl | e
  · simp only [bne_self_eq_false, Bool.false_eq_true, if_false, pure_bind]
    exact go
  · split
    · refine wpAny_bind ((looks_subIn X e).here ?_)
      simp only [Bool.false_eq_true, if_false]
      exact go
    · refine wpAny_bind (wpAny_pure ?_)
      simp only [Bool.false_eq_true, if_false]
      exact go
/-- x op= v where no in-place method is there -/
theorem aug_own {op : Operator} {b : Value} {Q : Value → Shared → Prop} (X : K.In s.heap) (I : InstAt s.heap x ox C od) (hi : Looks M s.heap (fillsInplaceSlot (.ref C) op.info.2 (op == .Add)) false)
    (hq : wpAny M A (binaryOp1 op.info.2 (.ref x) b) (fun o s' => ∃ v, o = some v ∧ Q v s') E s) : wpAny M A (inplaceOp op (.ref x) b) Q E s := by
  unfold inplaceOp
  refine wpAny_holding (wpAny_bind (I.type.here (wpAny_bind (hi.here ?_))))
  simp only [Bool.false_eq_true, if_false]
  refine wpAny_bind (wpAny_mono hq (fun o s' z => ?_) fun _ _ z => z)
  obtain ⟨v, rfl, z⟩ := z
  exact wpAny_pure z
theorem no_inplace {add : Bool} (X : K.In h) (hc : clsIn K C = some cd) (hm : cd.mro = [.ref C, .type "object"]) (hf : findIn K (.ref C) (dunderI nm) = some none) (ho : typeLookup (.type "object") (dunderI nm) = pure none) : Looks M h (fillsInplaceSlot (.ref C) nm add) false := by
  intro A Q E s k q
  have lm : Looks M h (mroOf (.ref C)) cd.mro := (looks_clsIn X hc).andThen .now
  have lf := looks_findIn (M := M) X hf
  unfold fillsInplaceSlot
  refine wpAny_bind (lm A _ E s k ?_)
  rw [hm]
  simp only [List.anyM_cons, List.anyM_nil]
  refine wpAny_bind (wpAny_bind (lf A _ E s k (wpAny_pure ?_)))
  simp only [Bool.false_eq_true, if_false]
  refine wpAny_bind (wpAny_bind ?_)
  rw [ho]
  refine wpAny_pure (wpAny_pure ?_)
  exact wpAny_pure q
end
theorem or_str : fillsNumberSlot (.type "str") "or" = pure false := by
  unfold fillsNumberSlot
  simp only [typeLookup_type, builtinLookup_eq_fast]
  kernel_rfl
theorem and_str : fillsNumberSlot (.type "str") "and" = pure false := by
  unfold fillsNumberSlot
  simp only [typeLookup_type, builtinLookup_eq_fast]
  kernel_rfl
theorem sub_str : fillsNumberSlot (.type "str") "sub" = pure false := by
  unfold fillsNumberSlot
  simp only [typeLookup_type, builtinLookup_eq_fast]
  kernel_rfl
theorem ior_obj : typeLookup (.type "object") (dunderI "or") = pure none := by
  simp only [typeLookup_type, builtinLookup_eq_fast]
  kernel_rfl
end Own
namespace Tl
open PySem PySem.Spec PyProof.Rows L2
section
variable {X : Cx} {W : WX} {k j : Nat} {c m mr : Str} {fs fr : FS} {dv : List D} {e a b o : Expr} {te ta tb : TE} {wo wa wb : WE} {pos : Pos}
/-- a promise kept at any room around -/
theorem run_at {A : Around} {f : Addr} {fd : FuncData} {ps : List Str} {sp : Sp} {pins : List (Addr × Obj)} {σ : L2.St} {H : Hp} {s : Shared} {Q : VK} {us : List Value} {vs : List V} (F : FnOk X.prog X.w X.K X.mg X.base (L2.CX X.prog X.w) k f fd ps sp) (hr : Room k A)
    (e0 : Env0 X.prog X.w X.K X.mg X.base A X.stack s H) (hb : Binds X.K fd ps []) (tk : Tk X W) (I : Inv X pins σ H s) (r : Vals vs us) (h : sp vs H Q (L2.WE W σ)) : wpAny (model X.prog X.w) A (call (.ref f) us) (EP X pins σ Q) X.xe s := by
  have ln : (us ++ []).length = ps.length := by
    rw [List.append_nil, ← r.length]
    exact F.len _ _ _ _ h
  have bb := hb s us I.kIn ln
  rw [List.append_nil] at bb
  refine wpAny_call (codeAny_mono (F.run A X.stack s H ⟨us, []⟩ us vs Q (L2.WE W σ) hr e0 bb r h) fun res s' got => ?_)
  cases res with
  | error z => exact passAt tk.takes σ pins H s z s' I got
  | ok fl =>
    cases fl with
    | ret u => exact I.after got
    | next => exact False.elim got
    | brk => exact False.elim got
    | cont => exact False.elim got
theorem ep_back {pins : List (Addr × Obj)} {σ : L2.St} {Q : VK} {u : Value} {s : Shared} (h : EP X pins σ Q u s) : Own.Back (EP X pins σ Q) u s := by
  refine ⟨fun z => ?_, h⟩
  obtain ⟨v, H', I, r, q⟩ := h
  subst z
  cases v with
  | non => cases (show Value.notImplemented = Value.none from r)
  | bl i => cases (show Value.notImplemented = Value.bool i from r)
  | int i => obtain ⟨t, z⟩ := (show ∃ t, Value.notImplemented = Value.int i t from r); cases z
  | str i => obtain ⟨t, z⟩ := (show ∃ t, Value.notImplemented = Value.str i t from r); cases z
  | byt i => obtain ⟨t, z⟩ := (show ∃ t, Value.notImplemented = Value.bytes i t from r); cases z
  | flt i => obtain ⟨t, z⟩ := (show ∃ t, Value.notImplemented = Value.float i t from r); cases z
  | ref i => cases (show Value.notImplemented = Value.ref i from r)
  | ty i => cases (show Value.notImplemented = Value.type i from r)
theorem inst_of {pins : List (Addr × Obj)} {σ : L2.St} {H : Hp} {s : Shared} {p C dx : Addr} {gs : List (Str × V)} (I : Inv X pins σ H s) (h : H p = some (.ins C dx gs)) : ∃ od, PySem.W.InstAt s.heap p (PySem.W.instObj C dx) C (some od) := by
  obtain ⟨mA, O, _⟩ := ins_get I.hok h
  obtain ⟨od, J, _⟩ := O.look
  exact ⟨od, J⟩
/-- a class directly under object -/
structure Top1 (K : PySem.W.Frag) (c : Str) : Prop where
  ex : ∃ cd, PySem.W.clsIn K (He.ga K c) = some cd ∧ cd.mro = [.ref (He.ga K c), .type "object"]
theorem ens2 {K : PySem.W.Frag} {F : Hp} {x y : En} {v u : V} (h : EnOk K F x (some v)) (g : EnOk K F y (some u)) : EnsOk K F [x, y] [v, u] := ⟨v, [u], rfl, h, u, [], rfl, g, rfl⟩
theorem run_at0 {A : Around} {f : Addr} {fd : FuncData} {ps : List Str} {sp : Sp} {pins : List (Addr × Obj)} {σ : L2.St} {H : Hp} {s : Shared} {Q : VK} {us : List Value} {vs : List V} (F : FnOk X.prog X.w X.K X.mg X.base (L2.CX X.prog X.w) k f fd ps sp) (hr : Room k A)
    (e0 : Env0 X.prog X.w X.K X.mg X.base A X.stack s H) (hb : Binds X.K fd ps []) (I : Inv X pins σ H s) (r : Vals vs us) (h : sp vs H Q E0) {E : Value → Shared → Prop} : wpAny (model X.prog X.w) A (call (.ref f) us) (EP X pins σ Q) E s := by
  have ln : (us ++ []).length = ps.length := by
    rw [List.append_nil, ← r.length]
    exact F.len _ _ _ _ h
  have bb := hb s us I.kIn ln
  rw [List.append_nil] at bb
  refine wpAny_call (codeAny_mono (F.run A X.stack s H ⟨us, []⟩ us vs Q E0 hr e0 bb r h) fun res s' got => ?_)
  cases res with
  | error z =>
    obtain ⟨_, _, _, _, _, _, _, _, _, _, _, _, y⟩ := got
    exact y.elim
  | ok fl =>
    cases fl with
    | ret u => exact I.after got
    | next => exact False.elim got
    | brk => exact False.elim got
    | cont => exact False.elim got
/-- a promise without errors kept: what follows -/
theorem call_go0 {K : PySem.W.Frag} {B : Bs} {env : List En} {R : List Res} {σ : L2.St} {F H : Hp} {fs : FS} {os : List En} {vs : List V} {Φ : En → List Res → Prop} {Q : VK} (s : S K B env R σ F H) (e : EnsOk K F os vs)
    (h : fs os R Φ (fun _ _ => False)) (mono : Mono fs) (q : ∀ o R' v F' H', Φ o R' → S K B env R' σ F' H' → Ex F F' → EnOk K F' o (some v) → Q v H') : spOf K fs vs H Q E0 :=
  ⟨F, os, R, s.fin.fh, s.fin.rk, e, mono _ _ _ _ _ _ (fun o R' φ v F' H' f eo => q o R' v F' H' φ (s.go f) f.ff eo) (fun er R' φ => False.elim φ) h⟩
/-- v in x, x of the class -/
def rInO (K : PySem.W.Frag) (c : Str) (fs : FS) (neg : Bool) : R2 := fun x y H Q => ∃ p dx gs, y = .ref p ∧ H p = some (.ins (He.ga K c) dx gs) ∧ spOf K fs [.ref p, x] H (fun v H2 => ∃ b, v = .bl b ∧ Q (.bl (if neg then !b else b)) H2) E0
def inOk (neg : Bool) (k : En → List Res → Prop) (o : En) (R : List Res) : Prop := match o with
  | .val (.bl n) => k (.val (.bl (if neg then !n else n))) R
  | _ => False
def kInO (c : Str) (fs : FS) (neg : Bool) : KO := fun x y R Φ => match y with
  | .val (.obj c1 n1 d1) => c1 = c ∧ fs [.val (.obj c1 n1 d1), x] R (inOk neg Φ) fun _ _ => False
  | _ => False
theorem inO_v {neg : Bool} (mo : Mono fs) : ∀ B env R σ F H x y v u Φ (Q : VK), S X.K B env R σ F H → EnOk X.K F x (some v) → EnOk X.K F y (some u) → kInO c fs neg x y R Φ →
    (∀ o R' z F' H', Φ o R' → S X.K B env R' σ F' H' → Ex F F' → EnOk X.K F' o (some z) → Q z H') → rInO X.K c fs neg v u H Q := fun B env R σ F H x y v u Φ Q s ex ey φ q => by
  unfold kInO at φ
  split at φ
  · rename_i c1 n1 d1
    obtain ⟨rfl, φ⟩ := φ
    obtain ⟨_, z, r1⟩ := id ey
    cases z
    obtain ⟨p, dx, ws, rfl, fa, _⟩ := of_obj r1
    refine ⟨p, dx, _, rfl, s.fin.fh _ _ fa, call_go0 s (os := [.val (.obj c1 n1 d1), x]) (ens2 ey ex) φ mo fun o R' z F' H' φ3 s3 x3 e3 => ?_⟩
    unfold inOk at φ3
    split at φ3
    · rename_i b
      obtain ⟨_, zz, r3⟩ := id e3
      cases zz
      exact ⟨b, of_bl r3, q _ R' _ F' H' φ3 s3 x3 ⟨_, rfl, rep_bl _⟩⟩
    · exact False.elim φ3
  · exact False.elim φ
theorem in_run {pins : List (Addr × Obj)} {s : Shared} {σ : L2.St} {H : Hp} {x y : V} {v u : Value} {neg : Bool} {Q : VK} (cc : Mx X.prog X.w X.K X.mg X.base k c "__contains__" fs []) (hr : Room j X.A) (hk : k ≤ j) (I : Inv X pins σ H s) (rx : RelV x v) (ry : RelV y u) (h : rInO X.K c fs neg x y H Q) :
    wpAny (model X.prog X.w) X.A (contains u v) (fun b s' => EP X pins σ Q (.bool (if neg then !b else b)) s') X.xe s := by
  obtain ⟨f, fd, ps, ds, _, hmf, F, bd, vd⟩ := cc.ex
  cases vd
  obtain ⟨p, dx, gs, rfl, hp, h⟩ := h
  obtain rfl : u = Value.ref p := ry
  obtain ⟨od, J⟩ := inst_of I hp
  refine Own.in_own I.kIn J hmf.at_ hmf.fn (wpAny_mono (run_at0 (vs := [.ref p, x]) F (hr.mono hk) I.env0 bd I (.cons rfl (.cons rx .nil)) h) (fun v s' z => ?_) fun _ _ z => z)
  obtain ⟨v', H', I', rv, b, rfl, q⟩ := z
  cases rv
  exact ⟨b, rfl, .bl _, H', I', rfl, q⟩
theorem o_inO (mo : Mono fs) (cc : Mx X.prog X.w X.K X.mg X.base k c "__contains__" fs []) (hr : Room j X.A) (hk : k ≤ j) : DOp X (compareOp .In) (rInO X.K c fs false) (kInO c fs false) :=
  ⟨fun pins s σ H x y v u Q I rx ry h => wpAny_bind (wpAny_mono (in_run cc hr hk I rx ry h) (fun b s' z => wpAny_pure z) fun _ _ z => z), inO_v mo⟩
theorem o_ninO (mo : Mono fs) (cc : Mx X.prog X.w X.K X.mg X.base k c "__contains__" fs []) (hr : Room j X.A) (hk : k ≤ j) : DOp X (compareOp .NotIn) (rInO X.K c fs true) (kInO c fs true) :=
  ⟨fun pins s σ H x y v u Q I rx ry h => wpAny_bind (wpAny_mono (in_run cc hr hk I rx ry h) (fun b s' z => wpAny_pure z) fun _ _ z => z), inO_v mo⟩
end
end Tl
namespace Tx
open PySem PySem.Spec PyProof.Rows L2
def kx (e : Int × Value) : Str := match e.2 with | .str k _ => k | _ => Str.empty
def Gx (w : World) (e : Int × Value) : Prop := ∃ k t, e = (hashStr w k, Value.str k t)
/-- the set of texts at a: its members L, in no order -/
def SX (w : World) (h : Heap) (a : Addr) (L : List Str) : Prop :=
  ∃ o rows ep tb, h.get? a = some o ∧ o.ExactSet ∧ o.data = .set rows ep tb ∧ (∀ e ∈ rows.toList, Gx w e) ∧ (rows.toList.map kx).Nodup ∧ (∀ k, k ∈ L ↔ k ∈ rows.toList.map kx) ∧
    rows.size < scanBound ∧ tb.fits rows.size = true ∧ Ris tb.place.toList ∧ (w.params.followText "set-order" = true ∨ tb.led = true)
section
variable {P : Program} {w : World} {h h' : Heap} {a : Addr} {L : List Str}
theorem SX.keep (r : SX w h a L) (k : ∀ o, h.get? a = some o → h'.get? a = some o) : SX w h' a L := by
  obtain ⟨o, rows, ep, tb, ho, z⟩ := r
  exact ⟨o, rows, ep, tb, k o ho, z⟩
end
end Tx
namespace Tx
open PySem PySem.Spec PyProof.Rows L2
/-- the members behind the first i texts -/
def got (xs : List Str) (L : List Str) : List Str := xs.foldl (fun l k => if k ∈ l then l else k :: l) L
theorem got_nodup : ∀ (xs L : List Str), L.Nodup → (got xs L).Nodup
  | [], _, h => h
  | k :: xs, L, h => by
    show (got xs (if k ∈ L then L else k :: L)).Nodup
    refine got_nodup xs _ ?_
    split
    · exact h
    · rename_i z
      exact List.nodup_cons.mpr ⟨z, h⟩
theorem got_mem (y : Str) : ∀ (xs L : List Str), y ∈ got xs L ↔ y ∈ L ∨ y ∈ xs
  | [], _ => by
    show y ∈ _ ↔ _
    simp [got]
  | k :: xs, L => by
    show y ∈ got xs (if k ∈ L then L else k :: L) ↔ _
    rw [got_mem y xs, List.mem_cons]
    split
    · rename_i z
      constructor
      · rintro (q | q)
        · exact .inl q
        · exact .inr (.inr q)
      · rintro (q | q | q)
        · exact .inl q
        · exact .inl (q ▸ z)
        · exact .inr q
    · rw [List.mem_cons]
      constructor
      · rintro ((q | q) | q)
        · exact .inr (.inl q)
        · exact .inl q
        · exact .inr (.inr q)
      · rintro (q | q | q)
        · exact .inl (.inr q)
        · exact .inl (.inl q)
        · exact .inr q
/-- not too many texts, each counted once -/
def FewS (xs : List Str) : Prop := ∀ l : List Str, l.Nodup → (∀ k ∈ l, k ∈ xs) → l.length < 4000
theorem FewS.len {xs : List Str} (h : xs.length < 4000) : FewS xs := fun l nd sub => Nat.lt_of_le_of_lt (List.Nodup.length_le_of_subset nd sub) h
end Tx
namespace Tl
open PySem PySem.Spec PyProof.Rows L2
section
variable {K : PySem.W.Frag} {F : Hp}
theorem ens1 {o : En} {vs : List V} (h : EnsOk K F [o] vs) : ∃ v, vs = [v] ∧ EnOk K F o (some v) := by
  obtain ⟨v, r, rfl, a, b⟩ := h
  exact ⟨v, by rw [show r = [] from b], a⟩
theorem en_val {d : D} {v : V} (h : EnOk K F (.val d) (some v)) : Rep K F d v := by
  obtain ⟨u, e, r⟩ := h
  cases e
  exact r
theorem en_adr {p : Addr} {v : V} (h : EnOk K F (.adr p) (some v)) : v = .ref p := by
  have e : some v = some (V.ref p) := h
  cases e
  rfl
theorem enVal {d : D} {v : V} (r : Rep K F d v) : EnOk K F (.val d) (some v) := ⟨v, rfl, r⟩
end
theorem S.ownM {K : PySem.W.Frag} {B : Bs} {env : List En} {R : List Res} {σ : L2.St} {F H : Hp} {p : Addr} {ds : List D} (s : S K B env R σ F H) (h : Res.lst p ds ∈ R) : ∃ vs, H p = some (.lst vs) ∧ RepL K F ds vs := s.fin.rk.ok _ h
def kLen : KC := fun os R Φ => match os with
  | [.val (.str z)] => z.length ≤ sizeLine ∧ Φ (.val (.int z.length)) R
  | [.val (.lst ds)] => Φ (.val (.int ds.length)) R
  | [.val (.tup ds)] => Φ (.val (.int ds.length)) R
  | [.adr p] => ∃ ds, Res.lst p ds ∈ R ∧ Φ (.val (.int ds.length)) R
  | _ => False
section
variable {X : Cx} {W : WX} {e o a b : Expr} {te to ta tb : TE} {we wo wa wb : WE} {pos apos cpos : Pos}
theorem c_len : DCall X (.builtin "len") (fun xs H Q => ∃ x n, xs = [x] ∧ LenV X.K x H n ∧ Q (.int n) H) kLen := ⟨call_len, fun B env R σ F H os vs Φ Q s eo φ q => by
  unfold kLen at φ
  split at φ
  · rename_i z
    obtain ⟨v, rfl, ev⟩ := ens1 eo
    rw [of_str (en_val ev)]
    exact ⟨_, z.length, rfl, ⟨φ.1, rfl⟩, q _ R _ F H φ.2 s Ex.rfl (enVal (rep_int _))⟩
  · rename_i ds
    obtain ⟨v, rfl, ev⟩ := ens1 eo
    obtain ⟨p, ws, rfl, fa, rl⟩ := of_lst (en_val ev)
    exact ⟨_, ds.length, rfl, .inl ⟨ws, SqL.of (s.fin.fh _ _ fa), rl.len.symm⟩, q _ R _ F H φ s Ex.rfl (enVal (rep_int _))⟩
  · rename_i ds
    obtain ⟨v, rfl, ev⟩ := ens1 eo
    obtain ⟨p, ws, rfl, fa, rl⟩ := of_tup (en_val ev)
    exact ⟨_, ds.length, rfl, .inr ⟨ws, SqT.of (s.fin.fh _ _ fa), rl.len.symm⟩, q _ R _ F H φ s Ex.rfl (enVal (rep_int _))⟩
  · rename_i p
    obtain ⟨ds, m, φ⟩ := φ
    obtain ⟨v, rfl, ev⟩ := ens1 eo
    rw [en_adr ev]
    obtain ⟨ws, hp, rl⟩ := s.ownM m
    exact ⟨_, ds.length, rfl, .inl ⟨ws, SqL.of hp, rl.len.symm⟩, q _ R _ F H φ s Ex.rfl (enVal (rep_int _))⟩
  · exact False.elim φ⟩
def kIx : KO := fun x y R Φ => match x, y with
  | .val (.str z), .val (.int i) => z.length ≤ sizeLine ∧ ∃ c, atI z.cps.toList i = some c ∧ Φ (.val (.str ⟨#[c]⟩)) R
  | .val (.lst ds), .val (.int i) => ∃ d, atI ds i = some d ∧ Φ (.val d) R
  | .val (.tup ds), .val (.int i) => ∃ d, atI ds i = some d ∧ Φ (.val d) R
  | .adr p, .val (.int i) => ∃ ds d, Res.lst p ds ∈ R ∧ atI ds i = some d ∧ Φ (.val d) R
  | _, _ => False
theorem atI_rep {K : PySem.W.Frag} {F : Hp} {ds : List D} {vs : List V} {i : Int} {d : D} (h : atI ds i = some d) (r : RepL K F ds vs) : ∃ v, atI vs i = some v ∧ Rep K F d v := by
  unfold atI at h ⊢
  rw [r.len]
  cases z : ixN ds.length i with
  | none => rw [z] at h; cases h
  | some j =>
    rw [z] at h
    exact r.get h
theorem d_ix (ha : DE X W a ta wa) (hb : DE X W b tb wb) (hs : PlainIx b := by intro _ _; rfl) : DE X W (.Subscript a b pos) (tOp (rIx X.K) ta tb) (w2 wa wb kIx) :=
  ⟨pe_ix ix_seq ha.p hb.p hs, fun B env R Φ Ψ acc w => run2 acc (fun B env R σ F H x y v u Φ Q s ex ey k q => by
    unfold kIx at k
    split at k
    · obtain ⟨hz, c, hc, k⟩ := k
      rw [of_str (en_val ex), of_int (en_val ey)]
      exact .inr (.inr ⟨_, _, c, rfl, rfl, hz, hc, q _ R _ F H k s Ex.rfl (enVal (rep_str _))⟩)
    · obtain ⟨d, hd, k⟩ := k
      rw [of_int (en_val ey)]
      obtain ⟨p, ws, rfl, fa, rl⟩ := of_lst (en_val ex)
      obtain ⟨z, hz, rz⟩ := atI_rep hd rl
      exact .inl ⟨p, ws, _, z, rfl, rfl, SqL.of (s.fin.fh _ _ fa), hz, q _ R _ F H k s Ex.rfl (enVal rz)⟩
    · obtain ⟨d, hd, k⟩ := k
      rw [of_int (en_val ey)]
      obtain ⟨p, ws, rfl, fa, rl⟩ := of_tup (en_val ex)
      obtain ⟨z, hz, rz⟩ := atI_rep hd rl
      exact .inr (.inl ⟨p, ws, _, z, rfl, rfl, SqT.of (s.fin.fh _ _ fa), hz, q _ R _ F H k s Ex.rfl (enVal rz)⟩)
    · obtain ⟨ds, d, m, hd, k⟩ := k
      rw [of_int (en_val ey), en_adr ex]
      obtain ⟨ws, hp, rl⟩ := s.ownM m
      obtain ⟨z, hz, rz⟩ := atI_rep hd rl
      exact .inl ⟨_, ws, _, z, rfl, rfl, SqL.of hp, hz, q _ R _ F H k s Ex.rfl (enVal rz)⟩
    · exact False.elim k) ha.v hb.v w⟩
def repS (z : Str) (n : Int) : Str := ⟨(List.replicate n.toNat z.cps.toList).flatten.toArray⟩
def rMulS : R2 := fun x y H Q => ∃ z n, x = .str z ∧ y = .int n ∧ 0 ≤ n ∧ n < 2 ^ 62 ∧ z.length * n.toNat ≤ sizeLine ∧ Q (.str (repS z n)) H
theorem fold_cat (z : Array Nat) : ∀ (k : Nat) (acc : Array Nat), (List.replicate k z).foldl (· ++ ·) acc = acc ++ (List.replicate k z.toList).flatten.toArray
  | 0, acc => by simp
  | k + 1, acc => by
    rw [List.replicate_succ, List.foldl_cons, fold_cat z k, List.replicate_succ, List.flatten_cons]
    apply Array.toList_inj.mp
    simp
theorem op_mulS : OpR X (binaryOp .Mult) rMulS := fun pins s σ H x y v u Q I rx ry h => by
  obtain ⟨z, n, rfl, rfl, h0, h1, hz, q⟩ := h
  obtain ⟨t, rfl⟩ := rx
  obtain ⟨t2, rfl⟩ := ry
  have hl : z.length * n.toNat ≤ 16777216 := by rw [← sizeLine_eq]; exact hz
  have zl : z.length = z.cps.size := rfl
  refine P.mul_str (by
    have a1 : ¬ n < -(2 ^ 63 : Int) := by omega
    have a2 : ¬ n ≥ 2 ^ 63 := by omega
    rw [decide_eq_false a1, decide_eq_false a2]; rfl) (fun c1 c2 => ?_) (fun c1 c2 => ?_) ?_
  · intro bad
    have hn : (n.toNat : Int) = n := Int.toNat_of_nonneg h0
    have m : ((z.length * n.toNat : Nat) : Int) ≤ 16777216 := Int.ofNat_le.mpr hl
    rw [Int.natCast_mul, hn] at m
    have d := Int.ediv_mul_le (2 ^ 63 - 1) (show n ≠ 0 by omega)
    have e : ((2 ^ 63 - 1) / n + 1) * n ≤ (z.length : Int) * n := Int.mul_le_mul_of_nonneg_right (by omega) h0
    have f := Int.lt_ediv_add_one_mul_self (2 ^ 63 - 1) (show 0 < n by omega)
    omega
  · unfold Builtin.Str.tooLong
    exact decide_eq_false (by omega)
  · by_cases c1 : n < 1
    · rw [if_pos c1]
      have e : repS z n = Str.empty := by
        have : n.toNat = 0 := by omega
        unfold repS
        rw [this]
        rfl
      exact ⟨by decide, .str Str.empty, H, I.tok _, ⟨_, rfl⟩, e ▸ q⟩
    · rw [if_neg c1]
      by_cases c2 : (n == 1 || z.length == 0) = true
      · rw [if_pos c2]
        have e : repS z n = z := by
          obtain ⟨cps⟩ := z
          unfold repS
          rcases Bool.or_eq_true_iff.mp c2 with c | c
          · have : n.toNat = 1 := by
              have := beq_iff_eq.mp c
              omega
            rw [this]
            simp
          · have c' : cps.size = 0 := beq_iff_eq.mp c
            have : cps = #[] := Array.eq_empty_of_size_eq_zero c'
            subst this
            simp
        exact ⟨.str z, H, I, ⟨t, rfl⟩, e ▸ q⟩
      · rw [if_neg c2]
        refine ⟨?_, .str (repS z n), H, I.tok _, ⟨s.toks, ?_⟩, q⟩
        · rw [fold_cat]
          show (#[] ++ (List.replicate n.toNat z.cps.toList).flatten.toArray).size ≤ sizeLine
          simp only [Array.size_append, List.size_toArray, List.length_flatten, List.map_replicate, List.sum_replicate_nat, Array.length_toList]
          rw [sizeLine_eq]
          show 0 + n.toNat * z.length ≤ 16777216
          rw [Nat.mul_comm]; omega
        · rw [fold_cat]
          unfold repS
          simp
def kMulS : KO := fun x y R Φ => match x, y with
  | .val (.str z), .val (.int n) => 0 ≤ n ∧ n < 2 ^ 62 ∧ z.length * n.toNat ≤ sizeLine ∧ Φ (.val (.str (repS z n))) R
  | _, _ => False
theorem o_mulS : DOp X (binaryOp .Mult) rMulS kMulS := ⟨op_mulS, fun B env R σ F H x y v u Φ Q s ex ey k q => by
  unfold kMulS at k
  split at k
  · obtain ⟨a1, a2, a3, k⟩ := k
    rw [of_str (en_val ex), of_int (en_val ey)]
    exact ⟨_, _, rfl, rfl, a1, a2, a3, q _ R _ F H k s Ex.rfl (enVal (rep_str _))⟩
  · exact False.elim k⟩
end
end Tl
namespace Tl
open PySem PySem.Spec PyProof.Rows L2
/-- what a datum's type is -/
inductive Ki where
  | ty (n : String) | ob (c : Str)
def kiOf : D → Option Ki
  | .non => some (.ty "NoneType") | .bl _ => some (.ty "bool") | .int _ => some (.ty "int") | .str _ => some (.ty "str")
  | .tup _ => some (.ty "tuple") | .lst _ => some (.ty "list") | .dct _ _ => some (.ty "dict") | .obj c _ _ => some (.ob c)
  | .glo _ => none | .ty _ => none
def Ki.v (K : PySem.W.Frag) : Ki → Value
  | .ty n => .type n
  | .ob c => .ref (He.ga K c)
def clV (K : PySem.W.Frag) : D → Option (V × Value)
  | .ty n => some (.ty n, .type n)
  | .glo x => some (.ref (He.ga K x), .ref (He.ga K x))
  | _ => none
/-- the answers of isinstance(_, c) -/
structure Isi (K : PySem.W.Frag) (c : D) (f : Ki → Option Bool) : Prop where
  ins : ∀ n b, f (.ob n) = some b → C8.InsC K (He.ga K n)
  ok : ∀ k b, f k = some b → ∃ v u, clV K c = some (v, u) ∧ PySem.W.kitOne K (k.v K) u = some b
def kIsi (c : D) (f : Ki → Option Bool) : KC := fun os R Φ => match os with
  | [.val d, .val c'] => c' = c ∧ ∃ k b, kiOf d = some k ∧ f k = some b ∧ Φ (.val (.bl b)) R
  | _ => False
theorem tyx_of {K : PySem.W.Frag} {F H : Hp} {d : D} {v : V} {k : Ki} (x : Ex F H) (r : Rep K F d v) (h : kiOf d = some k) (hc : ∀ n, k = .ob n → C8.InsC K (He.ga K n)) : TyX K H v (k.v K) := by
  cases d with
  | non => cases h; rw [of_non r]; exact .base .non
  | bl b => cases h; rw [of_bl r]; exact .base (.bl b)
  | int b => cases h; rw [of_int r]; exact .base (.int b)
  | str b => cases h; rw [of_str r]; exact .base (.str b)
  | tup ds => cases h; obtain ⟨a, vs, rfl, fa, _⟩ := of_tup r; exact .base (.tup (x _ _ fa))
  | lst ds => cases h; obtain ⟨a, vs, rfl, fa, _⟩ := of_lst r; exact .base (.lst (x _ _ fa))
  | dct ks ds => cases h; obtain ⟨a, vs, rfl, ⟨o, fa⟩, _⟩ := of_dct r; exact .fDict (x _ _ fa)
  | obj c ns ds =>
    cases h
    obtain ⟨a, dx, vs, rfl, fa, _⟩ := of_obj r
    have i := hc c rfl
    exact .base (.ins (x _ _ fa) i.cl i.ha i.hn i.htk i.hm)
  | glo _ => cases h
  | ty _ => cases h
theorem ens2i {K : PySem.W.Frag} {F : Hp} {o p : En} {vs : List V} (h : EnsOk K F [o, p] vs) : ∃ v u, vs = [v, u] ∧ EnOk K F o (some v) ∧ EnOk K F p (some u) := by
  obtain ⟨v, r, rfl, a, b⟩ := h
  obtain ⟨u, rfl, c⟩ := ens1 b
  exact ⟨v, u, rfl, a, c⟩
section
variable {X : Cx} {W : WX} {e o a b : Expr} {te to ta tb : TE} {we wo wa wb : WE} {pos apos cpos : Pos}
theorem c_isi {c : D} {f : Ki → Option Bool} (I : Isi X.K c f) : DCall X (.builtin "isinstance") (rIsi X.K) (kIsi c f) := ⟨call_isi, fun B env R σ F H os vs Φ Q s eo φ q => by
  unfold kIsi at φ
  split at φ
  · obtain ⟨rfl, k, b, hk, hf, φ⟩ := φ
    obtain ⟨v, u, rfl, ev, eu⟩ := ens2i eo
    obtain ⟨v2, u2, hc, kit⟩ := I.ok k b hf
    have cv : ClsV u u2 := by
      unfold clV at hc
      split at hc
      · cases hc; rw [of_ty (en_val eu)]; exact .ty _
      · cases hc; rw [of_glo (en_val eu)]; exact .own _
      · cases hc
    exact ⟨v, u, _, u2, b, rfl, cv, tyx_of s.fin.fh (en_val ev) hk fun n e => I.ins n b (e ▸ hf), kit, q _ R _ F H φ s Ex.rfl (enVal (rep_bl _))⟩
  · exact False.elim φ⟩
def strsD : List D → Option (List Str)
  | [] => some []
  | .str z :: r => (strsD r).map (z :: ·)
  | _ :: _ => none
theorem strsD_ok : ∀ {ds : List D} {ys : List Str}, strsD ds = some ys → ds = ys.map D.str
  | [], _, h => by cases h; rfl
  | .str z :: r, ys, h => by
    have h2 : (strsD r).map (z :: ·) = some ys := h
    cases q : strsD r with
    | none => rw [q] at h2; cases h2
    | some l =>
      rw [q] at h2
      cases h2
      rw [strsD_ok q]
      rfl
  | .non :: _, _, h => nomatch h
  | .bl _ :: _, _, h => nomatch h
  | .int _ :: _, _, h => nomatch h
  | .tup _ :: _, _, h => nomatch h
  | .lst _ :: _, _, h => nomatch h
  | .obj _ _ _ :: _, _, h => nomatch h
  | .dct _ _ :: _, _, h => nomatch h
  | .glo _ :: _, _, h => nomatch h
  | .ty _ :: _, _, h => nomatch h
theorem strsD_map : ∀ ys : List Str, strsD (ys.map D.str) = some ys
  | [] => rfl
  | y :: ys => by
    show (strsD (ys.map D.str)).map (y :: ·) = _
    rw [strsD_map ys]; rfl
def kJoin (x y : En) (R : List Res) (Φ : En → List Res → Prop) : Prop := match x, y with
  | .val (.str a), .val (.lst ds) => ∃ ys, ds = ys.map D.str ∧ (ys.map (·.length)).sum + ys.length * a.length ≤ 16777216 ∧ Φ (.val (.str (Txt.join a ys))) R
  | .val (.str a), .val (.tup ds) => ∃ ys, ds = ys.map D.str ∧ (ys.map (·.length)).sum + ys.length * a.length ≤ 16777216 ∧ Φ (.val (.str (Txt.join a ys))) R
  | .val (.str a), .adr p => ∃ ys, Res.lst p (ys.map D.str) ∈ R ∧ (ys.map (·.length)).sum + ys.length * a.length ≤ 16777216 ∧ Φ (.val (.str (Txt.join a ys))) R
  | _, _ => False
def isStrE (o : En) (k : Prop) : Prop := match o with
  | .val (.str _) => k
  | _ => False
def wJoin (wo we : WE) : WE := fun env R Φ Ψ => wo env R (fun x R1 => isStrE x (we env R1 (fun y R2 => kJoin x y R2 Φ) Ψ)) Ψ
theorem d_join (ho : DE X W o to wo) (he : DE X W e te we) (hs : starEach [e] X.env = [(false, eval e X.env)] := by rfl) (hbase : attributeBase o "join" X.env (eval o X.env) = eval o X.env := by rfl) (hline : (apos.endLine == pos.line) = true := by rfl) :
    DE X W (.Call (.Attribute o "join" apos) [e] [] pos) (tM1 (fun x xs H Q => ∃ a p, ∃ ys : List Str, x = .str a ∧ xs = [.ref p] ∧ (SqL X.K H p (ys.map V.str) ∨ SqT X.K H p (ys.map V.str)) ∧ (ys.map (·.length)).sum + ys.length * a.length ≤ 16777216 ∧ Q (.str (Txt.join a ys)) H) to te) (wJoin wo we) :=
  ⟨pe_join ho.p he.p hs hbase hline, fun B env R Φ Ψ acc w σ F H s Q q => ho.v B env R _ Ψ acc w σ F H s _ fun x R1 v F1 H1 φ s1 x1 e1 => by
    unfold isStrE at φ
    split at φ
    · rename_i a
      rw [of_str (en_val e1)]
      refine ⟨⟨a, rfl⟩, he.v B env R1 _ Ψ acc φ σ F1 H1 s1 _ fun y R2 u F2 H2 φ2 s2 x2 e2 => ?_⟩
      unfold kJoin at φ2
      split at φ2
      · rename_i a' ds heq
        cases heq
        obtain ⟨ys, rfl, hn, φ2⟩ := φ2
        obtain ⟨p, ws, rfl, fa, rl⟩ := of_lst (en_val e2)
        have ew := of_repL_strs rl
        subst ew
        exact ⟨_, p, ys, rfl, rfl, .inl (SqL.of (s2.fin.fh _ _ fa)), hn, q _ R2 _ F2 H2 φ2 s2 (x1.tr x2) (enVal (rep_str _))⟩
      · rename_i a' ds heq
        cases heq
        obtain ⟨ys, rfl, hn, φ2⟩ := φ2
        obtain ⟨p, ws, rfl, fa, rl⟩ := of_tup (en_val e2)
        have ew := of_repL_strs rl
        subst ew
        exact ⟨_, p, ys, rfl, rfl, .inr (SqT.of (s2.fin.fh _ _ fa)), hn, q _ R2 _ F2 H2 φ2 s2 (x1.tr x2) (enVal (rep_str _))⟩
      · rename_i a' p heq
        cases heq
        obtain ⟨ys, m, hn, φ2⟩ := φ2
        rw [en_adr e2]
        obtain ⟨ws, hp, rl⟩ := s2.ownM m
        have ew := of_repL_strs rl
        subst ew
        exact ⟨_, p, ys, rfl, rfl, .inl (SqL.of hp), hn, q _ R2 _ F2 H2 φ2 s2 (x1.tr x2) (enVal (rep_str _))⟩
      · exact False.elim φ2
    · exact False.elim φ⟩
def kListS : KC := fun os R Φ => match os with
  | [.val (.str z)] => z.length ≤ sizeLine ∧ ∀ p, Φ (.adr p) (.lst p (signs z) :: R)
  | _ => False
theorem call_listS (hc : X.calm = true) : CallR X (.type "list") (fun xs H Q => ∃ z : Str, xs = [.str z] ∧ z.length ≤ sizeLine ∧ ∀ l, H l = none → Q (.ref l) (upd H l (.lst (z.cps.toList.map fun c => V.str ⟨#[c]⟩)))) := fun pins s σ H xs us Q I r h => by
  obtain ⟨z, rfl, hz, q⟩ := h
  obtain ⟨u, rfl, t, rfl⟩ := vals1 r
  refine call_list_str (hn := hz) (I.ok.hd hc) z t fun h' tk acc c kp e it => ?_
  have len : acc.toList.length = z.cps.toList.length := by rw [Array.length_toList, Array.length_toList]; exact it.1
  have vals : Vals (z.cps.toList.map fun c => V.str ⟨#[c]⟩) acc.toList := by
    have gen : ∀ (cs : List Nat) (us : List Value), us.length = cs.length → (∀ (j : Nat) (v : Value), us[j]? = some v → ∃ c u, cs[j]? = some c ∧ v = Value.str ⟨#[c]⟩ u) → Vals (cs.map fun c => V.str ⟨#[c]⟩) us := by
      intro cs
      induction cs with
      | nil => intro us l _; rw [List.length_eq_zero_iff.mp l]; exact .nil
      | cons c cs ih =>
        intro us l hv
        cases us with
        | nil => simp at l
        | cons v us =>
          obtain ⟨c', u', e1, e2⟩ := hv 0 v rfl
          cases e1
          exact .cons ⟨u', e2⟩ (ih us (by simpa using l) fun j w hw => by
            obtain ⟨c', u', e1, e2⟩ := hv (j + 1) w (by simpa using hw)
            exact ⟨c', u', by simpa using e1, e2⟩)
    refine gen _ _ len fun j v hv => ?_
    obtain ⟨c, u, a1, a2⟩ := it.2 j v (by rw [← Array.getElem?_toList]; exact hv)
    exact ⟨c, u, by rw [Array.getElem?_toList]; exact a1, a2⟩
  refine ⟨.ref _, upd H s.heap.objs.size (.lst (z.cps.toList.map fun c => V.str ⟨#[c]⟩)), I.laid kp (Nat.le_refl _) ⟨?_, acc.toList, c, vals, by rw [Array.toArray_toList]; exact e⟩, rfl, q _ (I.hok.fresh (Nat.le_refl _))⟩
  rw [List.length_map, Array.length_toList]
  exact hz
theorem repL_signs {K : PySem.W.Frag} {F : Hp} (z : Str) : RepL K F (signs z) (z.cps.toList.map fun c => V.str ⟨#[c]⟩) := by
  have := repL_strs (K := K) (F := F) (z.cps.toList.map fun c => (⟨#[c]⟩ : Str))
  rw [List.map_map, List.map_map] at this
  exact this
theorem c_listS (hc : X.calm = true) : DCall X (.type "list") (fun xs H Q => ∃ z : Str, xs = [.str z] ∧ z.length ≤ sizeLine ∧ ∀ l, H l = none → Q (.ref l) (upd H l (.lst (z.cps.toList.map fun c => V.str ⟨#[c]⟩)))) kListS := ⟨call_listS hc, fun B env R σ F H os vs Φ Q s eo φ q => by
  unfold kListS at φ
  split at φ
  · rename_i z
    obtain ⟨v, rfl, ev⟩ := ens1 eo
    rw [of_str (en_val ev)]
    exact ⟨z, rfl, φ.1, fun l hl => q _ _ _ F _ (φ.2 l) (s.newL hl (repL_signs z)) Ex.rfl rfl⟩
  · exact False.elim φ⟩
def kList : KC := fun os R Φ => match os with
  | [.val (.lst ds)] => ∀ p, Φ (.adr p) (.lst p ds :: R)
  | [.val (.tup ds)] => ∀ p, Φ (.adr p) (.lst p ds :: R)
  | [.adr p] => ∃ ds, Res.lst p ds ∈ R ∧ ∀ p, Φ (.adr p) (.lst p ds :: R)
  | _ => False
theorem c_list : DCall X (.type "list") (fun xs H Q => ∃ p ys, xs = [.ref p] ∧ (SqL X.K H p ys ∨ SqT X.K H p ys) ∧ ∀ l, H l = none → Q (.ref l) (upd H l (.lst ys))) kList := ⟨call_list_of, fun B env R σ F H os vs Φ Q s eo φ q => by
  unfold kList at φ
  split at φ
  · obtain ⟨v, rfl, ev⟩ := ens1 eo
    obtain ⟨p, ws, rfl, fa, rl⟩ := of_lst (en_val ev)
    exact ⟨p, ws, rfl, .inl (SqL.of (s.fin.fh _ _ fa)), fun l hl => q _ _ _ F _ (φ l) (s.newL hl rl) Ex.rfl rfl⟩
  · obtain ⟨v, rfl, ev⟩ := ens1 eo
    obtain ⟨p, ws, rfl, fa, rl⟩ := of_tup (en_val ev)
    exact ⟨p, ws, rfl, .inr (SqT.of (s.fin.fh _ _ fa)), fun l hl => q _ _ _ F _ (φ l) (s.newL hl rl) Ex.rfl rfl⟩
  · obtain ⟨ds, m, φ⟩ := φ
    obtain ⟨v, rfl, ev⟩ := ens1 eo
    rw [en_adr ev]
    obtain ⟨ws, hp, rl⟩ := s.ownM m
    exact ⟨_, ws, rfl, .inl (SqL.of hp), fun l hl => q _ _ _ F _ (φ l) (s.newL hl rl) Ex.rfl rfl⟩
  · exact False.elim φ⟩
def kTuple : KC := fun os R Φ => match os with
  | [.val (.lst ds)] => Φ (.val (.tup ds)) R
  | [.val (.tup ds)] => Φ (.val (.tup ds)) R
  | [.adr p] => ∃ ds, Res.lst p ds ∈ R ∧ Φ (.val (.tup ds)) R
  | _ => False
theorem c_tuple : DCall X (.type "tuple") (fun xs H Q => ∃ p ys, xs = [.ref p] ∧ ((SqL X.K H p ys ∧ ∀ l, H l = none → Q (.ref l) (upd H l (.tup ys))) ∨ (SqT X.K H p ys ∧ Q (.ref p) H))) kTuple := ⟨call_tuple_of, fun B env R σ F H os vs Φ Q s eo φ q => by
  unfold kTuple at φ
  split at φ
  · obtain ⟨v, rfl, ev⟩ := ens1 eo
    obtain ⟨p, ws, rfl, fa, rl⟩ := of_lst (en_val ev)
    refine ⟨p, ws, rfl, .inl ⟨SqL.of (s.fin.fh _ _ fa), fun l hl => ?_⟩⟩
    obtain ⟨s2, x2⟩ := s.newF (o := .tup ws) hl
    exact q _ _ _ _ _ φ s2 x2 (enVal (mk_tup upd_same (RepL.up x2 _ _ rl)))
  · obtain ⟨v, rfl, ev⟩ := ens1 eo
    obtain ⟨p, ws, rfl, fa, rl⟩ := of_tup (en_val ev)
    exact ⟨p, ws, rfl, .inr ⟨SqT.of (s.fin.fh _ _ fa), q _ _ _ F _ φ s Ex.rfl ev⟩⟩
  · obtain ⟨ds, m, φ⟩ := φ
    obtain ⟨v, rfl, ev⟩ := ens1 eo
    rw [en_adr ev]
    obtain ⟨ws, hp, rl⟩ := s.ownM m
    refine ⟨_, ws, rfl, .inl ⟨SqL.of hp, fun l hl => ?_⟩⟩
    obtain ⟨s2, x2⟩ := s.newF (o := .tup ws) hl
    exact q _ _ _ _ _ φ s2 x2 (enVal (mk_tup upd_same (RepL.up x2 _ _ rl)))
  · exact False.elim φ⟩
end
end Tl
namespace Tl
open PySem PySem.Spec PyProof.Rows L2
section
variable {X : Cx} {W : WX} {e o a b : Expr} {te to ta tb : TE} {we wo wa wb : WE} {pos apos cpos : Pos}
def kAppend (k : Nat) (x : En) (os : List En) (R : List Res) (Φ : En → List Res → Prop) : Prop := match x, os with
  | .adr p, [.val d] => ∃ ds, R[k]? = some (.lst p ds) ∧ ds.length < 1000000 ∧ Φ (.val .non) (R.set k (.lst p (ds ++ [d])))
  | _, _ => False
def ownL (o : En) (R : List Res) (k : Prop) : Prop := match o with
  | .adr p => (∃ ds, Res.lst p ds ∈ R) ∧ k
  | _ => False
def wBm (kk : En → List En → List Res → (En → List Res → Prop) → Prop) (wo : WE) (wa : WA) : WE := fun env R Φ Ψ => wo env R (fun x R1 => ownL x R1 (wa env R1 (fun os R2 => kk x os R2 Φ) Ψ)) Ψ
theorem bm_ev {r : V → List V → Hp → VK → Prop} {kk : En → List En → List Res → (En → List Res → Prop) → Prop} {ts : TA} {va : WA}
    (hk : ∀ B env R σ F H x os v vs Φ (Q : VK), S X.K B env R σ F H → EnOk X.K F x (some v) → EnsOk X.K F os vs → kk x os R Φ → (∀ o R' z F' H', Φ o R' → S X.K B env R' σ F' H' → Ex F F' → EnOk X.K F' o (some z) → Q z H') → r v vs H Q)
    (ho : ∀ B env R Φ Ψ, Acc X.K B W Ψ → wo env R Φ Ψ → Ev X.K B to env R Φ) (ha : ∀ B env R Φ Ψ, Acc X.K B W Ψ → va env R Φ Ψ → EvA X.K B ts env R Φ)
    (B : Bs) (env : List En) (R : List Res) (Φ : En → List Res → Prop) (Ψ : XP) (acc : Acc X.K B W Ψ) (w : wBm kk wo va env R Φ Ψ) : Ev X.K B (tBM X.K "list" r to ts) env R Φ := fun σ F H s Q q => ho B env R _ Ψ acc w σ F H s _ fun x R1 v F1 H1 φ s1 x1 e1 => by
  unfold ownL at φ
  split at φ
  · rename_i p
    obtain ⟨⟨ds, m⟩, φ⟩ := φ
    obtain ⟨ws, hp, rl⟩ := s1.ownM m
    have ev := en_adr e1
    subst ev
    refine ⟨.inl ⟨rfl, ws, SqL.of hp⟩, ha B env R1 _ Ψ acc φ σ F1 H1 s1 _ fun os R2 vs F2 H2 φ2 s2 x2 e2 => ?_⟩
    exact hk B env R2 σ F2 H2 (.adr p) os _ vs Φ Q s2 (e1.up x2) e2 φ2 fun o R3 z F3 H3 φ3 s3 x3 e3 => q o R3 z F3 H3 φ3 s3 ((x1.tr x2).tr x3) e3
  · exact False.elim φ
theorem d_append (k : Nat) {ts : TA} {va : WA} (ho : DE X W o to wo) (ha : DA X W [e] ts va) (hbase : attributeBase o "append" X.env (eval o X.env) = eval o X.env := by rfl)
    (hfew : ((backTo cpos (starEach [e] X.env)).all (fun x => !x.1) && (backToKw cpos (keywordEach [] X.env)).all (fun x => x.1.isSome) && decide (([e] : List Expr).length + ([] : List Keyword).length + (if ([] : List Keyword).isEmpty then 0 else 1) < 30)) = true := by rfl)
    (hline : (apos.endLine == cpos.line) = true := by rfl) (hs : starEach [e] X.env = (false, eval e X.env) :: starEach [] X.env := by rfl) (hplain : (backTo cpos (starEach [] X.env)).any (·.1) = false := by rfl) :
    DE X W (.Call (.Attribute o "append" apos) [e] [] cpos) (tBM X.K "list" rAppend to ts) (wBm (kAppend k) wo va) :=
  ⟨pe_bm PySem.F.plainAttrs_list PySem.F.slot_list_append PySem.F.type_list_append mt_append ho.p ha.p hbase hfew hline hs hplain, bm_ev (fun B env R σ F H x os v vs Φ Q s ex eos kk q => by
    unfold kAppend at kk
    split at kk
    · rename_i p d
      obtain ⟨ds, g, ln, φ⟩ := kk
      obtain ⟨u, rfl, eu⟩ := ens1 eos
      obtain ⟨ws, hp, rl⟩ := s.own g
      refine ⟨p, ws, u, en_adr ex, rfl, hp, by rw [rl.len]; exact Nat.lt_of_lt_of_le ln (by decide), ?_⟩
      exact q _ _ _ F _ φ (s.mutL g (rl.app (repL_cons (en_val eu) repL_nil))) Ex.rfl (enVal rep_non)
    · exact False.elim kk) ho.v ha.v⟩
def kPop (k : Nat) (x : En) (os : List En) (R : List Res) (Φ : En → List Res → Prop) : Prop := match x, os with
  | .adr p, [.val (.int i)] => ∃ ds d, R[k]? = some (.lst p ds) ∧ 0 ≤ i ∧ i < 1000000 ∧ ds[i.toNat]? = some d ∧ Φ (.val d) (R.set k (.lst p (ds.eraseIdx i.toNat)))
  | _, _ => False
theorem seqIx {i : Int} {n : Nat} (h0 : 0 ≤ i) (h : i.toNat < n) : seqIndex? i n = some i.toNat := by
  have z : ixN n i = some i.toNat := by
    unfold ixN
    rw [if_pos h0]
    first
      | rw [if_pos h]
      | rw [if_pos (by omega)]
  exact (ixN_seq z).1
theorem d_pop (k : Nat) {ts : TA} {va : WA} (ho : DE X W o to wo) (ha : DA X W [e] ts va) (hbase : attributeBase o "pop" X.env (eval o X.env) = eval o X.env := by rfl)
    (hfew : ((backTo cpos (starEach [e] X.env)).all (fun x => !x.1) && (backToKw cpos (keywordEach [] X.env)).all (fun x => x.1.isSome) && decide (([e] : List Expr).length + ([] : List Keyword).length + (if ([] : List Keyword).isEmpty then 0 else 1) < 30)) = true := by rfl)
    (hline : (apos.endLine == cpos.line) = true := by rfl) (hs : starEach [e] X.env = (false, eval e X.env) :: starEach [] X.env := by rfl) (hplain : (backTo cpos (starEach [] X.env)).any (·.1) = false := by rfl) :
    DE X W (.Call (.Attribute o "pop" apos) [e] [] cpos) (tBM X.K "list" rPopAt to ts) (wBm (kPop k) wo va) :=
  ⟨pe_bm PySem.F.plainAttrs_list PySem.F.slot_list_pop PySem.F.type_list_pop mt_popAt ho.p ha.p hbase hfew hline hs hplain, bm_ev (fun B env R σ F H x os v vs Φ Q s ex eos kk q => by
    unfold kPop at kk
    split at kk
    · rename_i p i
      obtain ⟨ds, d, g, i0, i1, gd, φ⟩ := kk
      obtain ⟨u, rfl, eu⟩ := ens1 eos
      rw [of_int (en_val eu)]
      obtain ⟨ws, hp, rl⟩ := s.own g
      obtain ⟨z, gz, rz⟩ := rl.get gd
      refine ⟨p, ws, i, i.toNat, z, en_adr ex, rfl, hp, by omega, by omega, seqIx i0 (List.getElem?_eq_some_iff.mp gz).1, gz, ?_⟩
      exact q _ _ _ F _ φ (s.mutL g (rl.eraseIdx _)) Ex.rfl (enVal rz)
    · exact False.elim kk) ho.v ha.v⟩
end
end Tl
namespace Tl
open PySem PySem.Spec PyProof.Rows L2
end Tl
namespace Tl
open PySem PySem.Spec PyProof.Rows L2
section
variable (K : PySem.W.Frag)
abbrev iAdd : R2 := rI0 fun i j => .int (i + j)
abbrev iSub : R2 := rI0 fun i j => .int (i - j)
abbrev iMul : R2 := rI CMul fun i j => .int (i * j)
abbrev iMod : R2 := rI (fun _ j => 0 < j) fun i j => .int (i % j)
abbrev iDiv : R2 := rI CDiv fun i j => .int (i / j)
abbrev iDivW : R2 := rI CDivW fun i j => .int (i / j)
abbrev iPow : R2 := rI CPow fun i j => .int (i ^ j.toNat)
abbrev iLt : R2 := rI0 fun i j => .bl (decide (i < j))
abbrev iGt : R2 := rI0 fun i j => .bl (decide (j < i))
abbrev iGe : R2 := rI0 fun i j => .bl (decide (j ≤ i))
abbrev cI (i : Int) : TE := tC (.int i)
abbrev rInt1 : List V → Hp → VK → Prop := fun xs H Q => (∃ i, xs = [.int i] ∧ Q (.int i) H) ∨ ∃ k, xs = [.bl k] ∧ Q (.int (if k then 1 else 0)) H
abbrev tInt (t : TE) : TE := tCB rInt1 (tCons t tNil)
abbrev tBg (i : Int) : TE := tOp (rIxL K) (tVar 0) (cI i)
abbrev gBg (i : Int) : TG := gSub (tVar 0) (cI i) rSetL
abbrev tLenV (t : TE) : TE := tCB (fun xs H Q => ∃ x n, xs = [x] ∧ LenV K x H n ∧ Q (.int n) H) (tCons t tNil)
def tDraw1 : TS := tSeq (tAsg (tBM K "list" rPopAt (tBg K 0) (tCons (cI 0) tNil)) (gName 2))
  (tSeq (tAsg (tOp iMul (cI 2) (tVar 2)) (gName 3))
  (tSeq (tIfS (tTest (tOp iLt (tVar 2) (cI 0))) (tAsg (tOp iSub (tOp iMul (tUn (rU fun i => .int (-i)) (cI 2)) (tVar 2)) (cI 1)) (gName 3)) tNext)
  (tSeq (tIfS (tTest (tOp iGe (tVar 3) (tOp iPow (cI 10) (cI 18)))) (tAsg (tVar 3) (gBg 1)) tNext)
    (tAsg (tOp iMod (tInt (tOp iAdd (tOp iAdd (tOp iMul (tBg K 2) (cI 48271)) (tVar 3)) (cI 1))) (cI 2147483647)) (gBg 2)))))
def tDraw2 : TS := tSeq (tAsg (tOp iMod (tInt (tBg K 1)) (tVar 1)) (gName 4)) (tSeq (tAsg (tOp iDivW (tBg K 1) (tVar 1)) (gBg 1)) (tRet (tVar 4)))
def tDraw3 : TS := tSeq (tAsg (tOp iAdd (tBg K 3) (cI 1)) (gBg 3))
  (tSeq (tAsg (tOp iMod (tInt (tOp iMul (tOp iAdd (tOp iAdd (tBg K 2) (tOp iMul (cI 7919) (tBg K 3))) (cI 1)) (cI 48271))) (cI 2147483647)) (gName 5))
  (tSeq (tAsg (tOp iMod (tInt (tOp iMul (tVar 5) (tOp iAdd (tOp iDiv (tVar 5) (cI 1009)) (cI 69621)))) (cI 2147483647)) (gName 5))
  (tSeq (tAsg (tOp iMod (tInt (tOp iMul (tVar 5) (tOp iAdd (tOp iDiv (tVar 5) (cI 2003)) (cI 40692)))) (cI 2147483399)) (gName 5))
    (tRet (tOp iMod (tInt (tOp iDiv (tVar 5) (cI 16))) (tVar 1))))))
def tDraw : TS := tSeq (tIfS (tAnd (tTest (tOp rEq (tBg K 1) (cI 0))) (tTest (tOp iGt (tLenV K (tBg K 0)) (cI 0)))) (tDraw1 K) tNext) (tSeq (tIfS (tTest (tOp iGt (tBg K 1) (cI 0))) (tDraw2 K) tNext) (tDraw3 K))
end
/-- a number below lim is drawn -/
def fsDraw : FS := fun os R Φ _ => ∃ b l lim, os = [.adr b, .val (.int lim)] ∧ 0 < lim ∧ lim < 2 ^ 200 ∧ Res.bag b l ∈ R ∧ ∀ d, 0 ≤ d → d < lim → Φ (.val (.int d)) R
theorem mono_draw : Mono fsDraw := fun os R Φ Φ' Ψ Ψ' h _ z => by
  obtain ⟨b, l, lim, e, h0, h1, m, k⟩ := z
  exact ⟨b, l, lim, e, h0, h1, m, fun d d0 d1 => h _ _ (k d d0 d1)⟩
section
variable {K : PySem.W.Frag} {σ : L2.St} {H : Hp} {b l : Addr} {xs : List V} {E : Ends}
theorem bg_get {i : Int} {v : V} {Q : VK} (h0 : σ[0]? = some (some (.ref b))) (hb : H b = some (.lst xs)) (hi : atI xs i = some v) (q : Q v H) : tBg K i σ H Q := ⟨.ref b, h0, b, xs, i, v, rfl, rfl, SqL.of hb, hi, q⟩
theorem bg_set {i : Int} {j : Nat} {v : V} {Q : L2.St → Hp → Prop} (h0 : σ[0]? = some (some (.ref b))) (hb : H b = some (.lst xs)) (hi : ixN xs.length i = some j) (q : Q σ (upd H b (.lst (xs.set j v)))) : gBg i v σ H Q := ⟨.ref b, h0, b, xs, i, j, rfl, rfl, hb, hi, q⟩
theorem draw3 {a s c lim : Int} {x2 x3 x4 x5 : Option V} (hb : H b = some (.lst [.ref l, .int a, .int s, .int c])) (h0 : 0 < lim)
    (k : ∀ d, 0 ≤ d → d < lim → E.rt (.int d) (upd H b (.lst [.ref l, .int a, .int s, .int (c + 1)]))) : tDraw3 K E [some (.ref b), some (.int lim), x2, x3, x4, x5] H := by
  refine bg_get rfl hb rfl ⟨c, 1, rfl, rfl, bg_set rfl hb rfl ?_⟩
  have hb2 : upd H b (.lst [V.ref l, .int a, .int s, .int (c + 1)]) b = some (.lst [V.ref l, .int a, .int s, .int (c + 1)]) := upd_same
  refine bg_get rfl hb2 rfl (bg_get rfl hb2 rfl ⟨7919, c + 1, rfl, rfl, .inl (by omega), s, _, rfl, rfl, _, 1, rfl, rfl, _, 48271, rfl, rfl, .inr (by omega), .inl ⟨_, rfl, _, _, rfl, rfl, by omega, ?_⟩⟩)
  dsimp only
  generalize hx : (s + 7919 * (c + 1) + 1) * 48271 % 2147483647 = y
  have y0 : 0 ≤ y ∧ y < 2147483647 := by omega
  refine ⟨_, rfl, _, rfl, y, 1009, rfl, rfl, ⟨by omega, by omega⟩, _, 69621, rfl, rfl, y, _, rfl, rfl, .inl ⟨by omega, by omega⟩, .inl ⟨_, rfl, _, _, rfl, rfl, by omega, ?_⟩⟩
  dsimp only
  generalize hz : y * (y / 1009 + 69621) % 2147483647 = z
  have z0 : 0 ≤ z ∧ z < 2147483647 := by omega
  refine ⟨_, rfl, _, rfl, z, 2003, rfl, rfl, ⟨by omega, by omega⟩, _, 40692, rfl, rfl, z, _, rfl, rfl, .inl ⟨by omega, by omega⟩, .inl ⟨_, rfl, _, _, rfl, rfl, by omega, ?_⟩⟩
  dsimp only
  generalize hu : z * (z / 2003 + 40692) % 2147483399 = u
  refine ⟨_, rfl, u, 16, rfl, rfl, ⟨by omega, by omega⟩, .inl ⟨_, rfl, _, rfl, u / 16, lim, rfl, rfl, h0, ?_⟩⟩
  exact k _ (Int.emod_nonneg _ (by omega)) (Int.emod_lt_of_pos _ h0)
theorem draw2 {a s c lim : Int} {x2 x3 x4 x5 : Option V} (hb : H b = some (.lst [.ref l, .int a, .int s, .int c])) (h0 : 0 < lim) (h1 : lim < 2 ^ 200)
    (k : E.rt (.int (a % lim)) (upd H b (.lst [.ref l, .int (a / lim), .int s, .int c]))) : tDraw2 K E [some (.ref b), some (.int lim), x2, x3, x4, x5] H := by
  refine bg_get rfl hb rfl (.inl ⟨a, rfl, _, rfl, a, lim, rfl, rfl, h0, ?_⟩)
  refine bg_get (b := b) rfl hb rfl ⟨_, rfl, a, lim, rfl, rfl, wide_div (b := 200) h0 ?_ (by omega) (by omega), ?_⟩
  · have e : (lim.natAbs : Int) < ((2 ^ 200 : Nat) : Int) := by
      rw [Int.natAbs_of_nonneg (Int.le_of_lt h0)]
      have z : ((2 ^ 200 : Nat) : Int) = 2 ^ 200 := by norm_cast
      rw [z]; exact h1
    exact Int.ofNat_lt.mp e
  · exact bg_set (b := b) rfl hb rfl ⟨_, rfl, k⟩
theorem draw1 {n : Int} {r : List Int} {s c lim : Int} {x2 x3 x4 x5 : Option V} (hb : H b = some (.lst [.ref l, .int 0, .int s, .int c])) (hl : H l = some (.lst ((n :: r).map V.int))) (ne : b ≠ l)
    (k : ∀ a' s' y2 y3, 0 ≤ a' → 0 ≤ s' → s' < 2147483647 → E.nx [some (.ref b), some (.int lim), y2, y3, x4, x5] (upd (upd H l (.lst (r.map V.int))) b (.lst [.ref l, .int a', .int s', .int c]))) :
    tDraw1 K E [some (.ref b), some (.int lim), x2, x3, x4, x5] H := by
  refine bg_get rfl hb rfl ⟨.inl ⟨rfl, _, SqL.of hl⟩, l, _, 0, 0, .int n, rfl, rfl, hl, by omega, by omega, seqIx (by omega) (by rw [List.length_map, List.length_cons]; exact Nat.succ_pos _), rfl, ?_⟩
  have hb2 : upd H l (.lst (r.map V.int)) b = some (.lst [.ref l, .int 0, .int s, .int c]) := by rw [upd_ne ne]; exact hb
  refine ⟨_, rfl, 2, n, rfl, rfl, .inl ⟨by omega, by omega⟩, ?_⟩
  have rest : ∀ m : Int, 0 ≤ m → tSeq (tIfS (tTest (tOp iGe (tVar 3) (tOp iPow (cI 10) (cI 18)))) (tAsg (tVar 3) (gBg 1)) tNext)
      (tAsg (tOp iMod (tInt (tOp iAdd (tOp iAdd (tOp iMul (tBg K 2) (cI 48271)) (tVar 3)) (cI 1))) (cI 2147483647)) (gBg 2)) E [some (.ref b), some (.int lim), some (.int n), some (.int m), x4, x5] (upd H l (.lst (r.map V.int))) := by
    intro m m0
    refine ⟨_, rfl, 10, 18, rfl, rfl, ⟨by omega, by omega, by decide⟩, m, _, rfl, rfl, _, rfl, ?_⟩
    dsimp only
    split
    · refine ⟨_, rfl, bg_set rfl hb2 rfl ?_⟩
      have hb3 : upd (upd H l (.lst (r.map V.int))) b (.lst [.ref l, .int m, .int s, .int c]) b = some (.lst [.ref l, .int m, .int s, .int c]) := upd_same
      refine bg_get (b := b) rfl hb3 rfl ⟨s, 48271, rfl, rfl, .inr (by omega), _, rfl, _, m, rfl, rfl, _, 1, rfl, rfl, .inl ⟨_, rfl, _, _, rfl, rfl, by omega, ?_⟩⟩
      refine bg_set (b := b) rfl hb3 rfl ?_
      rw [upd_upd]
      exact k m _ _ _ m0 (Int.emod_nonneg _ (by omega)) (Int.emod_lt_of_pos _ (by omega))
    · refine bg_get (b := b) rfl hb2 rfl ⟨s, 48271, rfl, rfl, .inr (by omega), _, rfl, _, m, rfl, rfl, _, 1, rfl, rfl, .inl ⟨_, rfl, _, _, rfl, rfl, by omega, ?_⟩⟩
      refine bg_set (b := b) rfl hb2 rfl ?_
      exact k 0 _ _ _ (by omega) (Int.emod_nonneg _ (by omega)) (Int.emod_lt_of_pos _ (by omega))
  refine ⟨_, rfl, n, 0, rfl, rfl, _, rfl, ?_⟩
  dsimp only
  split
  · rename_i neg
    have neg' : n < 0 := of_decide_eq_true neg
    refine ⟨2, rfl, _, rfl, -2, n, rfl, rfl, .inl ⟨by omega, by omega⟩, _, 1, rfl, rfl, ?_⟩
    exact rest (-2 * n - 1) (by omega)
  · rename_i neg
    have neg' : ¬ n < 0 := fun z => neg (decide_eq_true z)
    exact rest (2 * n) (by omega)
theorem draw_all {a s c lim : Int} {ns : List Int} {x2 x3 x4 x5 : Option V} (hb : H b = some (.lst [.ref l, .int a, .int s, .int c])) (hl : H l = some (.lst (ns.map V.int))) (ne : b ≠ l) (a0 : 0 ≤ a) (s0 : 0 ≤ s) (s1 : s < 2147483647) (c0 : 0 ≤ c) (few : ns.length ≤ 63) (h0 : 0 < lim) (h1 : lim < 2 ^ 200)
    (k : ∀ d H', 0 ≤ d → d < lim → BagAt H' b l → (∀ x, x ≠ b → x ≠ l → H' x = H x) → E.rt (.int d) H') : tDraw K E [some (.ref b), some (.int lim), x2, x3, x4, x5] H := by
  have tail : ∀ (a s : Int) (ns : List Int) (H1 : Hp) (x2 x3 : Option V), H1 b = some (.lst [.ref l, .int a, .int s, .int c]) → H1 l = some (.lst (ns.map V.int)) → 0 ≤ a → 0 ≤ s → s < 2147483647 → ns.length ≤ 63 → (∀ x, x ≠ b → x ≠ l → H1 x = H x) →
      tSeq (tIfS (tTest (tOp iGt (tBg K 1) (cI 0))) (tDraw2 K) tNext) (tDraw3 K) E [some (.ref b), some (.int lim), x2, x3, x4, x5] H1 := by
    intro a s ns H1 x2 x3 hb hl a0 s0 s1 few sm
    refine bg_get rfl hb rfl ⟨a, 0, rfl, rfl, _, rfl, ?_⟩
    dsimp only
    split
    · refine draw2 hb h0 h1 (k _ _ (Int.emod_nonneg _ (by omega)) (Int.emod_lt_of_pos _ h0) ⟨ns, a / lim, s, c, upd_same, ?_, few, Int.ediv_nonneg a0 (by omega), s0, s1, c0⟩ fun x n1 n2 => ?_)
      · rw [upd_ne (Ne.symm ne)]; exact hl
      · rw [upd_ne n1]; exact sm x n1 n2
    · refine draw3 hb h0 fun d d0 d1 => k _ _ d0 d1 ⟨ns, a, s, c + 1, upd_same, ?_, few, a0, s0, s1, by omega⟩ fun x n1 n2 => ?_
      · rw [upd_ne (Ne.symm ne)]; exact hl
      · rw [upd_ne n1]; exact sm x n1 n2
  refine bg_get rfl hb rfl ⟨rfl, _, rfl, ?_⟩
  dsimp only
  split
  · rename_i za
    have za' : a = 0 := by
      have := of_decide_eq_true za
      injection this
    subst za'
    refine bg_get rfl hb rfl ⟨_, (ns.map V.int).length, rfl, .inl ⟨_, SqL.of hl, rfl⟩, _, 0, rfl, rfl, _, rfl, ?_⟩
    dsimp only
    split
    · rename_i pos
      cases ns with
      | nil => simp at pos
      | cons n r =>
        refine draw1 hb hl ne fun a' s' y2 y3 q1 q2 q3 => tail a' s' r _ y2 y3 upd_same ?_ q1 q2 q3 ?_ fun x n1 n2 => ?_
        · rw [upd_ne (Ne.symm ne), upd_same]
        · simp only [List.length_cons] at few; omega
        · rw [upd_ne n1, upd_ne n2]
    · exact tail 0 s ns H _ _ hb hl a0 s0 s1 few fun _ _ _ => rfl
  · exact tail a s ns H _ _ hb hl a0 s0 s1 few fun _ _ _ => rfl
end
end Tl
namespace Tl
open PySem PySem.Spec PyProof.Rows L2
section
variable {P : Program} {w : World} {K : PySem.W.Frag} {mg : Str → Option Value} {base : Heap} {x qual : Str} {params : Arguments} {body : List Stmt} {scope : Scope} {dvs : List V} {kws : List (Str × V)} {f : Addr} {fd : FuncData} {k : Nat}
theorem pure_draw {vs : List V} {H : Hp} {Q : VK} {E : XK} (h : spOf K fsDraw vs H Q E) : vs.length = 2 ∧ tDraw K { nx := fun _ H' => Q .non H', rt := Q } (vs.map some ++ List.replicate (6 - vs.length) none) H := by
  obtain ⟨F, os, R, ex, rk, e, b, l, lim, rfl, h0, h1, m, k⟩ := h
  obtain ⟨v, u, rfl, ev, eu⟩ := ens2i e
  have ev' := en_adr ev
  subst ev'
  rw [of_int (en_val eu)]
  refine ⟨rfl, ?_⟩
  obtain ⟨ns, a, s, c, hb, hl, few, a0, s0, s1, c0⟩ := rk.ok _ m
  have ne : b ≠ l := by
    intro z
    rw [z, hl] at hb
    cases ns with
    | nil => cases hb
    | cons n r => cases hb
  refine draw_all hb hl ne a0 s0 s1 c0 few h0 h1 fun d H' d0 d1 bg sm => ?_
  obtain ⟨A, B, rfl⟩ := List.append_of_mem m
  refine k d d0 d1 (.int d) F H' (Fin.mut (r := .bag b l) (s := .bag b l) ex rk rfl (fun y hy => sm y (fun z => hy (by rw [z]; simp [Res.fp])) (fun z => hy (by rw [z]; simp [Res.fp]))) (fun y hy => ?_) bg) (enVal (rep_int d))
  obtain ⟨o, e⟩ := (show (Res.bag b l).ok K F H' from bg).there hy
  rw [e]
  exact fun z => nomatch z
theorem fn_draw {N ps : List Str} (Fd : FunD K x qual params body scope dvs kws f fd) (Sc : FnScope N ps scope) (hN : N.length = 6) (hps : ps.length = 2)
    (hd : ∀ (cdv : Value) (A : Around) (outer : List Env) (s : Shared) (H : Hp) (E : XK), PSs (cxOf (L2.CX P w) P w K mg base N qual scope f cdv A outer s H E) body (tDraw K)) : FnOk P w K mg base (L2.CX P w) (k + 1) f fd ps (spOf K fsDraw) := by
  refine Fd.ok Sc (fun vs H Q E h => ?_) (fun cdv A outer s H vs Q E hr h => ⟨tDraw K, hd cdv A outer s H E, ?_⟩)
  · rw [(pure_draw h).1, hps]
  · unfold L2.start
    rw [hN]
    exact (pure_draw h).2
abbrev rLOf (K : PySem.W.Frag) : List V → Hp → VK → Prop := fun xs H Q => ∃ p ys, xs = [.ref p] ∧ (SqL K H p ys ∨ SqT K H p ys) ∧ ∀ l, H l = none → Q (.ref l) (upd H l (.lst ys))
def tBag (K : PySem.W.Frag) : TS := tRet (tLst (tCons (tCB (rLOf K) (tCons (tSl (rSlL K) (tVar 0) tNoPart (tPart (cI 63))) tNil)) (tCons (cI 0) (tCons (cI 0) (tCons (cI 0) tNil)))))
def spBag (K : PySem.W.Frag) : Sp := fun vs H Q _ => ∃ (a : Addr) (ns : List Int), vs = [.ref a] ∧ SqL K H a (ns.map V.int) ∧ ns.length ≤ 63 ∧ ∀ b l H', BagAt H' b l → b ≠ l → Q (.ref b) H'
theorem fn_bag {N ps : List Str} (Fd : FunD K x qual params body scope dvs kws f fd) (Sc : FnScope N ps scope) (hN : N.length = 1) (hps : ps.length = 1)
    (hd : ∀ (cdv : Value) (A : Around) (outer : List Env) (s : Shared) (H : Hp) (E : XK), PSs (cxOf (L2.CX P w) P w K mg base N qual scope f cdv A outer s H E) body (tBag K)) : FnOk P w K mg base (L2.CX P w) (k + 1) f fd ps (spBag K) := by
  refine Fd.ok Sc (fun vs H Q E h => ?_) (fun cdv A outer s H vs Q E hr h => ⟨tBag K, hd cdv A outer s H E, ?_⟩)
  · obtain ⟨a, ns, rfl, _⟩ := h
    rw [hps]; rfl
  · obtain ⟨a, ns, rfl, sq, few, q⟩ := h
    unfold L2.start
    rw [hN]
    have cut : cutV (ns.map V.int) none (some 63) = ns.map V.int := by
      unfold cutV
      rw [HT.sIx_none, show HT.sIx (ns.map V.int).length (ns.map V.int).length (some 63) = min 63 (ns.map V.int).length from HT.sIx_nat _ _ 63, List.length_map]
      show List.take (min 63 ns.length - 0) (ns.map V.int) = _
      rw [List.take_of_length_le (by rw [List.length_map]; omega)]
    refine ⟨.ref a, rfl, 63, rfl, a, _, rfl, sq, fun p0 h0 => ?_⟩
    rw [cut]
    refine ⟨p0, _, rfl, .inl (SqL.of upd_same), fun p1 h1 => ⟨by show 4 ≤ sizeLine; decide, fun p2 h2 => ?_⟩⟩
    have n12 : p1 ≠ p2 := fun z => by
      rw [← z, upd_same] at h2
      cases h2
    refine q p2 p1 _ ⟨ns, 0, 0, 0, upd_same, ?_, few, by omega, by omega, by omega, by omega⟩ (Ne.symm n12)
    rw [upd_ne n12, upd_same]
def spLaw (K : PySem.W.Frag) : Sp := fun vs H Q _ => ∃ (a : Addr) (ns : List Int), vs = [.ref a] ∧ SqL K H a (ns.map V.int) ∧ ns.length ≤ 63 ∧ ∀ H', Q (.bl true) H'
/-- the law's own rule: its first statement lays the bag, the others go by data -/
theorem fn_law {N : List Str} {y : Str} {st : Stmt} {rest : List Stmt} {n : Nat} (Fd : FunD K x qual params body scope dvs kws f fd) (Sc : FnScope N [y] scope) (hN : N.length = n + 2) (hbody : body = st :: rest)
    (hb : ∀ (cdv : Value) (A : Around) (outer : List Env) (s : Shared) (H : Hp) (E : XK), Room k (A.deeper (envOfC qual scope s.heap.objs.size f cdv)) → Tk (cxOf (L2.CX P w) P w K mg base N qual scope f cdv A outer s H E) (WF E) →
      PS (cxOf (L2.CX P w) P w K mg base N qual scope f cdv A outer s H E) st (tAsg (tCallSD (spBag K) [] (L2.WE (WF E)) (tCons (tVar 0) tNil)) (gName 1)) ∧
      ∃ ts ws, DSs (cxOf (L2.CX P w) P w K mg base N qual scope f cdv A outer s H E) (WF E) rest ts ws ∧
        ∀ b l, ws (.no :: .adr b :: List.replicate n .no) [.bag b l] { nx := fun _ _ => False, rt := fun o _ => o = .val (.bl true) } (fun _ _ _ => False)) :
    FnOk P w K mg base (L2.CX P w) (k + 1) f fd [y] (spLaw K) := by
  subst hbody
  refine Fd.ok Sc (fun vs H Q E h => ?_) (fun cdv A outer s H vs Q E hr h => ?_)
  · obtain ⟨a, ns, rfl, _⟩ := h
    rfl
  · obtain ⟨a, ns, rfl, sq, few, q⟩ := h
    obtain ⟨p1, ts, ws, dd, go⟩ := hb cdv A outer s H E hr ⟨takes_of rfl rfl rfl rfl, passes_of rfl⟩
    refine ⟨_, pss_cons p1 dd.p, ?_⟩
    unfold L2.start
    rw [hN]
    refine ⟨.ref a, rfl, a, ns, rfl, sq, few, fun b l H' bg ne => ?_⟩
    have rk : ROk K (fun _ => none) H' [.bag b l] := ⟨fun r hr => by
      rw [List.mem_singleton.mp hr]
      exact bg, by
      show [b, l].Nodup
      simp only [List.nodup_cons, List.mem_singleton, List.not_mem_nil, not_false_eq_true, List.nodup_nil, and_true]
      exact ne, fun _ _ => rfl⟩
    have st : S K ⟨fun _ => none, H', [.bag b l]⟩ (.no :: .adr b :: List.replicate n .no) [.bag b l] (some (.ref a) :: some (.ref b) :: List.replicate n none) (fun _ => none) H' :=
      ⟨.same (fun _ _ h => nomatch h) rk, ⟨_, _, rfl, trivial, _, _, rfl, rfl, env_no n⟩⟩
    refine dd.v _ _ _ _ _ (fun er env R' σ F' H' cls d hp => False.elim hp) (go b l) _ _ _ _ st ⟨fun env R' σ F' H' hp => False.elim hp, fun o R' v F' H' hp f' eo => ?_, fun env R' σ F' H' hp s' => False.elim hp, fun env R' σ F' H' hp s' => False.elim hp⟩
    subst hp
    rw [of_bl (en_val eo)]
    exact q H'
end
end Tl
namespace Tl
open PySem PySem.Spec PyProof.Rows L2
theorem walk_w {law : PySem.W.OpenLaw} {most k : Nat} {q : Program} {loose : List Str} {XP : (Str → Option Value) → Heap → Prop} {YP : World → Heap → Prop} {d : DefRec} {x : Str} (hm : law.most = some most) (hs : most ≤ sizeLine) (hp : d.params.defaults = []) (hr : Room k callerA)
    (give : ∀ (w : World) (mg : Str → Option Value) (f : Addr) (h : Heap), YP w h → h.Ns mainGlobals mg → mg d.name = some (.ref f) → ∃ (K : PySem.W.Frag) (fd : FuncData), K.In h ∧ (∀ (s : Shared) (u : Value), BindsTo s fd ⟨[u], []⟩ [(x, u)]) ∧ most ≤ 63 ∧
      ∀ base : Heap, K.In base → base.Ns mainGlobals mg → FnOk law.prog w K mg base (L2.CX law.prog w) k f fd [x] (spLaw K)) : PySem.W.WalkO q loose XP YP law.row.toRowW d [] (fun f vs => PySem.call f vs) := by
  refine Att.attach_call hm hp fun w s0 s1 mg mb f o pm cd doc a vs ns G Y ho hd hcd hmg hobj hints hlen hg => ?_
  obtain ⟨K, fd, inK, bind, m63, ok⟩ := give w mg f _ Y G.T.g hmg
  refine law_call inK G.T.g G.T.b G.T.builtins G.T.nolimit hg hobj hints (Nat.le_trans hlen hs) hr ok bind (fun H hO hS => ⟨a, ns, rfl, hS, Nat.le_trans hlen m63, fun _ => rfl⟩) fun H e s' z => ?_
  obtain ⟨_, _, _, _, _, _, _, _, _, _, _, _, z⟩ := z
  exact z
end Tl
section
set_option maxHeartbeats 2000000
namespace Exf
open PySem PySem.W PySem.Calls PyProof.Rows
open PySem.HandSPX (excO refsVE refsVE_contains exc_osa)
/-- the text of such an __init__ -/
def bodyX (f msg : Str) (k : Nat) (p0 p1 p2 p3 p4 p5 q1 q2 q3 q4 : Pos) : List Stmt :=
  [.Expr (.Call (.Attribute (.Call (.Name "super" p0) [] [] p1) "__init__" p2) [.Constant (.str msg) k p3] [] p4) p5, .Assign [.Attribute (.Name "self" q1) f q2] (.Name f q3) q4]
def argsX (f : Str) (p1 p2 : Pos) : Arguments := { posonlyargs := [], args := [{ arg := "self", annotation := none, pos := p1 }, { arg := f, annotation := none, pos := p2 }], vararg := none, kwonlyargs := [], kw_defaults := [], kwarg := none, defaults := [] }
def scopeX (f : Str) : Scope := { kind := .function, names := [(PySem.Str.ofString "self", .local), (f, .local), (PySem.Str.ofString "__class__", .free), (PySem.Str.ofString "super", .globalImplicit)], isGenerator := false, isCoroutine := false, more := [] }
/-- what the written part says of the class at C and of its __init__ at fI -/
structure XTxt (prog : Program) (K : Frag) (C fI : Addr) (f : Str) : Prop where
  cls : ∃ nm q N bs bm sn sub ab col dd k0 k1 k2 k3 k5, K.lookup C = some (excClassObj nm q C N bs bm true sn sub ab col dd k0 k1 k2 k3 k5 "ValueError.__new__") ∧ refsVE bm = true
  sa : findIn K (.ref C) "__setattr__" = some (some (.builtin "object.__setattr__"))
  no : findIn K (.ref C) f = some none
  ini : findIn K (.ref C) "__init__" = some (some (.ref fI))
  ty : typeIn K (.ref fI) = some (.type "function")
  sup : ks_superIn K C C "__init__" = some (some (.builtin "ValueError.__init__"))
  ve : subIn K (.ref C) (.type "ValueError") = some true
  me : mroIn K C (.ref C) = some true
  opq : nsIn K cStatics "thirdparty.any" = some none
  top : (prog.main.scope.names.lookup ("super" : Str)).isSome = false
  f1 : f ≠ "self"
  f2 : f ≠ "__class__"
  f3 : f ≠ "super"
  f4 : f ≠ "__debug__"
  f5 : f ≠ "__classdict__"
  fn : ∃ (oc : Value) (od : Option Addr) (qual : Str) (doc pm : Value) (an : Option Addr) (cda : Addr) (ct : Value) (osl : Array (Option Value)) (cc : Addr) (msg : Str) (k : Nat) (a1 a2 p0 p1 p2 p3 p4 p5 q1 q2 q3 q4 : Pos),
    K.lookup fI = some ⟨oc, od, .func (ksFn "__init__" qual (argsX f a1 a2) (bodyX f msg k p0 p1 p2 p3 p4 p5 q1 q2 q3 q4) (scopeX f) .none .none doc pm an (.ref cda) ct cc), osl⟩ ∧ codeIn K (.ref cda) qual = true ∧
    (∃ ccl cdd vs ccs file tf, K.lookup cda = some ⟨ccl, cdd, .fields vs, ccs⟩ ∧ vs[2]? = some (.str file tf) ∧ ((prog.main.file : Str) == file) = true) ∧ (∃ cl cld csl, K.lookup cc = some ⟨cl, cld, .cell (some (.ref C)), csl⟩) ∧
    (∀ u v : Value, bindArgs (ksFn "__init__" qual (argsX f a1 a2) (bodyX f msg k p0 p1 p2 p3 p4 p5 q1 q2 q3 q4) (scopeX f) .none .none doc pm an (.ref cda) ct cc) ⟨[u, v], []⟩ = pure [(("self" : Str), u), (f, v)]) ∧
    ∀ env : Env, ∃ pl : Sem Bool, eval (.Call (.Attribute (.Call (.Name "super" p0) [] [] p1) "__init__" p2) [.Constant (.str msg) k p3] [] p4) env = (do
      let ov ← attributeBase (.Call (.Name "super" p0) [] [] p1) "__init__" env (eval (.Call (.Name "super" p0) [] [] p1) env)
      standAt p2.atName
      let (g, first) ← holding [ov] (getMethod ov "__init__" pl)
      callWith p4 g first (backTo p4 (starEach [.Constant (.str msg) k p3] env)) [])
structure InitEnd (h h' : Heap) (x C dx t1 : Addr) (f : Str) (v : Value) : Prop where
  keep : ∀ b o, b ≠ x → h.get? b = some o → h'.get? b = some o
  obj : h'.get? x = some { cls := .ref C, dict := some dx, data := .fields #[.ref t1, .none, .none, .none, .bool false, .none] }
  big : h.objs.size ≤ dx
  ne : dx ≠ x
  ns : h'.Ns1 dx (fun y => if y = f then some v else none)
section
variable {prog : Program} {w : World} {A : Around} {E : Value → Shared → Prop} {R : Result → Shared → Prop} {s : Shared} {K : Frag} {mg mb : Str → Option Value} {C fI : Addr} {f : Str}
/-- the bound __init__ of ValueError, called -/
theorem call_mw {u e t0 : Addr} {rest : List Value} {Q : Value → Shared → Prop} {h : Heap} {g : Array GenState} {d : Drawn} {t : Nat} {os : OsState} {nm q : Str} {N : Addr} {bs bm : List Value} {hdct : Bool} {sn : List Str} {sub : List Value} {ab : Bool} {col : Option Bool} {dd : Option Addr} {k0 k1 k2 k3 k5 : Option Value}
    (hC : h.get? C = some (excClassObj nm q C N bs bm hdct sn sub ab col dd k0 k1 k2 k3 k5 "ValueError.__new__")) (he : h.get? e = some (excO C t0)) (hu : h.get? u = some (kxs_mw "ValueError.__init__" e)) (fit : rest.length ≤ sizeLine)
    (hq : ∀ h', (∀ b o, b ≠ e → h.get? b = some o → h'.get? b = some o) → h'.get? e = some (excO C h.objs.size) → Q .none ⟨h', g, d, t, os⟩) : wpAny (model prog w) A (call (.ref u) rest) Q E ⟨h, g, d, t, os⟩ := by
  refine wpAny_call (codeAny_of_tree ?_)
  show wpAny _ A.in1 (callAny (.ref u) ⟨rest, []⟩) _ _ _
  simp only [callAny]
  refine wpAny_bind (wpAny_load hu ?_)
  simp only [kxs_mw, show (Value.type "method-wrapper" == Value.type "method" || Value.type "method-wrapper" == Value.type "builtin_function_or_method" || Value.type "method-wrapper" == Value.type "method-wrapper") = true by decide, if_true]
  refine KFB.if_so (by decide) (wpAny_bind (check_bound_init F.excBase_ValueError.toExcCallFacts hC he rfl (wpAny_bind (wpAny_pure (wpAny_pure ?_)))))
  refine ⟨plainId_quiet F.excBase_ValueError.init.plain _, codeAny_builtin F.excBase_ValueError.initEntry ?_⟩
  exact exc_init_tree (cls := .ref C) (t0 := t0) (dv := none) (c2 := .none) (c3 := .none) (b4 := .bool false) he fit fun h' a b _ => hq h' a b
theorem look_self (hf : f ≠ "self") : (scopeX f).names.lookup ("self" : Str) = some .local := by
  rfl
theorem look_f (hf : f ≠ "self") : (scopeX f).names.lookup f = some .local := by
  show (match f == ("self" : Str) with | true => _ | false => _) = _
  rw [beq_eq_false_iff_ne.mpr hf]
  show (match f == f with | true => _ | false => _) = _
  rw [beq_self_eq_true]
theorem look_cls (h2 : f ≠ "__class__") : (scopeX f).names.lookup ("__class__" : Str) = some .free := by
  show (match ("__class__" : Str) == ("self" : Str) with | true => some NameKind.local | false => match ("__class__" : Str) == f with | true => _ | false => _) = _
  rw [show (("__class__" : Str) == ("self" : Str)) = false by decide +kernel]
  dsimp only
  rw [beq_eq_false_iff_ne.mpr (Ne.symm h2)]
  rfl
theorem look_sup (h3 : f ≠ "super") : (scopeX f).names.lookup ("super" : Str) = some .globalImplicit := by
  show (match ("super" : Str) == ("self" : Str) with | true => some NameKind.local | false => match ("super" : Str) == f with | true => _ | false => _) = _
  rw [show (("super" : Str) == ("self" : Str)) = false by decide +kernel]
  dsimp only
  rw [beq_eq_false_iff_ne.mpr (Ne.symm h3)]
  rfl
end
end Exf
end
section
set_option maxHeartbeats 4000000
namespace Exf
open PySem PySem.W PySem.Calls PyProof.Rows
open PySem.HandSPX (excO refsVE refsVE_contains exc_osa)
section
variable {prog : Program} {w : World} {A : Around} {E : Value → Shared → Prop} {R : Result → Shared → Prop} {s : Shared} {K : Frag} {mg mb : Str → Option Value} {C fI : Addr} {f : Str}
theorem x_init (T : XTxt prog K C fI f) {x t0 : Addr} {v : Value} (X : K.In s.heap) (G : s.heap.Ns mainGlobals mg) (gs : mg "super" = none) (Bn : s.heap.Ns builtinsNs mb) (bs : mb "super" = some (.type "super")) (hlim : s.heap.NoLimit) (hx : s.heap.get? x = some (excO C t0)) (hnx : K.lookup x = none) (hroom : A.depth < recursionLimit)
    (hq : ∀ h' tk dx t1, InitEnd s.heap h' x C dx t1 f v → R (.ok (.ret .none)) { s with heap := h', toks := tk }) : codeAny (model prog w) A (.call (.ref fI) ⟨[.ref x, v], []⟩) R s := by
  obtain ⟨oc, od, qual, doc, pm, an, cda, ct, osl, cc, msg, k, a1, a2, p0, p1, p2, p3, p4, p5, q1, q2, q3, q4, ho, hcd, ⟨ccl, cdd, vs, ccs, file, tf, hcode, hvs, hfile⟩, ⟨cl, cld, csl, hcell⟩, bd, ev⟩ := T.fn
  obtain ⟨nm, q, N, bs', bm, sn, sub, ab, col, dd, k0, k1, k2, k3, k5, hC, hbm⟩ := T.cls
  have hcl : clsIn K C = some { name := nm, bases := bs', mro := .ref C :: bm, ns := N, qualname := q, hasDict := true, slotNames := sn, subclasses := sub, abstract := ab, collection := col, hasDel := false } := by
    unfold clsIn
    rw [hC]
  have l1 := look_self T.f1
  have l2 := look_f T.f1
  have l3 := look_cls T.f2
  have l4 := look_sup T.f3
  have dbg : (f == ("__debug__" : Str)) = false := beq_eq_false_iff_ne.mpr T.f4
  refine ks_codeAny_call_defAt (fd := ksFn "__init__" qual (argsX f a1 a2) (bodyX f msg k p0 p1 p2 p3 p4 p5 q1 q2 q3 q4) (scopeX f) .none .none doc pm an (.ref cda) ct cc) (binds := [("self", .ref x), (f, v)]) hroom (X _ _ ho) rfl hlim (codeRec_of X hcd) rfl ?bind ?cell ?loc (fun h₁ hns hk₁ => ?_) rfl rfl rfl
  case bind => exact BindsTo.of_eq (bd _ _)
  case cell =>
    intro y hy
    have hy' : y ∈ (scopeX f).names := hy
    simp only [scopeX, List.mem_cons, List.not_mem_nil, or_false] at hy'
    rcases hy' with rfl | rfl | rfl | rfl <;> exact fun z => nomatch z
  case loc =>
    intro y hy
    simp only [List.mem_cons, List.not_mem_nil, or_false] at hy
    rcases hy with rfl | rfl
    · exact l1
    · exact l2
  have X₁ : K.In h₁ := X.keeps hk₁
  have hx₁ := hk₁ _ _ hx
  have hm1 : ([(("self" : Str), Value.ref x), (f, v)].reverse.lookup ("self" : Str)) = some (.ref x) := by
    show (match ("self" : Str) == f with | true => some v | false => _) = _
    rw [beq_eq_false_iff_ne.mpr (Ne.symm T.f1)]
    rfl
  have hm2 : ([(("self" : Str), Value.ref x), (f, v)].reverse.lookup f) = some v := by
    show (match f == f with | true => some v | false => _) = _
    rw [beq_self_eq_true]
  obtain ⟨oC, hC1, hC2⟩ : ∃ oC, h₁.get? C = some oC ∧ oC.data = .cls { name := nm, bases := bs', mro := .ref C :: bm, ns := N, qualname := q, hasDict := true, slotNames := sn, subclasses := sub, abstract := ab, collection := col, hasDel := false } := ⟨_, X₁ _ _ hC, rfl⟩
  -- super().__init__(msg)
  obtain ⟨pl, hev⟩ := ev (callEnv (ksFn "__init__" qual (argsX f a1 a2) (bodyX f msg k p0 p1 p2 p3 p4 p5 q1 q2 q3 q4) (scopeX f) .none .none doc pm an (.ref cda) ct cc) s.heap.objs.size fI)
  refine ks_wpAt_execs_cons (ks_wpAt_Expr_any (ks_wpAt_MethodCall (pl := pl) ?_ hev))
  refine ks_wpAt_super_base (ar := ⟨"self", none, a1⟩) l4 l3 (by decide +kernel) rfl (X₁ _ _ ho) rfl rfl rfl (X₁ _ _ hcode) rfl hvs hfile T.top ?_
  refine ks_loadName_global rfl l4 (loadGlobal_builtin (G.keeps hk₁) gs (Bn.keeps hk₁) bs ⟨rfl, ?_⟩)
  refine wpAny_loadName_free rfl l3 rfl ⟨_, X₁ _ _ hcell, rfl⟩ (wpAny_loadName_local rfl l1 hns hm1 (ks_wpAny_isType_cls hC1 hC2 ⟨rfl, ?_⟩))
  refine ks_wpAny_call_super hC1 hC2 hx₁ rfl (fun c e => nomatch e) (looks_mroIn X₁ T.me) (fun h₂ e2 k2 => ?_)
  have X₂ : K.In h₂ := X₁.keeps k2
  have hx₂ := k2 _ _ hx₁
  have I₂ : InstAt h₂ x (excO C t0) C none := ⟨hx₂, rfl, rfl, trivial⟩
  have sup := T.sup
  unfold ks_superIn at sup
  rw [hcl] at sup
  refine kxs_getMethod kxs_ValueError e2 (looks_opaque X₂ T.opq) (l₀ := .ref C :: bm) (fun A Q E s k q => wpAny_bind ((looks_clsIn X₂ hcl) A _ E s k (wpAny_pure q))) rfl X₂ sup (I₂.type.andThen (looks_subIn X₂ T.ve)) (ks_ne X₂ I₂ hcl) (by decide +kernel) ?_
  refine kxs_callWith (i := "ValueError.__init__") (x := x) rfl (evalArgs_plain (Calls.spliced_cons (@Calls.Constant_str _ _ _ _ _ msg k p3 _ (Calls.spliced_nil ?_))))
  refine ⟨Heap.get?_push_size _ rfl, ?_⟩
  refine call_mw (Heap.get?_push_of_some _ (X₂ _ _ hC)) (Heap.get?_push_of_some _ hx₂) (Heap.get?_push_size _ rfl) (by show 1 ≤ sizeLine; decide) fun h₃ k3 e3 => ?_
  -- self.f = f
  have k13 : ∀ b o, b ≠ x → h₁.get? b = some o → h₃.get? b = some o := fun b o hb e => k3 b o hb (Heap.get?_push_of_some _ (k2 b o e))
  have Lx : s.heap.objs.size ≠ x := Nat.ne_of_gt (Heap.lt_size hx)
  have ns3 : h₃.Ns s.heap.objs.size (fun y => [(("self" : Str), Value.ref x), (f, v)].reverse.lookup y) := by
    obtain ⟨o, es, ep, e, r⟩ := hns
    exact ⟨o, es, ep, k13 _ _ Lx e, r⟩
  have X₃ : K.In h₃ := fun b o e => k13 b o (fun z => by rw [z, hnx] at e; cases e) (X₁ _ _ e)
  have I₃ : InstAt h₃ x (excO C (h₂.push (kxs_mw "ValueError.__init__" x)).objs.size) C none := ⟨e3, rfl, rfl, trivial⟩
  refine ks_wpAt_execs_cons (ks_wpAt_Assign_Attr (wpAt_of_wpAny (wpAny_Name (wpAny_loadName_local rfl l2 ns3 hm2 ?_) dbg)))
  refine wpAny_Name (wpAny_loadName_local rfl l1 ns3 hm1 ?_) (by decide +kernel)
  refine set_plain X₃ I₃ T.sa (exc_osa X₃ e3 hcl (show refsVE (.ref C :: bm) = true from hbm) rfl T.no (fun h₄ tk₄ dx k4 big ne obj ns => ?_))
  refine wpAt_of_wpAny (wpAny_execs_nil (hq h₄ _ dx _ ⟨fun b o hb e => k4 b o hb (k13 b o hb (hk₁ b o e)), obj, ?_, ne, ns⟩))
  exact Nat.le_of_lt (Nat.lt_of_lt_of_le ns3.lt big)
end
end Exf
end
namespace Tl
open PySem PySem.Spec PyProof.Rows L2
/-- an own error class over ValueError, without an own __init__ -/
structure ExK (K : PySem.W.Frag) (mg : Str → Option Value) (c : Str) : Prop where
  q : PySem.W.excIn K (He.ga K c) He.veBase "ValueError.__new__" = true
  kp : PySem.W.keepIn K (.ref (He.ga K c)) = true
  sb : PySem.W.subIn K (.ref (He.ga K c)) (.type "BaseException") = some true
  ty : PySem.W.typeIn K (.ref (He.ga K c)) = some (.type "type")
  gl : mg c = some (.ref (He.ga K c))
section
variable {X : Cx} {W : WX} {c : Str} {p pos pos' : Pos}
theorem pmk_own0 (k : ExK X.K X.mg c) (hg : Gl X c) (hdb : (c == ("__debug__" : Str)) = false := by decide) : PMk X (.Call (.Name c p) [] [] pos) (fun _ H Q => Q (.ref (He.ga X.K c)) none H) := by
  intro pins s σ H Q I h
  refine wpAny_Call_Name_kw (ld_glob I hg k.gl (PySem.W.callWith_K0 I.kIn k.kp ?_) hdb)
  show wpAny _ _ (call (.ref (He.ga X.K c)) []) _ _ _
  obtain ⟨bm, N, nm, qn, bs, hdct, sn, sub, ab, col, dd, k0, k1, k2, k3, k5, mN, hC, hN, hni, T⟩ := exc_obj I.kIn k.q
  refine wpAny_call_exc_subT PySem.F.excBase_ValueError T hC hN hni (fun h' e hm => ?_) (Nat.zero_le _)
  exact mk_of I hm (raises_own k.sb k.ty) h (I.hok.gone hm.new)
theorem s_raise0 (hc : X.calm = true) (tk : Tk X W) (k : ExK X.K X.mg c) (hg : Gl X c := by rfl) (hdb : (c == ("__debug__" : Str)) = false := by decide) :
    DS X W (.Raise (some (.Call (.Name c p) [] [] pos)) none pos') (fun _ σ H => W (.ref (He.ga X.K c)) none σ H) (fun env R _ Ψ => Ψ (.plain c) env R) :=
  ⟨ps_raise hc tk.takes (pmk_own0 k hg hdb), fun B env R P Ψ acc w σ F H E s kk => acc (.plain c) env R σ F H _ none w s ⟨rfl, rfl⟩ fun _ z => nomatch z⟩
end
end Tl
namespace Tl
open PySem PySem.Spec PyProof.Rows L2
structure DefK (K : PySem.W.Frag) (mg : Str → Option Value) (x q : Str) (st : Stmt) (dv : List D) : Prop where
  ex : ∃ fd, FunD K x q (defArgs st) (defBody st) (defScope st) (dv.map lit) [] (He.ga K x) fd
  gl : mg x = some (.ref (He.ga K x))
structure MethK (K : PySem.W.Frag) (c m q : Str) (st : Stmt) (dv : List D) : Prop where
  ex : ∃ fd, FunD K m q (defArgs st) (defBody st) (defScope st) (dv.map lit) [] (He.ma K (He.ga K c) m) fd
  cl : Cls K (He.ga K c)
  me : Meth K (He.ga K c) m (He.ma K (He.ga K c) m)
structure ClsK (K : PySem.W.Frag) (mg : Str → Option Value) (c q : Str) (st : Stmt) (dv : List D) : Prop where
  ex : ∃ fd, FunD K "__init__" q (defArgs st) (defBody st) (defScope st) (dv.map lit) [] (He.ma K (He.ga K c) "__init__") fd
  mkr : Mk K (He.ga K c) (He.ma K (He.ga K c) "__init__")
  gl : mg c = some (.ref (He.ga K c))
section
variable {P : Program} {w : World} {K : PySem.W.Frag} {mg : Str → Option Value} {base : Heap} {x q c m : Str} {st : Stmt} {dv : List D} {ps : List Str} {fs : FS} {k : Nat}
abbrev BindN (x q : Str) (st : Stmt) (ps : List Str) : Prop := ∀ (kV doc pm : Value) (an : Option Addr) (cdv ct : Value) (us : List Value), us.length = ps.length → bindArgs (PySem.W.fnOf x q (defArgs st) (defBody st) (defScope st) .none kV doc pm an cdv ct) ⟨us, []⟩ = pure (ps.zip us)
abbrev BindD (x q : Str) (st : Stmt) (dv : List D) (ps : List Str) (n j : Nat) : Prop := ∀ (T : Addr) (kV doc pm : Value) (an : Option Addr) (cdv ct : Value) (us its : List Value), us.length = n → its.length = (dv.map lit).length →
  ∃ k, bindArgs (PySem.W.fnOf x q (defArgs st) (defBody st) (defScope st) (.ref T) kV doc pm an cdv ct) ⟨us, []⟩ = seqItems? (.ref T) >>= k ∧ k (some its.toArray) = pure (ps.zip (us ++ its.drop j))
theorem fx_of (D : DefK K mg x q st []) (ok : ∀ f fd, FunD K x q (defArgs st) (defBody st) (defScope st) [] [] f fd → FnOk P w K mg base (L2.CX P w) k f fd ps (spOf K fs)) (b : BindN x q st ps) : Fx P w K mg base k x fs [] := by
  obtain ⟨fd, F⟩ := D.ex
  exact ⟨⟨_, fd, ps, [], ok _ fd F, D.gl, F.kp, F.bindsN b, .nil⟩, rfl⟩
theorem fx_ofD (D : DefK K mg x q st dv) (hl : dv.all isLit = true) (hne : dv ≠ []) (n j : Nat) (hn : n + (dv.length - j) = ps.length) (ok : ∀ f fd, FunD K x q (defArgs st) (defBody st) (defScope st) (dv.map lit) [] f fd → FnOk P w K mg base (L2.CX P w) k f fd ps (spOf K fs)) (b : BindD x q st dv ps n j) : Fx P w K mg base k x fs (dv.drop j) := by
  obtain ⟨fd, F⟩ := D.ex
  obtain ⟨ds, v, bd⟩ := F.binds1 (ps := ps) n j (fun z => hne (List.map_eq_nil_iff.mp z)) (by rw [List.length_map]; exact hn) b
  refine ⟨⟨_, fd, ps, ds, ok _ fd F, D.gl, F.kp, bd, by rw [List.map_drop]; exact v⟩, ?_⟩
  exact List.all_eq_true.mpr fun y hy => List.all_eq_true.mp hl y (List.mem_of_mem_drop hy)
theorem mx_of (D : MethK K c m q st []) (ok : ∀ f fd, FunD K m q (defArgs st) (defBody st) (defScope st) [] [] f fd → FnOk P w K mg base (L2.CX P w) k f fd ps (spOf K fs)) (b : BindN m q st ps) : Mx P w K mg base k c m fs [] := by
  obtain ⟨fd, F⟩ := D.ex
  exact ⟨⟨_, fd, ps, [], D.cl, D.me, ok _ fd F, F.bindsN b, .nil⟩, rfl⟩
theorem cx_of (D : ClsK K mg c q st []) (ok : ∀ f fd, FunD K "__init__" q (defArgs st) (defBody st) (defScope st) [] [] f fd → FnOk P w K mg base (L2.CX P w) k f fd ps (spOf K fs)) (b : BindN "__init__" q st ps) : Cx' P w K mg base k c fs [] := by
  obtain ⟨fd, F⟩ := D.ex
  exact ⟨⟨_, fd, ps, [], D.mkr, ok _ fd F, D.gl, F.bindsN b, .nil⟩, rfl⟩
theorem cx_ofD (D : ClsK K mg c q st dv) (hl : dv.all isLit = true) (hne : dv ≠ []) (n j : Nat) (hn : n + (dv.length - j) = ps.length) (ok : ∀ f fd, FunD K "__init__" q (defArgs st) (defBody st) (defScope st) (dv.map lit) [] f fd → FnOk P w K mg base (L2.CX P w) k f fd ps (spOf K fs)) (b : BindD "__init__" q st dv ps n j) : Cx' P w K mg base k c fs (dv.drop j) := by
  obtain ⟨fd, F⟩ := D.ex
  obtain ⟨ds, v, bd⟩ := F.binds1 (ps := ps) n j (fun z => hne (List.map_eq_nil_iff.mp z)) (by rw [List.length_map]; exact hn) b
  refine ⟨⟨_, fd, ps, ds, D.mkr, ok _ fd F, D.gl, bd, by rw [List.map_drop]; exact v⟩, ?_⟩
  exact List.all_eq_true.mpr fun y hy => List.all_eq_true.mp hl y (List.mem_of_mem_drop hy)
end
theorem insB_ok {K : PySem.W.Frag} {c : Str} (h : insB K c = true) : C8.InsC K (He.ga K c) := by
  unfold insB at h
  simp only [Bool.and_eq_true, decide_eq_true_eq] at h
  obtain ⟨h1, h2, h3, h4, h5, h6⟩ := h
  exact ⟨He.cls_ok h1, He.eqO_ok h2, He.eqO_ok h3, h4, h5, h6⟩
end Tl
namespace Tl
open PySem PySem.Spec PyProof.Rows L2
def blkB (N : List Str) (sc scope : Scope) (own : List (Str × Nat)) : Bool :=
  decide (scope.kind = .function) && (decide (∀ y ∈ scope.names, scope.names.lookup y.1 = some y.2) && (decide (∀ p ∈ own, N[p.2]? = some p.1) &&
    (decide (∀ y ∈ scope.names, y.2 = .free → sc.names.lookup y.1 = some .cell ∨ sc.names.lookup y.1 = some .free) && decide (∀ y ∈ scope.names, y.2 = .local ∨ y.2 = .cell → y.1 ∈ own.map (·.1) ∨ y.1 ∉ N))))
theorem blk_of {N : List Str} {sc scope : Scope} {own : List (Str × Nat)} (h : blkB N sc scope own = true) : BlkOk N sc scope own := by
  unfold blkB at h
  simp only [Bool.and_eq_true, decide_eq_true_eq] at h
  exact ⟨h.1, h.2.1, h.2.2.1, h.2.2.2.1, h.2.2.2.2⟩
end Tl
namespace Tl
open PySem PySem.Spec PyProof.Rows L2
/-- X is a context of this text -/
structure Of (X : Cx) (P : Program) (w : World) (K : PySem.W.Frag) (mg : Str → Option Value) (base : Heap) : Prop where
  p : X.prog = P
  w : X.w = w
  k : X.K = K
  m : X.mg = mg
  b : X.base = base
section
variable {X : Cx} {W : WX} {P : Program} {w : World} {K : PySem.W.Frag} {mg : Str → Option Value} {base : Heap} {x m c : Str} {k j : Nat} {fs : FS} {dv : List D} {e o : Expr} {es : List Expr} {ts : TA} {wa : WA} {te : TE} {wo : WE} {p pos apos : Pos}
theorem b_fld {cs : List Str} {f : Str} (h : FldOk K cs f) (ho : DE X W o te wo) (hk : X.K = K := by rfl) (hb : attributeBase o f X.env (eval o X.env) = eval o X.env := by rfl) : DE X W (.Attribute o f pos) (tFld K te f) (wFld cs f wo) := by
  subst hk
  exact d_fld h ho hb
theorem b_ix (K : PySem.W.Frag) {a b : Expr} {ta tb : TE} {va vb : WE} (ha : DE X W a ta va) (hb : DE X W b tb vb) (hk : X.K = K := by rfl) (hs : PlainIx b := by intro _ _; rfl) : DE X W (.Subscript a b pos) (tOp (rIx K) ta tb) (w2 va vb kIx) := by
  subst hk
  exact d_ix ha hb hs
theorem b_len (K : PySem.W.Frag) (hk : X.K = K := by rfl) : DCall X (.builtin "len") (fun xs H Q => ∃ x n, xs = [x] ∧ LenV K x H n ∧ Q (.int n) H) kLen := by
  subst hk
  exact c_len
theorem b_isi {K : PySem.W.Frag} {c : D} {f : Ki → Option Bool} (I : Isi K c f) (hk : X.K = K := by rfl) : DCall X (.builtin "isinstance") (rIsi K) (kIsi c f) := by
  subst hk
  exact c_isi I
theorem b_call (mo : Mono fs) (cc : Fx P w K mg base k x fs dv) (hr : Room j X.A) (hk : k ≤ j) (tk : Tk X W) (ha : DA X W (e :: es) ts wa) (hX : Of X P w K mg base := by exact ⟨rfl, rfl, rfl, rfl, rfl⟩) (hg : Gl X x := by rfl) (hdb : (x == ("__debug__" : Str)) = false := by decide)
    (he : starEach (e :: es) X.env = (false, eval e X.env) :: starEach es X.env := by rfl) (hpl : (backTo pos (starEach es X.env)).any (·.1) = false := by rfl) :
    DE X W (.Call (.Name x p) (e :: es) [] pos) (tCallSD (spOf K fs) (dv.map lit) (L2.WE W) ts) (wCall fs dv wa) := by
  obtain ⟨rfl, rfl, rfl, rfl, rfl⟩ := hX
  exact d_call mo cc hr hk tk ha hg hdb he hpl
theorem b_call0 (mo : Mono fs) (cc : Fx P w K mg base k x fs dv) (hr : Room j X.A) (hk : k ≤ j) (tk : Tk X W) (hX : Of X P w K mg base := by exact ⟨rfl, rfl, rfl, rfl, rfl⟩) (hg : Gl X x := by rfl) (hdb : (x == ("__debug__" : Str)) = false := by decide) :
    DE X W (.Call (.Name x p) [] [] pos) (tCallSD (spOf K fs) (dv.map lit) (L2.WE W) tNil) (wCall fs dv aNil) := by
  obtain ⟨rfl, rfl, rfl, rfl, rfl⟩ := hX
  exact d_call0 mo cc hr hk tk hg hdb
theorem b_make (mo : Mono fs) (cc : Cx' P w K mg base k c fs dv) (hr : Room j X.A) (hk : k + 1 ≤ j) (tk : Tk X W) (ha : DA X W (e :: es) ts wa) (hX : Of X P w K mg base := by exact ⟨rfl, rfl, rfl, rfl, rfl⟩) (hg : Gl X c := by rfl) (hdb : (c == ("__debug__" : Str)) = false := by decide)
    (he : starEach (e :: es) X.env = (false, eval e X.env) :: starEach es X.env := by rfl) (hpl : (backTo pos (starEach es X.env)).any (·.1) = false := by rfl) :
    DE X W (.Call (.Name c p) (e :: es) [] pos) (tMakeSD (He.ga K c) (spOf K fs) (dv.map lit) (L2.WE W) ts) (wMake c fs dv wa) := by
  obtain ⟨rfl, rfl, rfl, rfl, rfl⟩ := hX
  exact d_make mo cc hr hk tk ha hg hdb he hpl
end
end Tl
section
set_option maxHeartbeats 2000000
namespace Exf
open PySem PySem.W PySem.Calls PyProof.Rows
open PySem.HandSPX (excO refsVE refsVE_contains exc_osa call_own)
structure Made (h h' : Heap) (e C d : Addr) (f : Str) (v : Value) : Prop where
  keep : ∀ b o, h.get? b = some o → h'.get? b = some o
  new : h.objs.size ≤ e
  obj : ∃ oe vs, h'.get? e = some oe ∧ oe.cls = .ref C ∧ oe.dict = some d ∧ oe.data = .fields vs ∧ vs[1]? = some .none
  big : h.objs.size ≤ d
  ne : d ≠ e
  ns : h'.Ns1 d (fun y => if y = f then some v else none)
section
variable {prog : Program} {w : World} {A : Around} {R : Result → Shared → Prop} {s : Shared} {K : Frag} {mg mb : Str → Option Value} {C fI : Addr} {f : Str}
theorem x_made (T : XTxt prog K C fI f) {v : Value} (X : K.In s.heap) (G : s.heap.Ns mainGlobals mg) (gs : mg "super" = none) (Bn : s.heap.Ns builtinsNs mb) (bs : mb "super" = some (.type "super")) (hlim : s.heap.NoLimit) (hroom : A.depth + 1 < recursionLimit)
    (hq : ∀ h' tk e d, Made s.heap h' e C d f v → R (.ok (.ret (.ref e))) { s with heap := h', toks := tk }) : codeAny (model prog w) A (.call (.ref C) ⟨[v], []⟩) R s := by
  obtain ⟨nm, q, N, bs', bm, sn, sub, ab, col, dd, k0, k1, k2, k3, k5, hC, hbm⟩ := T.cls
  obtain ⟨hp, g, dr, tk, os⟩ := s
  have up : ∀ b o, hp.get? b = some o → ((hp.push (kdv_tup [v])).push (excO C hp.objs.size)).get? b = some o := fun b o e => Heap.get?_push_of_some _ (Heap.get?_push_of_some _ e)
  have at1 : ((hp.push (kdv_tup [v])).push (excO C hp.objs.size)).get? (hp.objs.size + 1) = some (excO C hp.objs.size) := by heap_get
  have nx : K.lookup (hp.objs.size + 1) = none := by
    cases e : K.lookup (hp.objs.size + 1) with
    | none => rfl
    | some o => exact absurd (Nat.lt_of_succ_lt (Heap.lt_size (show hp.get? (hp.objs.size + 1) = some o from X _ _ e))) (Nat.lt_irrefl _)
  refine call_own F.excBase_ValueError (fun Y => refsVE_contains Y bm hbm) (X _ _ hC) (looks_findIn X T.ini) (fun self => bind_fn X self T.ty) (by show 1 ≤ sizeLine; decide) ?_
  refine x_init (s := ⟨(hp.push (kdv_tup [v])).push (excO C hp.objs.size), g, dr, tk, os⟩) T (X.keeps up) (G.keeps up) gs (Bn.keeps up) bs (hlim.keeps up) at1 nx hroom fun h' tk' dx t1 ⟨k', hx, big, ne, ns⟩ => ?_
  have old : ∀ b o, hp.get? b = some o → h'.get? b = some o := fun b o e => k' b o (Nat.ne_of_lt (Nat.lt_succ_of_lt (Heap.lt_size e))) (up b o e)
  have z : hp.objs.size + 1 + 1 ≤ dx := by
    have b' := big
    simp only [Heap.size_push] at b'
    exact b'
  exact ⟨rfl, hq h' tk' (hp.objs.size + 1) dx ⟨old, Nat.le_succ _, ⟨_, _, hx, rfl, rfl, rfl, rfl⟩, Nat.le_trans (Nat.le_trans (Nat.le_succ _) (Nat.le_succ _)) z, ne, ns⟩⟩
end
end Exf
namespace Tl
open PySem PySem.Spec PyProof.Rows L2
theorem relO_one {v : V} {u : Value} (r : RelV v u) (f g : Str) : RelO (List.lookup g [(f, v)]) (if g = f then some u else none) := by
  by_cases e : g = f
  · subst e
    rw [if_pos rfl]
    have q : List.lookup g [(g, v)] = some v := by
      show (match g == g with | true => some v | false => none) = some v
      rw [beq_self_eq_true]
    rw [q]
    exact r
  · rw [if_neg e]
    have q : List.lookup g [(f, v)] = none := by
      show (match g == f with | true => some v | false => none) = none
      rw [beq_eq_false_iff_ne.mpr e]
    rw [q]
    trivial
/-- an own error class whose __init__ keeps its argument in the field f -/
structure ExF (prog : Program) (K : PySem.W.Frag) (mg : Str → Option Value) (c f : Str) : Prop where
  t : ∃ fI, Exf.XTxt prog K (He.ga K c) fI f
  kp : PySem.W.keepIn K (.ref (He.ga K c)) = true
  sb : PySem.W.subIn K (.ref (He.ga K c)) (.type "BaseException") = some true
  ty : PySem.W.typeIn K (.ref (He.ga K c)) = some (.type "type")
  gl : mg c = some (.ref (He.ga K c))
  gs : mg "super" = none
section
variable {X : Cx} {W : WX} {c f : Str} {a : Expr} {ta : TA} {va : WA} {p pos pos' : Pos} {k : Nat}
def tMkF (C : Addr) (f : Str) (ta : TA) : L2.St → Hp → XK → Prop := fun σ H Q => ta σ H fun vs H1 => ∃ v, vs = [v] ∧ ∀ d, H1 d = none → Q (.ref C) (some d) (upd H1 d (.xd [(f, v)]))
theorem pmk_fld (T : ExF X.prog X.K X.mg c f) (hr : Room k X.A) (ha : PA X [a] ta) (hg : Gl X c) (hdb : (c == ("__debug__" : Str)) = false := by decide)
    (he : starEach (a :: []) X.env = (false, eval a X.env) :: starEach [] X.env := by rfl) (hpl : (backTo pos (starEach [] X.env)).any (·.1) = false := by rfl) : PMk X (.Call (.Name c p) [a] [] pos) (tMkF (He.ga X.K c) f ta) := by
  intro pins s σ H Q I h
  obtain ⟨fI, T1⟩ := T.t
  refine wpAny_Call_Name_kw (ld_glob I hg T.gl ?_ hdb)
  refine PySem.W.callWith_K (h₀ := X.base) I.ok.mod.kin T.kp (thn (ha.run pos pins s σ H _ I h) fun us s1 hh => ?_) he hpl
  obtain ⟨vs, H1, I1, r1, v, rfl, q1⟩ := hh
  refine ⟨I1.kIn, ?_⟩
  obtain ⟨u, rfl, rv⟩ := vals1 r1
  show wpAny _ _ (call (.ref (He.ga X.K c)) [u]) _ _ _
  have hlim := I1.nolimit
  obtain ⟨mb, b1, b2⟩ := I1.mod.blt
  have G := I1.mod.glob.keeps I1.bk
  have Bn := b1.keeps I1.bk
  obtain ⟨hp, g, dr, tk, os⟩ := s1
  refine wpAny_call (Exf.x_made T1 I1.kIn G T.gs Bn ((b2 "super" (by decide)).trans (by decide +kernel)) hlim (by have := hr.dp; omega) fun h' tk' e d M => ?_)
  show MkP X pins σ Q (.ref e) ⟨h', g, dr, tk', os⟩
  obtain ⟨oe, fv, hoe, hc, hd, hdat, h1⟩ := M.obj
  obtain ⟨G', g1, g2⟩ := restrict h' fun b => decide (b ≠ e)
  have gk : ∀ b, b ≠ e → G'.get? b = h'.get? b := fun b hb => g1 b (decide_eq_true hb)
  have ge : G'.get? e = none := g2 e (by simp)
  have old : ∀ b o, hp.get? b = some o → G'.get? b = some o := fun b o q => (gk b (Nat.ne_of_lt (Nat.lt_of_lt_of_le (Heap.lt_size q) M.new))).trans (M.keep b o q)
  have ob : ObjOk X.prog X.w (upd H1 d (.xd [(f, v)])) G' d (.xd [(f, v)]) := ⟨_, M.ns.at (fun o q => (gk d M.ne).trans q), fun y => relO_one rv f y⟩
  have J : L2.Inv X pins σ (upd H1 d (.xd [(f, v)])) ⟨G', g, dr, tk', os⟩ := I1.laid (t' := tk') old M.big ob
  refine ⟨e, oe, fv, ⟨G', g, dr, tk', os⟩, _, .ref (He.ga X.K c), some d, rfl, J, fun b o q => ?_, ge, hoe, ⟨hc, hd⟩, hdat, h1, ?_, rfl, I1.bare, raises_own T.sb T.ty, q1 d (I1.hok.fresh M.big)⟩
  · by_cases hb : b = e
    · have q' : G'.get? b = some o := q
      rw [hb, ge] at q'; cases q'
    · exact (gk b hb).symm.trans q
  · rw [upd_ne (Ne.symm M.ne)]
    exact I1.hok.fresh M.new
/-- raise C(e) -/
def sRaiseF (c f : Str) (va : WA) : WS := fun env R _ Ψ => va env R (fun os R1 => match os with
  | [.val d] => Ψ (.fld c f d) env R1
  | _ => False) Ψ
theorem s_raiseF (hc : X.calm = true) (tk : Tk X W) (T : ExF X.prog X.K X.mg c f) (hr : Room k X.A) (ha : DA X W [a] ta va) (hg : Gl X c := by rfl) (hdb : (c == ("__debug__" : Str)) = false := by decide)
    (he : starEach (a :: []) X.env = (false, eval a X.env) :: starEach [] X.env := by rfl) (hpl : (backTo pos (starEach [] X.env)).any (·.1) = false := by rfl) :
    DS X W (.Raise (some (.Call (.Name c p) [a] [] pos)) none pos') (fun _ σ H => tMkF (He.ga X.K c) f ta σ H fun cls d H' => W cls d σ H') (sRaiseF c f va) :=
  ⟨ps_raise hc tk.takes (pmk_fld T hr ha.p hg hdb he hpl), fun B env R P Ψ acc w σ F H E s kk => ha.v B env R _ Ψ acc w σ F H s _ fun os R1 vs F1 H1 φ s1 x1 eos => by
    split at φ
    · rename_i d
      obtain ⟨v, rfl, ev⟩ := ens1 eos
      refine ⟨v, rfl, fun dd hd => ?_⟩
      have nf : F1 dd = none := s1.fin.fh.none hd
      have nr : dd ∉ fps R1 := s1.fin.rk.fresh hd
      have st : S X.K B env R1 σ F1 (upd H1 dd (.xd [(f, v)])) := s1.go ⟨Ex.rfl, s1.fin.fh.tr (ex_new hd), fun b o e _ => by
        rw [upd_ne (ne_of_none e hd)]; exact e, fun b e => by
        by_cases z : b = dd
        · rw [z]; exact hd
        · rw [upd_ne z] at e; exact e, fun b e z => absurd e z, ⟨fun r hr => (s1.fin.rk.ok r hr).stay Ex.rfl fun q _ u e => by
          rw [upd_ne (ne_of_none e hd)]; exact e, s1.fin.rk.nd, s1.fin.rk.off⟩, fun q m => .inl m⟩
      exact acc (.fld c f d) env R1 σ F1 _ _ (some dd) φ st ⟨rfl, dd, v, rfl, upd_same, nf, en_val ev⟩ fun d2 z => by
        cases z
        exact ⟨nr, s1.fin.dm dd hd⟩
    · exact False.elim φ⟩
end
end Tl
end
section
set_option maxHeartbeats 2000000
namespace L2
open PySem PySem.Spec PyProof.Rows
/-- a clause: the class, the slot of its name (or none), what its suite does -/
structure Cl where
  c : Value
  i : Option Nat
  ts : Addr → Value → Option Addr → TS
def Cl.put (k : Cl) (a : Addr) (σ : St) : St := match k.i with
  | some i => σ.set i (some (.ref a))
  | none => σ
def Cl.off (k : Cl) (σ : St) : St := match k.i with
  | some i => σ.set i none
  | none => σ
def Cl.ends (k : Cl) (D : Ends) : Ends := { nx := fun σ H => D.nx (k.off σ) H, rt := D.rt, bk := fun σ H => D.bk (k.off σ) H, ct := fun σ H => D.ct (k.off σ) H }
def wMix (K : PySem.W.Frag) (Wo : WX) (D : Ends) : List Cl → WX
  | [] => Wo
  | k :: r => fun cls d σ H => ∃ b, PySem.W.exmOne K cls k.c = some b ∧ (b = true → ∀ a, H a = none → k.ts a cls d (k.ends D) (k.put a σ) H) ∧ (b = false → wMix K Wo D r cls d σ H)
inductive MixOk (X : Cx) : List ExceptHandler → List Cl → Prop
  | nil : MixOk X [] []
  | cons {x : Str} {c : Value} {ts : Addr → Value → Option Addr → TS} {st : Stmt} {sts : List Stmt} {p1 p2 : Pos} {hds : List ExceptHandler} {l : List Cl} (nm : Names X x c)
      (su : ∀ (a : Addr) (oe : Obj) (cls : Value) (d : Option Addr) (pn : List (Addr × Obj)), Zc cls d oe → (∃ vs, oe.data = .fields vs) → PSs (X.suite a ((a, oe) :: pn)) (st :: sts) (ts a cls d)) (r : MixOk X hds l) :
      MixOk X (.ExceptHandler (some (.Name x p1)) none (st :: sts) p2 :: hds) (⟨c, none, ts⟩ :: l)
  | as {x n : Str} {i : Nat} {c : Value} {ts : Addr → Value → Option Addr → TS} {st : Stmt} {sts : List Stmt} {p1 p2 : Pos} {hds : List ExceptHandler} {l : List Cl} (nm : Names X x c) (hi : X.N[i]? = some n) (hl : X.env.kindOf n = some .local)
      (su : ∀ (a : Addr) (oe : Obj) (cls : Value) (d : Option Addr) (pn : List (Addr × Obj)), Zc cls d oe → (∃ vs, oe.data = .fields vs) → PSs (X.suite a ((a, oe) :: pn)) (st :: sts) (ts a cls d)) (r : MixOk X hds l) :
      MixOk X (.ExceptHandler (some (.Name x p1)) (some n) (st :: sts) p2 :: hds) (⟨c, some i, ts⟩ :: l)
section
variable {X : Cx} {body : List Stmt} {h0 : ExceptHandler} {hds : List ExceptHandler} {l : List Cl} {pos : Pos} {tb : WX → TS} {Wo : WX}
theorem ps_try_mix (stk : X.stack = X.env :: X.outer) (fr : X.env.frame = some X.env.locals) (nd : X.N.Nodup) (tk : Takes X Wo)
    (bo : ∀ (W : WX) (pn : List (Addr × Obj)) (xe : Value → Shared → Prop), Takes (X.tr pn xe) W → PassesOwn (model X.prog X.w) X.A X.env xe → PSs (X.tr pn xe) body (tb W))
    (mx : MixOk X (h0 :: hds) l) : PS X (.Try body (h0 :: hds) [] [] pos) (fun D σ H => tb (wMix X.K Wo D l) D σ H) := by
  refine ⟨fun pins s σ H D I h => ?_⟩
  have good := I.ok
  have frames : X.A.frames = some (X.env :: X.outer) := by rw [good.frames, stk]
  refine wpAny_Try_except (wpAny_mono ((bo (wMix X.K Wo D l) (X.pn ++ pins) (fun e s1 => wpAny (model X.prog X.w) X.A (noteFrame e X.env) (fun _ s2 => wpAny (model X.prog X.w) X.A (setFlight e none) (fun _ s3 => wpAny (model X.prog X.w) X.A (handleBy e X.env (h0 :: hds)) (SP X pins D) X.xe s3) X.xe s2) X.xe s1) (fun u s1 flies => ?_) PassesOwn.looking).run [] s σ H D (I.toTry _) h) (fun fl s1 ended => ?_) (fun _ _ z => z))
  · obtain ⟨a, B, sI, pins', τ, G, cls, d, rfl, J0, nb, up, sky, na, os, ag, wish⟩ := flies
    have J : Inv X pins τ G sI := J0.ofTry good
    have sky2 : Sky B (X.env :: X.outer) a (Zc cls d) X.env.locals s1.heap := by rw [← stk]; exact sky
    show wpAny (model X.prog X.w) X.A (noteFrame (.ref a) X.env) _ _ _
    refine Sky.land Zc.steady frames fr sky2 fun hp fly upl => ?_
    have Jp : Inv X pins τ G { s1 with heap := hp } := J.landed nb fly.1 (up.trans upl) os ag
    obtain ⟨ob, fv, obAt, obZ, obD⟩ := fly.there
    have off : a ∉ frs (X.env :: X.outer) := fun m => by
      obtain ⟨_, ob2, e2, hnf⟩ := fly.2.2.1.mem m
      rw [obAt] at e2
      cases e2
      exact hnf _ obD
    have offL : a ≠ X.env.locals := fun z => off (List.mem_filterMap.mpr ⟨X.env, List.mem_cons_self, by rw [fr, z]⟩)
    have offF : a ∉ X.fs := fun m => by
      obtain ⟨e, he, z⟩ := List.mem_filterMap.mp m
      exact off (List.mem_filterMap.mpr ⟨e, List.mem_cons_of_mem _ he, z⟩)
    have Su := Jp.suite obAt obD na offL offF
    have types : PySem.W.Looks (model X.prog X.w) hp (typeOf (.ref a)) cls := fun A Q E s k q => wpAny_typeOf_ref (k _ _ obAt) (by rw [obZ.1]; exact q)
    have names : ∀ {x : Str} {c : Value} {np : Pos} {Q : Value → Shared → Prop} {E : Value → Shared → Prop}, Names X x c → Q c { s1 with heap := hp } → wpAny (model X.prog X.w) (X.A.mark (some (.ref a))) (eval (.Name x np) X.env) Q E { s1 with heap := hp } := fun {x c np Q E} nm q => by
      obtain ⟨g1, g2, g3 | ⟨g3, g4, g5⟩⟩ := nm
      · exact ld_glob (X := X.suite a ((a, ob) :: (X.pn ++ pins))) Su g1 g3 q g2
      · exact ld_blt (X := X.suite a ((a, ob) :: (X.pn ++ pins))) Su g1 g3 g4 q g5 g2
    have go : ∀ {hl : List ExceptHandler} {cl : List Cl}, MixOk X hl cl → wMix X.K Wo D cl cls d τ G → wpAny (model X.prog X.w) X.A (handleBy (.ref a) X.env hl) (SP X pins D) X.xe { s1 with heap := hp } := by
      intro hl cl ok
      induction ok with
      | nil =>
        intro wi
        obtain ⟨y1, y2, y3, ob3, vs3, Tb, oT, tr, at3, z3, d3, one, rr⟩ := id fly
        refine wpAny_handleBy_nil ?_
        unfold PySem.passOn
        refine wpAny_bind (wpAny_field at3 d3 one ?_)
        rw [if_neg (by simp)]
        have last : wpAny (model X.prog X.w) X.A (setFlight (.ref a) X.env.frame) (fun _ s4 => wpAny (model X.prog X.w) X.A (throw (.ref a) : Sem Flow) (SP X pins D) X.xe s4) X.xe { s1 with heap := hp } := by
          rw [fr]
          exact HandSPX.setFlight_upZ fly fun h4 fly4 up4 => wpAny_throw (tk _ _ ⟨a, B, sI, pins, τ, G, cls, d, rfl, J, nb, (up.trans upl).trans up4, .inr (.inr (by rw [stk]; exact fly4)), na, os, ag, wi⟩)
        first
          | exact wpAny_bind (wpAny_pure (wpAny_bind last))
          | exact wpAny_bind last
      | @cons x c ts st sts p1 p2 hds2 l2 nm su r ih =>
        rintro ⟨b, e1, yes, non⟩
        refine wpAny_handleBy_cons (codeAny_handlers_test (names nm ((PySem.W.exm_one (M := model X.prog X.w) Jp.kIn types e1).here ?_))) (by intro z; cases z)
        cases b with
        | false => exact ih (non rfl)
        | true =>
          refine codeAny_handlers_suite (HandSPX.lands_againZ fly fun h4 fly4 up4 => ?_)
          obtain ⟨ob4, fv4, at4, z4, d4⟩ := fly4.there
          have J4 : Inv X pins τ G { s1 with heap := h4 } := J.landed nb fly4.1 ((up.trans upl).trans up4) os ag
          have S4 := J4.suite at4 d4 na offL offF
          refine wpAny_mono ((su a ob4 cls d (X.pn ++ pins) z4 ⟨_, d4⟩).run [] _ _ G _ S4 (yes rfl a na)) (fun fl s6 en => ?_) (fun _ _ z => False.elim z)
          cases fl with
          | next => obtain ⟨τ6, G6, S6, q6⟩ := en; exact ⟨_, _, S6.unsuite good, q6⟩
          | brk => obtain ⟨τ6, G6, S6, q6⟩ := en; exact ⟨_, _, S6.unsuite good, q6⟩
          | cont => obtain ⟨τ6, G6, S6, q6⟩ := en; exact ⟨_, _, S6.unsuite good, q6⟩
          | ret u => obtain ⟨v6, τ6, G6, S6, r6, q6⟩ := en; exact ⟨_, _, _, S6.unsuite good, r6, q6⟩
      | @as x n i c ts st sts p1 p2 hds2 l2 nm hi hlo su r ih =>
        rintro ⟨b, e1, yes, non⟩
        refine wpAny_handleBy_cons (codeAny_handlers_test (names nm ((PySem.W.exm_one (M := model X.prog X.w) Jp.kIn types e1).here ?_))) (by intro z; cases z)
        cases b with
        | false => exact ih (non rfl)
        | true =>
          refine codeAny_handlers_suite_as (HandSPX.lands_againZ fly fun h4 fly4 up4 => ?_)
          obtain ⟨ob4, fv4, at4, z4, d4⟩ := fly4.there
          have J4 : Inv X pins τ G { s1 with heap := h4 } := J.landed nb fly4.1 ((up.trans upl).trans up4) os ag
          have S4 := J4.suite at4 d4 na offL offF
          refine store_ok (X := X.suite a ((a, ob4) :: (X.pn ++ pins))) (v := .ref a) S4 nd hi (.inl hlo) rfl (fun s5 S5 => ?_) (.inr hlo)
          refine wpAny_mono ((su a ob4 cls d (X.pn ++ pins) z4 ⟨_, d4⟩).run [] s5 _ G _ S5 (yes rfl a na)) (fun fl s6 en => ?_) (fun _ _ z => False.elim z)
          have goes : ∀ {τ6 : St} {G6 : Hp} {Q : Shared → Prop}, Inv (X.suite a ((a, ob4) :: (X.pn ++ pins))) [] τ6 G6 s6 → (∀ s7, Inv X pins (τ6.set i none) G6 s7 → Q s7) →
              wpAny (model X.prog X.w) X.A (do bindName X.env n .none; unbindBehindTheSuite X.env n p2) (fun _ s7 => Q s7) X.xe s6 := fun S6 hq => gone_ok (S6.unsuite good) nd hi hlo hq
          cases fl with
          | next => obtain ⟨τ6, G6, S6, q6⟩ := en; exact goes S6 fun s7 J7 => ⟨_, _, J7, q6⟩
          | brk => obtain ⟨τ6, G6, S6, q6⟩ := en; exact goes S6 fun s7 J7 => ⟨_, _, J7, q6⟩
          | cont => obtain ⟨τ6, G6, S6, q6⟩ := en; exact goes S6 fun s7 J7 => ⟨_, _, J7, q6⟩
          | ret u => obtain ⟨v6, τ6, G6, S6, r6, q6⟩ := en; exact goes S6 fun s7 J7 => ⟨_, _, _, J7, r6, q6⟩
    exact go mx wish
  · cases fl with
    | next => obtain ⟨τ, G, J, q⟩ := ended; exact wpAny_execs_nil ⟨τ, G, J.ofTry good, q⟩
    | brk => obtain ⟨τ, G, J, q⟩ := ended; exact ⟨τ, G, J.ofTry good, q⟩
    | cont => obtain ⟨τ, G, J, q⟩ := ended; exact ⟨τ, G, J.ofTry good, q⟩
    | ret u => obtain ⟨v, τ, G, J, r, q⟩ := ended; exact ⟨v, τ, G, J.ofTry good, r, q⟩
end
end L2
end
namespace Tl
open PySem PySem.Spec PyProof.Rows L2
def Er.c : Er → Str
  | .plain c => c
  | .fld c _ _ => c
def ErCls (K : PySem.W.Frag) (cls : Value) (d : Option Addr) : Er → Prop
  | .plain c => cls = .ref (He.ga K c) ∧ d = none
  | .fld c _ _ => cls = .ref (He.ga K c) ∧ ∃ dd, d = some dd
theorem ErOk.cl {K : PySem.W.Frag} {F H : Hp} {cls : Value} {d : Option Addr} {er : Er} (h : ErOk K F H cls d er) : ErCls K cls d er ∧ cls = .ref (He.ga K er.c) := by
  cases er with
  | plain c => exact ⟨h, h.1⟩
  | fld c f x =>
    obtain ⟨h1, dd, v, h2, _⟩ := h
    exact ⟨⟨h1, dd, h2⟩, h1⟩
/-- a clause over data: which errors it takes, the slot of its name, what its suite does -/
structure ClD where
  em : Str → Option Bool
  i : Option Nat
  ws : Er → Addr → Option Addr → WS
def ClD.put (k : ClD) (a : Addr) (env : List En) : List En := match k.i with
  | some i => env.set i (.adr a)
  | none => env
def ClD.off (k : ClD) (env : List En) : List En := match k.i with
  | some i => env.set i .no
  | none => env
def ClD.ends (k : ClD) (P : Post) : Post := { nx := fun env R => P.nx (k.off env) R, rt := P.rt, bk := fun env R => P.bk (k.off env) R, ct := fun env R => P.ct (k.off env) R }
def ClD.go (k : ClD) (er : Er) (env : List En) (R : List Res) (P : Post) : Prop := match er with
  | .plain c => ∀ a, k.ws (.plain c) a none (k.put a env) R (k.ends P) X0
  | .fld c f x => ∀ a dd, k.ws (.fld c f x) a (some dd) (k.put a env) (.exc dd f x :: R) (k.ends P) X0
def catchW (P : Post) (Ψ : XP) : List ClD → XP
  | [] => Ψ
  | k :: r => fun er env R => ∃ b, k.em er.c = some b ∧ (b = true → k.go er env R P) ∧ (b = false → catchW P Ψ r er env R)
def sTry (wb : WS) (l : List ClD) : WS := fun env R P Ψ => wb env R P (catchW P Ψ l)
/-- the clauses derived -/
inductive Cls' (X : Cx) : List ExceptHandler → List Cl → List ClD → Prop
  | nil : Cls' X [] [] []
  | cons {x : Str} {c : Value} {tsE : Er → Addr → Option Addr → TS} {st : Stmt} {sts : List Stmt} {p1 p2 : Pos} {hds : List ExceptHandler} {l : List Cl} {m : List ClD} {em : Str → Option Bool} {ws : Er → Addr → Option Addr → WS} (nm : Names X x c) (he : ∀ y b, em y = some b → PySem.W.exmOne X.K (.ref (He.ga X.K y)) c = some b)
      (su : ∀ (er : Er) (a : Addr) (oe : Obj) (cls : Value) (d : Option Addr) (pn : List (Addr × Obj)), em er.c = some true → ErCls X.K cls d er → Zc cls d oe → (∃ vs, oe.data = .fields vs) → DSs (X.suite a ((a, oe) :: pn)) W0 (st :: sts) (tsE er a d) (ws er a d)) (r : Cls' X hds l m) :
      Cls' X (.ExceptHandler (some (.Name x p1)) none (st :: sts) p2 :: hds) (⟨c, none, fun a cls d D σ H => ∃ er, em er.c = some true ∧ ErCls X.K cls d er ∧ tsE er a d D σ H⟩ :: l) (⟨em, none, ws⟩ :: m)
  | as {x n : Str} {i : Nat} {c : Value} {tsE : Er → Addr → Option Addr → TS} {st : Stmt} {sts : List Stmt} {p1 p2 : Pos} {hds : List ExceptHandler} {l : List Cl} {m : List ClD} {em : Str → Option Bool} {ws : Er → Addr → Option Addr → WS} (nm : Names X x c) (hi : X.N[i]? = some n) (hl : X.env.kindOf n = some .local) (he : ∀ y b, em y = some b → PySem.W.exmOne X.K (.ref (He.ga X.K y)) c = some b)
      (su : ∀ (er : Er) (a : Addr) (oe : Obj) (cls : Value) (d : Option Addr) (pn : List (Addr × Obj)), em er.c = some true → ErCls X.K cls d er → Zc cls d oe → (∃ vs, oe.data = .fields vs) → DSs (X.suite a ((a, oe) :: pn)) W0 (st :: sts) (tsE er a d) (ws er a d)) (r : Cls' X hds l m) :
      Cls' X (.ExceptHandler (some (.Name x p1)) (some n) (st :: sts) p2 :: hds) (⟨c, some i, fun a cls d D σ H => ∃ er, em er.c = some true ∧ ErCls X.K cls d er ∧ tsE er a d D σ H⟩ :: l) (⟨em, some i, ws⟩ :: m)
section
variable {X : Cx} {W : WX} {body : List Stmt} {h0 : ExceptHandler} {hds : List ExceptHandler} {l : List Cl} {m : List ClD} {pos : Pos} {tb : WX → TS} {wb : WS}
theorem Cls'.mix {hl : List ExceptHandler} (h : Cls' X hl l m) : MixOk X hl l := by
  induction h with
  | nil => exact .nil
  | cons nm he su r ih =>
    refine .cons nm (fun a oe cls d pn hz hf => ⟨fun pins s σ H D I h => ?_⟩) ih
    obtain ⟨er, hm, hc, h⟩ := h
    exact (su er a oe cls d pn hm hc hz hf).p.run pins s σ H D I h
  | as nm hi hl he su r ih =>
    refine .as nm hi hl (fun a oe cls d pn hz hf => ⟨fun pins s σ H D I h => ?_⟩) ih
    obtain ⟨er, hm, hc, h⟩ := h
    exact (su er a oe cls d pn hm hc hz hf).p.run pins s σ H D I h
end
end Tl
namespace Tl
open PySem PySem.Spec PyProof.Rows L2
section
variable {X : Cx} {W : WX} {body : List Stmt} {h0 : ExceptHandler} {hds : List ExceptHandler} {l : List Cl} {m : List ClD} {pos : Pos} {tb : WX → TS} {wb : WS}
theorem S.exc {K : PySem.W.Frag} {B : Bs} {env : List En} {R : List Res} {σ : L2.St} {F H : Hp} {cls : Value} {dd : Addr} {c f : Str} {x : D} (s : S K B env R σ F H) (e : ErOk K F H cls (some dd) (.fld c f x)) (n : dd ∉ fps R ∧ B.H dd = none) : S K B env (.exc dd f x :: R) σ F H := by
  obtain ⟨_, d2, v, z, hx, nf, r⟩ := e
  cases z
  refine ⟨⟨s.fin.ff, s.fin.fh, s.fin.kp, s.fin.dm, s.fin.nw, ⟨fun t ht => ?_, ?_, fun q m => ?_⟩, fun q m => ?_⟩, s.en⟩
  · rcases List.mem_cons.mp ht with e | e
    · rw [e]; exact ⟨v, hx, r⟩
    · exact s.fin.rk.ok t e
  · show ([dd] ++ fps R).Nodup
    exact List.nodup_cons.mpr ⟨n.1, s.fin.rk.nd⟩
  · rcases List.mem_cons.mp (show q ∈ dd :: fps R from m) with e | e
    · rw [e]; exact nf
    · exact s.fin.rk.off q e
  · rcases List.mem_cons.mp (show q ∈ dd :: fps R from m) with e | e
    · rw [e]; exact .inr n.2
    · exact s.fin.rn q e
theorem put_ok {K : PySem.W.Frag} {B : Bs} {env : List En} {R : List Res} {σ : L2.St} {F H : Hp} {i : Option Nat} (s : S K B env R σ F H) (a : Addr) {c : Value} {ts : Addr → Value → Option Addr → TS} {em : Str → Option Bool} {ws : Er → Addr → Option Addr → WS} : S K B (ClD.put ⟨em, i, ws⟩ a env) R (Cl.put ⟨c, i, ts⟩ a σ) F H := by
  cases i with
  | none => exact s
  | some i => exact s.set i (o := .adr a) (v := .ref a) rfl
theorem off_ok {K : PySem.W.Frag} {B : Bs} {env : List En} {R : List Res} {σ : L2.St} {F H : Hp} {i : Option Nat} (s : S K B env R σ F H) {c : Value} {ts : Addr → Value → Option Addr → TS} {em : Str → Option Bool} {ws : Er → Addr → Option Addr → WS} : S K B (ClD.off ⟨em, i, ws⟩ env) R (Cl.off ⟨c, i, ts⟩ σ) F H := by
  cases i with
  | none => exact s
  | some i => exact ⟨s.fin, s.en.set i trivial⟩
/-- a clause's turn -/
theorem clause_ok {B : Bs} {E : Ends} {P : Post} {i : Option Nat} {c : Value} {tsE : Er → Addr → Option Addr → TS} {em : Str → Option Bool} {ws : Er → Addr → Option Addr → WS} {er : Er} {env : List En} {R : List Res} {σ : L2.St} {F H : Hp} {cls : Value} {d : Option Addr} {a : Addr} (k : Wish X.K B E P)
    (v : ∀ B env R P Ψ, Acc X.K B W0 Ψ → ws er a d env R P Ψ → Do X.K B (tsE er a d) env R P) (hg : ClD.go ⟨em, i, ws⟩ er env R P) (s : S X.K B env R σ F H) (e : ErOk X.K F H cls d er) (n : ∀ dd, d = some dd → dd ∉ fps R ∧ B.H dd = none) :
    tsE er a d (Cl.ends ⟨c, i, fun a cls d D σ H => ∃ er, em er.c = some true ∧ ErCls X.K cls d er ∧ tsE er a d D σ H⟩ E) (Cl.put ⟨c, i, fun a cls d D σ H => ∃ er, em er.c = some true ∧ ErCls X.K cls d er ∧ tsE er a d D σ H⟩ a σ) H := by
  have wish : Wish X.K B (Cl.ends ⟨c, i, fun a cls d D σ H => ∃ er, em er.c = some true ∧ ErCls X.K cls d er ∧ tsE er a d D σ H⟩ E) (ClD.ends ⟨em, i, ws⟩ P) :=
    ⟨fun env R σ F H h s => k.nx _ R _ F H h (off_ok s), k.rt, fun env R σ F H h s => k.bk _ R _ F H h (off_ok s), fun env R σ F H h s => k.ct _ R _ F H h (off_ok s)⟩
  cases er with
  | plain c2 =>
    obtain ⟨_, rfl⟩ := id e
    exact v B _ R _ X0 acc0 (hg a) _ F H _ (put_ok s a) wish
  | fld c2 f x =>
    obtain ⟨_, dd, _, rfl, _⟩ := id e
    exact v B _ _ _ X0 acc0 (hg a dd) _ F H _ (put_ok (s.exc e (n dd rfl)) a) wish
theorem catch_ok {B : Bs} {E : Ends} {P : Post} {Ψ : XP} {hl : List ExceptHandler} (h : Cls' X hl l m) (acc : Acc X.K B W Ψ) (k : Wish X.K B E P) : Acc X.K B (wMix X.K W E l) (catchW P Ψ m) := by
  induction h with
  | nil => exact acc
  | cons nm he su r ih =>
    intro er env R σ F H cls d w s e n
    obtain ⟨b, hb, yes, non⟩ := w
    obtain ⟨ec, rfl⟩ := e.cl
    refine ⟨b, he _ _ hb, fun z a na => ⟨er, hb.trans (congrArg some z), ec, ?_⟩, fun z => ih er env R σ F H _ d (non z) s e n⟩
    exact clause_ok (i := none) k (su er a { cls := .ref (He.ga X.K er.c), dict := d, data := .fields #[] } _ d [] (hb.trans (congrArg some z)) ec ⟨rfl, rfl⟩ ⟨_, rfl⟩).v (yes z) s e n
  | @as x nn i c tsE st sts p1 p2 hds2 l2 m2 em ws nm hi hl he su r ih =>
    intro er env R σ F H cls d w s e n
    obtain ⟨b, hb, yes, non⟩ := w
    obtain ⟨ec, rfl⟩ := e.cl
    refine ⟨b, he _ _ hb, fun z a na => ⟨er, hb.trans (congrArg some z), ec, ?_⟩, fun z => ih er env R σ F H _ d (non z) s e n⟩
    exact clause_ok (i := some i) k (su er a { cls := .ref (He.ga X.K er.c), dict := d, data := .fields #[] } _ d [] (hb.trans (congrArg some z)) ec ⟨rfl, rfl⟩ ⟨_, rfl⟩).v (yes z) s e n
/-- the context of a try's body, or one in which nothing runs -/
abbrev al (X : Cx) (pn : List (Addr × Obj)) (xe : Value → Shared → Prop) (stk : List Env) : Cx := { X with pn := pn, xe := xe, stack := stk }
theorem tk_idle (V : WX) : Tk (al X [] (fun _ _ => False) ((X.A.frames.getD []) ++ [X.env])) V := by
  refine ⟨fun u s' z => ?_, PassesOwn.never⟩
  obtain ⟨_, _, _, _, _, _, _, _, _, I, _⟩ := z
  have e : X.A.frames = some ((X.A.frames.getD []) ++ [X.env]) := I.ok.frames
  cases q : X.A.frames with
  | none => rw [q] at e; cases e
  | some fl =>
    rw [q] at e
    have e2 : fl = fl ++ [X.env] := Option.some.inj e
    have e3 := congrArg List.length e2
    rw [List.length_append, List.length_singleton] at e3
    omega
/-- try: .. except ..: .. -/
theorem s_try (stk : X.stack = X.env :: X.outer) (fr : X.env.frame = some X.env.locals) (nd : X.N.Nodup) (tk : Tk X W)
    (bo : ∀ (V : WX) (pn : List (Addr × Obj)) (xe : Value → Shared → Prop) (sk : List Env), Tk (al X pn xe sk) V → DSs (al X pn xe sk) V body (tb V) wb) (cl : Cls' X (h0 :: hds) l m) :
    DS X W (.Try body (h0 :: hds) [] [] pos) (fun D σ H => tb (wMix X.K W D l) D σ H) (sTry wb m) :=
  ⟨ps_try_mix stk fr nd tk.takes (fun V pn xe t p => (bo V pn xe X.stack ⟨t, p⟩).p) cl.mix, fun B env R P Ψ acc w σ F H E s k =>
    (bo (wMix X.K W E l) _ _ _ (tk_idle _)).v B env R P (catchW P Ψ m) (catch_ok (X := X) cl acc k) w σ F H E s k⟩
variable {a : Addr} {oe : Obj} {cls : Value} {d : Option Addr} {pn : List (Addr × Obj)} {e : Expr} {te : TE} {we : WE} {c f : Str}
end
end Tl
section
set_option maxHeartbeats 2000000
namespace Tl
open PySem PySem.Spec PyProof.Rows L2
section
variable {X : Cx} {a : Addr} {oe : Obj} {cls : Value} {d : Option Addr} {pn : List (Addr × Obj)}
def hasXd (d : Option Addr) (H : Hp) : Prop := match d with
  | none => True
  | some dd => ∃ fs, H dd = some (.xd fs)
def rIsX (K : PySem.W.Frag) (D a : Addr) (d : Option Addr) : List V → Hp → VK → Prop := fun xs H Q => ∃ (c : V) (u : Value) (b : Bool), xs = [.ref a, c] ∧ ClsV c u ∧ PySem.W.kitOne K (.ref D) u = some b ∧ hasXd d H ∧ Q (.bl b) H
theorem call_isX {D : Addr} (C : ExcC X.K D) (hc : cls = .ref D) (hz : Zc cls d oe) (hf : ∃ vs, oe.data = .fields vs) : CallR (X.suite a ((a, oe) :: pn)) (.builtin "isinstance") (rIsX X.K D a d) := by
  intro pins s σ H xs us Q I r h
  obtain ⟨c, u, b, rfl, kc, e, xd, q⟩ := h
  obtain ⟨u1, u2, rfl, r1, r2⟩ := vals2 r
  have e2 := kc.eq r2
  subst e2
  cases (show u1 = Value.ref a from r1)
  obtain ⟨at_, _⟩ := I.pin (a, oe) (List.mem_append.mpr (.inl List.mem_cons_self))
  obtain ⟨vs, hv⟩ := hf
  obtain ⟨oc, odd, oda, osl⟩ := oe
  obtain ⟨h1, h2⟩ := hz
  dsimp only at h1 h2 hv
  subst hc h1 h2 hv
  have hcl : (PySem.W.clsIn X.K D).isSome = true := by
    obtain ⟨cd, h, _⟩ := PySem.W.any_some C.hd
    rw [h]
    rfl
  have fin : ∀ tk, EP (X.suite a ((a, ⟨.ref D, odd, .fields vs, osl⟩) :: pn)) pins σ Q (.bool b) { s with toks := tk } := fun tk => ⟨.bl b, H, I.kept (t' := tk) fun _ _ z => z, rfl, q⟩
  cases odd with
  | none => exact PySem.W.kia_one (PySem.W.kitx_exc (x := a) (ox := ⟨.ref D, none, .fields vs, osl⟩) (od := none) hcl C.hg C.hk C.hs C.ha C.hn C.ht C.hm) I.kIn ⟨at_, rfl, rfl, trivial⟩ e (fun z => nomatch z) fin
  | some dd =>
    obtain ⟨fs, hd⟩ := xd
    obtain ⟨mA, ⟨o, es, ep, ho, _⟩, _⟩ := I.hok dd _ hd
    exact PySem.W.kia_one (PySem.W.kitx_exc (x := a) (ox := ⟨.ref D, some dd, .fields vs, osl⟩) (od := some o) hcl C.hg C.hk C.hs C.ha C.hn C.ht C.hm) I.kIn ⟨at_, rfl, rfl, ho⟩ e (fun z => nomatch z) fin
/-- isinstance(e, c): f tells the answer for the error's class -/
def hasRx (d : Option Addr) (R : List Res) : Prop := match d with
  | none => True
  | some dd => ∃ f x, Res.exc dd f x ∈ R
def kIsX (a : Addr) (d : Option Addr) (c : D) (b : Bool) : KC := fun os R Φ => match os with
  | [.adr p, .val c'] => p = a ∧ c' = c ∧ hasRx d R ∧ Φ (.val (.bl b)) R
  | _ => False
theorem c_isX {y : Str} {c : D} {b : Bool} {v : V} {u : Value} (C : ExcC X.K (He.ga X.K y)) (hc : cls = .ref (He.ga X.K y)) (hz : Zc cls d oe) (hf : ∃ vs, oe.data = .fields vs) (hv : clV X.K c = some (v, u)) (hk : PySem.W.kitOne X.K (.ref (He.ga X.K y)) u = some b) :
    DCall (X.suite a ((a, oe) :: pn)) (.builtin "isinstance") (rIsX X.K (He.ga X.K y) a d) (kIsX a d c b) := ⟨call_isX C hc hz hf, fun B env R σ F H os vs Φ Q s eo φ q => by
  unfold kIsX at φ
  split at φ
  · obtain ⟨rfl, rfl, hx, φ⟩ := φ
    obtain ⟨w1, w2, rfl, e1, e2⟩ := ens2i eo
    have e1' := en_adr e1
    subst e1'
    have cv : ClsV w2 u := by
      unfold clV at hv
      split at hv
      · cases hv; rw [of_ty (en_val e2)]; exact .ty _
      · cases hv; rw [of_glo (en_val e2)]; exact .own _
      · cases hv
    refine ⟨w2, u, b, rfl, cv, hk, ?_, q _ R _ F H φ s Ex.rfl (enVal (rep_bl _))⟩
    cases d with
    | none => trivial
    | some dd =>
      obtain ⟨f, x, m⟩ := hx
      obtain ⟨z, h, _⟩ := s.fin.rk.ok _ m
      exact ⟨_, h⟩
  · exact False.elim φ⟩
end
end Tl
end
namespace Tl
open PySem PySem.Spec PyProof.Rows L2
theorem xCls_ok {K : PySem.W.Frag} {C : Addr} (q : xCls K C = true) : ∃ nm q N bs bm sn sub ab col dd k0 k1 k2 k3 k5, K.lookup C = some (excClassObj nm q C N bs bm true sn sub ab col dd k0 k1 k2 k3 k5 "ValueError.__new__") ∧ HandSPX.refsVE bm = true := by
  unfold xCls at q
  split at q
  · rename_i dd cd sl ho
    split at q
    · rename_i C' bm k0 k1 k2 k3 n k5 hm hs
      simp only [Bool.and_eq_true, beq_iff_eq, Bool.not_eq_true'] at q
      obtain ⟨⟨⟨⟨rfl, rfl⟩, hdel⟩, hdc⟩, ht⟩ := q
      obtain ⟨nm, bs, mro, ns, qn, hd, sn, sub, ab, col, del⟩ := cd
      dsimp only at hm hdel hdc
      subst hm hdel hdc
      have hsl : sl = #[k0, k1, k2, k3, some (.builtin "ValueError.__new__"), k5] := by
        obtain ⟨l⟩ := sl
        simp only at hs
        rw [hs]
      subst hsl
      exact ⟨nm, qn, ns, bs, bm, sn, sub, ab, col, dd, k0, k1, k2, k3, k5, ho, ht⟩
    · cases q
  · cases q
theorem xFn_ok {prog : Program} {K : PySem.W.Frag} {C fI : Addr} {name qual : Str} {params : Arguments} {body : List Stmt} {scope : Scope} (e : fnV K fI = (some (name, qual, params, FuncBody.stmts body, scope, mainGlobals, ["__class__"], builtinsNs) : FnV)) (q : xFnB prog K C fI qual = true) :
    ∃ (oc : Value) (od : Option Addr) (doc pm : Value) (an : Option Addr) (cda : Addr) (ct : Value) (osl : Array (Option Value)) (cc : Addr), K.lookup fI = some ⟨oc, od, .func (PySem.W.ksFn name qual params body scope .none .none doc pm an (.ref cda) ct cc), osl⟩ ∧ PySem.W.codeIn K (.ref cda) qual = true ∧
      (∃ ccl cdd vs ccs file tf, K.lookup cda = some ⟨ccl, cdd, .fields vs, ccs⟩ ∧ vs[2]? = some (.str file tf) ∧ ((prog.main.file : Str) == file) = true) ∧ (∃ cl cld csl, K.lookup cc = some ⟨cl, cld, .cell (some (.ref C)), csl⟩) := by
  unfold fnV at e
  unfold xFnB at q
  split at q
  · rename_i oc od fd osl ho
    rw [ho] at e
    dsimp only at e
    split at q
    · rename_i cda n cc h1 h2 h3 h4
      obtain ⟨n1, n2, n3, n4, n5, n6, n7, n8, n9, n10, n11, n12, n13, n14, n15⟩ := fd
      dsimp only at h1 h2 h3 h4 e
      subst h1 h2 h3 h4
      simp only [Option.some.injEq, Prod.mk.injEq, List.map_cons, List.map_nil, List.cons.injEq, and_true] at e
      obtain ⟨e1, e2, e3, e4, e5, e6, e7, e8⟩ := e
      subst e1 e2 e3 e4 e5 e6 e7 e8
      rw [Bool.and_eq_true, Bool.and_eq_true] at q
      obtain ⟨q1, q2, q3⟩ := q
      refine ⟨oc, od, n10, n11, n12, cda, n14, osl, cc, ho, q1, ?_, ?_⟩
      · split at q2
        · rename_i ccl cdd vs ccs hk
          split at q2
          · rename_i file tf hv
            exact ⟨ccl, cdd, vs, ccs, file, tf, hk, hv, q2⟩
          · cases q2
        · cases q2
      · split at q3
        · rename_i cl cld D csl hk
          rw [of_decide_eq_true q3] at hk
          exact ⟨cl, cld, csl, hk⟩
        · cases q3
    · cases q
  · cases q
end Tl
namespace Tl
open PySem PySem.Spec PyProof.Rows L2
mutual
def pyOf : D → PyData
  | .non => .none
  | .bl b => .bool b
  | .int i => .int i
  | .str z => .str z
  | .tup ds => .tuple (pyOfL ds)
  | .lst ds => .list (pyOfL ds)
  | .obj _ _ _ => .none
  | .dct _ _ => .none
  | .glo _ => .none
  | .ty _ => .none
def pyOfL : List D → List PyData
  | [] => []
  | d :: ds => pyOf d :: pyOfL ds
end
mutual
/-- none, bools, ints, texts, lists and tuples of them -/
def plainD : D → Bool
  | .non => true
  | .bl _ => true
  | .int _ => true
  | .str z => PyData.strOk z
  | .tup ds => plainL ds
  | .lst ds => plainL ds
  | .obj _ _ _ => false
  | .dct _ _ => false
  | .glo _ => false
  | .ty _ => false
def plainL : List D → Bool
  | [] => true
  | d :: ds => plainD d && plainL ds
end
mutual
theorem rep_dp {K : PySem.W.Frag} {F H : Hp} (x : Ex F H) : ∀ (d : D) (v : V), plainD d = true → Rep K F d v → Dp K H v (pyOf d)
  | .non, _, _, r => by rw [of_non r]; exact .non
  | .bl b, _, _, r => by rw [of_bl r]; exact .bl b
  | .int i, _, _, r => by rw [of_int r]; exact .int i
  | .str z, _, _, r => by rw [of_str r]; exact .str z
  | .tup ds, _, p, r => by
    obtain ⟨a, vs, rfl, fa, rl⟩ := of_tup r
    rw [pyOf]
    rw [plainD] at p
    exact .tup (.inl (.inl (x _ _ fa))) (reps_dp x ds vs p rl)
  | .lst ds, _, p, r => by
    obtain ⟨a, vs, rfl, fa, rl⟩ := of_lst r
    rw [pyOf]
    rw [plainD] at p
    exact .lst (.inl (.inl (x _ _ fa))) (reps_dp x ds vs p rl)
  | .obj _ _ _, _, p, _ => by rw [plainD] at p; cases p
  | .dct _ _, _, p, _ => by rw [plainD] at p; cases p
  | .glo _, _, p, _ => by rw [plainD] at p; cases p
  | .ty _, _, p, _ => by rw [plainD] at p; cases p
theorem reps_dp {K : PySem.W.Frag} {F H : Hp} (x : Ex F H) : ∀ (ds : List D) (vs : List V), plainL ds = true → RepL K F ds vs → DpAll K H vs (pyOfL ds)
  | [], _, _, r => by
    unfold RepL at r
    rw [r, pyOfL]
    exact .nil
  | d :: ds, _, p, r => by
    unfold RepL at r
    obtain ⟨v, l, rfl, r1, r2⟩ := r
    rw [plainL, Bool.and_eq_true] at p
    rw [pyOfL]
    exact .cons (rep_dp x d v p.1 r1) (reps_dp x ds l p.2 r2)
end
mutual
theorem plain_lay : ∀ d : D, plainD d = true → (pyOf d).canLay0 = true
  | .non, _ => by rw [pyOf, PyData.canLay0]
  | .bl b, _ => by rw [pyOf, PyData.canLay0]
  | .int i, _ => by rw [pyOf, PyData.canLay0]
  | .str z, p => by rw [plainD] at p; rw [pyOf, PyData.canLay0]; exact p
  | .tup ds, p => by rw [plainD] at p; rw [pyOf, PyData.canLay0]; exact plains_lay ds p
  | .lst ds, p => by rw [plainD] at p; rw [pyOf, PyData.canLay0]; exact plains_lay ds p
  | .obj _ _ _, p => by rw [plainD] at p; cases p
  | .dct _ _, p => by rw [plainD] at p; cases p
  | .glo _, p => by rw [plainD] at p; cases p
  | .ty _, p => by rw [plainD] at p; cases p
theorem plains_lay : ∀ ds : List D, plainL ds = true → PyData.canLayAll0 (pyOfL ds) = true
  | [], _ => by rw [pyOfL, PyData.canLayAll0]
  | d :: ds, p => by
    rw [plainL, Bool.and_eq_true] at p
    rw [pyOfL, PyData.canLayAll0, plain_lay d p.1, plains_lay ds p.2]
    rfl
end
mutual
def dpD : D → Nat
  | .tup ds => dpL ds + 1
  | .lst ds => dpL ds + 1
  | .non => 0
  | .bl _ => 0
  | .int _ => 0
  | .str _ => 0
  | .obj _ _ _ => 0
  | .dct _ _ => 0
  | .glo _ => 0
  | .ty _ => 0
def dpL : List D → Nat
  | [] => 0
  | d :: ds => max (dpD d) (dpL ds)
end
mutual
theorem dp_ok : ∀ d : D, (pyOf d).depth = dpD d
  | .non => by rw [pyOf, PyData.depth, dpD]
  | .bl b => by rw [pyOf, PyData.depth, dpD]
  | .int i => by rw [pyOf, PyData.depth, dpD]
  | .str z => by rw [pyOf, PyData.depth, dpD]
  | .tup ds => by rw [pyOf, PyData.depth, dpD, dps_ok ds]
  | .lst ds => by rw [pyOf, PyData.depth, dpD, dps_ok ds]
  | .obj _ _ _ => by rw [pyOf, PyData.depth, dpD]
  | .dct _ _ => by rw [pyOf, PyData.depth, dpD]
  | .glo _ => by rw [pyOf, PyData.depth, dpD]
  | .ty _ => by rw [pyOf, PyData.depth, dpD]
theorem dps_ok : ∀ ds : List D, PyData.depthAll (pyOfL ds) = dpL ds
  | [] => by rw [pyOfL, PyData.depthAll, dpL]
  | d :: ds => by rw [pyOfL, PyData.depthAll, dpL, dp_ok d, dps_ok ds]
end
/-- data whose == is known -/
def PlD (d : D) : Prop := plainD d = true ∧ dpD d ≤ 64
theorem PlD.shaped {d : D} (h : PlD d) : SeqAt.shaped (pyOf d) = true := by
  show (PyData.canLay0 (pyOf d) && decide ((pyOf d).depth ≤ 64)) = true
  rw [plain_lay d h.1, dp_ok]
  exact decide_eq_true h.2
/-- == of data -/
def eqD (d e : D) : Bool := PyData.eqv (pyOf d) (pyOf e)
def kEqD (neg : Bool) : KO := fun x y R Φ => match x, y with
  | .val i, .val j => PlD i ∧ PlD j ∧ Φ (.val (.bl (if neg then !eqD i j else eqD i j))) R
  | _, _ => False
section
variable {X : Cx} {j : Nat}
theorem o_eqD (hr : Room j X.A) : DOp X (compareOp .Eq) (rEqD X.K) (kEqD false) := ⟨op_eqD (by have := hr.un; omega), fun B env R σ F H x y v u Φ Q s ex ey k q => by
  cases x with
  | no => exact False.elim k
  | adr p => exact False.elim k
  | val d =>
    cases y with
    | no => exact False.elim k
    | adr p => exact False.elim k
    | val d2 =>
      obtain ⟨p1, p2, k⟩ := k
      exact ⟨pyOf d, pyOf d2, rep_dp s.fin.fh d v p1.1 (en_val ex), rep_dp s.fin.fh d2 u p2.1 (en_val ey), p1.shaped, p2.shaped, q _ R _ F H k s Ex.rfl (enVal (rep_bl _))⟩⟩
theorem o_neD (hr : Room j X.A) : DOp X (compareOp .NotEq) (rNeD X.K) (kEqD true) := ⟨op_neD (by have := hr.un; omega), fun B env R σ F H x y v u Φ Q s ex ey k q => by
  cases x with
  | no => exact False.elim k
  | adr p => exact False.elim k
  | val d =>
    cases y with
    | no => exact False.elim k
    | adr p => exact False.elim k
    | val d2 =>
      obtain ⟨p1, p2, k⟩ := k
      exact ⟨pyOf d, pyOf d2, rep_dp s.fin.fh d v p1.1 (en_val ex), rep_dp s.fin.fh d2 u p2.1 (en_val ey), p1.shaped, p2.shaped, q _ R _ F H k s Ex.rfl (enVal (rep_bl _))⟩⟩
end
end Tl
namespace Tl
open PySem PySem.Spec PyProof.Rows L2
/-- o is the list ds, owned or settled -/
def LsAt (R : List Res) : En → List D → Prop
  | .val (.lst es), ds => es = ds
  | .adr p, ds => Res.lst p ds ∈ R
  | _, _ => False
section
variable {X : Cx}
theorem LsAt.get {K : PySem.W.Frag} {B : Bs} {env : List En} {R : List Res} {σ : L2.St} {F H : Hp} {o : En} {v : V} {ds : List D} (s : S K B env R σ F H) (e : EnOk K F o (some v)) (h : LsAt R o ds) : ∃ a vs, v = .ref a ∧ H a = some (.lst vs) ∧ RepL K F ds vs := by
  cases o with
  | no => exact False.elim h
  | adr p =>
    obtain ⟨vs, hp, r⟩ := s.ownM h
    exact ⟨p, vs, en_adr e, hp, r⟩
  | val d =>
    cases d with
    | lst es =>
      obtain rfl : es = ds := h
      obtain ⟨a, vs, rfl, fa, r⟩ := of_lst (en_val e)
      exact ⟨a, vs, rfl, s.fin.fh _ _ fa, r⟩
    | _ => exact False.elim h
def kCat : KO := fun x y R Φ => ∃ xs ys, LsAt R x xs ∧ LsAt R y ys ∧ xs.length + ys.length ≤ sizeLine ∧ ∀ p, Φ (.adr p) (.lst p (xs ++ ys) :: R)
theorem o_cat : DOp X (binaryOp .Add) rCat kCat := ⟨op_cat, fun B env R σ F H x y v u Φ Q s ex ey k q => by
  obtain ⟨xs, ys, h1, h2, hl, φ⟩ := k
  obtain ⟨a, vs, rfl, ha, r1⟩ := h1.get s ex
  obtain ⟨b, us, rfl, hb, r2⟩ := h2.get s ey
  exact ⟨a, b, vs, us, rfl, rfl, ha, hb, by rw [r1.len, r2.len]; exact hl, fun p hp => q _ _ _ F _ (φ p) (s.newL hp (r1.app r2)) Ex.rfl rfl⟩⟩
def kCatT : KO := fun x y R Φ => match x, y with
  | .val (.tup xs), .val (.tup ys) => xs.length + ys.length ≤ sizeLine ∧ Φ (.val (.tup (xs ++ ys))) R
  | _, _ => False
theorem o_catT : DOp X (binaryOp .Add) (rCatA X.K) kCatT := ⟨op_catA, fun B env R σ F H x y v u Φ Q s ex ey k q => by
  unfold kCatT at k
  split at k
  · rename_i xs ys
    obtain ⟨hl, φ⟩ := k
    obtain ⟨a, vs, rfl, fa, r1⟩ := of_tup (en_val ex)
    obtain ⟨b, us, rfl, fb, r2⟩ := of_tup (en_val ey)
    refine ⟨a, b, vs, us, rfl, rfl, SqT.of (s.fin.fh _ _ fa), SqT.of (s.fin.fh _ _ fb), by rw [r1.len, r2.len]; exact hl, fun e => ?_, fun _ e => ?_, fun _ _ p hp => ?_⟩
    · subst e
      have e0 : xs = [] := List.eq_nil_of_length_eq_zero (r1.len).symm
      subst e0
      exact q _ _ _ F _ φ s Ex.rfl ey
    · subst e
      have e0 : ys = [] := List.eq_nil_of_length_eq_zero (r2.len).symm
      subst e0
      rw [List.append_nil] at φ
      exact q _ _ _ F _ φ s Ex.rfl ex
    · obtain ⟨s2, x2⟩ := s.newF (o := .tup (vs ++ us)) hp
      exact q _ _ _ _ _ φ s2 x2 (enVal (mk_tup upd_same (RepL.up x2 _ _ (r1.app r2))))
  · exact False.elim k⟩
end
end Tl
namespace Tl
open PySem PySem.Spec PyProof.Rows L2
theorem map_eqs {α β : Type} {f g : α → β} : ∀ {l : List α}, l.map f = l.map g → ∀ x ∈ l, f x = g x
  | [], _, x, m => nomatch m
  | a :: l, h, x, m => by
    rw [List.map_cons, List.map_cons] at h
    injection h with h1 h2
    rcases List.mem_cons.mp m with rfl | m
    · exact h1
    · exact map_eqs h2 x m
/-- the text of an __init__, apart from the heap -/
structure XSt (x : XD) : Prop where
  f1 : x.f ≠ "self"
  f2 : x.f ≠ "__class__"
  f3 : x.f ≠ "super"
  f4 : x.f ≠ "__debug__"
  f5 : x.f ≠ "__classdict__"
  t : ∃ (msg : Str) (k : Nat) (a1 a2 p0 p1 p2 p3 p4 p5 q1 q2 q3 q4 : Pos), defArgs x.st = Exf.argsX x.f a1 a2 ∧ defBody x.st = Exf.bodyX x.f msg k p0 p1 p2 p3 p4 p5 q1 q2 q3 q4 ∧ defScope x.st = Exf.scopeX x.f ∧
    (∀ (qual : Str) (doc pm : Value) (an : Option Addr) (cda : Addr) (ct : Value) (cc : Addr) (u v : Value), bindArgs (PySem.W.ksFn "__init__" qual (Exf.argsX x.f a1 a2) (Exf.bodyX x.f msg k p0 p1 p2 p3 p4 p5 q1 q2 q3 q4) (Exf.scopeX x.f) .none .none doc pm an (.ref cda) ct cc) ⟨[u, v], []⟩ = pure [(("self" : Str), u), (x.f, v)]) ∧
    ∀ env : Env, ∃ pl : Sem Bool, eval (.Call (.Attribute (.Call (.Name "super" p0) [] [] p1) "__init__" p2) [.Constant (.str msg) k p3] [] p4) env = (do
      let ov ← attributeBase (.Call (.Name "super" p0) [] [] p1) "__init__" env (eval (.Call (.Name "super" p0) [] [] p1) env)
      standAt p2.atName
      let (g, first) ← holding [ov] (getMethod ov "__init__" pl)
      callWith p4 g first (backTo p4 (starEach [.Constant (.str msg) k p3] env)) [])
theorem exF_of {prog : Program} {K : PySem.W.Frag} {h : Heap} {mg : Str → Option Value} {x : XD} (X : K.In h) (G : h.Ns mainGlobals mg) (xs : XSt x) (e : fnV K (x.at_ K) = x.val) (ok : x.ok prog K = true) (st : PySem.W.nsIn K cStatics "thirdparty.any" = some none) (top : (prog.main.scope.names.lookup ("super" : Str)).isSome = false)
    (g : (He.Fa.glo x.c).ok K = true) (s : (He.Fa.free "super").ok K = true) : ExF prog K mg x.c x.f := by
  unfold XD.ok at ok
  simp only [Bool.and_eq_true, decide_eq_true_eq] at ok
  obtain ⟨o1, o2, o3, o4, o5, o6, o7, o8, o9, o10, o11, o12⟩ := ok
  obtain ⟨msg, k, a1, a2, p0, p1, p2, p3, p4, p5, q1, q2, q3, q4, t1, t2, t3, t4, t5⟩ := xs.t
  have e' : fnV K (x.at_ K) = (some ("__init__", x.q, defArgs x.st, FuncBody.stmts (defBody x.st), defScope x.st, mainGlobals, ["__class__"], builtinsNs) : FnV) := e
  obtain ⟨oc, od, doc, pm, an, cda, ct, osl, cc, k1, k2, k3, k4⟩ := xFn_ok e' o9
  rw [t1, t2, t3] at k1
  refine ⟨⟨x.at_ K, ⟨xCls_ok o1, He.eqO_ok o2, He.eqO_ok o3, He.eqO_ok o4, o5, He.eqO_ok o6, o7, o8, st, top, xs.f1, xs.f2, xs.f3, xs.f4, xs.f5, ?_⟩⟩, o10, o11, o12, He.glo_ok X G g, He.free_ok X G s⟩
  exact ⟨oc, od, x.q, doc, pm, an, cda, ct, osl, cc, msg, k, a1, a2, p0, p1, p2, p3, p4, p5, q1, q2, q3, q4, k1, k2, k3, k4, fun u v => t4 _ _ _ _ _ _ _ u v, t5⟩
end Tl
section
set_option maxHeartbeats 2000000
namespace Tl
open PySem PySem.Spec PyProof.Rows L2 L2H
end Tl
end
section
set_option maxHeartbeats 2000000
namespace Tl
open PySem PySem.Spec PyProof.Rows L2
end Tl
end
namespace Tl
open PySem PySem.Spec PyProof.Rows L2 L2H
theorem exK_of {K : PySem.W.Frag} {h : Heap} {mg : Str → Option Value} {x : Str} (X : K.In h) (G : h.Ns mainGlobals mg) (c : (He.Fa.exc x).ok K = true) (g : (He.Fa.glo x).ok K = true) : ExK K mg x := by
  obtain ⟨a, b, d, e⟩ := He.exc_ok c
  exact ⟨a, b, d, e, He.glo_ok X G g⟩
theorem excB_ok {K : PySem.W.Frag} {D : Addr} (h : excB K D = true) : ExcC K D ∧ XfC K D := by
  unfold excB at h
  simp only [Bool.and_eq_true, decide_eq_true_eq] at h
  obtain ⟨h1, h2, h3, h4, h5, h6, h7, h8⟩ := h
  exact ⟨⟨He.eqO_ok h1, He.eqO_ok h2, h3, h4, He.eqO_ok h5, He.eqO_ok h6, h7, h8⟩, ⟨He.eqO_ok h1, He.eqO_ok h2, h3, h4⟩⟩
end Tl
namespace Tl
open PySem PySem.Spec PyProof.Rows L2
inductive A where
  | no | val (d : D) | own (ds : List D) | bag
  | ins (p : Addr × Addr) (c : Str) (ns : List Str) (ds : List D)
  | dic (ks : List Key) (ds : List D)
  | lnt (p : Addr) (ds : List D)
  | dnt (p : Addr) (ks : List Key) (ds : List D)
  | see (ds : List D)
  | seeD (ks : List Key) (ds : List D)
  | err (q : Addr) (d : Option Addr) (er : Er)
  | tre (t : OT)
  | seeT (t : OT)
abbrev A2 := Addr × Addr
def OT.en : OT → En
  | .d x => .val x
  | .l a _ => .adr a
  | .t a _ => .adr a
  | .k a _ _ => .adr a
  | .m a _ _ => .adr a
  | .o a _ _ _ _ => .adr a
  | .z a _ _ => .adr a
  | .h a => .adr a
def A.en (b : Addr) (p : A2) : A → En
  | .no => .no
  | .val d => .val d
  | .own _ => .adr p.1
  | .bag => .adr b
  | .ins q _ _ _ => .adr q.1
  | .dic _ _ => .adr p.1
  | .lnt q _ => .adr q
  | .dnt q _ _ => .adr q
  | .see _ => .adr p.1
  | .seeD _ _ => .adr p.1
  | .err q _ _ => .adr q
  | .tre t => t.en
  | .seeT t => t.en
def A.res (p : A2) : A → List Res
  | .own ds => [.lst p.1 ds]
  | .ins q c ns ds => [.ins q.1 q.2 c ns ds]
  | .dic ks ds => [.dct p.1 ks ds]
  | .lnt q ds => [.lst q ds]
  | .dnt q ks ds => [.dct q ks ds]
  | .err _ (some dd) (.fld _ f x) => [.exc dd f x]
  | .tre t => [.tre t]
  | _ => []
/-- what a slot shows that belongs to another -/
def A.shown (p : A2) : A → Option Res
  | .see ds => some (.lst p.1 ds)
  | .seeD ks ds => some (.dct p.1 ks ds)
  | .seeT t => some (.tre t)
  | _ => none
def concAt (b : Addr) (ps : Nat → A2) : Nat → List A → List En
  | _, [] => []
  | n, a :: r => a.en b (ps n) :: concAt b ps (n + 1) r
def resAt (ps : Nat → A2) : Nat → List A → List Res
  | _, [] => []
  | n, a :: r => a.res (ps n) ++ resAt ps (n + 1) r
def updP (ps : Nat → A2) (k : Nat) (p : A2) : Nat → A2 := fun j => if j = k then p else ps j
section
variable {b : Addr} {ps : Nat → A2}
theorem res_upd : ∀ (env : List A) (n k : Nat) (p : A2), k < n → resAt (updP ps k p) n env = resAt ps n env
  | [], _, _, _, _ => rfl
  | a :: r, n, k, p, h => by
    rw [resAt, resAt, res_upd r (n + 1) k p (by omega)]
    unfold updP
    rw [if_neg (by omega)]
theorem upd_self (k : Nat) : updP ps k (ps k) = ps := by
  funext j
  unfold updP
  split
  · rename_i h; rw [h]
  · rfl
theorem res_split : ∀ (env : List A) (n i : Nat) (a : A), env[i]? = some a → (resAt ps n env).Perm (a.res (ps (n + i)) ++ resAt ps n (env.set i .no))
  | [], _, _, _, h => by simp at h
  | x :: r, n, 0, a, h => by
    have e : x = a := Option.some.inj h
    subst e
    rw [List.set_cons_zero, resAt, resAt]
    exact List.Perm.refl _
  | x :: r, n, i + 1, a, h => by
    rw [List.set_cons_succ, resAt, resAt, show n + (i + 1) = n + 1 + i by omega]
    refine ((res_split r (n + 1) i a h).append_left _).trans ?_
    rw [← List.append_assoc, ← List.append_assoc]
    exact List.Perm.append_right _ List.perm_append_comm
theorem res_set : ∀ (env : List A) (n i : Nat) (p : A2) (a : A), i < env.length → (resAt (updP ps (n + i) p) n (env.set i a)).Perm (a.res p ++ resAt ps n (env.set i .no))
  | [], _, _, _, _, h => by simp at h
  | x :: r, n, 0, p, a, h => by
    rw [List.set_cons_zero, List.set_cons_zero, resAt, resAt, res_upd r (n + 1) (n + 0) p (by omega)]
    unfold updP
    rw [if_pos (by omega)]
    exact List.Perm.refl _
  | x :: r, n, i + 1, p, a, h => by
    rw [List.set_cons_succ, List.set_cons_succ, resAt, resAt, show n + (i + 1) = n + 1 + i by omega]
    refine ((res_set r (n + 1) i p a (by simpa using h)).append_left _).trans ?_
    have e : updP ps (n + 1 + i) p n = ps n := by
      unfold updP
      rw [if_neg (by omega)]
    rw [e, ← List.append_assoc, ← List.append_assoc]
    exact List.Perm.append_right _ List.perm_append_comm
end
/-- the slots hold what env says; no says nothing -/
def CeOk (b : Addr) (ps : Nat → A2) : Nat → List A → List En → Prop
  | _, [], [] => True
  | n, a :: r, e :: t => (a = .no ∨ e = a.en b (ps n)) ∧ CeOk b ps (n + 1) r t
  | _, _, _ => False
section
variable {b : Addr} {ps : Nat → A2}
theorem CeOk.of : ∀ {env : List A} {n : Nat}, CeOk b ps n env (concAt b ps n env)
  | [], _ => trivial
  | _ :: r, n => ⟨.inr rfl, CeOk.of⟩
theorem CeOk.len : ∀ {env : List A} {cenv : List En} {n : Nat}, CeOk b ps n env cenv → cenv.length = env.length
  | [], [], _, _ => rfl
  | [], _ :: _, _, h => False.elim h
  | _ :: _, [], _, h => False.elim h
  | _ :: r, _ :: t, n, h => by rw [List.length_cons, List.length_cons, CeOk.len h.2]
theorem CeOk.get : ∀ {env : List A} {cenv : List En} {n i : Nat} {a : A}, CeOk b ps n env cenv → env[i]? = some a → a ≠ .no → cenv[i]? = some (a.en b (ps (n + i)))
  | [], [], _, _, _, _, e, _ => by simp at e
  | [], _ :: _, _, _, _, h, _, _ => False.elim h
  | _ :: _, [], _, _, _, h, _, _ => False.elim h
  | x :: r, y :: t, n, 0, a, h, e, hn => by
    have e1 : x = a := Option.some.inj e
    subst e1
    rcases h.1 with h1 | h1
    · exact absurd h1 hn
    · rw [h1]; rfl
  | x :: r, y :: t, n, i + 1, a, h, e, hn => by
    rw [List.getElem?_cons_succ, CeOk.get (i := i) h.2 e hn, show n + 1 + i = n + (i + 1) by omega]
theorem CeOk.up : ∀ {env : List A} {cenv : List En} {n k : Nat} {p : A2}, k < n → CeOk b ps n env cenv → CeOk b (updP ps k p) n env cenv
  | [], [], _, _, _, _, _ => trivial
  | [], _ :: _, _, _, _, _, h => False.elim h
  | _ :: _, [], _, _, _, _, h => False.elim h
  | x :: r, y :: t, n, k, p, hk, h => by
    refine ⟨?_, CeOk.up (by omega) h.2⟩
    have e : updP ps k p n = ps n := by
      unfold updP
      rw [if_neg (by omega)]
    rw [e]; exact h.1
theorem CeOk.set : ∀ {env : List A} {cenv : List En} {n i : Nat} {p : A2} {a : A}, CeOk b ps n env cenv → CeOk b (updP ps (n + i) p) n (env.set i a) (cenv.set i (a.en b p))
  | [], [], _, _, _, _, _ => trivial
  | [], _ :: _, _, _, _, _, h => False.elim h
  | _ :: _, [], _, _, _, _, h => False.elim h
  | x :: r, y :: t, n, 0, p, a, h => by
    refine ⟨.inr ?_, CeOk.up (by omega) h.2⟩
    have e : updP ps (n + 0) p n = p := by
      unfold updP
      rw [if_pos (by omega)]
    rw [e]
  | x :: r, y :: t, n, i + 1, p, a, h => by
    refine ⟨?_, ?_⟩
    · have e : updP ps (n + (i + 1)) p n = ps n := by
        unfold updP
        rw [if_neg (by omega)]
      rw [e]; exact h.1
    · show CeOk b (updP ps (n + (i + 1)) p) (n + 1) (r.set i a) (t.set i (a.en b p))
      rw [show n + (i + 1) = n + 1 + i by omega]
      exact CeOk.set h.2
/-- a slot is forgotten -/
theorem CeOk.no : ∀ {env : List A} {cenv : List En} {n i : Nat}, CeOk b ps n env cenv → CeOk b ps n (env.set i .no) cenv
  | [], [], _, _, _ => trivial
  | [], _ :: _, _, _, h => False.elim h
  | _ :: _, [], _, _, h => False.elim h
  | x :: r, y :: t, n, 0, h => ⟨.inl rfl, h.2⟩
  | x :: r, y :: t, n, i + 1, h => ⟨h.1, CeOk.no (i := i) h.2⟩
end
/-- what is owned holds R0, and more -/
def SubR (R0 R : List Res) : Prop := ∃ G, R.Perm (G ++ R0)
structure Rel (b : Addr) (R0 : List Res) (ps : Nat → A2) (env : List A) (cenv : List En) (R : List Res) : Prop where
  ce : CeOk b ps 0 env cenv
  rs : SubR (resAt ps 0 env ++ R0) R
  bg : A.bag ∈ env → ∃ l, Res.bag b l ∈ R0
  sw : ∀ (i : Nat) (a : A) (r : Res), env[i]? = some a → a.shown (ps i) = some r → r ∈ R0
theorem sw_set {env : List A} {ps : Nat → A2} {R0 : List Res} (h : ∀ (i : Nat) (a : A) (r : Res), env[i]? = some a → a.shown (ps i) = some r → r ∈ R0) {i : Nat} {a' : A} (ha : ∀ p, a'.shown p = none) (ps' : Nat → A2) (hp : ∀ j, j ≠ i → ps' j = ps j) : ∀ (j : Nat) (a : A) (r : Res), (env.set i a')[j]? = some a → a.shown (ps' j) = some r → r ∈ R0 := fun j a r e s => by
  by_cases q : j = i
  · subst q
    rw [List.getElem?_set_self'] at e
    cases q2 : env[j]? with
    | none => rw [q2] at e; cases e
    | some x =>
      rw [q2] at e
      cases e
      have s2 : a'.shown (ps' j) = some r := s
      rw [ha] at s2
      cases s2
  · rw [List.getElem?_set_ne (Ne.symm q)] at e
    rw [hp j q] at s
    exact h j a r e s
section
variable {b : Addr} {R0 : List Res} {ps : Nat → A2} {env : List A} {cenv : List En} {R : List Res}
theorem SubR.mem {R0 R : List Res} (h : SubR R0 R) {r : Res} (m : r ∈ R0) : r ∈ R := by
  obtain ⟨G, p⟩ := h
  exact p.mem_iff.mpr (List.mem_append_right _ m)
theorem SubR.cons {R0 R : List Res} (h : SubR R0 R) (r : Res) : SubR R0 (r :: R) := by
  obtain ⟨G, p⟩ := h
  exact ⟨r :: G, p.cons r⟩
theorem SubR.tr {R0 R1 R : List Res} (h : SubR R0 R1) (g : SubR R1 R) : SubR R0 R := by
  obtain ⟨G, p⟩ := h
  obtain ⟨G2, q⟩ := g
  exact ⟨G2 ++ G, by rw [List.append_assoc]; exact q.trans (p.append_left _)⟩
theorem SubR.refl (R : List Res) : SubR R R := ⟨[], List.Perm.refl _⟩
theorem Rel.base (h : Rel b R0 ps env cenv R) : SubR R0 R := by
  obtain ⟨G, p⟩ := h.rs
  exact ⟨G ++ resAt ps 0 env, by rw [List.append_assoc]; exact p⟩
theorem Rel.get (h : Rel b R0 ps env cenv R) {i : Nat} {a : A} (e : env[i]? = some a) (hn : a ≠ .no := by intro z; cases z) : cenv[i]? = some (a.en b (ps i)) := by
  have g := h.ce.get e hn
  rw [Nat.zero_add] at g
  exact g
theorem Rel.more (h : Rel b R0 ps env cenv R) (r : Res) : Rel b R0 ps env cenv (r :: R) := ⟨h.ce, h.rs.cons r, h.bg, h.sw⟩
theorem Rel.perm (h : Rel b R0 ps env cenv R) {R' : List Res} (p : R'.Perm R) : Rel b R0 ps env cenv R' := by
  obtain ⟨G, q⟩ := h.rs
  exact ⟨h.ce, ⟨G, p.trans q⟩, h.bg, h.sw⟩
theorem bag_set {env : List A} {i : Nat} {a : A} (m : A.bag ∈ env.set i a) (h : a ≠ .bag) : A.bag ∈ env := by
  rcases List.mem_or_eq_of_mem_set m with m | m
  · exact m
  · exact absurd m.symm h
/-- a slot gets a datum -/
theorem Rel.setV (h : Rel b R0 ps env cenv R) (i : Nat) (d : D) : Rel b R0 ps (env.set i (.val d)) (cenv.set i (.val d)) R := by
  by_cases hi : i < env.length
  · refine ⟨?_, ?_, fun m => h.bg (bag_set m (fun z => nomatch z)), sw_set h.sw (fun _ => rfl) ps fun _ _ => rfl⟩
    · have e := h.ce.set (i := i) (p := ps (0 + i)) (a := .val d)
      rw [upd_self] at e
      exact e
    · have e := res_set (ps := ps) env 0 i (ps (0 + i)) (.val d) hi
      rw [upd_self] at e
      obtain ⟨a, ha⟩ : ∃ a, env[i]? = some a := ⟨env[i], List.getElem?_eq_getElem hi⟩
      have s := res_split (ps := ps) env 0 i a ha
      refine SubR.tr ?_ h.rs
      refine ⟨a.res (ps (0 + i)), ?_⟩
      refine (s.append_right R0).trans ?_
      rw [List.append_assoc]
      exact List.Perm.append_left _ (List.Perm.append_right _ e.symm)
  · rw [List.set_eq_of_length_le (by omega), List.set_eq_of_length_le (by rw [h.ce.len]; omega)]
    exact h
theorem perm_mid3 {α : Type} {a g x t : List α} : (a ++ (g ++ (x ++ t))).Perm ((g ++ x) ++ (a ++ t)) := by
  have e1 : a ++ (g ++ (x ++ t)) = (a ++ (g ++ x)) ++ t := by simp only [List.append_assoc]
  have e2 : (g ++ x) ++ (a ++ t) = ((g ++ x) ++ a) ++ t := by simp only [List.append_assoc]
  rw [e1, e2]
  exact List.Perm.append_right _ List.perm_append_comm
/-- a slot gets something new of its own -/
theorem Rel.setN' (h : Rel b R0 ps env cenv R) (i : Nat) (p : A2) (a : A) (hb : a ≠ .bag) (hs : ∀ p, a.shown p = none := by intro _; rfl) : ∃ ps', Rel b R0 ps' (env.set i a) (cenv.set i (a.en b p)) (a.res p ++ R) := by
  by_cases hi : i < env.length
  · refine ⟨updP ps i p, ?_, ?_, fun m => h.bg (bag_set m hb), sw_set h.sw hs _ fun j q => by unfold updP; rw [if_neg q]⟩
    · have e := h.ce.set (i := i) (p := p) (a := a)
      rw [Nat.zero_add] at e
      exact e
    · have e := res_set (ps := ps) env 0 i p a hi
      rw [Nat.zero_add] at e
      obtain ⟨x, hx⟩ : ∃ x, env[i]? = some x := ⟨env[i], List.getElem?_eq_getElem hi⟩
      have s := res_split (ps := ps) env 0 i x hx
      obtain ⟨G, q⟩ := h.rs
      refine ⟨G ++ x.res (ps (0 + i)), ?_⟩
      refine (q.append_left _).trans ?_
      have e2 : (resAt (updP ps i p) 0 (env.set i a) ++ R0).Perm (a.res p ++ (resAt ps 0 (env.set i .no) ++ R0)) := by
        rw [← List.append_assoc]
        exact e.append_right R0
      have s2 : (resAt ps 0 env ++ R0).Perm (x.res (ps (0 + i)) ++ (resAt ps 0 (env.set i .no) ++ R0)) := by
        rw [← List.append_assoc]
        exact s.append_right R0
      refine ((s2.append_left G).append_left _).trans ?_
      refine List.Perm.trans ?_ (e2.symm.append_left _)
      exact perm_mid3
  · refine ⟨ps, ?_⟩
    rw [List.set_eq_of_length_le (by omega), List.set_eq_of_length_le (by rw [h.ce.len]; omega)]
    obtain ⟨G, q⟩ := h.rs
    exact ⟨h.ce, ⟨a.res p ++ G, by rw [List.append_assoc]; exact q.append_left _⟩, h.bg, h.sw⟩
theorem Rel.setO (h : Rel b R0 ps env cenv R) (i : Nat) (p : Addr) (ds : List D) : ∃ ps', Rel b R0 ps' (env.set i (.own ds)) (cenv.set i (.adr p)) (.lst p ds :: R) :=
  h.setN' i (p, p) (.own ds) (fun z => nomatch z)
/-- the list of a slot -/
theorem Rel.ownR (h : Rel b R0 ps env cenv R) {i : Nat} {a : A} {r : Res} (e : env[i]? = some a) (hr : a.res (ps i) = [r]) : r ∈ R := by
  have s := res_split (ps := ps) env 0 i _ e
  rw [Nat.zero_add, hr] at s
  refine h.rs.mem (List.mem_append_left _ (s.mem_iff.mpr ?_))
  exact List.mem_cons_self
theorem Rel.own (h : Rel b R0 ps env cenv R) {i : Nat} {ds : List D} (e : env[i]? = some (.own ds)) : Res.lst (ps i).1 ds ∈ R := h.ownR e rfl
theorem lt_of_get {α : Type} {l : List α} {i : Nat} {a : α} (h : l[i]? = some a) : i < l.length := by
  by_cases q : i < l.length
  · exact q
  · rw [List.getElem?_eq_none (by omega)] at h; cases h
theorem perm_at {α : Type} : ∀ {l : List α} {k : Nat} {x : α}, l[k]? = some x → l.Perm (x :: l.eraseIdx k)
  | [], _, _, h => by simp at h
  | y :: l, 0, x, h => by
    have e : y = x := Option.some.inj h
    subst e
    exact List.Perm.refl _
  | y :: l, k + 1, x, h => by
    have ih := perm_at (l := l) (k := k) (x := x) h
    exact (ih.cons y).trans (List.Perm.swap x y _)
theorem perm_set {α : Type} : ∀ {l : List α} {k : Nat} {x y : α}, l[k]? = some x → (l.set k y).Perm (y :: l.eraseIdx k)
  | [], _, _, _, h => by simp at h
  | z :: l, 0, x, y, h => List.Perm.refl _
  | z :: l, k + 1, x, y, h => by
    have ih := perm_set (l := l) (k := k) (x := x) (y := y) h
    exact (ih.cons z).trans (List.Perm.swap y z _)
/-- what a slot owns changes -/
theorem Rel.mutR (h : Rel b R0 ps env cenv R) {i k : Nat} {a a' : A} {r r' : Res} (e : env[i]? = some a) (hr : a.res (ps i) = [r]) (hr' : a'.res (ps i) = [r']) (he : a'.en b (ps i) = a.en b (ps i)) (hb : a' ≠ .bag) (hn : a ≠ .no) (g : R[k]? = some r) (hs : ∀ p, a'.shown p = none := by intro _; rfl) : Rel b R0 ps (env.set i a') cenv (R.set k r') := by
  have hi := lt_of_get e
  refine ⟨?_, ?_, fun m => h.bg (bag_set m hb), sw_set h.sw hs ps fun _ _ => rfl⟩
  · have e1 := h.ce.set (i := i) (p := ps (0 + i)) (a := a')
    rw [upd_self, Nat.zero_add, he] at e1
    have g := h.get e hn
    rw [set_self g] at e1
    exact e1
  · have s := res_split (ps := ps) env 0 i _ e
    have e2 := res_set (ps := ps) env 0 i (ps (0 + i)) a' hi
    rw [upd_self, Nat.zero_add, hr'] at e2
    rw [Nat.zero_add, hr] at s
    obtain ⟨G, q⟩ := h.rs
    refine ⟨G, (perm_set (y := r') g).trans ?_⟩
    have q2 := (perm_at g).symm.trans q
    have q3 : (G ++ (resAt ps 0 env ++ R0)).Perm (r :: (G ++ (resAt ps 0 (env.set i .no) ++ R0))) :=
      ((s.append_right R0).append_left G).trans List.perm_middle
    have q4 := (q2.trans q3).cons_inv
    refine (q4.cons _).trans ?_
    refine List.Perm.trans ?_ ((e2.append_right R0).append_left G).symm
    exact List.perm_middle.symm
theorem Rel.mut (h : Rel b R0 ps env cenv R) {i k : Nat} {ds es : List D} (e : env[i]? = some (.own ds)) (g : R[k]? = some (.lst (ps i).1 ds)) : Rel b R0 ps (env.set i (.own es)) cenv (R.set k (.lst (ps i).1 es)) :=
  h.mutR e rfl rfl rfl (fun z => nomatch z) (fun z => nomatch z) g
/-- what a slot owns is settled -/
theorem Rel.settleR (h : Rel b R0 ps env cenv R) {i k : Nat} {a : A} {r : Res} {d : D} (e : env[i]? = some a) (hr : a.res (ps i) = [r]) (g : R[k]? = some r) : Rel b R0 ps (env.set i (.val d)) (cenv.set i (.val d)) (R.eraseIdx k) := by
  have hi := lt_of_get e
  refine ⟨(h.setV i _).ce, ?_, fun m => h.bg (bag_set m (fun z => nomatch z)), sw_set h.sw (fun _ => rfl) ps fun _ _ => rfl⟩
  have s := res_split (ps := ps) env 0 i _ e
  have e2 := res_set (ps := ps) env 0 i (ps (0 + i)) (.val d) hi
  rw [upd_self, Nat.zero_add] at e2
  rw [Nat.zero_add, hr] at s
  obtain ⟨G, q⟩ := h.rs
  have q2 := (perm_at g).symm.trans q
  have q3 : (G ++ (resAt ps 0 env ++ R0)).Perm (r :: (G ++ (resAt ps 0 (env.set i .no) ++ R0))) :=
    ((s.append_right R0).append_left G).trans List.perm_middle
  have q4 := (q2.trans q3).cons_inv
  refine ⟨G, q4.trans ?_⟩
  exact ((e2.append_right R0).append_left G).symm
theorem Rel.settle (h : Rel b R0 ps env cenv R) {i k : Nat} {ds : List D} (e : env[i]? = some (.own ds)) (g : R[k]? = some (.lst (ps i).1 ds)) : Rel b R0 ps (env.set i (.val (.lst ds))) (cenv.set i (.val (.lst ds))) (R.eraseIdx k) := h.settleR e rfl g
theorem Rel.at_ (h : Rel b R0 ps env cenv R) {i : Nat} {ds : List D} (e : env[i]? = some (.own ds)) : ∃ k : Nat, R[k]? = some (Res.lst (ps i).1 ds) := List.getElem?_of_mem (h.own e)
/-- a slot is let go -/
theorem Rel.setN (h : Rel b R0 ps env cenv R) (i : Nat) : Rel b R0 ps (env.set i .no) (cenv.set i .no) R := by
  by_cases hi : i < env.length
  · refine ⟨?_, ?_, fun m => h.bg (bag_set m (fun z => nomatch z)), sw_set h.sw (fun _ => rfl) ps fun _ _ => rfl⟩
    · have e := h.ce.set (i := i) (p := ps (0 + i)) (a := .no)
      rw [upd_self] at e
      exact e
    · obtain ⟨a, ha⟩ : ∃ a, env[i]? = some a := ⟨env[i], List.getElem?_eq_getElem hi⟩
      have s := res_split (ps := ps) env 0 i a ha
      refine SubR.tr ?_ h.rs
      refine ⟨a.res (ps (0 + i)), ?_⟩
      refine (s.append_right R0).trans ?_
      rw [List.append_assoc]
  · rw [List.set_eq_of_length_le (by omega), List.set_eq_of_length_le (by rw [h.ce.len]; omega)]
    exact h
end
end Tl
namespace Tl
open PySem PySem.Spec PyProof.Rows L2
abbrev XA := Er → List A → Prop
abbrev FnE (α : Type) := List A → (α → List A → Prop) → XA → Prop
structure AP where
  nx : List A → Prop
  rt : D → List A → Prop
  bk : List A → Prop := fun _ => False
  ct : List A → Prop := fun _ => False
  ro : A → List A → Prop := fun _ _ => False
abbrev FnS := List A → AP → XA → Prop
/-- what a def does to data -/
abbrev Gs := List A → (D → Prop) → (Er → Prop) → Prop
def XOk (b : Addr) (R0 : List Res) (ps : Nat → A2) (cenv : List En) (ψ : XA) (Ψ : XP) : Prop := ∀ er env' R', Rel b R0 ps env' cenv R' → ψ er env' → Ψ er cenv R'
def DetE (we : WE) (f : FnE D) : Prop := ∀ b R0 ps env cenv R φ ψ (Φ : En → List Res → Prop) (Ψ : XP), Rel b R0 ps env cenv R → f env φ ψ → XOk b R0 ps cenv ψ Ψ →
  (∀ d env' R', Rel b R0 ps env' cenv R' → φ d env' → Φ (.val d) R') → we cenv R Φ Ψ
/-- a new list -/
def DetO (we : WE) (f : FnE (List D)) : Prop := ∀ b R0 ps env cenv R φ ψ (Φ : En → List Res → Prop) (Ψ : XP), Rel b R0 ps env cenv R → f env φ ψ → XOk b R0 ps cenv ψ Ψ →
  (∀ ds p env' R', Rel b R0 ps env' cenv R' → φ ds env' → Φ (.adr p) (.lst p ds :: R')) → we cenv R Φ Ψ
def ReadsAs (R : List Res) (o : En) (d : D) : Prop := o = .val d ∨ ∃ p ds, o = .adr p ∧ d = .lst ds ∧ Res.lst p ds ∈ R
/-- something to be read at once -/
def DetR (we : WE) (f : FnE D) : Prop := ∀ b R0 ps env cenv R φ ψ (Φ : En → List Res → Prop) (Ψ : XP), Rel b R0 ps env cenv R → f env φ ψ → XOk b R0 ps cenv ψ Ψ →
  (∀ d o env' R', Rel b R0 ps env' cenv R' → ReadsAs R' o d → φ d env' → Φ o R') → we cenv R Φ Ψ
def DetT (wt : WT) (f : FnE Bool) : Prop := ∀ b R0 ps env cenv R φ ψ (Φ : Bool → List Res → Prop) (Ψ : XP), Rel b R0 ps env cenv R → f env φ ψ → XOk b R0 ps cenv ψ Ψ →
  (∀ d env' R', Rel b R0 ps env' cenv R' → φ d env' → Φ d R') → wt cenv R Φ Ψ
def DetI (wi : WI) (f : FnE (List D)) : Prop := ∀ b R0 ps env cenv R φ ψ (Φ : List D → List Res → Prop) (Ψ : XP), Rel b R0 ps env cenv R → f env φ ψ → XOk b R0 ps cenv ψ Ψ →
  (∀ d env' R', Rel b R0 ps env' cenv R' → φ d env' → Φ d R') → wi cenv R Φ Ψ
/-- n arguments, each a datum or the bag -/
def A.arg : A → Bool
  | .val _ => true
  | .bag => true
  | _ => false
def DetA (n : Nat) (wa : WA) (f : FnE (List A)) : Prop := ∀ b R0 ps env cenv R φ ψ (Φ : List En → List Res → Prop) (Ψ : XP), Rel b R0 ps env cenv R → f env φ ψ → XOk b R0 ps cenv ψ Ψ →
  (∀ as env' R', Rel b R0 ps env' cenv R' → as.length = n → as.all A.arg = true → (A.bag ∈ as → ∃ l, Res.bag b l ∈ R0) → φ as env' → Φ (as.map (A.en b (0, 0))) R') → wa cenv R Φ Ψ
def DetG (wg : WG) (f : D → List A → (List A → Prop) → Prop) : Prop := ∀ b R0 ps env cenv R d (k : List A → Prop) (k' : List En → List Res → Prop), Rel b R0 ps env cenv R → f d env k → (∀ env' cenv' R', Rel b R0 ps env' cenv' R' → k env' → k' cenv' R') → wg (.val d) cenv R k'
def XOkS (b : Addr) (R0 : List Res) (ψ : XA) (Ψ : XP) : Prop := ∀ er ps env cenv R, Rel b R0 ps env cenv R → ψ er env → Ψ er cenv R
/-- a list or a dict of the slot's own -/
def A.held : A → Bool
  | .own _ => true
  | .dic _ _ => true
  | .val _ => true
  | .tre _ => true
  | _ => false
structure PostOk (b : Addr) (R0 : List Res) (P : AP) (P' : Post) : Prop where
  nx : ∀ ps env cenv R, Rel b R0 ps env cenv R → P.nx env → P'.nx cenv R
  rt : ∀ ps env cenv d R, Rel b R0 ps env cenv R → P.rt d env → P'.rt (.val d) R
  bk : ∀ ps env cenv R, Rel b R0 ps env cenv R → P.bk env → P'.bk cenv R
  ct : ∀ ps env cenv R, Rel b R0 ps env cenv R → P.ct env → P'.ct cenv R
  ro : ∀ ps env cenv (a : A) (q : A2) R, Rel b R0 ps env cenv R → a.held = true → P.ro a env → P'.rt (a.en b q) (a.res q ++ R)
def DetS (ws : WS) (f : FnS) : Prop := ∀ b R0 ps env cenv R P ψ (P' : Post) (Ψ : XP), Rel b R0 ps env cenv R → f env P ψ → XOkS b R0 ψ Ψ → PostOk b R0 P P' → ws cenv R P' Ψ
theorem XOkS.at_ {b : Addr} {R0 : List Res} {ψ : XA} {Ψ : XP} (h : XOkS b R0 ψ Ψ) (ps : Nat → A2) (cenv : List En) : XOk b R0 ps cenv ψ Ψ := fun er env' R' r z => h er ps env' cenv R' r z
structure FE (X : Cx) (W : WX) (e : Expr) (te : TE) (we : WE) (f : FnE D) : Prop where
  d : DE X W e te we
  t : DetE we f
structure FO (X : Cx) (W : WX) (e : Expr) (te : TE) (we : WE) (f : FnE (List D)) : Prop where
  d : DE X W e te we
  t : DetO we f
structure FR (X : Cx) (W : WX) (e : Expr) (te : TE) (we : WE) (f : FnE D) : Prop where
  d : DE X W e te we
  t : DetR we f
structure FT (X : Cx) (W : WX) (e : Expr) (tt : TT) (wt : WT) (f : FnE Bool) : Prop where
  d : DT X W e tt wt
  t : DetT wt f
structure FW (X : Cx) (W : WX) (e : Expr) (tt : TT) (wt : WT) (f : FnE Bool) : Prop where
  d : DW X W e tt wt
  t : DetT wt f
structure FA (X : Cx) (W : WX) (es : List Expr) (n : Nat) (ta : TA) (wa : WA) (f : FnE (List A)) : Prop where
  d : DA X W es ta wa
  t : DetA n wa f
structure FI (X : Cx) (W : WX) (tg iter : Expr) (wi : TI) (w : WI) (f : FnE (List D)) : Prop where
  d : DI X W tg iter wi w
  t : DetI w f
structure FG (X : Cx) (tg : Expr) (g : TG) (w : WG) (f : D → List A → (List A → Prop) → Prop) : Prop where
  d : DG X tg g w
  t : DetG w f
structure FS' (X : Cx) (W : WX) (st : Stmt) (ts : TS) (ws : WS) (f : FnS) : Prop where
  d : DS X W st ts ws
  t : DetS ws f
structure FSs (X : Cx) (W : WX) (sts : List Stmt) (ts : TS) (ws : WS) (f : FnS) : Prop where
  d : DSs X W sts ts ws
  t : DetS ws f
theorem Fin.sub {K : PySem.W.Frag} {F H F' H' : Hp} {R R1 R2 : List Res} (h : Fin K F H R F' H' R1) (s : SubR R2 R1) : Fin K F H R F' H' R2 := by
  obtain ⟨G, p⟩ := s
  have pf : (fps R1).Perm (fps G ++ fps R2) := by
    have e : fps G ++ fps R2 = fps (G ++ R2) := by unfold fps; rw [List.flatMap_append]
    rw [e]
    exact p.flatMap_right _
  have sub : ∀ q ∈ fps R2, q ∈ fps R1 := fun q m => pf.mem_iff.mpr (List.mem_append_right _ m)
  exact ⟨h.ff, h.fh, h.kp, h.dm, h.nw, ⟨fun r m => h.rk.ok r (p.mem_iff.mpr (List.mem_append_right _ m)), (List.nodup_append.mp (pf.nodup_iff.mp h.rk.nd)).2.1, fun q m => h.rk.off q (sub q m)⟩, fun q m => h.rn q (sub q m)⟩
theorem S.sub {K : PySem.W.Frag} {B : Bs} {env : List En} {R R2 : List Res} {σ : L2.St} {F H : Hp} (s : S K B env R σ F H) (h : SubR R2 R) : S K B env R2 σ F H := ⟨s.fin.sub h, s.en⟩
theorem SubR.fps {R2 R1 : List Res} (s : SubR R2 R1) {q : Addr} (m : q ∈ Tl.fps R2) : q ∈ Tl.fps R1 := by
  obtain ⟨r, hr, hq⟩ := List.mem_flatMap.mp m
  exact List.mem_flatMap.mpr ⟨r, s.mem hr, hq⟩
def sClean (ws : WS) : WS := fun env R P Ψ => ws env R { nx := fun env' R' => ∃ R2, SubR R2 R' ∧ P.nx env' R2, rt := fun o R' => ∃ R2, SubR R2 R' ∧ P.rt o R2, bk := fun env' R' => ∃ R2, SubR R2 R' ∧ P.bk env' R2, ct := fun env' R' => ∃ R2, SubR R2 R' ∧ P.ct env' R2 } (fun er env' R' => ∃ R2, SubR R2 R' ∧ Ψ er env' R2)
theorem ss_clean {X : Cx} {W : WX} {sts : List Stmt} {ts : TS} {ws : WS} (h : DSs X W sts ts ws) : DSs X W sts ts (sClean ws) := by
  refine ⟨h.p, fun B env R P Ψ acc w σ F H E s k => h.v B env R _ _ (fun er env' R' σ' F' H' cls d z s' eo n => ?_) w σ F H E s ⟨fun env' R' σ' F' H' z s' => ?_, fun o R' v F' H' z f eo => ?_, fun env' R' σ' F' H' z s' => ?_, fun env' R' σ' F' H' z s' => ?_⟩⟩
  · obtain ⟨R2, su, z⟩ := z
    exact acc er env' R2 σ' F' H' cls d z (s'.sub su) eo fun dd e => ⟨fun m => (n dd e).1 (su.fps m), (n dd e).2⟩
  · obtain ⟨R2, su, z⟩ := z
    exact k.nx env' R2 σ' F' H' z (s'.sub su)
  · obtain ⟨R2, su, z⟩ := z
    exact k.rt o R2 v F' H' z (f.sub su) eo
  · obtain ⟨R2, su, z⟩ := z
    exact k.bk env' R2 σ' F' H' z (s'.sub su)
  · obtain ⟨R2, su, z⟩ := z
    exact k.ct env' R2 σ' F' H' z (s'.sub su)
def fsA (G : Gs) : Tl.FS := fun os R Φ Ψ => ∃ (b : Addr) (as : List A) (φ : D → Prop) (ψ : Er → Prop), os = as.map (A.en b (0, 0)) ∧ as.all A.arg = true ∧ (A.bag ∈ as → ∃ l, Res.bag b l ∈ R) ∧ G as φ ψ ∧ (∀ d, φ d → Φ (.val d) R) ∧ ∀ er, ψ er → Ψ er R
theorem mono_a (G : Gs) : Mono (fsA G) := fun os R Φ Φ' Ψ Ψ' h h' z => by
  obtain ⟨b, as, φ, ψ, e, ha, hb, g, h1, h2⟩ := z
  exact ⟨b, as, φ, ψ, e, ha, hb, g, fun d q => h _ _ (h1 d q), fun er q => h' _ _ (h2 er q)⟩
def startA (n : Nat) (as : List A) : List A := as ++ List.replicate (n - as.length) .no
theorem conc_map {b : Addr} {ps : Nat → A2} : ∀ (as : List A) (n : Nat), as.all A.arg = true → as.map (A.en b (0, 0)) = concAt b ps n as
  | [], _, _ => rfl
  | .val d :: r, n, h => by rw [List.map_cons, concAt, conc_map r (n + 1) (by simpa [A.arg] using h)]; rfl
  | .bag :: r, n, h => by rw [List.map_cons, concAt, conc_map r (n + 1) (by simpa [A.arg] using h)]; rfl
  | .no :: r, n, h => by simp [A.arg] at h
  | .own _ :: r, n, h => by simp [A.arg] at h
  | .ins _ _ _ _ :: r, n, h => by simp [A.arg] at h
  | .dic _ _ :: r, n, h => by simp [A.arg] at h
  | .lnt _ _ :: r, n, h => by simp [A.arg] at h
  | .dnt _ _ _ :: r, n, h => by simp [A.arg] at h
  | .see _ :: r, n, h => by simp [A.arg] at h
  | .seeD _ _ :: r, n, h => by simp [A.arg] at h
  | .err _ _ _ :: r, n, h => by simp [A.arg] at h
  | .tre _ :: r, n, h => by simp [A.arg] at h
  | .seeT _ :: r, n, h => by simp [A.arg] at h
theorem conc_app {b : Addr} {ps : Nat → A2} : ∀ (as bs : List A) (n : Nat), concAt b ps n (as ++ bs) = concAt b ps n as ++ concAt b ps (n + as.length) bs
  | [], _, _ => rfl
  | a :: r, bs, n => by
    rw [List.cons_append, concAt, concAt, List.cons_append, conc_app r bs (n + 1), List.length_cons, show n + 1 + r.length = n + (r.length + 1) by omega]
theorem conc_no {b : Addr} {ps : Nat → A2} : ∀ (k n : Nat), concAt b ps n (List.replicate k .no) = List.replicate k .no
  | 0, _ => rfl
  | k + 1, n => by rw [List.replicate_succ, List.replicate_succ, concAt, conc_no k]; rfl
theorem res_app {ps : Nat → A2} : ∀ (as bs : List A) (n : Nat), resAt ps n (as ++ bs) = resAt ps n as ++ resAt ps (n + as.length) bs
  | [], _, _ => rfl
  | a :: r, bs, n => by
    rw [List.cons_append, resAt, resAt, res_app r bs (n + 1), List.length_cons, show n + 1 + r.length = n + (r.length + 1) by omega, List.append_assoc]
theorem res_no {ps : Nat → A2} : ∀ (k n : Nat), resAt ps n (List.replicate k .no) = []
  | 0, _ => rfl
  | k + 1, n => by rw [List.replicate_succ, resAt, res_no k]; rfl
theorem res_arg {ps : Nat → A2} : ∀ (as : List A) (n : Nat), as.all A.arg = true → resAt ps n as = []
  | [], _, _ => rfl
  | .val d :: r, n, h => by rw [resAt, res_arg r (n + 1) (by simpa [A.arg] using h)]; rfl
  | .bag :: r, n, h => by rw [resAt, res_arg r (n + 1) (by simpa [A.arg] using h)]; rfl
  | .no :: r, n, h => by simp [A.arg] at h
  | .own _ :: r, n, h => by simp [A.arg] at h
  | .ins _ _ _ _ :: r, n, h => by simp [A.arg] at h
  | .dic _ _ :: r, n, h => by simp [A.arg] at h
  | .lnt _ _ :: r, n, h => by simp [A.arg] at h
  | .dnt _ _ _ :: r, n, h => by simp [A.arg] at h
  | .see _ :: r, n, h => by simp [A.arg] at h
  | .seeD _ _ :: r, n, h => by simp [A.arg] at h
  | .err _ _ _ :: r, n, h => by simp [A.arg] at h
  | .tre _ :: r, n, h => by simp [A.arg] at h
  | .seeT _ :: r, n, h => by simp [A.arg] at h
theorem rel_start {b : Addr} {as : List A} {n : Nat} {R : List Res} (h : as.all A.arg = true) (hb : A.bag ∈ as → ∃ l, Res.bag b l ∈ R) : Rel b R (fun _ => (0, 0)) (startA n as) (startE n (as.map (A.en b (0, 0)))) R := by
  refine ⟨?_, ?_, fun m => hb ?_, fun i a q e s => ?_⟩
  · have e : startE n (as.map (A.en b (0, 0))) = concAt b (fun _ => (0, 0)) 0 (startA n as) := by
      unfold startE startA
      rw [conc_app, conc_no, List.length_map, ← conc_map (ps := fun _ => (0, 0)) as 0 h]
    rw [e]
    exact CeOk.of
  · unfold startA
    rw [res_app, res_no, res_arg as 0 h]
    exact SubR.refl _
  · unfold startA at m
    rcases List.mem_append.mp m with m | m
    · exact m
    · exact absurd (List.eq_of_mem_replicate m) (fun z => nomatch z)
  · rcases List.mem_append.mp (List.mem_of_getElem? e) with m | m
    · have := List.all_eq_true.mp h a m
      cases a <;> first | (cases this; done) | (cases s; done)
    · rw [List.eq_of_mem_replicate m] at s; cases s
section
variable {P : Program} {w : World} {K : PySem.W.Frag} {mg : Str → Option Value} {base : Heap}
/-- what a body makes of a def -/
def runF (n : Nat) (f : FnS) : Gs := fun as φ ψ => f (startA n as) { nx := fun _ => φ .non, rt := fun d _ => φ d } fun er _ => ψ er
theorem fn_a {x qual : Str} {params : Arguments} {body : List Stmt} {scope : Scope} {dvs : List V} {kws : List (Str × V)} {f : Addr} {fd : FuncData} {N ps : List Str} {k : Nat} {G : Gs}
    (Fd : FunD K x qual params body scope dvs kws f fd) (Sc : FnScope N ps scope)
    (hb : ∀ (cdv : Value) (A : Around) (outer : List Env) (s : Shared) (H : Hp) (E : XK), Room k (A.deeper (envOfC qual scope s.heap.objs.size f cdv)) → Tk (cxOf (L2.CX P w) P w K mg base N qual scope f cdv A outer s H E) (WF E) →
      ∃ ts ws f0, FSs (cxOf (L2.CX P w) P w K mg base N qual scope f cdv A outer s H E) (WF E) body ts ws f0 ∧ ∀ as φ ψ, G as φ ψ → as.length = ps.length ∧ runF N.length f0 as φ ψ) (len : ∀ as φ ψ, G as φ ψ → as.length = ps.length) :
    FnOk P w K mg base (L2.CX P w) (k + 1) f fd ps (spOf K (fsA G)) := by
  refine fn_body Fd Sc (fun os R Φ Ψ h => ?_) (fun cdv A outer s H E hr tk => ?_)
  · obtain ⟨b, as, φ, ψ, rfl, ha, hb, g, _⟩ := h
    rw [List.length_map]
    exact len as φ ψ g
  · obtain ⟨ts, ws, f0, ff, go⟩ := hb cdv A outer s H E hr tk
    refine ⟨ts, _, ss_clean ff.d, fun os R Φ Ψ h => ?_⟩
    obtain ⟨b, as, φ, ψ, rfl, ha, hb, g, h1, h2⟩ := h
    refine ff.t b R _ _ _ _ _ _ _ _ (rel_start ha hb) (go as φ ψ g).2 (fun er ps env cenv R' r z => ⟨R, r.base, h2 er z⟩) ⟨fun ps env cenv R' r z => ⟨R, r.base, h1 _ z⟩, fun ps env cenv d R' r z => ⟨R, r.base, h1 d z⟩, fun ps env cenv R' r z => False.elim z, fun ps env cenv R' r z => False.elim z, fun ps env cenv a q R' r _ z => False.elim z⟩
end
end Tl
namespace Tl
open PySem PySem.Spec PyProof.Rows L2
section
variable {X : Cx} {W : WX} {e a b o : Expr} {te ta tb to : TE} {wa wb we wo : WE} {pos : Pos} {fa fb fe fo : FnE D}
def eVar (i : Nat) : FnE D := fun env φ _ => match env[i]? with
  | some (.val d) => φ d env
  | _ => False
theorem det_var (i : Nat) : DetE (wVar i) (eVar i) := fun b R0 ps env cenv R φ ψ Φ Ψ r h x k => by
  unfold eVar at h
  split at h
  · rename_i d e
    have g := r.get e
    unfold wVar
    rw [g]
    exact k d env R r h
  · exact False.elim h
theorem f_v (i : Nat) {x : Str} {pos : Pos} (hN : X.N[i]? = some x := by rfl) (hv : Vis X.env.scope x := by first | exact Or.inl rfl | exact Or.inr (Or.inl rfl) | exact Or.inr (Or.inr rfl)) (hd : (x == ("__debug__" : Str)) = false := by decide)
    (hcd : (x == ("__classdict__" : Str)) = false := by decide) : FE X W (.Name x pos) (tVar i) (wVar i) (eVar i) := ⟨dv i hN hv hd hcd, det_var i⟩
def eC (d : D) : FnE D := fun env φ _ => φ d env
theorem det_c (d : D) : DetE (wC d) (eC d) := fun b R0 ps env cenv R φ ψ Φ Ψ r h x k => k d env R r h
theorem f_int {i : Int} {j : Nat} {pos : Pos} : FE X W (.Constant (.int i) j pos) (tC (.int i)) (wC (.int i)) (eC (.int i)) := ⟨d_int, det_c _⟩
theorem f_bl {i : Bool} {j : Nat} {pos : Pos} : FE X W (.Constant (.bool i) j pos) (tC (.bl i)) (wC (.bl i)) (eC (.bl i)) := ⟨d_bl, det_c _⟩
theorem f_non {j : Nat} {pos : Pos} : FE X W (.Constant .none j pos) (tC .non) (wC .non) (eC .non) := ⟨d_non, det_c _⟩
theorem f_str {i : Str} {j : Nat} {pos : Pos} : FE X W (.Constant (.str i) j pos) (tC (.str i)) (wC (.str i)) (eC (.str i)) := ⟨d_str, det_c _⟩
theorem f_gs {x z : Str} {pos : Pos} (h : ∃ t, X.mg x = some (.str z t)) (hg : Gl X x := by rfl) (hd : (x == ("__debug__" : Str)) = false := by decide) : FE X W (.Name x pos) (tC (.str z)) (wC (.str z)) (eC (.str z)) := ⟨d_gs h hg hd, det_c _⟩
theorem f_gi {x : Str} {i : Int} {pos : Pos} (h : ∃ t, X.mg x = some (.int i t)) (hg : Gl X x := by rfl) (hd : (x == ("__debug__" : Str)) = false := by decide) : FE X W (.Name x pos) (tC (.int i)) (wC (.int i)) (eC (.int i)) := ⟨d_gi h hg hd, det_c _⟩
theorem f_gr {K : PySem.W.Frag} {x : Str} {pos : Pos} (m : X.mg x = some (.ref (He.ga K x))) (hk : X.K = K := by rfl) (hg : Gl X x := by rfl) (hd : (x == ("__debug__" : Str)) = false := by decide) : FE X W (.Name x pos) (tC (.ref (He.ga K x))) (wC (.glo x)) (eC (.glo x)) := by
  subst hk
  exact ⟨d_gr m hg hd, det_c _⟩
theorem f_ty {x : Str} {n : String} {pos : Pos} (hm : X.mg x = none) (hv : bootBuiltins x = some (.type n)) (hg : Gl X x := by rfl) (hn : x ≠ "__name__" := by decide) (hd : (x == ("__debug__" : Str)) = false := by decide) : FE X W (.Name x pos) (tC (.ty n)) (wC (.ty n)) (eC (.ty n)) := ⟨d_ty hm hv hg hn hd, det_c _⟩
def eLv (f : FnE (List D)) : FnE D := fun env φ ψ => f env (fun ds env' => φ (.lst ds) env') ψ
theorem FO.val {f : FnE (List D)} (h : FO X W e te we f) : FE X W e te (wSet 0 we) (eLv f) := ⟨de_set 0 h.d, fun b R0 ps env cenv R φ ψ Φ Ψ r z x k =>
  h.t b R0 ps env cenv R _ ψ _ Ψ r z x fun ds p env' R' r' q => ⟨ds, rfl, k _ env' R' r' q⟩⟩
theorem FE.rd (h : FE X W e te we fe) : FR X W e te we fe := ⟨h.d, fun b R0 ps env cenv R φ ψ Φ Ψ r z x k => h.t b R0 ps env cenv R φ ψ Φ Ψ r z x fun d env' R' r' q => k d _ env' R' r' (.inl rfl) q⟩
theorem FO.rd {f : FnE (List D)} (h : FO X W e te we f) : FR X W e te we (eLv f) := ⟨h.d, fun b R0 ps env cenv R φ ψ Φ Ψ r z x k => h.t b R0 ps env cenv R _ ψ Φ Ψ r z x fun ds p env' R' r' q => k (.lst ds) _ env' _ (r'.more _) (.inr ⟨p, ds, rfl, rfl, List.mem_cons_self⟩) q⟩
/-- a slot's own list, read at once -/
def eOwn (i : Nat) : FnE D := fun env φ _ => match env[i]? with
  | some (.val d) => φ d env
  | some (.own ds) => φ (.lst ds) env
  | some (.lnt _ ds) => φ (.lst ds) env
  | some (.see ds) => φ (.lst ds) env
  | _ => False
theorem f_own (i : Nat) {x : Str} {pos : Pos} (hN : X.N[i]? = some x := by rfl) (hv : Vis X.env.scope x := by first | exact Or.inl rfl | exact Or.inr (Or.inl rfl) | exact Or.inr (Or.inr rfl)) (hd : (x == ("__debug__" : Str)) = false := by decide)
    (hcd : (x == ("__classdict__" : Str)) = false := by decide) : FR X W (.Name x pos) (tVar i) (wVar i) (eOwn i) := ⟨dv i hN hv hd hcd, fun b R0 ps env cenv R φ ψ Φ Ψ r h x k => by
  unfold eOwn at h
  split at h
  · rename_i d e
    have g := r.get e
    unfold wVar
    rw [g]
    exact k d _ env R r (.inl rfl) h
  · rename_i ds e
    have g := r.get e
    unfold wVar
    rw [g]
    exact k _ _ env R r (.inr ⟨_, ds, rfl, rfl, r.own e⟩) h
  · rename_i q ds e
    have g := r.get e
    unfold wVar
    rw [g]
    exact k _ _ env R r (.inr ⟨_, ds, rfl, rfl, r.ownR e rfl⟩) h
  · rename_i ds e
    have g := r.get e
    unfold wVar
    rw [g]
    exact k _ _ env R r (.inr ⟨_, ds, rfl, rfl, r.base.mem (r.sw i _ _ e rfl)⟩) h
  · exact False.elim h⟩
abbrev G2 := D → D → (D → Prop) → Prop
def DetK (k : KO) (g : G2) : Prop := ∀ x y R (φ : D → Prop) (Φ : En → List Res → Prop), g x y φ → (∀ d, φ d → Φ (.val d) R) → k (.val x) (.val y) R (fun o R1 => settle 0 o R1 Φ)
def rOr (r1 r2 : R2) : R2 := fun v u H Q => r1 v u H Q ∨ r2 v u H Q
def kOr (k1 k2 : KO) : KO := fun x y R Φ => k1 x y R Φ ∨ k2 x y R Φ
theorem DOp.or {f : Value → Value → Sem Value} {r1 r2 : R2} {k1 k2 : KO} (h1 : DOp X f r1 k1) (h2 : DOp X f r2 k2) : DOp X f (rOr r1 r2) (kOr k1 k2) := ⟨fun pins s σ H x y v u Q I rx ry z => by
  rcases z with z | z
  · exact h1.p pins s σ H x y v u Q I rx ry z
  · exact h2.p pins s σ H x y v u Q I rx ry z, fun B env R σ F H x y v u Φ Q s ex ey z q => by
  rcases z with z | z
  · exact .inl (h1.v B env R σ F H x y v u Φ Q s ex ey z q)
  · exact .inr (h2.v B env R σ F H x y v u Φ Q s ex ey z q)⟩
structure OB (X : Cx) (op : Operator) (r : R2) (k : KO) (g : G2) : Prop where
  o : DOp X (binaryOp op) r k
  t : DetK k g
def DetK0 (k : KO) (g : G2) : Prop := ∀ x y R (φ : D → Prop) (Φ : En → List Res → Prop), g x y φ → (∀ d, φ d → Φ (.val d) R) → k (.val x) (.val y) R Φ
theorem DetK0.k {k : KO} {g : G2} (h : DetK0 k g) : DetK k g := fun x y R φ Φ z q => h x y R φ _ z fun d hd => q d hd
structure OC (X : Cx) (op : CmpOp) (r : R2) (k : KO) (g : G2) : Prop where
  o : DOp X (compareOp op) r k
  t : DetK0 k g
def eOp (g : G2) (fa fb : FnE D) : FnE D := fun env φ ψ => fa env (fun x env1 => fb env1 (fun y env2 => g x y fun d => φ d env2) ψ) ψ
theorem det_op {k : KO} {g : G2} (ha : DetE wa fa) (hb : DetE wb fb) (hk : DetK k g) : DetE (wSet 0 (w2 wa wb k)) (eOp g fa fb) := fun b R0 ps env cenv R φ ψ Φ Ψ r z x q =>
  ha b R0 ps env cenv R _ ψ _ Ψ r z x fun d1 env1 R1 r1 z1 => hb b R0 ps env1 cenv R1 _ ψ _ Ψ r1 z1 x fun d2 env2 R2 r2 z2 => hk d1 d2 R2 _ Φ z2 fun d h => q d env2 R2 r2 h
theorem f_op {op : Operator} {r : R2} {k : KO} {g : G2} (ho : OB X op r k g) (ha : FE X W a ta wa fa) (hb : FE X W b tb wb fb) : FE X W (.BinOp a op b pos) (tOp r ta tb) (wSet 0 (w2 wa wb k)) (eOp g fa fb) :=
  ⟨de_set 0 (d_op ho.o ha.d hb.d), det_op ha.t hb.t ho.t⟩
theorem det_op0 {k : KO} {g : G2} (ha : DetE wa fa) (hb : DetE wb fb) (hk : DetK0 k g) : DetE (w2 wa wb k) (eOp g fa fb) := fun b R0 ps env cenv R φ ψ Φ Ψ r z x q =>
  ha b R0 ps env cenv R _ ψ _ Ψ r z x fun d1 env1 R1 r1 z1 => hb b R0 ps env1 cenv R1 _ ψ _ Ψ r1 z1 x fun d2 env2 R2 r2 z2 => hk d1 d2 R2 _ Φ z2 fun d h => q d env2 R2 r2 h
theorem f_cmp {op : CmpOp} {r : R2} {k : KO} {g : G2} (ho : OC X op r k g) (ha : FE X W a ta wa fa) (hb : FE X W b tb wb fb) (hm : behindInMarks op b = false := by first | exact nomark _ | rfl) : FE X W (.Compare a [op] [b] pos) (tOp r ta tb) (w2 wa wb k) (eOp g fa fb) :=
  ⟨d_cmp ho.o ha.d hb.d hm, det_op0 ha.t hb.t ho.t⟩
/-- the right one is read at once -/
def DetKr (k : KO) (g : G2) : Prop := ∀ x y d R (φ : D → Prop) (Φ : En → List Res → Prop), ReadsAs R y d → g x d φ → (∀ d, φ d → Φ (.val d) R) → k (.val x) y R Φ
structure OCr (X : Cx) (op : CmpOp) (r : R2) (k : KO) (g : G2) : Prop where
  o : DOp X (compareOp op) r k
  t : DetKr k g
theorem f_cmpR {op : CmpOp} {r : R2} {k : KO} {g : G2} (ho : OCr X op r k g) (ha : FE X W a ta wa fa) (hb : FR X W b tb wb fb) (hm : behindInMarks op b = false := by first | exact nomark _ | rfl) : FE X W (.Compare a [op] [b] pos) (tOp r ta tb) (w2 wa wb k) (eOp g fa fb) :=
  ⟨d_cmp ho.o ha.d hb.d hm, fun b R0 ps env cenv R φ ψ Φ Ψ r z x q =>
  ha.t b R0 ps env cenv R _ ψ _ Ψ r z x fun d1 env1 R1 r1 z1 => hb.t b R0 ps env1 cenv R1 _ ψ _ Ψ r1 z1 x fun d2 o2 env2 R2 r2 rd z2 => ho.t d1 o2 d2 R2 _ Φ rd z2 fun d h => q d env2 R2 r2 h⟩
/-- a flag -/
def bE (f : FnE D) : FnE Bool := fun env φ ψ => f env (fun d env' => match d with | .bl v => φ v env' | _ => False) ψ
theorem det_b (h : DetE we fe) : DetT (wTst we) (bE fe) := fun b R0 ps env cenv R φ ψ Φ Ψ r z x q =>
  h b R0 ps env cenv R _ ψ _ Ψ r z x fun d env1 R1 r1 z1 => by
    cases d with
    | bl v => exact q v env1 R1 r1 z1
    | _ => exact False.elim z1
theorem ft_cmp {op : CmpOp} {r : R2} {k : KO} {g : G2} (ho : OC X op r k g) (ha : FE X W a ta wa fa) (hb : FE X W b tb wb fb) (hm : behindInMarks op b = false := by first | exact nomark _ | rfl) : FT X W (.Compare a [op] [b] pos) (tTest (tOp r ta tb)) (wTst (w2 wa wb k)) (bE (eOp g fa fb)) :=
  ⟨t_cmp ho.o ha.d hb.d hm, det_b (det_op0 ha.t hb.t ho.t)⟩
theorem ft_cmpR {op : CmpOp} {r : R2} {k : KO} {g : G2} (ho : OCr X op r k g) (ha : FE X W a ta wa fa) (hb : FR X W b tb wb fb) (hm : behindInMarks op b = false := by first | exact nomark _ | rfl) : FT X W (.Compare a [op] [b] pos) (tTest (tOp r ta tb)) (wTst (w2 wa wb k)) (bE (eOp g fa fb)) :=
  ⟨t_cmp ho.o ha.d hb.d hm, det_b (f_cmpR (pos := pos) ho ha hb hm).t⟩
theorem ft_val (h : FE X W e te we fe) (he : ∀ whole, isTrue e X.env whole = (do let v ← whole; standAt e.pos; holding [v] (truthy v)) := by intro _; rfl) : FT X W e (tB te) (wTst we) (bE fe) := ⟨t_val h.d he, det_b h.t⟩
variable {t u : TT} {wt wu : WT} {ft fu : FnE Bool} {rest : List Expr} {c : Expr}
def bAnd (f g : FnE Bool) : FnE Bool := fun env φ ψ => f env (fun k env1 => if k = true then g env1 φ ψ else φ false env1) ψ
def bOr (f g : FnE Bool) : FnE Bool := fun env φ ψ => f env (fun k env1 => if k = true then φ true env1 else g env1 φ ψ) ψ
def bNot (f : FnE Bool) : FnE Bool := fun env φ ψ => f env (fun k env1 => φ (!k) env1) ψ
theorem FW.tst (h : FW X W e t wt ft) : FT X W e t wt ft := ⟨h.d.tst, h.t⟩
theorem ft_and1 (h : FT X W a t wt ft) : FW X W (.BoolOp .And [a] pos) t wt ft := ⟨t_and1 h.d, h.t⟩
theorem ft_or1 (h : FT X W a t wt ft) : FW X W (.BoolOp .Or [a] pos) t wt ft := ⟨t_or1 h.d, h.t⟩
theorem ft_and (h : FT X W a t wt ft) (g : FW X W (.BoolOp .And (b :: rest) pos) u wu fu) : FW X W (.BoolOp .And (a :: b :: rest) pos) (tAnd t u) (wAnd wt wu) (bAnd ft fu) := ⟨t_and h.d g.d, fun b R0 ps env cenv R φ ψ Φ Ψ r z x q =>
  h.t b R0 ps env cenv R _ ψ _ Ψ r z x fun k env1 R1 r1 z1 => by
    cases k with
    | true => exact g.t b R0 ps env1 cenv R1 φ ψ Φ Ψ r1 z1 x q
    | false => exact q false env1 R1 r1 z1⟩
theorem ft_or (h : FT X W a t wt ft) (g : FW X W (.BoolOp .Or (b :: rest) pos) u wu fu) : FW X W (.BoolOp .Or (a :: b :: rest) pos) (tOr t u) (wOr wt wu) (bOr ft fu) := ⟨t_or h.d g.d, fun b R0 ps env cenv R φ ψ Φ Ψ r z x q =>
  h.t b R0 ps env cenv R _ ψ _ Ψ r z x fun k env1 R1 r1 z1 => by
    cases k with
    | true => exact q true env1 R1 r1 z1
    | false => exact g.t b R0 ps env1 cenv R1 φ ψ Φ Ψ r1 z1 x q⟩
theorem ft_not (h : FT X W a t wt ft) : FT X W (.UnaryOp .Not a pos) (tNot t) (wNot wt) (bNot ft) := ⟨t_not h.d, fun b R0 ps env cenv R φ ψ Φ Ψ r z x q =>
  h.t b R0 ps env cenv R _ ψ _ Ψ r z x fun k env1 R1 r1 z1 => q (!k) env1 R1 r1 z1⟩
/-- values of and, or, not: flags -/
def eAnd (f g : FnE D) : FnE D := fun env φ ψ => f env (fun d env1 => match d with | .bl k => (if k = true then g env1 φ ψ else φ (.bl false) env1) | _ => False) ψ
def eOr (f g : FnE D) : FnE D := fun env φ ψ => f env (fun d env1 => match d with | .bl k => (if k = true then φ (.bl true) env1 else g env1 φ ψ) | _ => False) ψ
def eNot (f : FnE D) : FnE D := fun env φ ψ => f env (fun d env1 => match d with | .bl k => φ (.bl (!k)) env1 | _ => False) ψ
theorem f_one {op : BoolOp} (h : FE X W a te we fe) : FE X W (.BoolOp op [a] pos) te we fe := ⟨d_one h.d, h.t⟩
theorem f_and (h : FE X W a ta wa fa) (g : FE X W (.BoolOp .And (b :: rest) pos) tb wb fb) : FE X W (.BoolOp .And (a :: b :: rest) pos) (tAndV ta tb) (wAndV wa wb) (eAnd fa fb) := ⟨d_and h.d g.d, fun b R0 ps env cenv R φ ψ Φ Ψ r z x q =>
  h.t b R0 ps env cenv R _ ψ _ Ψ r z x fun d env1 R1 r1 z1 => by
    cases d with
    | bl k =>
      cases k with
      | true => exact g.t b R0 ps env1 cenv R1 φ ψ Φ Ψ r1 z1 x q
      | false => exact q _ env1 R1 r1 z1
    | _ => exact False.elim z1⟩
theorem f_or (h : FE X W a ta wa fa) (g : FE X W (.BoolOp .Or (b :: rest) pos) tb wb fb) : FE X W (.BoolOp .Or (a :: b :: rest) pos) (tOrV ta tb) (wOrV wa wb) (eOr fa fb) := ⟨d_or h.d g.d, fun b R0 ps env cenv R φ ψ Φ Ψ r z x q =>
  h.t b R0 ps env cenv R _ ψ _ Ψ r z x fun d env1 R1 r1 z1 => by
    cases d with
    | bl k =>
      cases k with
      | true => exact q _ env1 R1 r1 z1
      | false => exact g.t b R0 ps env1 cenv R1 φ ψ Φ Ψ r1 z1 x q
    | _ => exact False.elim z1⟩
theorem f_not (h : FE X W a ta wa fa) : FE X W (.UnaryOp .Not a pos) (tNotV ta) (wNotV wa) (eNot fa) := ⟨d_not h.d, fun b R0 ps env cenv R φ ψ Φ Ψ r z x q =>
  h.t b R0 ps env cenv R _ ψ _ Ψ r z x fun d env1 R1 r1 z1 => by
    cases d with
    | bl k => exact q _ env1 R1 r1 z1
    | _ => exact False.elim z1⟩
variable {es : List Expr} {n : Nat} {ts : TA} {va : WA} {fs : FnE (List A)}
def zNil : FnE (List A) := fun env φ _ => φ [] env
def zCons (f : FnE D) (g : FnE (List A)) : FnE (List A) := fun env φ ψ => f env (fun d env1 => g env1 (fun as env2 => φ (.val d :: as) env2) ψ) ψ
/-- the bag as an argument -/
def zBag (i : Nat) (g : FnE (List A)) : FnE (List A) := fun env φ ψ => match env[i]? with
  | some .bag => g env (fun as env2 => φ (.bag :: as) env2) ψ
  | _ => False
theorem z_nil : FA X W [] 0 tNil aNil zNil := ⟨a_nil, fun b R0 ps env cenv R φ ψ Φ Ψ r z x q => q [] env R r rfl rfl (fun m => nomatch m) z⟩
theorem z_cons (h : FE X W e te we fe) (g : FA X W es n ts va fs) (hs : starEach (e :: es) X.env = (false, eval e X.env) :: starEach es X.env := by rfl) : FA X W (e :: es) (n + 1) (tCons te ts) (aCons we va) (zCons fe fs) := ⟨a_cons h.d g.d hs, fun b R0 ps env cenv R φ ψ Φ Ψ r z x q =>
  h.t b R0 ps env cenv R _ ψ _ Ψ r z x fun d env1 R1 r1 z1 => g.t b R0 ps env1 cenv R1 _ ψ _ Ψ r1 z1 x fun as env2 R2 r2 hn ha hb z2 => q (.val d :: as) env2 R2 r2 (by rw [List.length_cons, hn]) (by simpa [A.arg] using ha) (fun m => hb (by
    rcases List.mem_cons.mp m with m | m
    · exact nomatch m
    · exact m)) z2⟩
theorem z_bag (i : Nat) {x : Str} {p : Pos} (g : FA X W es n ts va fs) (hs : starEach (.Name x p :: es) X.env = (false, eval (.Name x p) X.env) :: starEach es X.env := by rfl) (hN : X.N[i]? = some x := by rfl) (hv : Vis X.env.scope x := by first | exact Or.inl rfl | exact Or.inr (Or.inl rfl) | exact Or.inr (Or.inr rfl)) (hd : (x == ("__debug__" : Str)) = false := by decide)
    (hcd : (x == ("__classdict__" : Str)) = false := by decide) : FA X W (.Name x p :: es) (n + 1) (tCons (tVar i) ts) (aCons (wVar i) va) (zBag i fs) := ⟨a_cons (dv i hN hv hd hcd) g.d hs, fun b R0 ps env cenv R φ ψ Φ Ψ r z x q => by
  unfold zBag at z
  split at z
  · rename_i e
    show wVar i cenv R _ Ψ
    unfold wVar
    rw [r.get e]
    refine g.t b R0 ps env cenv R _ ψ _ Ψ r z x fun as env2 R2 r2 hn ha hb z2 => q (.bag :: as) env2 R2 r2 (by rw [List.length_cons, hn]) (by simpa [A.arg] using ha) (fun _ => r.bg (List.mem_of_getElem? e)) z2
  · exact False.elim z⟩
def valsA : List A → Option (List D)
  | [] => some []
  | .val d :: r => (valsA r).map (d :: ·)
  | _ :: _ => none
theorem valsA_ok {b : Addr} : ∀ {as : List A} {ds : List D}, valsA as = some ds → vals (as.map (A.en b (0, 0))) = some ds ∧ ds.length = as.length ∧ as.map (A.en b (0, 0)) = ds.map En.val
  | [], ds, h => by cases h; exact ⟨rfl, rfl, rfl⟩
  | .val d :: r, ds, h => by
    have h2 : (valsA r).map (d :: ·) = some ds := h
    cases q : valsA r with
    | none => rw [q] at h2; cases h2
    | some l =>
      rw [q] at h2
      have h3 : d :: l = ds := Option.some.inj h2
      subst h3
      obtain ⟨a1, a2, a3⟩ := valsA_ok (b := b) q
      refine ⟨?_, by rw [List.length_cons, List.length_cons, a2], by rw [List.map_cons, List.map_cons, a3]; rfl⟩
      rw [List.map_cons]
      show (vals (r.map (A.en b (0, 0)))).map (d :: ·) = _
      rw [a1]; rfl
  | .no :: _, _, h => nomatch h
  | .own _ :: _, _, h => nomatch h
  | .bag :: _, _, h => nomatch h
  | .ins _ _ _ _ :: _, _, h => nomatch h
  | .dic _ _ :: _, _, h => nomatch h
  | .lnt _ _ :: _, _, h => nomatch h
  | .dnt _ _ _ :: _, _, h => nomatch h
  | .see _ :: _, _, h => nomatch h
  | .seeD _ _ :: _, _, h => nomatch h
  | .err _ _ _ :: _, _, h => nomatch h
  | .tre _ :: _, _, h => nomatch h
/-- all arguments are data -/
def onV (as : List A) (k : List D → Prop) : Prop := match valsA as with
  | some ds => k ds
  | none => False
def eTup (f : FnE (List A)) : FnE D := fun env φ ψ => f env (fun as env1 => onV as fun ds => φ (.tup ds) env1) ψ
def eLst (f : FnE (List A)) : FnE (List D) := fun env φ ψ => f env (fun as env1 => onV as fun ds => φ ds env1) ψ
theorem onV_ok {as : List A} {k : List D → Prop} (h : onV as k) : ∃ ds, valsA as = some ds ∧ k ds := by
  unfold onV at h
  split at h
  · rename_i ds e; exact ⟨ds, e, h⟩
  · exact False.elim h
theorem f_tup {j : Nat} (h : FA X W es n ts va fs) (hn : n ≤ sizeLine := by decide) : FE X W (.Tuple es j pos) (tTup ts) (wTup va) (eTup fs) := ⟨d_tup h.d, fun b R0 ps env cenv R φ ψ Φ Ψ r z x q =>
  h.t b R0 ps env cenv R _ ψ _ Ψ r z x fun as env1 R1 r1 hl ha hb z1 => by
    obtain ⟨ds, e, z1⟩ := onV_ok z1
    obtain ⟨a1, a2, a3⟩ := valsA_ok (b := b) e
    exact ⟨ds, a1, by rw [a2, hl]; exact hn, q _ env1 R1 r1 z1⟩⟩
theorem f_lst (h : FA X W es n ts va fs) (hn : n ≤ sizeLine := by decide) : FO X W (.List es pos) (tLst ts) (wLst va) (eLst fs) := ⟨d_lst h.d, fun b R0 ps env cenv R φ ψ Φ Ψ r z x q =>
  h.t b R0 ps env cenv R _ ψ _ Ψ r z x fun as env1 R1 r1 hl ha hb z1 => by
    obtain ⟨ds, e, z1⟩ := onV_ok z1
    obtain ⟨a1, a2, a3⟩ := valsA_ok (b := b) e
    exact ⟨ds, a1, by rw [a2, hl]; exact hn, fun p => q _ p env1 R1 r1 z1⟩⟩
abbrev G1 := List D → (D → Prop) → Prop
def DetC (k : KC) (g : G1) : Prop := ∀ ds R (φ : D → Prop) (Φ : En → List Res → Prop), g ds φ → (∀ d, φ d → Φ (.val d) R) → k (ds.map En.val) R (fun o R1 => settle 0 o R1 Φ)
structure CB (X : Cx) (f : Value) (r : List V → Hp → VK → Prop) (k : KC) (g : G1) : Prop where
  o : DCall X f r k
  t : DetC k g
def eCB (g : G1) (f : FnE (List A)) : FnE D := fun env φ ψ => f env (fun as env1 => onV as fun ds => g ds fun d => φ d env1) ψ
theorem det_cb {k : KC} {g : G1} (h : DetA n va fs) (hk : DetC k g) : DetE (wSet 0 (wCB va k)) (eCB g fs) := fun b R0 ps env cenv R φ ψ Φ Ψ r z x q =>
  h b R0 ps env cenv R _ ψ _ Ψ r z x fun as env1 R1 r1 hl ha hb z1 => by
    obtain ⟨ds, e, z1⟩ := onV_ok z1
    rw [(valsA_ok (b := b) e).2.2]
    exact hk ds R1 _ Φ z1 fun d h => q d env1 R1 r1 h
theorem f_callB {x : Str} {id : String} {r : List V → Hp → VK → Prop} {k : KC} {g : G1} {p pos : Pos} (hc : CB X (.builtin id) r k g) (hm : X.mg x = none) (hv : bootBuiltins x = some (.builtin id)) (h : FA X W (e :: es) n ts va fs) (hg : Gl X x := by rfl) (hn : x ≠ "__name__" := by decide) (hdb : (x == ("__debug__" : Str)) = false := by decide)
    (he : starEach (e :: es) X.env = (false, eval e X.env) :: starEach es X.env := by rfl) (hpl : (backTo pos (starEach es X.env)).any (·.1) = false := by rfl) : FE X W (.Call (.Name x p) (e :: es) [] pos) (tCB r ts) (wSet 0 (wCB va k)) (eCB g fs) :=
  ⟨de_set 0 (d_callB hc.o hm hv h.d hg hn hdb he hpl), det_cb h.t hc.t⟩
/-- one argument, read at once -/
def DetCr (k : KC) (g : G1) : Prop := ∀ o d R (φ : D → Prop) (Φ : En → List Res → Prop), ReadsAs R o d → g [d] φ → (∀ d, φ d → Φ (.val d) R) → k [o] R (fun o R1 => settle 0 o R1 Φ)
structure CBr (X : Cx) (f : Value) (r : List V → Hp → VK → Prop) (k : KC) (g : G1) : Prop where
  o : DCall X f r k
  t : DetCr k g
def eCr (g : G1) (f : FnE D) : FnE D := fun env φ ψ => f env (fun d env1 => g [d] fun d' => φ d' env1) ψ
theorem det_cr {k : KC} {g : G1} (h : DetR we fe) (hk : DetCr k g) : DetE (wSet 0 (wCB (aCons we aNil) k)) (eCr g fe) := fun b R0 ps env cenv R φ ψ Φ Ψ r z x q =>
  h b R0 ps env cenv R _ ψ _ Ψ r z x fun d o env1 R1 r1 rd z1 => hk o d R1 _ Φ rd z1 fun d h => q d env1 R1 r1 h
theorem f_callBr {x : Str} {id : String} {r : List V → Hp → VK → Prop} {k : KC} {g : G1} {p pos : Pos} (hc : CBr X (.builtin id) r k g) (hm : X.mg x = none) (hv : bootBuiltins x = some (.builtin id)) (h : FR X W e te we fe) (hg : Gl X x := by rfl) (hn : x ≠ "__name__" := by decide) (hdb : (x == ("__debug__" : Str)) = false := by decide)
    (he : starEach (e :: []) X.env = (false, eval e X.env) :: starEach [] X.env := by rfl) (hpl : (backTo pos (starEach [] X.env)).any (·.1) = false := by rfl) : FE X W (.Call (.Name x p) [e] [] pos) (tCB r (tCons te tNil)) (wSet 0 (wCB (aCons we aNil) k)) (eCr g fe) :=
  ⟨de_set 0 (d_callB hc.o hm hv (a_cons h.d a_nil he) hg hn hdb he hpl), det_cr h.t hc.t⟩
theorem f_callTyr {x : Str} {T : String} {r : List V → Hp → VK → Prop} {k : KC} {g : G1} {p pos : Pos} (hc : CBr X (.type T) r k g) (hm : X.mg x = none) (hv : bootBuiltins x = some (.type T)) (h : FR X W e te we fe) (hg : Gl X x := by rfl) (hn : x ≠ "__name__" := by decide) (hdb : (x == ("__debug__" : Str)) = false := by decide)
    (he : starEach (e :: []) X.env = (false, eval e X.env) :: starEach [] X.env := by rfl) (hpl : (backTo pos (starEach [] X.env)).any (·.1) = false := by rfl) : FE X W (.Call (.Name x p) [e] [] pos) (tCB r (tCons te tNil)) (wSet 0 (wCB (aCons we aNil) k)) (eCr g fe) :=
  ⟨de_set 0 (d_callTy hc.o hm hv (a_cons h.d a_nil he) hg hn hdb he hpl), det_cr h.t hc.t⟩
end
end Tl
namespace Tl
open PySem PySem.Spec PyProof.Rows L2
section
variable {X : Cx} {W : WX} {P : Program} {w : World} {K : PySem.W.Frag} {mg : Str → Option Value} {base : Heap} {x m c : Str} {k j n : Nat} {G : Gs} {dv : List D} {e o a b : Expr} {es : List Expr} {ts : TA} {va : WA} {te ta tb to : TE} {we wa wb wo : WE} {p pos apos : Pos} {fs : FnE (List A)} {fo fa fb fe : FnE D}
def eCall (G : Gs) (dv : List D) (f : FnE (List A)) : FnE D := fun env φ ψ => f env (fun as env1 => G (as ++ dv.map A.val) (fun d => φ d env1) (fun er => ψ er env1)) ψ
theorem arg_dv {as : List A} (dv : List D) (h : as.all A.arg = true) : (as ++ dv.map A.val).all A.arg = true := by
  rw [List.all_append, h, Bool.true_and, List.all_eq_true]
  intro a ha
  obtain ⟨d, _, rfl⟩ := List.mem_map.mp ha
  rfl
theorem bag_dv {as : List A} {dv : List D} (m : A.bag ∈ as ++ dv.map A.val) : A.bag ∈ as := by
  rcases List.mem_append.mp m with m | m
  · exact m
  · obtain ⟨d, _, e⟩ := List.mem_map.mp m
    exact nomatch e
theorem map_dv {b : Addr} {as : List A} (dv : List D) : (as ++ dv.map A.val).map (A.en b (0, 0)) = as.map (A.en b (0, 0)) ++ dv.map En.val := by
  rw [List.map_append, List.map_map]; rfl
theorem det_call (h : DetA n va fs) : DetE (wCall (fsA G) dv va) (eCall G dv fs) := fun b R0 ps env cenv R φ ψ Φ Ψ r z x q =>
  h b R0 ps env cenv R _ ψ _ Ψ r z x fun as env1 R1 r1 hl ha hb z1 => ⟨b, as ++ dv.map A.val, _, _, (map_dv dv).symm, arg_dv dv ha, fun mm => by
    obtain ⟨l, hl⟩ := hb (bag_dv mm)
    exact ⟨l, r1.base.mem hl⟩, z1, fun d hd => q d env1 R1 r1 hd, fun er he => x er env1 R1 r1 he⟩
theorem f_call (cc : Fx P w K mg base k x (fsA G) dv) (hr : Room j X.A) (hk : k ≤ j) (tk : Tk X W) (ha : FA X W (e :: es) n ts va fs) (hX : Of X P w K mg base := by exact ⟨rfl, rfl, rfl, rfl, rfl⟩) (hg : Gl X x := by rfl) (hdb : (x == ("__debug__" : Str)) = false := by decide)
    (he : starEach (e :: es) X.env = (false, eval e X.env) :: starEach es X.env := by rfl) (hpl : (backTo pos (starEach es X.env)).any (·.1) = false := by rfl) :
    FE X W (.Call (.Name x p) (e :: es) [] pos) (tCallSD (spOf K (fsA G)) (dv.map lit) (L2.WE W) ts) (wCall (fsA G) dv va) (eCall G dv fs) := ⟨b_call (mono_a G) cc hr hk tk ha.d hX hg hdb he hpl, det_call ha.t⟩
theorem f_call0 (cc : Fx P w K mg base k x (fsA G) dv) (hr : Room j X.A) (hk : k ≤ j) (tk : Tk X W) (hX : Of X P w K mg base := by exact ⟨rfl, rfl, rfl, rfl, rfl⟩) (hg : Gl X x := by rfl) (hdb : (x == ("__debug__" : Str)) = false := by decide) :
    FE X W (.Call (.Name x p) [] [] pos) (tCallSD (spOf K (fsA G)) (dv.map lit) (L2.WE W) tNil) (wCall (fsA G) dv aNil) (eCall G dv zNil) := ⟨b_call0 (mono_a G) cc hr hk tk hX hg hdb, det_call (z_nil (X := X) (W := W)).t⟩
def eMeth (c m : Str) (G : Gs) (dv : List D) (fo : FnE D) (f : FnE (List A)) : FnE D := fun env φ ψ => fo env (fun d env1 => match d with
  | .obj c' ns ds => c' = c ∧ m ∉ ns ∧ f env1 (fun as env2 => G (.val (.obj c' ns ds) :: (as ++ dv.map A.val)) (fun d => φ d env2) (fun er => ψ er env2)) ψ
  | _ => False) ψ
theorem det_meth (ho : DetE wo fo) (h : DetA n va fs) : DetE (wMeth c m (fsA G) dv wo va) (eMeth c m G dv fo fs) := fun b R0 ps env cenv R φ ψ Φ Ψ r z x q =>
  ho b R0 ps env cenv R _ ψ _ Ψ r z x fun d env1 R1 r1 z1 => by
    cases d with
    | obj c' ns ds =>
      obtain ⟨e1, e2, z1⟩ := z1
      refine ⟨e1, e2, h b R0 ps env1 cenv R1 _ ψ _ Ψ r1 z1 x fun as env2 R2 r2 hl ha hb z2 => ⟨b, .val (.obj c' ns ds) :: (as ++ dv.map A.val), _, _, ?_, ?_, fun mm => ?_, z2, fun d hd => q d env2 R2 r2 hd, fun er he => x er env2 R2 r2 he⟩⟩
      · rw [List.map_cons, map_dv]; rfl
      · rw [List.all_cons, arg_dv dv ha]; rfl
      · rcases List.mem_cons.mp mm with mm | mm
        · exact nomatch mm
        · obtain ⟨l, hl⟩ := hb (bag_dv mm)
          exact ⟨l, r2.base.mem hl⟩
    | _ => exact False.elim z1
theorem f_meth {pl : Sem Bool} (cc : Mx P w K mg base k c m (fsA G) dv) (hr : Room j X.A) (hk : k ≤ j) (tk : Tk X W) (ho : FE X W o to wo fo) (ha : FA X W (e :: es) n ts va fs) (hX : Of X P w K mg base := by exact ⟨rfl, rfl, rfl, rfl, rfl⟩)
    (hst : starEach (e :: es) X.env = (false, eval e X.env) :: starEach es X.env := by rfl) (hpl : (backTo pos (starEach es X.env)).any (·.1) = false := by rfl)
    (ht : eval (.Call (.Attribute o m apos) (e :: es) [] pos) X.env = (eval o X.env >>= fun ov => standAt apos.atName >>= fun _ => holding [ov] (getMethod ov m pl) >>= fun q => callWith pos q.1 q.2 (backTo pos (starEach (e :: es) X.env)) (backToKw pos (keywordEach [] X.env))) := by rfl) :
    FE X W (.Call (.Attribute o m apos) (e :: es) [] pos) (tMethSD (He.ga K c) m (spOf K (fsA G)) (dv.map lit) (L2.WE W) to ts) (wMeth c m (fsA G) dv wo va) (eMeth c m G dv fo fs) := by
  obtain ⟨rfl, rfl, rfl, rfl, rfl⟩ := hX
  exact ⟨d_meth (mono_a G) cc hr hk tk ho.d ha.d hst hpl ht, det_meth ho.t ha.t⟩
theorem f_meth0 {pl : Sem Bool} (cc : Mx P w K mg base k c m (fsA G) dv) (hr : Room j X.A) (hk : k ≤ j) (tk : Tk X W) (ho : FE X W o to wo fo) (hX : Of X P w K mg base := by exact ⟨rfl, rfl, rfl, rfl, rfl⟩)
    (ht : eval (.Call (.Attribute o m apos) [] [] pos) X.env = (eval o X.env >>= fun ov => standAt apos.atName >>= fun _ => holding [ov] (getMethod ov m pl) >>= fun q => callWith pos q.1 q.2 (backTo pos (starEach [] X.env)) (backToKw pos (keywordEach [] X.env))) := by rfl) :
    FE X W (.Call (.Attribute o m apos) [] [] pos) (tMethSD (He.ga K c) m (spOf K (fsA G)) (dv.map lit) (L2.WE W) to tNil) (wMeth c m (fsA G) dv wo aNil) (eMeth c m G dv fo zNil) := by
  obtain ⟨rfl, rfl, rfl, rfl, rfl⟩ := hX
  exact ⟨d_meth0 (mono_a G) cc hr hk tk ho.d ht, det_meth ho.t (z_nil (X := X) (W := W)).t⟩
def fsM (c : Str) (G : Gs) : Tl.FS := fun os R Φ Ψ => ∃ (x dx b : Addr) (as : List A) (R1 : List Res) (φ : D → Prop) (ψ : Er → Prop), os = .adr x :: as.map (A.en b (0, 0)) ∧ R = .ins x dx c [] [] :: R1 ∧ as.all A.arg = true ∧ (A.bag ∈ as → ∃ l, Res.bag b l ∈ R1) ∧ G as φ ψ ∧
  (∀ ns ds, φ (.obj c ns ds) → Φ (.val .non) (.ins x dx c ns ds :: R1)) ∧ ∀ er ns ds, ψ er → Ψ er (.ins x dx c ns ds :: R1)
theorem mono_m (c : Str) (G : Gs) : Mono (fsM c G) := fun os R Φ Φ' Ψ Ψ' h h' z => by
  obtain ⟨x, dx, b, as, R1, φ, ψ, e1, e2, ha, hb, g, h1, h2⟩ := z
  exact ⟨x, dx, b, as, R1, φ, ψ, e1, e2, ha, hb, g, fun ns ds q => h _ _ (h1 ns ds q), fun er ns ds q => h' _ _ (h2 er ns ds q)⟩
def eMake (c : Str) (G : Gs) (dv : List D) (f : FnE (List A)) : FnE D := fun env φ ψ => f env (fun as env1 => G (as ++ dv.map A.val) (fun d => φ d env1) (fun er => ψ er env1)) ψ
theorem det_make (h : DetA n va fs) : DetE (wMake c (fsM c G) dv va) (eMake c G dv fs) := fun b R0 ps env cenv R φ ψ Φ Ψ r z x q =>
  h b R0 ps env cenv R _ ψ _ Ψ r z x fun as env1 R1 r1 hl ha hb z1 => fun y dy => ⟨y, dy, b, as ++ dv.map A.val, R1, _, _, by rw [map_dv], rfl, arg_dv dv ha, fun mm => by
    obtain ⟨l, hl⟩ := hb (bag_dv mm)
    exact ⟨l, r1.base.mem hl⟩, z1, fun ns ds hd => ⟨rfl, rfl, q _ env1 R1 r1 hd⟩, fun er ns ds he => x er env1 R1 r1 he⟩
theorem f_make (cc : Cx' P w K mg base k c (fsM c G) dv) (hr : Room j X.A) (hk : k + 1 ≤ j) (tk : Tk X W) (ha : FA X W (e :: es) n ts va fs) (hX : Of X P w K mg base := by exact ⟨rfl, rfl, rfl, rfl, rfl⟩) (hg : Gl X c := by rfl) (hdb : (c == ("__debug__" : Str)) = false := by decide)
    (he : starEach (e :: es) X.env = (false, eval e X.env) :: starEach es X.env := by rfl) (hpl : (backTo pos (starEach es X.env)).any (·.1) = false := by rfl) :
    FE X W (.Call (.Name c p) (e :: es) [] pos) (tMakeSD (He.ga K c) (spOf K (fsM c G)) (dv.map lit) (L2.WE W) ts) (wMake c (fsM c G) dv va) (eMake c G dv fs) := ⟨b_make (mono_m c G) cc hr hk tk ha.d hX hg hdb he hpl, det_make ha.t⟩
theorem f_make0 (cc : Cx' P w K mg base k c (fsM c G) dv) (hr : Room j X.A) (hk : k + 1 ≤ j) (tk : Tk X W) (hX : Of X P w K mg base := by exact ⟨rfl, rfl, rfl, rfl, rfl⟩) (hg : Gl X c := by rfl) (hdb : (c == ("__debug__" : Str)) = false := by decide) :
    FE X W (.Call (.Name c p) [] [] pos) (tMakeSD (He.ga K c) (spOf K (fsM c G)) (dv.map lit) (L2.WE W) tNil) (wMake c (fsM c G) dv aNil) (eMake c G dv zNil) := by
  obtain ⟨rfl, rfl, rfl, rfl, rfl⟩ := hX
  exact ⟨d_make0 (mono_m c G) cc hr hk tk hg hdb, det_make (z_nil (X := X) (W := W)).t⟩
/-- what a body makes of a class's __init__ -/
def selfAt (p : A2) (c : Str) (φ : D → Prop) (env : List Tl.A) : Prop := match (env[0]? : Option Tl.A) with
  | some (.ins q c' ns ds) => q = p ∧ c' = c ∧ φ (.obj c ns ds)
  | _ => False
def runM (c : Str) (n : Nat) (f : FnS) : Gs := fun as φ ψ => ∀ p, f (.ins p c [] [] :: startA n as) { nx := selfAt p c φ, rt := fun _ _ => False } fun er env => selfAt p c (fun _ => True) env ∧ ψ er
theorem selfAt_ok {p : A2} {c : Str} {φ : D → Prop} {env : List Tl.A} (h : selfAt p c φ env) : ∃ ns ds, env[0]? = some (.ins p c ns ds) ∧ φ (.obj c ns ds) := by
  unfold selfAt at h
  split at h
  · rename_i q c' ns ds e
    obtain ⟨rfl, rfl, h⟩ := h
    exact ⟨ns, ds, e, h⟩
  · exact False.elim h
theorem self_sub {b : Addr} {R0 R : List Res} {ps : Nat → A2} {env : List Tl.A} {cenv : List En} {p : A2} {c : Str} {ns : List Str} {ds : List D} (r : Rel b R0 ps env cenv R) (e : env[0]? = some (.ins p c ns ds)) : SubR (.ins p.1 p.2 c ns ds :: R0) R := by
  have s := res_split (ps := ps) env 0 0 _ e
  obtain ⟨G, q⟩ := r.rs
  refine ⟨G ++ resAt ps 0 (env.set 0 .no), q.trans ?_⟩
  rw [List.append_assoc]
  refine List.Perm.append_left G ((s.append_right R0).trans ?_)
  show ((Res.ins p.1 p.2 c ns ds :: resAt ps 0 (env.set 0 .no)) ++ R0).Perm _
  exact List.perm_middle.symm
theorem fn_m {q qual : Str} {params : Arguments} {body : List Stmt} {scope : Scope} {dvs : List V} {kws : List (Str × V)} {f : Addr} {fd : FuncData} {N ps : List Str} {N0 ps0 : Nat}
    (Fd : FunD K q qual params body scope dvs kws f fd) (Sc : FnScope N ps scope) (hN : N.length = N0 + 1) (hps : ps.length = ps0 + 1)
    (hb : ∀ (cdv : Value) (A : Around) (outer : List Env) (s : Shared) (H : Hp) (E : XK), Room k (A.deeper (envOfC qual scope s.heap.objs.size f cdv)) → Tk (cxOf (L2.CX P w) P w K mg base N qual scope f cdv A outer s H E) (WF E) →
      ∃ ts ws f0, FSs (cxOf (L2.CX P w) P w K mg base N qual scope f cdv A outer s H E) (WF E) body ts ws f0 ∧ ∀ as φ ψ, G as φ ψ → runM c N0 f0 as φ ψ) (len : ∀ as φ ψ, G as φ ψ → as.length = ps0) :
    FnOk P w K mg base (L2.CX P w) (k + 1) f fd ps (spOf K (fsM c G)) := by
  refine fn_body Fd Sc (fun os R Φ Ψ h => ?_) (fun cdv A outer s H E hr tk => ?_)
  · obtain ⟨x, dx, b, as, R1, φ, ψ, rfl, rfl, ha, hb, g, _⟩ := h
    rw [List.length_cons, List.length_map, hps, len as φ ψ g]
  · obtain ⟨ts, ws, f0, ff, go⟩ := hb cdv A outer s H E hr tk
    refine ⟨ts, _, ss_clean ff.d, fun os R Φ Ψ h => ?_⟩
    obtain ⟨x, dx, b, as, R1, φ, ψ, rfl, rfl, ha, hb, g, h1, h2⟩ := h
    have r0 := rel_start (n := N0) (R := R1) ha hb
    have rr : Rel b R1 (fun _ => (0, 0)) (.ins (x, dx) c [] [] :: startA N0 as) (startE N.length (.adr x :: as.map (Tl.A.en b (0, 0)))) (.ins x dx c [] [] :: R1) := by
      refine ⟨?_, ?_, fun m => r0.bg ?_, fun i a q e s => ?_⟩
      · have e := r0.ce
        rw [hN]
        have e0 : startE (N0 + 1) (.adr x :: as.map (Tl.A.en b (0, 0))) = .adr x :: startE N0 (as.map (Tl.A.en b (0, 0))) := by
          unfold startE
          rw [List.length_cons, show N0 + 1 - ((as.map (Tl.A.en b (0, 0))).length + 1) = N0 - (as.map (Tl.A.en b (0, 0))).length by omega]
          rfl
        rw [e0]
        refine ⟨.inr rfl, ?_⟩
        have gen : ∀ (env : List Tl.A) (ce : List En) (u v : Nat), CeOk b (fun _ => (0, 0)) u env ce → CeOk b (fun _ => (0, 0)) v env ce := by
          intro env
          induction env with
          | nil => intro ce u v h; cases ce with
            | nil => trivial
            | cons _ _ => exact False.elim h
          | cons a r ih => intro ce u v h; cases ce with
            | nil => exact False.elim h
            | cons y t => exact ⟨h.1, ih t (u + 1) (v + 1) h.2⟩
        exact gen _ _ _ _ e
      · refine ⟨[], ?_⟩
        show (Res.ins x dx c [] [] :: R1).Perm ([.ins x dx c [] []] ++ resAt (fun _ => (0, 0)) 1 (startA N0 as) ++ R1)
        have e2 : resAt (fun _ => (0, 0)) 1 (startA N0 as) = [] := by
          unfold startA
          rw [res_app, res_no, res_arg as 1 ha]; rfl
        rw [e2]
        exact List.Perm.refl _
      · rcases List.mem_cons.mp m with m | m
        · exact nomatch m
        · exact m
      · cases i with
        | zero => cases e; cases s
        | succ i => exact r0.sw i a q e s
    refine ff.t b R1 _ _ _ _ _ _ _ _ rr (go as φ ψ g (x, dx)) (fun er ps env cenv R' r z => ?_) ⟨fun ps env cenv R' r z => ?_, fun ps env cenv d R' r z => False.elim z, fun ps env cenv R' r z => False.elim z, fun ps env cenv R' r z => False.elim z, fun ps env cenv a q R' r _ z => False.elim z⟩
    · obtain ⟨z1, z2⟩ := z
      obtain ⟨ns, ds, e, _⟩ := selfAt_ok z1
      exact ⟨.ins x dx c ns ds :: R1, self_sub (p := (x, dx)) r e, h2 er ns ds z2⟩
    · obtain ⟨ns, ds, e, z⟩ := selfAt_ok z
      exact ⟨.ins x dx c ns ds :: R1, self_sub (p := (x, dx)) r e, h1 ns ds z⟩
end
end Tl
namespace Tl
open PySem PySem.Spec PyProof.Rows L2
section
variable {X : Cx} {W : WX} {K : PySem.W.Frag} {e o a b : Expr} {te ta tb to : TE} {we wa wb wo : WE} {p pos apos : Pos} {fo fa fb fe : FnE D}
def eFld (cs : List Str) (f : Str) (fo : FnE D) : FnE D := fun env φ ψ => fo env (fun d env1 => match d with
  | .obj c ns ds => c ∈ cs ∧ (match fldOf f ns ds with | some d => φ d env1 | none => False)
  | _ => False) ψ
theorem f_fld {cs : List Str} {f : Str} (h : FldOk K cs f) (ho : FE X W o to wo fo) (hk : X.K = K := by rfl) (hb : attributeBase o f X.env (eval o X.env) = eval o X.env := by rfl) : FE X W (.Attribute o f pos) (tFld K to f) (wFld cs f wo) (eFld cs f fo) := ⟨b_fld h ho.d hk hb, fun b R0 ps env cenv R φ ψ Φ Ψ r z x q =>
  ho.t b R0 ps env cenv R _ ψ _ Ψ r z x fun d env1 R1 r1 z1 => by
    cases d with
    | obj c ns ds =>
      obtain ⟨hc, z1⟩ := z1
      split at z1
      · rename_i d e; exact ⟨hc, d, e, q d env1 R1 r1 z1⟩
      · exact False.elim z1
    | _ => exact False.elim z1⟩
def gI0 (g : Int → Int → D) : G2 := fun x y φ => match x, y with
  | .int i, .int j => φ (g i j)
  | _, _ => False
theorem detk_I0 {g : Int → Int → D} : DetK0 (kI (fun _ _ => True) g) (gI0 g) := fun x y R φ Φ z q => by
  unfold gI0 at z
  split at z
  · exact ⟨trivial, q _ z⟩
  · exact False.elim z
theorem p_sub : OB X .Sub (rI (fun _ _ => True) fun i j => .int (i - j)) (kI (fun _ _ => True) fun i j => .int (i - j)) (gI0 fun i j => .int (i - j)) := ⟨o_sub, detk_I0.k⟩
/-- + of ints, texts, tuples, lists -/
def gAdd : G2 := fun x y φ => match x, y with
  | .int i, .int j => φ (.int (i + j))
  | .str i, .str j => i.length + j.length ≤ sizeLine ∧ φ (.str (i ++ j))
  | .tup i, .tup j => i.length + j.length ≤ sizeLine ∧ φ (.tup (i ++ j))
  | .lst i, .lst j => i.length + j.length ≤ sizeLine ∧ φ (.lst (i ++ j))
  | _, _ => False
theorem o_catTK (K : PySem.W.Frag) (hk : X.K = K) : DOp X (binaryOp .Add) (rCatA K) kCatT := by
  subst hk; exact o_catT
theorem p_add (K : PySem.W.Frag) (hk : X.K = K := by rfl) : OB X .Add (rOr (rI (fun _ _ => True) fun i j => .int (i + j)) (rOr (rS (fun i j => i.length + j.length ≤ sizeLine) fun i j => .str (i ++ j)) (rOr (rCatA K) rCat)))
    (kOr (kI (fun _ _ => True) fun i j => .int (i + j)) (kOr (kS (fun i j => i.length + j.length ≤ sizeLine) fun i j => .str (i ++ j)) (kOr kCatT kCat))) gAdd := ⟨o_add.or (o_addS.or ((o_catTK K hk).or o_cat)), fun x y R φ Φ z q => by
  unfold gAdd at z
  split at z
  · exact .inl ⟨trivial, q _ z⟩
  · exact .inr (.inl ⟨z.1, q _ z.2⟩)
  · exact .inr (.inr (.inl ⟨z.1, q _ z.2⟩))
  · exact .inr (.inr (.inr ⟨_, _, rfl, rfl, z.1, fun p => ⟨_, rfl, q _ z.2⟩⟩))
  · exact False.elim z⟩
def gMul : G2 := fun x y φ => match x, y with
  | .int i, .int j => CMul i j ∧ φ (.int (i * j))
  | .str z, .int n => (0 ≤ n ∧ n < 2 ^ 62 ∧ z.length * n.toNat ≤ sizeLine) ∧ φ (.str (repS z n))
  | _, _ => False
theorem p_mul : OB X .Mult (rOr (rI CMul fun i j => .int (i * j)) rMulS) (kOr (kI CMul fun i j => .int (i * j)) kMulS) gMul := ⟨o_mul.or o_mulS, fun x y R φ Φ z q => by
  unfold gMul at z
  split at z
  · exact .inl ⟨z.1, q _ z.2⟩
  · exact .inr ⟨z.1.1, z.1.2.1, z.1.2.2, q _ z.2⟩
  · exact False.elim z⟩
def gLt : G2 := fun x y φ => match x, y with
  | .int i, .int j => φ (.bl (decide (i < j)))
  | .str i, .str j => φ (.bl (decide (i.cps.toList < j.cps.toList)))
  | _, _ => False
def gGt : G2 := fun x y φ => match x, y with
  | .int i, .int j => φ (.bl (decide (j < i)))
  | .str i, .str j => φ (.bl (decide (j.cps.toList < i.cps.toList)))
  | _, _ => False
theorem p_lt : OC X .Lt (rOr (rI (fun _ _ => True) fun i j => .bl (decide (i < j))) (rS (fun _ _ => True) fun i j => .bl (decide (i.cps.toList < j.cps.toList)))) (kOr (kI (fun _ _ => True) fun i j => .bl (decide (i < j))) (kS (fun _ _ => True) fun i j => .bl (decide (i.cps.toList < j.cps.toList)))) gLt := ⟨o_lt.or o_ltS, fun x y R φ Φ z q => by
  unfold gLt at z
  split at z
  · exact .inl ⟨trivial, q _ z⟩
  · exact .inr ⟨trivial, q _ z⟩
  · exact False.elim z⟩
theorem p_gt : OC X .Gt (rOr (rI (fun _ _ => True) fun i j => .bl (decide (j < i))) (rS (fun _ _ => True) fun i j => .bl (decide (j.cps.toList < i.cps.toList)))) (kOr (kI (fun _ _ => True) fun i j => .bl (decide (j < i))) (kS (fun _ _ => True) fun i j => .bl (decide (j.cps.toList < i.cps.toList)))) gGt := ⟨o_gt.or o_gtS, fun x y R φ Φ z q => by
  unfold gGt at z
  split at z
  · exact .inl ⟨trivial, q _ z⟩
  · exact .inr ⟨trivial, q _ z⟩
  · exact False.elim z⟩
theorem p_le : OC X .LtE (rI (fun _ _ => True) fun i j => .bl (decide (i ≤ j))) (kI (fun _ _ => True) fun i j => .bl (decide (i ≤ j))) (gI0 fun i j => .bl (decide (i ≤ j))) := ⟨o_le, detk_I0⟩
theorem p_ge : OC X .GtE (rI (fun _ _ => True) fun i j => .bl (decide (j ≤ i))) (kI (fun _ _ => True) fun i j => .bl (decide (j ≤ i))) (gI0 fun i j => .bl (decide (j ≤ i))) := ⟨o_ge, detk_I0⟩
/-- == of plain data -/
def gEq (neg : Bool) : G2 := fun x y φ => match scD x y with
  | some v => φ (.bl (if neg then !v else v))
  | none => PlD x ∧ PlD y ∧ φ (.bl (if neg then !eqD x y else eqD x y))
theorem detk_eq {neg : Bool} : DetK0 (kOr (kEq neg) (kEqD neg)) (gEq neg) := fun x y R φ Φ z q => by
  unfold gEq at z
  split at z
  · rename_i v e; exact .inl ⟨v, e, q _ z⟩
  · exact .inr ⟨z.1, z.2.1, q _ z.2.2⟩
variable {j : Nat}
theorem o_eqDK (K : PySem.W.Frag) (hr : Room j X.A) (hk : X.K = K) : DOp X (compareOp .Eq) (rEqD K) (kEqD false) := by
  subst hk; exact o_eqD hr
theorem o_neDK (K : PySem.W.Frag) (hr : Room j X.A) (hk : X.K = K) : DOp X (compareOp .NotEq) (rNeD K) (kEqD true) := by
  subst hk; exact o_neD hr
theorem p_eq (K : PySem.W.Frag) (hr : Room j X.A) (hk : X.K = K := by rfl) : OC X .Eq (rOr (rEqN false) (rEqD K)) (kOr (kEq false) (kEqD false)) (gEq false) := ⟨o_eq.or (o_eqDK K hr hk), detk_eq⟩
theorem p_ne (K : PySem.W.Frag) (hr : Room j X.A) (hk : X.K = K := by rfl) : OC X .NotEq (rOr (rEqN true) (rNeD K)) (kOr (kEq true) (kEqD true)) (gEq true) := ⟨o_ne.or (o_neDK K hr hk), detk_eq⟩
/-- is None, is True, is False -/
def gIs (neg : Bool) : G2 := fun x y φ => match y with
  | .non => φ (.bl (if neg then !isNon x else isNon x))
  | _ => False
theorem p_isN : OC X .Is (rIsNn false) (kIs false) (gIs false) := ⟨o_isN, fun x y R φ Φ z q => by
  unfold gIs at z
  split at z
  · exact q _ z
  · exact False.elim z⟩
theorem p_notN : OC X .IsNot (rIsNn true) (kIs true) (gIs true) := ⟨o_notN, fun x y R φ Φ z q => by
  unfold gIs at z
  split at z
  · exact q _ z
  · exact False.elim z⟩
/-- one sign in a text -/
def gInS (neg : Bool) : G2 := fun x y φ => match x, y with
  | .str i, .str z => (match i.cps.toList with
    | [c] => φ (.bl (if neg then !decide (c ∈ z.cps.toList) else decide (c ∈ z.cps.toList)))
    | _ => False)
  | _, _ => False
theorem str_one {i : Str} {c : Nat} (h : i.cps.toList = [c]) : i = ⟨#[c]⟩ := by
  obtain ⟨⟨l⟩⟩ := i
  have h2 : l = [c] := h
  rw [h2]
theorem detk_inS {neg : Bool} : DetK0 (kIn neg) (gInS neg) := fun x y R φ Φ z q => by
  unfold gInS at z
  split at z
  · split at z
    · rename_i c e
      exact ⟨c, str_one e, q _ z⟩
    · exact False.elim z
  · exact False.elim z
theorem p_inS : OC X .In (rIn false) (kIn false) (gInS false) := ⟨o_inS, detk_inS⟩
theorem p_ninS : OC X .NotIn (rIn true) (kIn true) (gInS true) := ⟨o_ninS, detk_inS⟩
def gIx : G2 := fun x y φ => match x, y with
  | .str z, .int i => z.length ≤ sizeLine ∧ (match atI z.cps.toList i with | some c => φ (.str ⟨#[c]⟩) | none => False)
  | .lst ds, .int i => (match atI ds i with | some d => φ d | none => False)
  | .tup ds, .int i => (match atI ds i with | some d => φ d | none => False)
  | _, _ => False
theorem detk_ix : DetK0 kIx gIx := fun x y R φ Φ z q => by
  unfold gIx at z
  split at z
  · obtain ⟨hz, z⟩ := z
    split at z
    · rename_i c e; exact ⟨hz, c, e, q _ z⟩
    · exact False.elim z
  · split at z
    · rename_i c e; exact ⟨c, e, q _ z⟩
    · exact False.elim z
  · split at z
    · rename_i c e; exact ⟨c, e, q _ z⟩
    · exact False.elim z
  · exact False.elim z
theorem f_ix (K : PySem.W.Frag) (ha : FE X W a ta wa fa) (hb : FE X W b tb wb fb) (hk : X.K = K := by rfl) (hs : PlainIx b := by intro _ _; rfl) : FE X W (.Subscript a b pos) (tOp (rIx K) ta tb) (w2 wa wb kIx) (eOp gIx fa fb) := ⟨b_ix K ha.d hb.d hk hs, det_op0 ha.t hb.t detk_ix⟩
/-- the slot holds a list of its own, whatever is in it -/
def isOwn (env : List A) (i : Nat) : Prop := match (env[i]? : Option A) with
  | some (.own _) => True
  | _ => False
def gLen : G1 := fun ds φ => match ds with
  | [.str z] => z.length ≤ sizeLine ∧ φ (.int z.length)
  | [.lst l] => φ (.int l.length)
  | [.tup l] => φ (.int l.length)
  | _ => False
theorem p_len (K : PySem.W.Frag) (hk : X.K = K := by rfl) : CBr X (.builtin "len") (fun xs H Q => ∃ x n, xs = [x] ∧ LenV K x H n ∧ Q (.int n) H) kLen gLen := ⟨b_len K hk, fun o d R φ Φ rd z q => by
  rcases rd with rfl | ⟨p, ds, rfl, rfl, m⟩
  · unfold gLen at z
    split at z
    · rename_i zz e; cases e; exact ⟨z.1, q _ z.2⟩
    · rename_i zz e; cases e; exact q _ z
    · rename_i zz e; cases e; exact q _ z
    · exact False.elim z
  · exact ⟨ds, m, q _ z⟩⟩
def gTuple : G1 := fun ds φ => match ds with
  | [.lst l] => φ (.tup l)
  | [.tup l] => φ (.tup l)
  | _ => False
theorem c_tupleK (K : PySem.W.Frag) (hk : X.K = K) : DCall X (.type "tuple") (fun xs H Q => ∃ p ys, xs = [.ref p] ∧ ((SqL K H p ys ∧ ∀ l, H l = none → Q (.ref l) (upd H l (.tup ys))) ∨ (SqT K H p ys ∧ Q (.ref p) H))) kTuple := by
  subst hk; exact c_tuple
theorem p_tuple (K : PySem.W.Frag) (hk : X.K = K := by rfl) : CBr X (.type "tuple") (fun xs H Q => ∃ p ys, xs = [.ref p] ∧ ((SqL K H p ys ∧ ∀ l, H l = none → Q (.ref l) (upd H l (.tup ys))) ∨ (SqT K H p ys ∧ Q (.ref p) H))) kTuple gTuple := ⟨c_tupleK K hk, fun o d R φ Φ rd z q => by
  rcases rd with rfl | ⟨p, ds, rfl, rfl, m⟩
  · unfold gTuple at z
    split at z
    · rename_i zz e; cases e; exact q _ z
    · rename_i zz e; cases e; exact q _ z
    · exact False.elim z
  · exact ⟨ds, m, q _ z⟩⟩
/-- list(x): a new list of a row -/
def eList (fe : FnE D) : FnE (List D) := fun env φ ψ => fe env (fun d env1 => match d with
  | .lst l => φ l env1
  | .tup l => φ l env1
  | _ => False) ψ
theorem c_listK (K : PySem.W.Frag) (hk : X.K = K) : DCall X (.type "list") (fun xs H Q => ∃ p ys, xs = [.ref p] ∧ (SqL K H p ys ∨ SqT K H p ys) ∧ ∀ l, H l = none → Q (.ref l) (upd H l (.lst ys))) kList := by
  subst hk; exact c_list
theorem f_list (K : PySem.W.Frag) (hm : X.mg "list" = none) (h : FR X W e te we fe) (hk : X.K = K := by rfl) (hg : Gl X "list" := by rfl)
    (he : starEach (e :: []) X.env = (false, eval e X.env) :: starEach [] X.env := by rfl) (hpl : (backTo pos (starEach [] X.env)).any (·.1) = false := by rfl) : FO X W (.Call (.Name "list" p) [e] [] pos) (tCB (fun xs H Q => ∃ p ys, xs = [.ref p] ∧ (SqL K H p ys ∨ SqT K H p ys) ∧ ∀ l, H l = none → Q (.ref l) (upd H l (.lst ys))) (tCons te tNil)) (wCB (aCons we aNil) kList) (eList fe) :=
  ⟨d_callTy (c_listK K hk) hm boot_list (a_cons h.d a_nil he) hg (by decide) (by decide) he hpl, fun b R0 ps env cenv R φ ψ Φ Ψ r z x q =>
  h.t b R0 ps env cenv R _ ψ _ Ψ r z x fun d o env1 R1 r1 rd z1 => by
    rcases rd with rfl | ⟨p, ds, rfl, rfl, m⟩
    · split at z1
      · exact fun p => q _ p env1 R1 r1 z1
      · exact fun p => q _ p env1 R1 r1 z1
      · exact False.elim z1
    · exact ⟨ds, m, fun p => q _ p env1 R1 r1 z1⟩⟩
/-- list(x): the signs of a text -/
def eListS (fe : FnE D) : FnE (List D) := fun env φ ψ => fe env (fun d env1 => match d with
  | .str z => z.length ≤ sizeLine ∧ φ (signs z) env1
  | _ => False) ψ
theorem f_listS (hc : X.calm = true) (hm : X.mg "list" = none) (h : FE X W e te we fe) (hg : Gl X "list" := by rfl)
    (he : starEach (e :: []) X.env = (false, eval e X.env) :: starEach [] X.env := by rfl) (hpl : (backTo pos (starEach [] X.env)).any (·.1) = false := by rfl) : FO X W (.Call (.Name "list" p) [e] [] pos) (tCB (fun xs H Q => ∃ z : Str, xs = [.str z] ∧ z.length ≤ sizeLine ∧ ∀ l, H l = none → Q (.ref l) (upd H l (.lst (z.cps.toList.map fun c => V.str ⟨#[c]⟩)))) (tCons te tNil)) (wCB (aCons we aNil) kListS) (eListS fe) :=
  ⟨d_callTy (c_listS hc) hm boot_list (a_cons h.d a_nil he) hg (by decide) (by decide) he hpl, fun b R0 ps env cenv R φ ψ Φ Ψ r z x q =>
  h.t b R0 ps env cenv R _ ψ _ Ψ r z x fun d env1 R1 r1 z1 => by
    split at z1
    · exact ⟨z1.1, fun p => q _ p env1 R1 r1 z1.2⟩
    · exact False.elim z1⟩
/-- join -/
def gJoin : G2 := fun x y φ => match x, y with
  | .str a, .lst ds => (match strsD ds with | some ys => (ys.map (·.length)).sum + ys.length * a.length ≤ 16777216 ∧ φ (.str (Txt.join a ys)) | none => False)
  | .str a, .tup ds => (match strsD ds with | some ys => (ys.map (·.length)).sum + ys.length * a.length ≤ 16777216 ∧ φ (.str (Txt.join a ys)) | none => False)
  | _, _ => False
def eJoin (fo fe : FnE D) : FnE D := fun env φ ψ => fo env (fun x env1 => (match x with | .str _ => True | _ => False) ∧ fe env1 (fun y env2 => gJoin x y fun d => φ d env2) ψ) ψ
theorem d_joinK (K : PySem.W.Frag) (ho : DE X W o to wo) (he : DE X W e te we) (hk : X.K = K) (hs : starEach [e] X.env = [(false, eval e X.env)] := by rfl) (hbase : attributeBase o "join" X.env (eval o X.env) = eval o X.env := by rfl) (hline : (apos.endLine == pos.line) = true := by rfl) :
    DE X W (.Call (.Attribute o "join" apos) [e] [] pos) (tM1 (fun x xs H Q => ∃ a p, ∃ ys : List Str, x = .str a ∧ xs = [.ref p] ∧ (SqL K H p (ys.map V.str) ∨ SqT K H p (ys.map V.str)) ∧ (ys.map (·.length)).sum + ys.length * a.length ≤ 16777216 ∧ Q (.str (Txt.join a ys)) H) to te) (wJoin wo we) := by
  subst hk; exact d_join ho he hs hbase hline
theorem f_join (K : PySem.W.Frag) (ho : FE X W o to wo fo) (he : FR X W e te we fe) (hk : X.K = K := by rfl) (hs : starEach [e] X.env = [(false, eval e X.env)] := by rfl) (hbase : attributeBase o "join" X.env (eval o X.env) = eval o X.env := by rfl) (hline : (apos.endLine == pos.line) = true := by rfl) :
    FE X W (.Call (.Attribute o "join" apos) [e] [] pos) (tM1 (fun x xs H Q => ∃ a p, ∃ ys : List Str, x = .str a ∧ xs = [.ref p] ∧ (SqL K H p (ys.map V.str) ∨ SqT K H p (ys.map V.str)) ∧ (ys.map (·.length)).sum + ys.length * a.length ≤ 16777216 ∧ Q (.str (Txt.join a ys)) H) to te) (wJoin wo we) (eJoin fo fe) :=
  ⟨d_joinK K ho.d he.d hk hs hbase hline, fun b R0 ps env cenv R φ ψ Φ Ψ r z x q =>
  ho.t b R0 ps env cenv R _ ψ _ Ψ r z x fun d1 env1 R1 r1 z1 => by
    obtain ⟨z0, z1⟩ := z1
    cases d1 with
    | str a =>
      show we cenv R1 _ Ψ
      refine he.t b R0 ps env1 cenv R1 _ ψ _ Ψ r1 z1 x fun d2 o2 env2 R2 r2 rd z2 => ?_
      rcases rd with rfl | ⟨p, ds, rfl, rfl, m⟩
      · unfold gJoin at z2
        split at z2
        · rename_i a2 ds e
          cases e
          split at z2
          · rename_i ys e2; exact ⟨ys, strsD_ok e2, z2.1, q _ env2 R2 r2 z2.2⟩
          · exact False.elim z2
        · rename_i a2 ds e
          cases e
          split at z2
          · rename_i ys e2; exact ⟨ys, strsD_ok e2, z2.1, q _ env2 R2 r2 z2.2⟩
          · exact False.elim z2
        · exact False.elim z2
      · have z3 : (match strsD ds with | some ys => (ys.map (·.length)).sum + ys.length * a.length ≤ 16777216 ∧ φ (.str (Txt.join a ys)) env2 | none => False) := z2
        split at z3
        · rename_i ys e2
          have e3 := strsD_ok e2
          subst e3
          exact ⟨ys, m, z3.1, q _ env2 R2 r2 z3.2⟩
        · exact False.elim z3
    | _ => exact False.elim z0⟩
def gIsi (c : D) (f : Ki → Option Bool) : G1 := fun ds φ => match ds with
  | [d, c'] => c' = c ∧ (match kiOf d with | some k => (match f k with | some v => φ (.bl v) | none => False) | none => False)
  | _ => False
theorem p_isi {c : D} {f : Ki → Option Bool} (I : Isi K c f) (hk : X.K = K := by rfl) : CB X (.builtin "isinstance") (rIsi K) (kIsi c f) (gIsi c f) := ⟨b_isi I hk, fun ds R φ Φ z q => by
  unfold gIsi at z
  split at z
  · rename_i d c'
    obtain ⟨hc, z⟩ := z
    split at z
    · rename_i k e1
      split at z
      · rename_i v e2; exact ⟨hc, k, v, e1, e2, q _ z⟩
      · exact False.elim z
    · exact False.elim z
  · exact False.elim z⟩
end
end Tl
namespace Tl
open PySem PySem.Spec PyProof.Rows L2
section
variable {X : Cx} {W : WX} {K : PySem.W.Frag} {e o a b c : Expr} {te ta tb to : TE} {we wa wb wo : WE} {p pos apos cpos : Pos} {fo fa fb fe : FnE D} {st : Stmt} {sts : List Stmt} {ws vs : WS} {z y : TS} {f g : FnS} {t : TT} {wt : WT} {ft : FnE Bool}
def hNext : FnS := fun env P _ => P.nx env
def hSeq (f g : FnS) : FnS := fun env P ψ => f env { P with nx := fun env' => g env' P ψ } ψ
theorem fs_nil : FSs X W [] tNext sNext hNext := ⟨ss_nil, fun b R0 ps env cenv R P ψ P' Ψ r z x k => k.nx ps env cenv R r z⟩
theorem fs_cons (h : FS' X W st z ws f) (k : FSs X W sts y vs g) : FSs X W (st :: sts) (tSeq z y) (sSeq ws vs) (hSeq f g) := ⟨ss_cons h.d k.d, fun b R0 ps env cenv R P ψ P' Ψ r z x q =>
  h.t b R0 ps env cenv R _ ψ _ Ψ r z x ⟨fun ps' env' cenv' R' r' z' => k.t b R0 ps' env' cenv' R' P ψ P' Ψ r' z' x q, q.rt, q.bk, q.ct, q.ro⟩⟩
theorem fs_one (h : FS' X W st z ws f) : FSs X W [st] z ws f := ⟨ss_one h.d, h.t⟩
def hNever : FnS := fun _ _ _ => False
def hDrop (f : FnE D) : FnS := fun env P ψ => f env (fun _ env' => P.nx env') ψ
theorem fs_expr (h : FE X W e te we fe) (hs : swapsWith e none pos.line X.env = pure false := by rfl) : FS' X W (.Expr e pos) (tDrop te) (sDrop we) (hDrop fe) := ⟨s_expr h.d hs, fun b R0 ps env cenv R P ψ P' Ψ r z x k =>
  h.t b R0 ps env cenv R _ ψ _ Ψ r z (x.at_ ps cenv) fun d env' R' r' z' => k.nx ps env' cenv R' r' z'⟩
def hRet (f : FnE D) : FnS := fun env P ψ => f env (fun d env' => P.rt d env') ψ
theorem fs_ret (h : FE X W e te we fe) : FS' X W (.Return (some e) pos) (tRet te) (sRet we) (hRet fe) := ⟨s_ret h.d, fun b R0 ps env cenv R P ψ P' Ψ r z x k =>
  h.t b R0 ps env cenv R _ ψ _ Ψ r z (x.at_ ps cenv) fun d env' R' r' z' => k.rt ps env' cenv d R' r' z'⟩
def hIf (t : FnE Bool) (f g : FnS) : FnS := fun env P ψ => t env (fun k env' => if k = true then f env' P ψ else g env' P ψ) ψ
theorem fs_if {l m : List Stmt} (h : FT X W c t wt ft) (ha : FSs X W l z ws f) (hb : FSs X W m y vs g) : FS' X W (.If c l m pos) (tIfS t z y) (sIf wt ws vs) (hIf ft f g) := ⟨s_if h.d ha.d hb.d, fun b R0 ps env cenv R P ψ P' Ψ r z x k =>
  h.t b R0 ps env cenv R _ ψ _ Ψ r z (x.at_ ps cenv) fun d env' R' r' z' => by
    cases d with
    | true => exact ha.t b R0 ps env' cenv R' P ψ P' Ψ r' z' x k
    | false => exact hb.t b R0 ps env' cenv R' P ψ P' Ψ r' z' x k⟩
def hSet (i : Nat) (f : FnE D) : FnS := fun env P ψ => f env (fun d env' => P.nx (env'.set i (.val d))) ψ
theorem fs_set {i : Nat} {x : Str} {pos' : Pos} (hN : X.N.Nodup) (h : FE X W e te we fe) (hi : X.N[i]? = some x := by rfl) (hx : Loc X.env.scope x := by first | exact Or.inl rfl | exact Or.inr rfl) (hf : X.fn x = true ∨ X.env.scope.names.lookup x = some .local := by first | exact .inl rfl | exact .inr rfl | assumption)
    (hs : swapsWith e (some (.Name x pos')) pos.line X.env = pure false := by rfl) : FS' X W (.Assign [.Name x pos'] e pos) (tAsg te (gName i)) (sSet i we) (hSet i fe) := ⟨s_set hN h.d hi hx hs hf, fun b R0 ps env cenv R P ψ P' Ψ r z x k =>
  h.t b R0 ps env cenv R _ ψ _ Ψ r z (x.at_ ps cenv) fun d env' R' r' z' => k.nx ps _ _ R' (r'.setV i d) z'⟩
end
end Tl
namespace Tl
open PySem PySem.Spec PyProof.Rows L2
section
variable {X : Cx} {W : WX} {K : PySem.W.Frag} {e o a b c : Expr} {te ta tb to : TE} {we wa wb wo : WE} {p pos apos cpos : Pos} {fo fa fb fe : FnE D} {st : Stmt} {sts : List Stmt} {ws vs : WS} {z y : TS} {f g : FnS} {t : TT} {wt : WT} {ft : FnE Bool}
def hSetO (i : Nat) (f : FnE (List D)) : FnS := fun env P ψ => f env (fun ds env' => P.nx (env'.set i (.own ds))) ψ
theorem fs_setO {i : Nat} {x : Str} {pos' : Pos} {fl : FnE (List D)} (hN : X.N.Nodup) (h : FO X W e te we fl) (hi : X.N[i]? = some x := by rfl) (hx : Loc X.env.scope x := by first | exact Or.inl rfl | exact Or.inr rfl) (hf : X.fn x = true ∨ X.env.scope.names.lookup x = some .local := by first | exact .inl rfl | exact .inr rfl | assumption)
    (hs : swapsWith e (some (.Name x pos')) pos.line X.env = pure false := by rfl) : FS' X W (.Assign [.Name x pos'] e pos) (tAsg te (gName i)) (sSet i we) (hSetO i fl) := ⟨s_set hN h.d hi hx hs hf, fun b R0 ps env cenv R P ψ P' Ψ r z x k =>
  h.t b R0 ps env cenv R _ ψ _ Ψ r z (x.at_ ps cenv) fun ds p env' R' r' z' => by
    obtain ⟨ps', r2⟩ := r'.setO i p ds
    exact k.nx ps' _ _ _ r2 z'⟩
/-- the list of a slot is settled, ahead of the statements -/
def hSettle (i : Nat) (f : FnS) : FnS := fun env P ψ => match (env[i]? : Option A) with
  | some (.own ds) => f (env.set i (.val (.lst ds))) P ψ
  | some (.val _) => f env P ψ
  | _ => False
def sSettleE (i : Nat) (w : WS) : WS := fun env R P Ψ => (∃ k, sSettle i k w env R P Ψ) ∨ w env R P Ψ
theorem ss_settleE (i : Nat) (h : DSs X W sts z ws) : DSs X W sts z (sSettleE i ws) := ⟨h.p, fun B env R P Ψ acc w => by
  rcases w with ⟨k, w⟩ | w
  · exact (ss_settle i k h).v B env R P Ψ acc w
  · exact h.v B env R P Ψ acc w⟩
theorem fs_settle (i : Nat) (h : FSs X W sts z ws f) : FSs X W sts z (sSettleE i ws) (hSettle i f) := ⟨ss_settleE i h.d, fun b R0 ps env cenv R P ψ P' Ψ r z x k => by
  unfold hSettle at z
  split at z
  · rename_i ds e
    obtain ⟨n, g⟩ := r.at_ e
    refine .inl ⟨n, ?_⟩
    unfold sSettle
    rw [r.get e]
    exact ⟨ds, g, h.t b R0 ps _ _ _ P ψ P' Ψ (r.settle e g) z x k⟩
  · exact .inr (h.t b R0 ps env cenv R P ψ P' Ψ r z x k)
  · exact False.elim z⟩
/-- x.append(e) -/
def hApp (i : Nat) (f : FnE D) : FnS := fun env P ψ => isOwn env i ∧ f env (fun d env' => match (env'[i]? : Option A) with
  | some (.own ds) => ds.length < 1000000 ∧ P.nx (env'.set i (.own (ds ++ [d])))
  | _ => False) ψ
def wAppE (wo : WE) (va : WA) : WE := fun env R Φ Ψ => wo env R (fun x R1 => ownL x R1 (va env R1 (fun os R2 => ∃ k, kAppend k x os R2 Φ) Ψ)) Ψ
theorem d_appE {ts : TA} {va : WA} (ho : DE X W o to wo) (ha : DA X W [e] ts va) (hbase : attributeBase o "append" X.env (eval o X.env) = eval o X.env := by rfl)
    (hfew : ((backTo cpos (starEach [e] X.env)).all (fun x => !x.1) && (backToKw cpos (keywordEach [] X.env)).all (fun x => x.1.isSome) && decide (([e] : List Expr).length + ([] : List Keyword).length + (if ([] : List Keyword).isEmpty then 0 else 1) < 30)) = true := by rfl)
    (hline : (apos.endLine == cpos.line) = true := by rfl) (hs : starEach [e] X.env = (false, eval e X.env) :: starEach [] X.env := by rfl) (hplain : (backTo cpos (starEach [] X.env)).any (·.1) = false := by rfl) :
    DE X W (.Call (.Attribute o "append" apos) [e] [] cpos) (tBM X.K "list" rAppend to ts) (wAppE wo va) :=
  ⟨(d_append 0 ho ha hbase hfew hline hs hplain).p, fun B env R Φ Ψ acc w => bm_ev (kk := fun x os R Φ => ∃ k, kAppend k x os R Φ) (fun B env R σ F H x os v vs Φ Q s ex eos kk q => by
    obtain ⟨k, kk⟩ := kk
    unfold kAppend at kk
    split at kk
    · rename_i p d
      obtain ⟨ds, g, ln, φ⟩ := kk
      obtain ⟨u, rfl, eu⟩ := ens1 eos
      obtain ⟨ws, hp, rl⟩ := s.own g
      refine ⟨p, ws, u, en_adr ex, rfl, hp, by rw [rl.len]; exact Nat.lt_of_lt_of_le ln (by decide), ?_⟩
      exact q _ _ _ F _ φ (s.mutL g (rl.app (repL_cons (en_val eu) repL_nil))) Ex.rfl (enVal rep_non)
    · exact False.elim kk) ho.v ha.v B env R Φ Ψ acc w⟩
theorem fs_app (i : Nat) {x : Str} {q : Pos} (ha : FE X W e te we fe) (hN : X.N[i]? = some x := by rfl) (hv : Vis X.env.scope x := by first | exact Or.inl rfl | exact Or.inr (Or.inl rfl) | exact Or.inr (Or.inr rfl)) (hd : (x == ("__debug__" : Str)) = false := by decide)
    (hcd : (x == ("__classdict__" : Str)) = false := by decide) (hbase : attributeBase (.Name x q) "append" X.env (eval (.Name x q) X.env) = eval (.Name x q) X.env := by rfl)
    (hfew : ((backTo cpos (starEach [e] X.env)).all (fun x => !x.1) && (backToKw cpos (keywordEach [] X.env)).all (fun x => x.1.isSome) && decide (([e] : List Expr).length + ([] : List Keyword).length + (if ([] : List Keyword).isEmpty then 0 else 1) < 30)) = true := by rfl)
    (hline : (apos.endLine == cpos.line) = true := by rfl) (hs : starEach [e] X.env = (false, eval e X.env) :: starEach [] X.env := by rfl) (hplain : (backTo cpos (starEach [] X.env)).any (·.1) = false := by rfl)
    (hsw : swapsWith (.Call (.Attribute (.Name x q) "append" apos) [e] [] cpos) none pos.line X.env = pure false := by rfl) :
    FS' X W (.Expr (.Call (.Attribute (.Name x q) "append" apos) [e] [] cpos) pos) (tDrop (tBM X.K "list" rAppend (tVar i) (tCons te tNil))) (sDrop (wAppE (wVar i) (aCons we aNil))) (hApp i fe) :=
  ⟨s_expr (d_appE (dv i hN hv hd hcd) (a_cons ha.d a_nil hs) hbase hfew hline hs hplain) hsw, fun b R0 ps env cenv R P ψ P' Ψ r z x k => by
    obtain ⟨z0, z⟩ := z
    unfold isOwn at z0
    split at z0
    · rename_i ds e
      unfold sDrop wAppE wVar
      rw [r.get e]
      refine ⟨⟨ds, r.own e⟩, ha.t b R0 ps env cenv R _ ψ _ Ψ r z (x.at_ ps cenv) fun d env' R' r' z' => ?_⟩
      split at z'
      · rename_i ds2 e2
        obtain ⟨n, g⟩ := r'.at_ e2
        exact ⟨n, ds2, g, z'.1, k.nx ps _ cenv _ (r'.mut e2 g) z'.2⟩
      · exact False.elim z'
    · exact False.elim z0⟩
def tgSet (i : Nat) : D → List A → (List A → Prop) → Prop := fun d env k => k (env.set i (.val d))
theorem fg_name {i : Nat} {x : Str} (hN : X.N.Nodup) (hi : X.N[i]? = some x := by rfl) (hx : Loc X.env.scope x := by first | exact Or.inl rfl | exact Or.inr rfl) (hf : X.fn x = true ∨ X.env.scope.names.lookup x = some .local := by first | exact .inl rfl | exact .inr rfl | assumption) : FG X (.Name x pos) (gName i) (gSet i) (tgSet i) :=
  ⟨g_name hN hi hx hf, fun b R0 ps env cenv R d k k' r z q => q _ _ R (r.setV i d) z⟩
structure FGs (X : Cx) (ts : List Expr) (n : Nat) (g : TGs) (w : List D → List En → List Res → (List En → List Res → Prop) → Prop) (f : List D → List A → (List A → Prop) → Prop) : Prop where
  d : DGs X ts g w
  t : ∀ b R0 ps env cenv R ds (k : List A → Prop) (k' : List En → List Res → Prop), Rel b R0 ps env cenv R → f ds env k → (∀ env' cenv' R', Rel b R0 ps env' cenv' R' → k env' → k' cenv' R') → ds.length = n ∧ w ds cenv R k'
def tgNil : List D → List A → (List A → Prop) → Prop := fun ds env k => ds = [] ∧ k env
def tgCons (f : D → List A → (List A → Prop) → Prop) (g : List D → List A → (List A → Prop) → Prop) : List D → List A → (List A → Prop) → Prop := fun ds env k => match ds with
  | d :: r => f d env fun env' => g r env' k
  | [] => False
variable {es : List Expr} {tg1 : TG} {wg1 : WG} {gs : TGs} {wgs : List D → List En → List Res → (List En → List Res → Prop) → Prop} {f1 : D → List A → (List A → Prop) → Prop} {f2 : List D → List A → (List A → Prop) → Prop} {n : Nat}
theorem fgs_nil : FGs X [] 0 gNil gsNil tgNil := ⟨gs_nil, fun b R0 ps env cenv R ds k k' r z q => by
  obtain ⟨rfl, z⟩ := z
  exact ⟨rfl, rfl, q env cenv R r z⟩⟩
theorem fgs_one {i : Nat} {x : Str} {pp : Pos} (hN : X.N.Nodup) (h2 : FGs X es n gs wgs f2) (hi : X.N[i]? = some x := by rfl) (hx : Loc X.env.scope x := by first | exact Or.inl rfl | exact Or.inr rfl) (hf : X.fn x = true ∨ X.env.scope.names.lookup x = some .local := by first | exact .inl rfl | exact .inr rfl | assumption)
    (hs : (assignEach (.Name x pp :: es) X.env).map (·.2) = assign (.Name x pp) X.env :: (assignEach es X.env).map (·.2) := by rfl) : FGs X (.Name x pp :: es) (n + 1) (gCons (gName i) gs) (gsCons (gSet i) wgs) (tgCons (tgSet i) f2) := ⟨gs_cons (g_name hN hi hx hf) h2.d hs, fun b R0 ps env cenv R ds k k' r z q => by
  cases ds with
  | nil => exact False.elim z
  | cons d ds =>
    obtain ⟨l, w⟩ := h2.t b R0 ps _ _ R ds k k' (r.setV i d) z q
    exact ⟨by rw [List.length_cons, l], w⟩⟩
def tgTup (f : List D → List A → (List A → Prop) → Prop) : D → List A → (List A → Prop) → Prop := fun d env k => match d with
  | .tup ds => f ds env k
  | _ => False
theorem fg_tup {k : Nat} (hc : X.calm = true) (h : FGs X es n gs wgs f2) (hn : (assignEach es X.env).length = n := by rfl) (hst : (assignEach es X.env).findIdx? (·.1) = none := by rfl) : FG X (.Tuple es k pos) (gTup X.K n gs) (gsTup n wgs) (tgTup f2) := ⟨g_tup hc h.d hn hst, fun b R0 ps env cenv R d k k' r z q => by
  cases d with
  | tup ds => exact h.t b R0 ps env cenv R ds k k' r z q
  | _ => exact False.elim z⟩
def hAsg (f : FnE D) (g : D → List A → (List A → Prop) → Prop) : FnS := fun env P ψ => f env (fun d env' => g d env' P.nx) ψ
theorem fs_asg {tg : Expr} (h : FE X W e te we fe) (hg : FG X tg tg1 wg1 f1) (hs : swapsWithSole [tg] e pos.line X.env = pure false := by rfl) (hw : swappedStores [tg] e X.env = pure none := by rfl) (h1 : (assignEach [tg] X.env).map (·.2) = [assign tg X.env] := by rfl) : FS' X W (.Assign [tg] e pos) (tAsg te tg1) (sAsg we wg1) (hAsg fe f1) :=
  ⟨s_asg h.d hg.d hs hw h1, fun b R0 ps env cenv R P ψ P' Ψ r z x k => h.t b R0 ps env cenv R _ ψ _ Ψ r z (x.at_ ps cenv) fun d env' R' r' z' => hg.t b R0 ps env' cenv R' d P.nx _ r' z' fun env2 cenv2 R2 r2 z2 => k.nx ps env2 cenv2 R2 r2 z2⟩
variable {tg : Expr} {wi : TI} {w : WI} {fi : FnE (List D)}
def itAny (d : D) (k : List D → Prop) : Prop := match d with
  | .lst ds => k ds
  | .tup ds => k ds
  | .str z => k (signs z)
  | _ => False
def eIt (fe : FnE D) : FnE (List D) := fun env φ ψ => fe env (fun d env' => itAny d fun ds => φ ds env') ψ
def iAny (K : PySem.W.Frag) (te : TE) : TI := fun σ H R => te σ H fun v H1 => (∃ a, v = .ref a ∧ (∃ xs, SqL K H1 a xs) ∧ R (Itl K a) H1) ∨ (∃ a, v = .ref a ∧ (∃ xs, SqT K H1 a xs) ∧ R (Itt K a) H1) ∨ ∃ x, v = .str x ∧ R (Its x) H1
def iAn (we : WE) : WI := fun env R Φ Ψ => we env R (fun o R1 => match o with | .val d => itAny d fun ds => Φ ds R1 | _ => False) Ψ
theorem i_any (K : PySem.W.Frag) (h : DE X W e te we) (hk : X.K = K := by rfl) : DI X W tg e (iAny K te) (iAn we) := by
  subst hk
  refine ⟨⟨fun pins s σ H R I hh => ?_⟩, fun B env R Φ Ψ acc w σ F H s Rj q => h.v B env R _ Ψ acc w σ F H s _ fun o R1 v F1 H1 φ s1 x1 eo => ?_⟩
  · refine thn (h.p.run pins s σ H _ I hh) fun v s1 ⟨x, H1, I1, r1, q1⟩ => ?_
    rcases q1 with ⟨a, e, ⟨xs, hq⟩, q⟩ | ⟨a, e, ⟨xs, hq⟩, q⟩ | ⟨x, ex, q⟩
    · subst e
      cases r1
      obtain ⟨its, rv, p, hz⟩ := I1.list hq
      refine wpAny_pyIter_list p.isList ?_
      refine ⟨s1.heap.objs.size, [s1.heap.objs.size], _, _, H1, rfl, I1.kept (t' := s1.toks) fun b o e => Heap.get?_push_of_some _ e, turn_list a _, ⟨_, Heap.get?_push_size _ rfl, rfl, rfl⟩, fun b hb => ?_, q⟩
      have e : b = s1.heap.objs.size := by simpa using hb
      subst e
      exact I1.fpOk (Nat.le_refl _) (I1.hok.fresh (Nat.le_refl _))
    · subst e
      cases r1
      obtain ⟨its, rv, p, hz⟩ := I1.tuple hq
      refine wpAny_pyIter_tuple (show s1.heap.IsTuple a its.toArray from p) ?_
      refine ⟨s1.heap.objs.size, [s1.heap.objs.size], _, _, H1, rfl, I1.kept (t' := s1.toks) fun b o e => Heap.get?_push_of_some _ e, turn_tuple a _, ⟨_, Heap.get?_push_size _ rfl, rfl, rfl⟩, fun b hb => ?_, q⟩
      have e : b = s1.heap.objs.size := by simpa using hb
      subst e
      exact I1.fpOk (Nat.le_refl _) (I1.hok.fresh (Nat.le_refl _))
    · subst ex
      obtain ⟨t, rfl⟩ := r1
      cases ha : x.cps.all (· < 128)
      · exact wpAny_pyIter_wide ha (pi_one (tk := s1.toks) I1 _ (turn_str _ x t "str_iterator" (.inr rfl)) ⟨_, Heap.get?_push_size _ rfl, rfl, rfl⟩ q)
      · exact wpAny_pyIter_ascii ha (pi_one (tk := s1.toks) I1 _ (turn_str _ x t "str_ascii_iterator" (.inl rfl)) ⟨_, Heap.get?_push_size _ rfl, rfl, rfl⟩ q)
  · cases o with
    | no => exact False.elim φ
    | adr p => exact False.elim φ
    | val d =>
      cases d with
      | lst ds =>
        obtain ⟨p, ws, rfl, fa, rl⟩ := of_lst (en_val eo)
        exact .inl ⟨p, rfl, ⟨ws, SqL.of (s1.fin.fh _ _ fa)⟩, q ds R1 F1 H1 _ φ s1 x1 (walkD_list fa rl)⟩
      | tup ds =>
        obtain ⟨p, ws, rfl, fa, rl⟩ := of_tup (en_val eo)
        exact .inr (.inl ⟨p, rfl, ⟨ws, SqT.of (s1.fin.fh _ _ fa)⟩, q ds R1 F1 H1 _ φ s1 x1 (walkD_tup fa rl)⟩)
      | str z =>
        rw [of_str (en_val eo)]
        exact .inr (.inr ⟨z, rfl, q _ R1 F1 H1 _ φ s1 x1 walkD_str⟩)
      | _ => exact False.elim φ
theorem fi_any (K : PySem.W.Frag) (h : FE X W e te we fe) (hk : X.K = K := by rfl) : FI X W tg e (iAny K te) (iAn we) (eIt fe) := ⟨i_any K h.d hk, fun b R0 ps env cenv R φ ψ Φ Ψ r z x q =>
  h.t b R0 ps env cenv R _ ψ _ Ψ r z x fun d env1 R1 r1 z1 => by
    cases d with
    | lst ds => exact q _ env1 R1 r1 z1
    | tup ds => exact q _ env1 R1 r1 z1
    | str ds => exact q _ env1 R1 r1 z1
    | _ => exact False.elim z1⟩
def eRg1 (f : FnE (List A)) : FnE (List D) := fun env φ ψ => f env (fun as env1 => match as with
  | [.val (.int n)] => (-(2 ^ 62) ≤ n ∧ n < 2 ^ 62) ∧ φ (Tl.intsFrom 0 n.toNat) env1
  | _ => False) ψ
def eRg2 (f : FnE (List A)) : FnE (List D) := fun env φ ψ => f env (fun as env1 => match as with
  | [.val (.int m), .val (.int n)] => (-(2 ^ 62) ≤ m ∧ m < 2 ^ 62 ∧ -(2 ^ 62) ≤ n ∧ n < 2 ^ 62) ∧ φ (Tl.intsFrom m (n - m).toNat) env1
  | _ => False) ψ
variable {ts : TA} {va : WA} {fs : FnE (List A)}
theorem fi_range1 (hm : X.mg "range" = none) (h : FA X W [a] n ts va fs) (hg : Gl X "range" := by rfl) (hs : starEach [a] X.env = [(false, eval a X.env)] := by rfl) : FI X W tg (.Call (.Name "range" p) [a] [] pos) (iRng1 ts) (iRg1 va) (eRg1 fs) := ⟨i_range1 hm h.d hg hs, fun b R0 ps env cenv R φ ψ Φ Ψ r z x q =>
  h.t b R0 ps env cenv R _ ψ _ Ψ r z x fun as env1 R1 r1 hl ha hb z1 => by
    split at z1
    · exact ⟨z1.1.1, z1.1.2, q _ env1 R1 r1 z1.2⟩
    · exact False.elim z1⟩
theorem fi_range2 (hm : X.mg "range" = none) (h : FA X W [a, b] n ts va fs) (hg : Gl X "range" := by rfl) (hs : starEach [a, b] X.env = [(false, eval a X.env), (false, eval b X.env)] := by rfl) (hs2 : starEach [b] X.env = [(false, eval b X.env)] := by rfl) : FI X W tg (.Call (.Name "range" p) [a, b] [] pos) (iRng2 ts) (iRg2 va) (eRg2 fs) := ⟨i_range2 hm h.d hg hs hs2, fun b R0 ps env cenv R φ ψ Φ Ψ r z x q =>
  h.t b R0 ps env cenv R _ ψ _ Ψ r z x fun as env1 R1 r1 hl ha hb z1 => by
    split at z1
    · exact ⟨z1.1, q _ env1 R1 r1 z1.2⟩
    · exact False.elim z1⟩
/-- one turn after the other -/
def forA (tgt : D → List A → (List A → Prop) → Prop) (body : FnS) : List D → FnS
  | [], env, P, _ => P.nx env
  | d :: ds, env, P, ψ => tgt d env fun env1 => body env1 { P with nx := fun env' => forA tgt body ds env' P ψ, ct := fun env' => forA tgt body ds env' P ψ, bk := P.nx } ψ
def hFor (fi : FnE (List D)) (tgt : D → List A → (List A → Prop) → Prop) (body : FnS) : FnS := fun env P ψ => fi env (fun items env' => forA tgt body items env' P ψ) ψ
theorem fs_for (tk : Tk X W) (hc : X.calm = true) (hi : FI X W tg e wi w fi) (hg : FG X tg tg1 wg1 f1) (hb : FSs X W sts z ws f) (hs : ∀ x, foldedSetIterable e X.env x = pure x := by intro _; rfl) : FS' X W (.For tg e sts [] pos) (tFor wi tg1 z) (sFor w wg1 ws) (hFor fi f1 f) :=
  ⟨s_for tk hc hi.d hg.d hb.d hs, fun b R0 ps env cenv R P ψ P' Ψ r z x k => hi.t b R0 ps env cenv R _ ψ _ Ψ r z (x.at_ ps cenv) fun items env1 R1 r1 z1 => by
    refine ⟨fun i ce R' => ∃ ps' env', Rel b R0 ps' env' ce R' ∧ forA f1 f (items.drop i) env' P ψ, ⟨ps, env1, r1, z1⟩, fun i d ce R' hd hI => ?_, fun ce R' hI => ?_⟩
    · obtain ⟨ps', env', r', z'⟩ := hI
      have e : items.drop i = d :: items.drop (i + 1) := by
        rw [List.drop_eq_getElem_cons (lt_of_get hd)]
        congr 1
        rw [List.getElem?_eq_getElem (lt_of_get hd)] at hd
        exact Option.some.inj hd
      rw [e] at z'
      refine hg.t b R0 ps' env' ce R' d _ _ r' z' fun env2 ce2 R2 r2 z2 => ?_
      exact hb.t b R0 ps' env2 ce2 R2 _ ψ _ Ψ r2 z2 x ⟨fun ps3 env3 ce3 R3 r3 z3 => ⟨ps3, env3, r3, z3⟩, k.rt, fun ps3 env3 ce3 R3 r3 z3 => k.nx ps3 env3 ce3 R3 r3 z3, fun ps3 env3 ce3 R3 r3 z3 => ⟨ps3, env3, r3, z3⟩, k.ro⟩
    · obtain ⟨ps', env', r', z'⟩ := hI
      rw [List.drop_length] at z'
      exact k.nx ps' env' ce R' r' z'⟩
def hRaise0 (c : Str) : FnS := fun env _ ψ => ψ (.plain c) env
theorem fs_raise0 {c : Str} {pos' : Pos} (hc : X.calm = true) (tk : Tk X W) (k : ExK K X.mg c) (hk : X.K = K := by rfl) (hg : Gl X c := by rfl) (hdb : (c == ("__debug__" : Str)) = false := by decide) :
    FS' X W (.Raise (some (.Call (.Name c p) [] [] pos)) none pos') (fun _ σ H => W (.ref (He.ga X.K c)) none σ H) (fun env R _ Ψ => Ψ (.plain c) env R) (hRaise0 c) := by
  subst hk
  exact ⟨s_raise0 hc tk k hg hdb, fun b R0 ps env cenv R P ψ P' Ψ r z x k => x _ ps env cenv R r z⟩
def hRaiseF (c f : Str) (fs : FnE (List A)) : FnS := fun env _ ψ => fs env (fun as env' => onV as fun ds => match ds with | [d] => ψ (.fld c f d) env' | _ => False) ψ
theorem fs_raiseF {c f : Str} {k : Nat} {pos' : Pos} {pr : Program} (hc : X.calm = true) (tk : Tk X W) (T : ExF pr K X.mg c f) (hr : Room k X.A) (ha : FA X W [a] n ts va fs) (hp : X.prog = pr := by rfl) (hk : X.K = K := by rfl) (hg : Gl X c := by rfl) (hdb : (c == ("__debug__" : Str)) = false := by decide)
    (he : starEach (a :: []) X.env = (false, eval a X.env) :: starEach [] X.env := by rfl) (hpl : (backTo pos (starEach [] X.env)).any (·.1) = false := by rfl) :
    FS' X W (.Raise (some (.Call (.Name c p) [a] [] pos)) none pos') (fun _ σ H => tMkF (He.ga X.K c) f ts σ H fun cls d H' => W cls d σ H') (sRaiseF c f va) (hRaiseF c f fs) := by
  subst hk
  subst hp
  refine ⟨s_raiseF hc tk T hr ha.d hg hdb he hpl, fun b R0 ps env cenv R P ψ P' Ψ r z x k => ?_⟩
  refine ha.t b R0 ps env cenv R _ ψ _ Ψ r z (x.at_ ps cenv) fun as env1 R1 r1 hl ha hb z1 => ?_
  obtain ⟨ds, e, z1⟩ := onV_ok z1
  rw [(valsA_ok (b := b) e).2.2]
  split at z1
  · exact x _ ps env1 cenv R1 r1 z1
  · exact False.elim z1
def hFld (cs : List Str) (f : Str) (i : Nat) (fv : FnE D) : FnS := fun env P ψ => fv env (fun d env' => match (env'[i]? : Option A) with
  | some (.ins q c ns ds) => c ∈ cs ∧ f ∉ ns ∧ ns.length < 100 ∧ P.nx (env'.set i (.ins q c (ns ++ [f]) (ds ++ [d])))
  | _ => False) ψ
def sFldE (cs : List Str) (f : Str) (wo wv : WE) : WS := fun env R P Ψ => wv env R (fun y R1 => wo env R1 (fun o R2 => ∃ k, match o, y with
  | .adr x, .val d => ∃ (dx : Addr) (c : Str) (ns : List Str) (ds : List D), R2[k]? = some (Res.ins x dx c ns ds) ∧ c ∈ cs ∧ f ∉ ns ∧ ns.length < 100 ∧ P.nx env (R2.set k (.ins x dx c (ns ++ [f]) (ds ++ [d])))
  | _, _ => False) Ψ) Ψ
end
end Tl
namespace Tl
open PySem PySem.Spec PyProof.Rows L2
section
variable {X : Cx} {W : WX} {K : PySem.W.Frag} {e o a b c : Expr} {te ta tb to : TE} {we wa wb wo : WE} {p pos apos cpos : Pos} {fo fa fb fe : FnE D}
theorem s_fldE {cs : List Str} {f : Str} {v : Expr} {tv : TE} {wv : WE} {pos' : Pos} (h : FldOk X.K cs f) (ho : DE X W o te wo) (hv : DE X W v tv wv) (hs : swapsWith v (some (.Attribute o f pos')) pos.line X.env = pure false := by rfl) : DS X W (.Assign [.Attribute o f pos'] v pos) (L2.sFld X.K te tv f) (sFldE cs f wo wv) :=
  ⟨ps_fld ho.p hv.p hs, fun B env R P Ψ acc w σ F H E s kk => hv.v B env R _ Ψ acc w σ F H s _ fun y R1 u F1 H1 φ s1 x1 ey => ho.v B env R1 _ Ψ acc φ σ F1 H1 s1 _ fun o R2 v F2 H2 φ2 s2 x2 eo => by
    obtain ⟨k, φ2⟩ := φ2
    cases o with
    | no => exact False.elim φ2
    | val d => exact False.elim φ2
    | adr x =>
      cases y with
      | no => exact False.elim φ2
      | adr p => exact False.elim φ2
      | val d =>
        obtain ⟨dx, c, ns, ds, g, hc, nf, ln, φ2⟩ := φ2
        obtain ⟨vs, hx, hdx, l, rl⟩ := s2.fin.rk.ok _ (List.mem_of_getElem? g)
        have ev : some v = some (V.ref x) := eo
        cases ev
        obtain ⟨u', eu, ru⟩ := ey
        cases eu
        obtain ⟨A, C, e1, _, e3⟩ := split_at g
        rw [e3] at φ2
        have ne : dx ≠ x := by
          intro z
          rw [z, hx] at hdx
          cases hdx
        refine ⟨x, _, dx, _, rfl, hx, (h.at_ c hc).1, (h.at_ c hc).2, ?_, ?_⟩
        · rw [List.length_zip, ← l, Nat.min_self]
          omega
        · rw [putF_new nf l]
          have f2 : Fin X.K F2 H2 R2 F2 (upd H2 x (.ins (He.ga X.K c) dx ((ns ++ [f]).zip (vs ++ [u])))) (A ++ .ins x dx c (ns ++ [f]) (ds ++ [d]) :: C) := by
            subst e1
            refine Fin.mut (r := .ins x dx c ns ds) (s := .ins x dx c (ns ++ [f]) (ds ++ [d])) s2.fin.fh s2.fin.rk rfl (fun a m => upd_ne fun z => m (by rw [z]; exact List.mem_cons_self)) (fun a m => ?_) ⟨vs ++ [u], upd_same, ?_, ?_, ?_⟩
            · rcases List.mem_cons.mp m with z | z
              · rw [z, upd_same]; exact fun q => nomatch q
              · rw [List.mem_singleton.mp z, upd_ne ne, hdx]; exact fun q => nomatch q
            · rw [upd_ne ne]; exact hdx
            · rw [List.length_append, List.length_append, l]; rfl
            · exact rl.app (repL_cons (Rep.up x2 _ _ ru) repL_nil)
          exact kk.nx env _ σ F2 _ φ2 (s2.go f2)⟩
theorem fs_fld {cs : List Str} {f : Str} {v : Expr} {tv : TE} {wv : WE} {fv : FnE D} {pos' : Pos} {x : Str} {q : Pos} (i : Nat) (h : FldOk K cs f) (hv : FE X W v tv wv fv) (hk : X.K = K := by rfl) (hN : X.N[i]? = some x := by rfl) (hvs : Vis X.env.scope x := by first | exact Or.inl rfl | exact Or.inr (Or.inl rfl) | exact Or.inr (Or.inr rfl)) (hd : (x == ("__debug__" : Str)) = false := by decide)
    (hcd : (x == ("__classdict__" : Str)) = false := by decide) (hs : swapsWith v (some (.Attribute (.Name x q) f pos')) pos.line X.env = pure false := by rfl) : FS' X W (.Assign [.Attribute (.Name x q) f pos'] v pos) (L2.sFld X.K (tVar i) tv f) (sFldE cs f (wVar i) wv) (hFld cs f i fv) := by
  subst hk
  refine ⟨s_fldE h (dv i hN hvs hd hcd) hv.d hs, fun b R0 ps env cenv R P ψ P' Ψ r z x k => ?_⟩
  refine hv.t b R0 ps env cenv R _ ψ _ Ψ r z (x.at_ ps cenv) fun d env1 R1 r1 z1 => ?_
  split at z1
  · rename_i q2 c ns ds e
    obtain ⟨z1, z2, z3, z4⟩ := z1
    unfold wVar
    rw [r1.get e]
    obtain ⟨n, g⟩ := List.getElem?_of_mem (r1.ownR e rfl)
    exact ⟨n, q2.2, c, ns, ds, g, z1, z2, z3, k.nx ps _ cenv _ (r1.mutR (a' := .ins q2 c (ns ++ [f]) (ds ++ [d])) e rfl rfl rfl (fun z => nomatch z) (fun z => nomatch z) g) z4⟩
  · exact False.elim z1
def wCl (we : WE) : WE := fun env R Φ Ψ => we env R (fun o R' => ∃ R2, SubR R2 R' ∧ Φ o R2) (fun er env' R' => ∃ R2, SubR R2 R' ∧ Ψ er env' R2)
theorem de_cl (h : DE X W e te we) : DE X W e te (wCl we) := ⟨h.p, fun B env R Φ Ψ acc w σ F H s Q q => h.v B env R _ _ (fun er env' R' σ' F' H' cls d z s' eo n => by
  obtain ⟨R2, su, z⟩ := z
  exact acc er env' R2 σ' F' H' cls d z (s'.sub su) eo fun dd e => ⟨fun m => (n dd e).1 (su.fps m), (n dd e).2⟩) w σ F H s Q fun o R1 v F1 H1 φ s1 x1 eo => by
  obtain ⟨R2, su, φ⟩ := φ
  exact q o R2 v F1 H1 φ (s1.sub su) x1 eo⟩
def wClT (wt : WT) : WT := fun env R Φ Ψ => wt env R (fun o R' => ∃ R2, SubR R2 R' ∧ Φ o R2) (fun er env' R' => ∃ R2, SubR R2 R' ∧ Ψ er env' R2)
variable {ifs : List Expr} {tt : TT} {wt : WT} {ft : FnE Bool}
theorem ts_cl (h : DTs X W ifs tt wt) : DTs X W ifs tt (wClT wt) := ⟨h.p, fun B env R Φ Ψ acc w σ F H s Q q => h.v B env R _ _ (fun er env' R' σ' F' H' cls d z s' eo n => by
  obtain ⟨R2, su, z⟩ := z
  exact acc er env' R2 σ' F' H' cls d z (s'.sub su) eo fun dd e => ⟨fun m => (n dd e).1 (su.fps m), (n dd e).2⟩) w σ F H s Q fun o R1 F1 H1 φ s1 x1 => by
  obtain ⟨R2, su, φ⟩ := φ
  exact q o R2 F1 H1 φ (s1.sub su) x1⟩
structure FTs (X : Cx) (W : WX) (es : List Expr) (tt : TT) (wt : WT) (f : FnE Bool) : Prop where
  d : DTs X W es tt wt
  t : DetT wt f
def bYes : FnE Bool := fun env φ _ => φ true env
theorem fts_nil : FTs X W [] tYes wYes bYes := ⟨ts_nil, fun b R0 ps env cenv R φ ψ Φ Ψ r z x q => q true env R r z⟩
theorem fts_one (h : FT X W c tt wt ft) : FTs X W [c] tt wt ft := ⟨ts_one h.d, h.t⟩
/-- the slots as a comprehension's block sees them -/
def A.hide : A → A
  | .val d => .val d
  | .bag => .bag
  | .own ds => .see ds
  | .dic ks ds => .seeD ks ds
  | .tre t => .seeT t
  | .seeT t => .seeT t
  | _ => .no
/-- in the inner block of two -/
def A.hide0 : A → A
  | .val d => .val d
  | .bag => .bag
  | _ => .no
def wipeA (env : List A) : List Nat → List A
  | [] => env
  | v :: vs => (wipeA env vs).set v .no
def blk0A (env : List A) (vs : List Nat) : List A := wipeA (env.map A.hide0) vs
def blkA (env : List A) (vs : List Nat) : List A := wipeA (env.map A.hide) vs
/-- what the block gives, item by item -/
def lcA (body : D → (Option D → Prop) → Prop) : List D → (List D → Prop) → Prop
  | [], φ => φ []
  | d :: ds, φ => body d fun o => lcA body ds fun l => φ (o.toList ++ l)
def X0A : XA := fun _ _ => False
def lcBody (tgt : D → List A → (List A → Prop) → Prop) (ft : FnE Bool) (fe : FnE D) (env : List A) : D → (Option D → Prop) → Prop := fun d k => tgt d env fun env1 => ft env1 (fun v env2 => if v = true then fe env2 (fun d _ => k (some d)) X0A else k none) X0A
def eLc (fi : FnE (List D)) (tgt : D → List A → (List A → Prop) → Prop) (ft : FnE Bool) (fe : FnE D) (vs : List Nat) : FnE (List D) := fun env φ ψ => fi env (fun items env1 => items.length < 1000000 ∧ lcA (lcBody tgt ft fe (blkA env1 vs)) items fun l => φ l env1) ψ
theorem ce_hide {b : Addr} {ps : Nat → A2} : ∀ {env : List A} {cenv : List En} {n : Nat}, CeOk b ps n env cenv → CeOk b ps n (env.map A.hide) cenv
  | [], [], _, _ => trivial
  | [], _ :: _, _, h => False.elim h
  | _ :: _, [], _, h => False.elim h
  | x :: r, y :: t, n, h => by
    refine ⟨?_, ce_hide h.2⟩
    cases x with
    | val d => exact h.1
    | bag => exact h.1
    | own ds => exact .inr (h.1.resolve_left fun z => nomatch z)
    | dic ks ds => exact .inr (h.1.resolve_left fun z => nomatch z)
    | tre t => exact .inr (h.1.resolve_left fun z => nomatch z)
    | seeT t => exact .inr (h.1.resolve_left fun z => nomatch z)
    | _ => exact .inl rfl
theorem ce_hide0 {b : Addr} {ps : Nat → A2} : ∀ {env : List A} {cenv : List En} {n : Nat}, CeOk b ps n env cenv → CeOk b ps n (env.map A.hide0) cenv
  | [], [], _, _ => trivial
  | [], _ :: _, _, h => False.elim h
  | _ :: _, [], _, h => False.elim h
  | x :: r, y :: t, n, h => by
    refine ⟨?_, ce_hide0 h.2⟩
    cases x with
    | val d => exact h.1
    | bag => exact h.1
    | _ => exact .inl rfl
theorem res_hide0 {ps : Nat → A2} : ∀ {env : List A} {n : Nat}, resAt ps n (env.map A.hide0) = []
  | [], _ => rfl
  | x :: r, n => by
    rw [List.map_cons, resAt, res_hide0]
    cases x <;> rfl
theorem bag_hide0 {env : List A} (m : A.bag ∈ env.map A.hide0) : A.bag ∈ env := by
  obtain ⟨a, h, e⟩ := List.mem_map.mp m
  cases a with
  | bag => exact h
  | _ => exact nomatch e
theorem sw_hide0 {env : List A} {ps : Nat → A2} {R0 : List Res} : ∀ (i : Nat) (a : A) (r : Res), (env.map A.hide0)[i]? = some a → a.shown (ps i) = some r → r ∈ R0 := fun i a r e s => by
  rw [List.getElem?_map] at e
  cases q : env[i]? with
  | none => rw [q] at e; cases e
  | some x =>
    rw [q] at e
    cases e
    cases x <;> cases s
theorem sw_hide {env : List A} {ps : Nat → A2} {R0 : List Res} (hs : ∀ (i : Nat) (a : A) (r : Res), env[i]? = some a → a.shown (ps i) = some r → r ∈ R0) : ∀ (i : Nat) (a : A) (r : Res), (env.map A.hide)[i]? = some a → a.shown (ps i) = some r → r ∈ resAt ps 0 env ++ R0 := fun i a r e s => by
  rw [List.getElem?_map] at e
  cases q : env[i]? with
  | none => rw [q] at e; cases e
  | some x =>
    have q0 := q
    rw [q] at e
    cases e
    have sp := res_split (ps := ps) env 0 i x q
    rw [Nat.zero_add] at sp
    cases x with
    | own ds =>
      cases s
      exact List.mem_append_left _ (sp.mem_iff.mpr (List.mem_append_left _ (List.mem_singleton.mpr rfl)))
    | dic ks ds =>
      cases s
      exact List.mem_append_left _ (sp.mem_iff.mpr (List.mem_append_left _ (List.mem_singleton.mpr rfl)))
    | tre t =>
      cases s
      exact List.mem_append_left _ (sp.mem_iff.mpr (List.mem_append_left _ (List.mem_singleton.mpr rfl)))
    | seeT t => exact List.mem_append_right _ (hs i _ r q0 s)
    | _ => cases s
theorem res_hide {ps : Nat → A2} : ∀ {env : List A} {n : Nat}, resAt ps n (env.map A.hide) = []
  | [], _ => rfl
  | x :: r, n => by
    rw [List.map_cons, resAt, res_hide]
    cases x <;> rfl
theorem bag_hide {env : List A} (m : A.bag ∈ env.map A.hide) : A.bag ∈ env := by
  obtain ⟨a, h, e⟩ := List.mem_map.mp m
  cases a with
  | bag => exact h
  | _ => exact nomatch e
theorem rel_wipe {b : Addr} {R0 : List Res} {ps : Nat → A2} {env : List A} {cenv : List En} {R : List Res} (h : Rel b R0 ps env cenv R) : ∀ vs : List Nat, Rel b R0 ps (wipeA env vs) (wipeE cenv vs) R
  | [] => h
  | v :: vs => (rel_wipe h vs).setN v
theorem rel_blk {b : Addr} {R0 : List Res} {ps : Nat → A2} {env : List A} {cenv : List En} {R : List Res} (h : Rel b R0 ps env cenv R) (vs : List Nat) (r : Res) : Rel b (r :: (resAt ps 0 env ++ R0)) ps (blkA env vs) (wipeE cenv vs) (r :: R) := by
  refine rel_wipe ⟨ce_hide h.ce, ?_, fun m => ?_, fun i a q e s => List.mem_cons_of_mem _ (sw_hide h.sw i a q e s)⟩ vs
  · rw [res_hide, List.nil_append]
    obtain ⟨G, q⟩ := h.rs
    exact ⟨G, (q.cons r).trans List.perm_middle.symm⟩
  · obtain ⟨l, hl⟩ := h.bg (bag_hide m)
    exact ⟨l, List.mem_cons_of_mem _ (List.mem_append_right _ hl)⟩
theorem rel_back {b : Addr} {R0 : List Res} {ps : Nat → A2} {env : List A} {cenv : List En} {R : List Res} (h : Rel b R0 ps env cenv R) : Rel b R0 ps env cenv (resAt ps 0 env ++ R0) := ⟨h.ce, SubR.refl _, h.bg, h.sw⟩
variable {elt tg iter : Expr} {scope : Scope} {wi : TI} {w : WI} {fi : FnE (List D)} {g : TG} {wg : WG} {f1 : D → List A → (List A → Prop) → Prop}
theorem det_lc {vs : List Nat} (hi : DetI w fi) (hg : DetG wg f1) (ht : DetT wt ft) (he : DetE we fe) : DetO (wLc w wg (wClT wt) (wCl we) vs) (eLc fi f1 ft fe vs) := fun b R0 ps env cenv R φ ψ Φ Ψ r z x q =>
  hi b R0 ps env cenv R _ ψ _ Ψ r z x fun items env1 R1 r1 z1 => by
    obtain ⟨len, z1⟩ := z1
    refine ⟨fun i acc R' => acc.length ≤ i ∧ Rel b R0 ps env1 cenv R' ∧ lcA (lcBody f1 ft fe (blkA env1 vs)) (items.drop i) fun l => φ (acc ++ l) env1, ⟨Nat.le_refl _, r1, z1⟩, fun i d acc R' p hd hI => ?_, fun acc R' p hI => ?_⟩
    · obtain ⟨hl, r', z'⟩ := hI
      have e : items.drop i = d :: items.drop (i + 1) := by
        rw [List.drop_eq_getElem_cons (lt_of_get hd)]
        congr 1
        rw [List.getElem?_eq_getElem (lt_of_get hd)] at hd
        exact Option.some.inj hd
      have hlt := lt_of_get hd
      rw [e] at z'
      refine hg b _ ps _ _ _ d _ _ (rel_blk r' vs (.lst p acc)) z' fun env2 ce2 R2 r2 z2 => ?_
      refine ht b _ ps env2 ce2 R2 _ X0A _ _ r2 z2 (fun er env' R' r z => False.elim z) fun v env3 R3 r3 z3 => ?_
      cases v with
      | true =>
        refine ⟨R3, SubR.refl _, ?_⟩
        show wCl we ce2 R3 _ _
        refine he b _ ps env3 ce2 R3 _ X0A _ _ r3 z3 (fun er env' R' r z => False.elim z) fun d4 env4 R4 r4 z4 => ?_
        refine ⟨_, r4.base, rfl, by omega, ?_, rel_back r', ?_⟩
        · rw [List.length_append, List.length_singleton]; omega
        · have z5 : lcA (lcBody f1 ft fe (blkA env1 vs)) (items.drop (i + 1)) fun l => φ (acc ++ ([d4] ++ l)) env1 := z4
          simp only [List.append_assoc] 
          exact z5
      | false =>
        refine ⟨_, r3.base, ?_⟩
        exact ⟨rfl, by omega, rel_back r', z3⟩
    · obtain ⟨hl, r', z'⟩ := hI
      rw [List.drop_length] at z'
      have z2 : φ (acc ++ []) env1 := z'
      rw [List.append_nil] at z2
      exact q acc p env1 R' r' z2
theorem f_lc (own : List (Str × Nat)) (hc : X.calm = true) (hN : X.N.Nodup) (gw : GW g (own.map (·.2))) (hi : FI X W tg iter wi w fi) (ok : BlkOk X.N X.env.scope scope own)
    (hg : ∀ (s : Shared) (H : Hp) (C : Addr) (cl : List (Str × Addr)) (fp : List Addr), FG (X.blk s H scope (compEnvC scope cl C X.env) fp) tg g wg f1) (ht : ∀ (s : Shared) (H : Hp) (C : Addr) (cl : List (Str × Addr)) (fp : List Addr), FTs (X.blk s H scope (compEnvC scope cl C X.env) fp) W0 ifs tt wt ft)
    (he : ∀ (s : Shared) (H : Hp) (C : Addr) (cl : List (Str × Addr)) (fp : List Addr), FE (X.blk s H scope (compEnvC scope cl C X.env) fp) W0 elt te we fe) (hs : ∀ x, foldedSetIterable iter X.env x = pure x := by intro _; rfl) :
    FO X W (.ListComp elt [⟨tg, iter, ifs, 0⟩] scope pos) (tLc wi g tt te (own.map (·.2))) (wLc w wg (wClT wt) (wCl we) (own.map (·.2))) (eLc fi f1 ft fe (own.map (·.2))) :=
  ⟨d_lc own hc hN gw hi.d ok (fun s H C cl fp => (hg s H C cl fp).d) (fun s H C cl fp => ts_cl (ht s H C cl fp).d) (fun s H C cl fp => de_cl (he s H C cl fp).d) hs,
    det_lc hi.t (hg X.s_0 X.H_0 0 [] []).t (ht X.s_0 X.H_0 0 [] []).t (he X.s_0 X.H_0 0 [] []).t⟩
end
end Tl
namespace Tl
open PySem PySem.Spec PyProof.Rows L2
section
variable {X : Cx} {W : WX} {K : PySem.W.Frag} {e o a b c : Expr} {te ta tb tc to : TE} {we wa wb wc wo : WE} {p pos apos cpos : Pos} {fo fa fb fc fe : FnE D}
def wNeg (we : WE) : WE := fun env R Φ Ψ => we env R (fun o R1 => match o with | .val (.int i) => Φ (.val (.int (-i))) R1 | _ => False) Ψ
theorem d_neg (h : DE X W a te we) : DE X W (.UnaryOp .USub a pos) (tUn (rU fun i => .int (-i)) te) (wNeg we) := ⟨pe_un un_neg h.p, fun B env R Φ Ψ acc w σ F H s Q q => h.v B env R _ Ψ acc w σ F H s _ fun o R1 v F1 H1 φ s1 x1 eo => by
  cases o with
  | no => exact False.elim φ
  | adr p => exact False.elim φ
  | val d =>
    cases d with
    | int i => exact ⟨i, of_int (en_val eo), q _ R1 _ F1 H1 φ s1 x1 (enVal (rep_int _))⟩
    | _ => exact False.elim φ⟩
def eNeg (fe : FnE D) : FnE D := fun env φ ψ => fe env (fun d env1 => match d with | .int i => φ (.int (-i)) env1 | _ => False) ψ
theorem f_neg (h : FE X W a te we fe) : FE X W (.UnaryOp .USub a pos) (tUn (rU fun i => .int (-i)) te) (wNeg we) (eNeg fe) := ⟨d_neg h.d, fun b R0 ps env cenv R φ ψ Φ Ψ r z x q => h.t b R0 ps env cenv R _ ψ _ Ψ r z x fun d env1 R1 r1 z1 => by
  cases d with
  | int i => exact q _ env1 R1 r1 z1
  | _ => exact False.elim z1⟩
def kInt2 (g : Int → Int → Int) : KC := fun os R Φ => match os with
  | [.val (.int i), .val (.int j)] => Φ (.val (.int (g i j))) R
  | _ => False
def gInt2 (g : Int → Int → Int) : G1 := fun ds φ => match ds with
  | [.int i, .int j] => φ (.int (g i j))
  | _ => False
theorem dc_int2 {f : Value} {g : Int → Int → Int} (h : CallR X f (fun xs H Q => ∃ i j, xs = [.int i, .int j] ∧ Q (.int (g i j)) H)) : CB X f (fun xs H Q => ∃ i j, xs = [.int i, .int j] ∧ Q (.int (g i j)) H) (kInt2 g) (gInt2 g) := ⟨⟨h, fun B env R σ F H os vs Φ Q s eo φ q => by
  unfold kInt2 at φ
  split at φ
  · rename_i i j
    rw [two_int eo]
    exact ⟨i, j, rfl, q _ R _ F H φ s Ex.rfl (enVal (rep_int _))⟩
  · exact False.elim φ⟩, fun ds R φ Φ z q => by
  unfold gInt2 at z
  split at z
  · exact q _ z
  · exact False.elim z⟩
abbrev gMax2 : G1 := gInt2 fun i j => if j > i then j else i
abbrev gMin2 : G1 := gInt2 fun i j => if j < i then j else i
theorem p_max2 (hc : X.calm = true) : CB X (.builtin "max") (fun xs H Q => ∃ i j, xs = [.int i, .int j] ∧ Q (.int (if j > i then j else i)) H) (kInt2 fun i j => if j > i then j else i) gMax2 := dc_int2 (call_max2 hc)
theorem p_min2 (hc : X.calm = true) : CB X (.builtin "min") (fun xs H Q => ∃ i j, xs = [.int i, .int j] ∧ Q (.int (if j < i then j else i)) H) (kInt2 fun i j => if j < i then j else i) gMin2 := dc_int2 (call_min2 hc)
def intsD : List D → Option (List Int)
  | [] => some []
  | .int i :: r => (intsD r).map (i :: ·)
  | _ :: _ => none
theorem intsD_ok : ∀ {ds : List D} {ns : List Int}, intsD ds = some ns → ds = ns.map D.int
  | [], _, h => by cases h; rfl
  | .int i :: r, ns, h => by
    have h2 : (intsD r).map (i :: ·) = some ns := h
    cases q : intsD r with
    | none => rw [q] at h2; cases h2
    | some l =>
      rw [q] at h2
      cases h2
      rw [intsD_ok q]
      rfl
  | .non :: _, _, h => nomatch h
  | .bl _ :: _, _, h => nomatch h
  | .str _ :: _, _, h => nomatch h
  | .tup _ :: _, _, h => nomatch h
  | .lst _ :: _, _, h => nomatch h
  | .obj _ _ _ :: _, _, h => nomatch h
  | .dct _ _ :: _, _, h => nomatch h
  | .glo _ :: _, _, h => nomatch h
  | .ty _ :: _, _, h => nomatch h
theorem intsD_map : ∀ ns : List Int, intsD (ns.map D.int) = some ns
  | [] => rfl
  | n :: ns => by
    show (intsD (ns.map D.int)).map (n :: ·) = _
    rw [intsD_map ns]; rfl
/-- of a list of ints, owned or settled -/
def kInts (C : List Int → Int → Prop) : KC := fun os R Φ => match os with
  | [o] => ∃ ns : List Int, LsAt R o (ns.map D.int) ∧ ns ≠ [] ∧ ∀ m, C ns m → Φ (.val (.int m)) R
  | _ => False
def kSum : KC := fun os R Φ => match os with
  | [o] => ∃ ns : List Int, LsAt R o (ns.map D.int) ∧ Φ (.val (.int ns.sum)) R
  | _ => False
theorem c_sum (K : PySem.W.Frag) (hc : X.calm = true) (hk : X.K = K) : DCall X (.builtin "sum") (rSum K) kSum := by
  subst hk
  exact ⟨cr_sum hc, fun B env R σ F H os vs Φ Q s eo φ q => by
    unfold kSum at φ
    split at φ
    · obtain ⟨ns, l, φ⟩ := φ
      obtain ⟨v, rfl, ev⟩ := ens1 eo
      obtain ⟨a, us, rfl, ha, rl⟩ := l.get s ev
      rw [of_repL_ints rl] at ha
      exact ⟨a, ns, rfl, SqL.of ha, q _ R _ F H φ s Ex.rfl (enVal (rep_int _))⟩
    · exact False.elim φ⟩
theorem ls_rd {R : List Res} {o : En} {ds : List D} (h : ReadsAs R o (.lst ds)) : LsAt R o ds := by
  rcases h with rfl | ⟨p, es, rfl, e, m⟩
  · rfl
  · cases e; exact m
def gSum : G1 := fun ds φ => match ds with
  | [.lst l] => (match intsD l with | some ns => φ (.int ns.sum) | none => False)
  | _ => False
theorem p_sum (K : PySem.W.Frag) (hc : X.calm = true) (hk : X.K = K := by rfl) : CBr X (.builtin "sum") (rSum K) kSum gSum := ⟨c_sum K hc hk, fun o d R φ Φ rd z q => by
  unfold gSum at z
  split at z
  · rename_i l e
    cases e
    split at z
    · rename_i ns e2
      have e3 := intsD_ok e2
      subst e3
      exact ⟨ns, ls_rd rd, q _ z⟩
    · exact False.elim z
  · exact False.elim z⟩
theorem c_max (K : PySem.W.Frag) (hc : X.calm = true) (hk : X.K = K) : DCall X (.builtin "max") (rMax K) (kInts fun ns m => m ∈ ns ∧ ∀ y ∈ ns, y ≤ m) := by
  subst hk
  exact ⟨cr_max hc, fun B env R σ F H os vs Φ Q s eo φ q => by
    unfold kInts at φ
    split at φ
    · obtain ⟨ns, l, ne, φ⟩ := φ
      obtain ⟨v, rfl, ev⟩ := ens1 eo
      obtain ⟨a, us, rfl, ha, rl⟩ := l.get s ev
      rw [of_repL_ints rl] at ha
      exact ⟨a, ns, rfl, SqL.of ha, List.length_pos_iff.mpr ne, fun m h1 h2 => q _ R _ F H (φ m ⟨h1, h2⟩) s Ex.rfl (enVal (rep_int _))⟩
    · exact False.elim φ⟩
def gInts (C : List Int → Int → Prop) : G1 := fun ds φ => match ds with
  | [.lst l] => (match intsD l with | some ns => ns ≠ [] ∧ ∀ m, C ns m → φ (.int m) | none => False)
  | _ => False
theorem detc_ints {C : List Int → Int → Prop} : DetCr (kInts C) (gInts C) := fun o d R φ Φ rd z q => by
  unfold gInts at z
  split at z
  · rename_i l e
    cases e
    split at z
    · rename_i ns e2
      have e3 := intsD_ok e2
      subst e3
      exact ⟨ns, ls_rd rd, z.1, fun m h => q _ (z.2 m h)⟩
    · exact False.elim z
  · exact False.elim z
abbrev gMax : G1 := gInts fun ns m => m ∈ ns ∧ ∀ y ∈ ns, y ≤ m
theorem p_max (K : PySem.W.Frag) (hc : X.calm = true) (hk : X.K = K := by rfl) : CBr X (.builtin "max") (rMax K) (kInts fun ns m => m ∈ ns ∧ ∀ y ∈ ns, y ≤ m) gMax := ⟨c_max K hc hk, detc_ints⟩
def kInL (neg : Bool) : KO := fun x y R Φ => match x with
  | .val d => ∃ ds, LsAt R y ds ∧ PlD d ∧ PlD (.lst ds) ∧ Φ (.val (.bl (if neg then !ds.any (fun z => eqD z d) else ds.any fun z => eqD z d))) R
  | _ => False
theorem dp_list {K : PySem.W.Frag} {F H : Hp} {a : Addr} {ds : List D} {vs : List V} (x : Ex F H) (hp : plainD (.lst ds) = true) (ha : H a = some (.lst vs)) (rl : RepL K F ds vs) : Dp K H (.ref a) (.list (pyOfL ds)) := by
  rw [plainD] at hp
  exact .lst (.inl (.inl ha)) (reps_dp x ds vs hp rl)
theorem any_pyOfL {d : D} : ∀ ds : List D, (pyOfL ds).any (fun z => PyData.eqv z (pyOf d)) = ds.any fun z => eqD z d
  | [] => rfl
  | y :: ds => by
    rw [pyOfL, List.any_cons, List.any_cons, any_pyOfL ds]
    rfl
theorem shaped_lst {ds : List D} (h : PlD (.lst ds)) : SeqAt.shaped (.list (pyOfL ds)) = true := by
  have e := h.shaped
  rw [pyOf] at e
  exact e
variable {j : Nat}
theorem o_inL (K : PySem.W.Frag) (hr : Room j X.A) (hk : X.K = K) : DOp X (compareOp .In) (rInD K) (kInL false) := by
  subst hk
  exact ⟨op_inD (by have := hr.un; omega), fun B env R σ F H x y v u Φ Q s ex ey k q => by
    unfold kInL at k
    split at k
    · rename_i d
      obtain ⟨ds, l, p1, p2, k⟩ := k
      obtain ⟨a, us, rfl, ha, rl⟩ := l.get s ey
      refine ⟨pyOf d, pyOfL ds, rep_dp s.fin.fh d v p1.1 (en_val ex), dp_list s.fin.fh p2.1 ha rl, p1.shaped, shaped_lst p2, ?_⟩
      rw [any_pyOfL]
      exact q _ R _ F H k s Ex.rfl (enVal (rep_bl _))
    · exact False.elim k⟩
theorem o_ninL (K : PySem.W.Frag) (hr : Room j X.A) (hk : X.K = K) : DOp X (compareOp .NotIn) (rNotInD K) (kInL true) := by
  subst hk
  exact ⟨op_notInD (by have := hr.un; omega), fun B env R σ F H x y v u Φ Q s ex ey k q => by
    unfold kInL at k
    split at k
    · rename_i d
      obtain ⟨ds, l, p1, p2, k⟩ := k
      obtain ⟨a, us, rfl, ha, rl⟩ := l.get s ey
      refine ⟨pyOf d, pyOfL ds, rep_dp s.fin.fh d v p1.1 (en_val ex), dp_list s.fin.fh p2.1 ha rl, p1.shaped, shaped_lst p2, ?_⟩
      rw [any_pyOfL]
      exact q _ R _ F H k s Ex.rfl (enVal (rep_bl _))
    · exact False.elim k⟩
def gInL (neg : Bool) : G2 := fun x y φ => match y with
  | .lst ds => PlD x ∧ PlD (.lst ds) ∧ φ (.bl (if neg then !ds.any (fun z => eqD z x) else ds.any fun z => eqD z x))
  | _ => False
theorem detkr_inL {neg : Bool} : DetKr (kInL neg) (gInL neg) := fun x y d R φ Φ rd z q => by
  unfold gInL at z
  split at z
  · exact ⟨_, ls_rd rd, z.1, z.2.1, q _ z.2.2⟩
  · exact False.elim z
theorem p_inL (K : PySem.W.Frag) (hr : Room j X.A) (hk : X.K = K := by rfl) : OCr X .In (rInD K) (kInL false) (gInL false) := ⟨o_inL K hr hk, detkr_inL⟩
theorem p_ninL (K : PySem.W.Frag) (hr : Room j X.A) (hk : X.K = K := by rfl) : OCr X .NotIn (rNotInD K) (kInL true) (gInL true) := ⟨o_ninL K hr hk, detkr_inL⟩
def isiOf (cs : List Str) (c : D) (k : Ki) : Option Bool := match c, k with
  | .ty T, .ty n => if n ∈ tyKeys then some (n == T || (n == "bool" && T == "int")) else none
  | .ty _, .ob n => if n ∈ cs then some false else none
  | .glo _, .ty n => if n ∈ tyKeys then some false else none
  | .glo C, .ob n => if n ∈ cs then some (n == C) else none
  | _, _ => none
def isC (cs : List Str) : D → Bool
  | .ty T => decide (T ∈ tyArgs)
  | .glo C => decide (C ∈ cs)
  | _ => false
theorem kit_keys : ∀ T ∈ tyArgs, ∀ n ∈ tyKeys, kitB n T = some (n == T || (n == "bool" && T == "int")) := by decide +kernel
theorem isi_ok {K : PySem.W.Frag} {cs : List Str} (h : isiB K cs = true) (c : D) (hc : isC cs c = true) : Isi K c (isiOf cs c) := by
  unfold isiB at h
  simp only [Bool.and_eq_true, List.all_eq_true, decide_eq_true_eq] at h
  obtain ⟨h1, h2, h3, h4⟩ := h
  refine ⟨fun n v e => ?_, fun k v e => ?_⟩
  · refine insB_ok (h1 n ?_)
    unfold isiOf at e
    split at e
    · rename_i heq; cases heq
    · rename_i heq
      cases heq
      split at e
      · assumption
      · cases e
    · rename_i heq; cases heq
    · rename_i heq
      cases heq
      split at e
      · assumption
      · cases e
    · cases e
  · unfold isiOf at e
    split at e
    · rename_i T n
      split at e
      · rename_i m
        refine ⟨_, _, rfl, ?_⟩
        cases e
        exact kit_ty (kit_keys T (of_decide_eq_true hc) n m)
      · cases e
    · rename_i T n
      split at e
      · rename_i m
        refine ⟨_, _, rfl, ?_⟩
        cases e
        exact h2 n m T (of_decide_eq_true hc)
      · cases e
    · rename_i C n
      split at e
      · rename_i m
        refine ⟨_, _, rfl, ?_⟩
        cases e
        exact h3 C (of_decide_eq_true hc) n m
      · cases e
    · rename_i C n
      split at e
      · rename_i m
        refine ⟨_, _, rfl, ?_⟩
        cases e
        exact h4 C (of_decide_eq_true hc) n m
      · cases e
    · cases e
/-- isinstance(x, (c1, c2, ..)) -/
def anyIsi (cs : List Str) (k : Ki) : List D → Option Bool
  | [] => some false
  | c :: r => match isiOf cs c k with
    | some true => some true
    | some false => anyIsi cs k r
    | none => none
def kIsiT (cs : List Str) (l : List D) : KC := fun os R Φ => match os with
  | [.val d, .val c'] => c' = .tup l ∧ ∃ k v, kiOf d = some k ∧ anyIsi cs k l = some v ∧ Φ (.val (.bl v)) R
  | _ => False
def gIsiT (cs : List Str) (l : List D) : G1 := fun ds φ => match ds with
  | [d, c'] => c' = .tup l ∧ (match kiOf d with | some k => (match anyIsi cs k l with | some v => φ (.bl v) | none => False) | none => False)
  | _ => False
theorem paired_cls {K : PySem.W.Frag} {F : Hp} {cs : List Str} {k : Ki} (I : ∀ c, isC cs c = true → Isi K c (isiOf cs c)) : ∀ {l : List D} {us : List V}, l.all (isC cs) = true → RepL K F l us → ∃ ws, Paired ClsV us ws ∧ ∀ v, anyIsi cs k l = some v → PySem.W.kitAny K (k.v K) ws = some v
  | [], us, _, r => by
    rw [of_repL_nil r]
    exact ⟨[], .nil, fun v h => h⟩
  | c :: l, us, ha, r => by
    rw [List.all_cons, Bool.and_eq_true] at ha
    obtain ⟨u, t, rfl, ru, rt⟩ := of_repL_cons r
    obtain ⟨ws, pw, hk⟩ := paired_cls (k := k) I ha.2 rt
    have cv : ∃ w2, ClsV u w2 ∧ ∀ v, isiOf cs c k = some v → PySem.W.kitOne K (k.v K) w2 = some v := by
      have i0 := I c ha.1
      cases c with
      | ty T =>
        rw [of_ty ru]
        refine ⟨.type T, .ty _, fun v h => ?_⟩
        obtain ⟨v1, u1, e, q⟩ := i0.ok k v h
        cases e
        exact q
      | glo C =>
        rw [of_glo ru]
        refine ⟨.ref (He.ga K C), .own _, fun v h => ?_⟩
        obtain ⟨v1, u1, e, q⟩ := i0.ok k v h
        cases e
        exact q
      | _ => exact nomatch ha.1
    obtain ⟨w2, c2, q2⟩ := cv
    refine ⟨w2 :: ws, .cons c2 pw, fun v h => ?_⟩
    unfold anyIsi at h
    unfold PySem.W.kitAny
    cases e : isiOf cs c k with
    | none => rw [e] at h; cases h
    | some v2 =>
      rw [e] at h
      rw [q2 v2 e]
      cases v2 with
      | true => exact h
      | false => exact hk v h
theorem c_isiT (K : PySem.W.Frag) {cs : List Str} {l : List D} (I : ∀ c, isC cs c = true → Isi K c (isiOf cs c)) (hl : l.all (isC cs) = true) (hne : l ≠ []) (hk : X.K = K) : DCall X (.builtin "isinstance") (rIsiT K) (kIsiT cs l) := by
  subst hk
  exact ⟨call_isiT, fun B env R σ F H os vs Φ Q s eo φ q => by
    unfold kIsiT at φ
    split at φ
    · rename_i d c'
      obtain ⟨rfl, k, v, hk, hv, φ⟩ := φ
      obtain ⟨u, r, rfl, eu, er⟩ := eo
      obtain ⟨u2, r2, rfl, eu2, er2⟩ := er
      have e0 : r2 = [] := er2
      subst e0
      obtain ⟨tp, us, rfl, ft, rl⟩ := of_tup (en_val eu2)
      obtain ⟨ws, pw, kk⟩ := paired_cls (k := k) I hl rl
      have ins : ∀ n, k = .ob n → C8.InsC X.K (He.ga X.K n) := fun n e => by
        subst e
        cases l with
        | nil => exact absurd rfl hne
        | cons c l =>
          rw [List.all_cons, Bool.and_eq_true] at hl
          unfold anyIsi at hv
          cases e : isiOf cs c (.ob n) with
          | none => rw [e] at hv; cases hv
          | some v2 => exact (I c hl.1).ins n v2 e
      exact ⟨u, tp, us, k.v X.K, ws, v, rfl, s.fin.fh _ _ ft, pw, tyx_of s.fin.fh (en_val eu) hk ins, kk v hv, q _ R _ F H φ s Ex.rfl (enVal (rep_bl _))⟩
    · exact False.elim φ⟩
theorem p_isiT {cs : List Str} (I : ∀ c, isC cs c = true → Isi K c (isiOf cs c)) (l : List D) (hl : l.all (isC cs) = true := by decide) (hne : l ≠ [] := by intro z; cases z) (hk : X.K = K := by rfl) : CB X (.builtin "isinstance") (rIsiT K) (kIsiT cs l) (gIsiT cs l) := ⟨c_isiT K I hl hne hk, fun ds R φ Φ z q => by
  unfold gIsiT at z
  split at z
  · rename_i d c'
    obtain ⟨hc, z⟩ := z
    split at z
    · rename_i k e1
      split at z
      · rename_i v e2; exact ⟨hc, k, v, e1, e2, q _ z⟩
      · exact False.elim z
    · exact False.elim z
  · exact False.elim z⟩
abbrev WO := List En → List Res → (Option Int → List Res → Prop) → XP → Prop
structure DP (X : Cx) (W : WX) (e : Option Expr) (t : TO) (w : WO) : Prop where
  p : PO X e t
  v : ∀ B env R Φ Ψ, Acc X.K B W Ψ → w env R Φ Ψ → ∀ σ F H, S X.K B env R σ F H → ∀ Q : Option Int → Hp → Prop, (∀ o R' F' H', Φ o R' → S X.K B env R' σ F' H' → Ex F F' → Q o H') → t σ H Q
def wPoN : WO := fun _ R Φ _ => Φ none R
def wPoS (we : WE) : WO := fun env R Φ Ψ => we env R (fun o R1 => match o with | .val (.int i) => Φ (some i) R1 | _ => False) Ψ
structure FP (X : Cx) (W : WX) (e : Option Expr) (t : TO) (w : WO) (f : FnE (Option Int)) : Prop where
  d : DP X W e t w
  t : ∀ b R0 ps env cenv R φ ψ (Φ : Option Int → List Res → Prop) (Ψ : XP), Rel b R0 ps env cenv R → f env φ ψ → XOk b R0 ps cenv ψ Ψ → (∀ d env' R', Rel b R0 ps env' cenv R' → φ d env' → Φ d R') → w cenv R Φ Ψ
def oNo : FnE (Option Int) := fun env φ _ => φ none env
def oSo (fe : FnE D) : FnE (Option Int) := fun env φ ψ => fe env (fun d env1 => match d with | .int i => φ (some i) env1 | _ => False) ψ
theorem po_no : FP X W none tNoPart wPoN oNo := ⟨⟨po_none, fun B env R Φ Ψ acc w σ F H s Q q => q none R F H w s Ex.rfl⟩, fun b R0 ps env cenv R φ ψ Φ Ψ r z x q => q none env R r z⟩
theorem po_so (h : FE X W e te we fe) : FP X W (some e) (tPart te) (wPoS we) (oSo fe) := ⟨⟨po_some h.d.p, fun B env R Φ Ψ acc w σ F H s Q q => h.d.v B env R _ Ψ acc w σ F H s _ fun o R1 v F1 H1 φ s1 x1 eo => by
  cases o with
  | no => exact False.elim φ
  | adr p => exact False.elim φ
  | val d =>
    cases d with
    | int i => exact ⟨i, of_int (en_val eo), q _ R1 F1 H1 φ s1 x1⟩
    | _ => exact False.elim φ⟩, fun b R0 ps env cenv R φ ψ Φ Ψ r z x q => h.t b R0 ps env cenv R _ ψ _ Ψ r z x fun d env1 R1 r1 z1 => by
  cases d with
  | int i => exact q _ env1 R1 r1 z1
  | _ => exact False.elim z1⟩
def cutD (xs : List D) (lo hi : Option Int) : List D := (xs.drop (HT.sIx xs.length 0 lo)).take (HT.sIx xs.length xs.length hi - HT.sIx xs.length 0 lo)
theorem cut_rep {F : Hp} {ds : List D} {vs : List V} (r : RepL K F ds vs) (lo hi : Option Int) : RepL K F (cutD ds lo hi) (cutV vs lo hi) := by
  unfold cutD cutV
  rw [r.len]
  exact (r.drop _).take _
def gSl (d : D) (lo hi : Option Int) (φ : D → Prop) : Prop := match d with
  | .lst ds => φ (.lst (cutD ds lo hi))
  | .tup ds => φ (.tup (cutD ds lo hi))
  | .str z => z.length ≤ sizeLine ∧ φ (.str (cutS z lo hi))
  | _ => False
def wSl (we : WE) (wl wu : WO) : WE := fun env R Φ Ψ => we env R (fun o R1 => wl env R1 (fun lo R2 => wu env R2 (fun hi R3 => match o with | .val d => gSl d lo hi fun d2 => Φ (.val d2) R3 | _ => False) Ψ) Ψ) Ψ
abbrev rSlAny (K : PySem.W.Frag) : V → Option Int → Option Int → Hp → VK → Prop := fun x lo hi H Q => rSlL K x lo hi H Q ∨ rSlA K x lo hi H Q ∨ rSlS x lo hi H Q
variable {lo hi : Option Expr} {tl th : TO} {wl wu : WO} {fl fu : FnE (Option Int)} {p2 : Pos}
theorem cut_whole {ds : List D} {lo hi : Option Int} (h : HT.sIx ds.length 0 lo = 0 ∧ HT.sIx ds.length ds.length hi = ds.length) : cutD ds lo hi = ds := by
  unfold cutD
  rw [h.1, h.2, List.drop_zero, Nat.sub_zero, List.take_length]
theorem d_sl (K : PySem.W.Frag) (he : DE X W e te we) (hl : DP X W lo tl wl) (hu : DP X W hi th wu) (hk : X.K = K) : DE X W (.Subscript e (.Slice lo hi none p2) pos) (tSl (rSlAny K) te tl th) (wSl we wl wu) := by
  subst hk
  refine ⟨pe_slice (sl_list.or (sl_tupA.or sl_str)) he.p hl.p hu.p, fun B env R Φ Ψ acc w σ F H s Q q => he.v B env R _ Ψ acc w σ F H s _ fun o R1 v F1 H1 φ s1 x1 eo => hl.v B env R1 _ Ψ acc φ σ F1 H1 s1 _ fun lo R2 F2 H2 φ2 s2 x2 => hu.v B env R2 _ Ψ acc φ2 σ F2 H2 s2 _ fun hi R3 F3 H3 φ3 s3 x3 => ?_⟩
  cases o with
  | no => exact False.elim φ3
  | adr p => exact False.elim φ3
  | val d =>
    have eo3 := (eo.up x2).up x3
    cases d with
    | lst ds =>
      obtain ⟨a, vs, rfl, fa, rl⟩ := of_lst (en_val eo3)
      refine .inl ⟨a, vs, rfl, SqL.of (s3.fin.fh _ _ fa), fun p hp => ?_⟩
      obtain ⟨s4, x4⟩ := s3.newF (o := .lst (cutV vs lo hi)) hp
      exact q _ R3 _ _ _ φ3 s4 (((x1.tr x2).tr x3).tr x4) (enVal (mk_lst upd_same (RepL.up x4 _ _ (cut_rep rl lo hi))))
    | tup ds =>
      obtain ⟨a, vs, rfl, fa, rl⟩ := of_tup (en_val eo3)
      refine .inr (.inl ⟨a, vs, rfl, SqT.of (s3.fin.fh _ _ fa), fun hw => ?_, fun _ p hp => ?_⟩)
      · rw [rl.len] at hw
        have φ4 : Φ (.val (.tup (cutD ds lo hi))) R3 := φ3
        rw [cut_whole hw] at φ4
        exact q _ R3 _ F3 H3 φ4 s3 ((x1.tr x2).tr x3) eo3
      · obtain ⟨s4, x4⟩ := s3.newF (o := .tup (cutV vs lo hi)) hp
        exact q _ R3 _ _ _ φ3 s4 (((x1.tr x2).tr x3).tr x4) (enVal (mk_tup upd_same (RepL.up x4 _ _ (cut_rep rl lo hi))))
    | str z =>
      obtain ⟨hz, φ4⟩ := (show z.length ≤ sizeLine ∧ Φ (.val (.str (cutS z lo hi))) R3 from φ3)
      exact .inr (.inr ⟨z, of_str (en_val eo3), hz, q _ R3 _ F3 H3 φ4 s3 ((x1.tr x2).tr x3) (enVal (rep_str _))⟩)
    | _ => exact False.elim φ3
def eSl (fe : FnE D) (fl fu : FnE (Option Int)) : FnE D := fun env φ ψ => fe env (fun d env1 => fl env1 (fun lo env2 => fu env2 (fun hi env3 => gSl d lo hi fun d2 => φ d2 env3) ψ) ψ) ψ
theorem f_sl (K : PySem.W.Frag) (he : FE X W e te we fe) (hl : FP X W lo tl wl fl) (hu : FP X W hi th wu fu) (hk : X.K = K := by rfl) : FE X W (.Subscript e (.Slice lo hi none p2) pos) (tSl (rSlAny K) te tl th) (wSl we wl wu) (eSl fe fl fu) := ⟨d_sl K he.d hl.d hu.d hk, fun b R0 ps env cenv R φ ψ Φ Ψ r z x q =>
  he.t b R0 ps env cenv R _ ψ _ Ψ r z x fun d env1 R1 r1 z1 => hl.t b R0 ps env1 cenv R1 _ ψ _ Ψ r1 z1 x fun l2 env2 R2 r2 z2 => hu.t b R0 ps env2 cenv R2 _ ψ _ Ψ r2 z2 x fun u3 env3 R3 r3 z3 => by
    cases d with
    | lst ds => exact q _ env3 R3 r3 z3
    | tup ds => exact q _ env3 R3 r3 z3
    | str s => exact ⟨z3.1, q _ env3 R3 r3 z3.2⟩
    | _ => exact False.elim z3⟩
end
end Tl
namespace Tl
open PySem PySem.Spec PyProof.Rows L2
/-- C.m is a static method: its record at p, its def at g -/
structure SMet (K : PySem.W.Frag) (C : Addr) (m : Str) (p g : Addr) : Prop where
  rd : ClX.CRead K C (.type "type")
  at_ : PySem.W.findCls K (.ref C) (.type "type") m = some (.get (.builtin "staticmethod.__get__") (.ref p) .none (.ref C))
  rc : ∃ rest, PySem.W.recIn K p "staticmethod" = some (.ref g :: rest)
section
variable {X : Cx} {W : WX} {P : Program} {w : World} {K : PySem.W.Frag} {mg : Str → Option Value} {base : Heap} {x m c : Str} {k j n : Nat} {G : Gs} {dv : List D} {e o a b : Expr} {es : List Expr} {ts : TA} {va : WA} {te ta tb to : TE} {we wa wb wo : WE} {p pos apos : Pos} {fs : FnE (List A)} {fo fa fb fe : FnE D}
structure Sx (P : Program) (w : World) (K : PySem.W.Frag) (mg : Str → Option Value) (base : Heap) (k : Nat) (c m : Str) (fs : Tl.FS) (dv : List D) : Prop where
  ex : ∃ (f p : Addr) (fd : FuncData) (ps : List Str) (ds : List Value), SMet K (He.ga K c) m p f ∧ PySem.W.keepIn K (.ref f) = true ∧ FnOk P w K mg base (L2.CX P w) k f fd ps (spOf K fs) ∧ mg c = some (.ref (He.ga K c)) ∧ Binds K fd ps ds ∧ Vals (dv.map Tl.lit) ds
  lit : dv.all isLit = true
theorem getsm_ok {X : Cx} {pins : List (Addr × Obj)} {σ : L2.St} {H : Hp} {s : Shared} {C p g : Addr} {m : Str} {A : Around} {E : Value → Shared → Prop} {pl : Sem Bool} {Q : Value × List Value → Shared → Prop} (I : Inv X pins σ H s) (k : SMet X.K C m p g) (h : Q (.ref g, []) { s with toks := s.toks + 1 }) : wpAny (model X.prog X.w) A (getMethod (.ref C) m pl) Q E s := by
  obtain ⟨rest, hp⟩ := k.rc
  refine PySem.W.method_cls I.kIn k.rd.ga (PySem.W.cls_bind I.kIn k.rd.rd k.at_ (wpAny_call (PySem.W.sm_get (s := { s with toks := s.toks + 1 }) I.kIn hp (PySem.W.handed_on rfl h))))
theorem pe_stat {sp : Sp} {dvs : List V} {ds : List Value} {E : L2.St → XK} {f p0 : Addr} {fd : FuncData} {ps : List Str} {t : TA} {pl : Sem Bool} (k0 : SMet X.K (He.ga X.K c) m p0 f) (F : FnOk X.prog X.w X.K X.mg X.base (L2.CX X.prog X.w) k f fd ps sp) (hr : Room k X.A) (hm : X.mg c = some (.ref (He.ga X.K c))) (hg : Gl X c) (hk : PySem.W.keepIn X.K (.ref f) = true) (hb : Binds X.K fd ps ds) (hd : Vals dvs ds) (hx : ∀ σ, PassesAt (L2.CX X.prog X.w) X σ (E σ))
    (ha : PA X (e :: es) t) (hdb : (c == ("__debug__" : Str)) = false := by decide) (he : starEach (e :: es) X.env = (false, eval e X.env) :: starEach es X.env := by rfl) (hpl : (backTo pos (starEach es X.env)).any (·.1) = false := by rfl)
    (ht : eval (.Call (.Attribute (.Name c p) m apos) (e :: es) [] pos) X.env = (eval (.Name c p) X.env >>= fun ov => standAt apos.atName >>= fun _ => holding [ov] (getMethod ov m pl) >>= fun q => callWith pos q.1 q.2 (backTo pos (starEach (e :: es) X.env)) (backToKw pos (keywordEach [] X.env))) := by rfl) :
    PE X (.Call (.Attribute (.Name c p) m apos) (e :: es) [] pos) (tCallSD sp dvs E t) := by
  refine ⟨fun pins s σ H Q I h => ?_⟩
  refine PySem.W.methodCall_KW (pl := pl) (thn ((pe_glob (v := .ref (He.ga X.K c)) hg hm rfl hdb).run pins s σ H (fun x H1 => x = .ref (He.ga X.K c) ∧ t σ H1 fun vs H2 => sp (vs ++ dvs) H2 Q (E σ)) I ⟨rfl, h⟩) fun u s1 ⟨x, H1, I1, rx, ex, q⟩ => ?_) ht
  subst ex
  obtain rfl : u = Value.ref (He.ga X.K c) := rx
  refine getsm_ok I1 k0 ?_
  have I2 := I1.tok (s1.toks + 1)
  exact PySem.W.callWith_K (h₀ := X.base) I2.ok.mod.kin hk (thn (ha.run pos pins _ σ H1 _ I2 q) fun us s3 ⟨vs, H2, I3, rv, q2⟩ => ⟨I3.kIn, run_fnSD F hr hb hd (hx σ) I3 rv q2⟩) he hpl
theorem f_stat {pl : Sem Bool} (cc : Sx P w K mg base k c m (fsA G) dv) (hr : Room j X.A) (hk : k ≤ j) (tk : Tk X W) (ha : FA X W (e :: es) n ts va fs) (hX : Of X P w K mg base := by exact ⟨rfl, rfl, rfl, rfl, rfl⟩) (hg : Gl X c := by rfl) (hdb : (c == ("__debug__" : Str)) = false := by decide)
    (he : starEach (e :: es) X.env = (false, eval e X.env) :: starEach es X.env := by rfl) (hpl : (backTo pos (starEach es X.env)).any (·.1) = false := by rfl)
    (ht : eval (.Call (.Attribute (.Name c p) m apos) (e :: es) [] pos) X.env = (eval (.Name c p) X.env >>= fun ov => standAt apos.atName >>= fun _ => holding [ov] (getMethod ov m pl) >>= fun q => callWith pos q.1 q.2 (backTo pos (starEach (e :: es) X.env)) (backToKw pos (keywordEach [] X.env))) := by rfl) :
    FE X W (.Call (.Attribute (.Name c p) m apos) (e :: es) [] pos) (tCallSD (spOf K (fsA G)) (dv.map lit) (L2.WE W) ts) (wCall (fsA G) dv va) (eCall G dv fs) := by
  obtain ⟨rfl, rfl, rfl, rfl, rfl⟩ := hX
  obtain ⟨f, p0, fd, ps, ds, k0, kp, F, hm, b, d⟩ := cc.ex
  exact ⟨⟨pe_stat k0 F (hr.mono hk) hm hg kp b d (fun σ => passAt tk.takes σ) ha.d.p hdb he hpl ht, call_ev (mono_a G) cc.lit ha.d.v⟩, det_call ha.t⟩
structure Px (P : Program) (w : World) (K : PySem.W.Frag) (mg : Str → Option Value) (base : Heap) (k : Nat) (c m : Str) (fs : Tl.FS) : Prop where
  ex : ∃ (f p : Addr) (fd : FuncData) (ps : List Str), Cls K (He.ga K c) ∧ PropOf K (He.ga K c) m p f ∧ FnOk P w K mg base (L2.CX P w) k f fd ps (spOf K fs) ∧ Binds K fd ps []
/-- o.m, a property; no error -/
def wProp (c : Str) (fs : Tl.FS) (wo : WE) : WE := fun env R Φ Ψ => wo env R (fun o R1 => match o with
  | .val (.obj c' ns ds) => c' = c ∧ fs [.val (.obj c' ns ds)] R1 Φ fun _ _ => False
  | _ => False) Ψ
def eProp (c : Str) (G : Gs) (fo : FnE D) : FnE D := fun env φ ψ => fo env (fun d env1 => match d with
  | .obj c' ns ds => c' = c ∧ G [.val (.obj c' ns ds)] (fun r => φ r env1) (fun _ => False)
  | _ => False) ψ
theorem passes_nox {X : Cx} : Passes (L2.CX X.prog X.w) X.nox E0 := fun pins σ H s e s' I got => by
  obtain ⟨_, _, _, _, _, _, _, _, _, _, _, _, z⟩ := got
  exact False.elim z
theorem prop_ev (mo : Mono (fsA G)) (ho : ∀ B env R Φ Ψ, Acc X.K B W Ψ → wo env R Φ Ψ → Ev X.K B to env R Φ) (B : Bs) (env : List En) (R : List Res) (Φ : En → List Res → Prop) (Ψ : XP) (acc : Acc X.K B W Ψ) (h : wProp c (fsA G) wo env R Φ Ψ) :
    Ev X.K B (tProp (He.ga X.K c) (spOf X.K (fsA G)) [] E0 to) env R Φ := fun σ F H s Q q => ho B env R _ Ψ acc h σ F H s _ fun o R1 v F1 H1 φ s1 x1 eo => by
  cases o with
  | no => exact False.elim φ
  | adr p => exact False.elim φ
  | val d =>
    cases d with
    | obj c1 n1 d1 =>
      obtain ⟨rfl, φ⟩ := φ
      obtain ⟨p, dx, ws, rfl, fa, _⟩ := of_obj (en_val eo)
      refine ⟨p, dx, _, rfl, s1.fin.fh _ _ fa, call_go0 s1 (os := [.val (.obj c1 n1 d1)]) ⟨_, [], rfl, eo, rfl⟩ φ mo fun o R' z F' H' φ3 s3 x3 e3 => ?_⟩
      exact q o R' z F' H' φ3 s3 (x1.tr x3) e3
    | _ => exact False.elim φ
theorem f_prop (cc : Px P w K mg base k c m (fsA G)) (hr : Room j X.A) (hk : k + 1 ≤ j) (ho : FE X W o to wo fo) (hX : Of X P w K mg base := by exact ⟨rfl, rfl, rfl, rfl, rfl⟩) (hab : attributeBase o m X.env (eval o X.env) = eval o X.env := by rfl) :
    FE X W (.Attribute o m pos) (tProp (He.ga K c) (spOf K (fsA G)) [] E0 to) (wProp c (fsA G) wo) (eProp c G fo) := by
  obtain ⟨rfl, rfl, rfl, rfl, rfl⟩ := hX
  obtain ⟨f, p0, fd, ps, cl, pr, F, b⟩ := cc.ex
  refine ⟨⟨pe_prop ho.d.p cl pr F (hr.mono hk) b .nil passes_nox hab, prop_ev (mono_a G) ho.d.v⟩, fun b R0 ps env cenv R φ ψ Φ Ψ r z x q => ho.t b R0 ps env cenv R _ ψ _ Ψ r z x fun d env1 R1 r1 z1 => ?_⟩
  cases d with
  | obj c' ns ds =>
    obtain ⟨e1, z1⟩ := z1
    exact ⟨e1, b, [.val (.obj c' ns ds)], _, _, rfl, rfl, (fun mm => by
      rcases List.mem_cons.mp mm with mm | mm
      · exact nomatch mm
      · exact nomatch mm), z1, fun d hd => q d env1 R1 r1 hd, fun er he => he⟩
  | _ => exact False.elim z1
theorem fn_weak {f : Addr} {fd : FuncData} {ps : List Str} {f1 f2 : Tl.FS} (F : FnOk P w K mg base (L2.CX P w) k f fd ps (spOf K f1)) (h : ∀ os R Φ Ψ, f2 os R Φ Ψ → f1 os R Φ Ψ) : FnOk P w K mg base (L2.CX P w) k f fd ps (spOf K f2) := by
  have sp : ∀ vs H Q E, spOf K f2 vs H Q E → spOf K f1 vs H Q E := fun vs H Q E z => by
    obtain ⟨F, os, R, a1, a2, a3, z⟩ := z
    exact ⟨F, os, R, a1, a2, a3, h _ _ _ _ z⟩
  exact ⟨fun vs H Q E z => F.len vs H Q E (sp _ _ _ _ z), fun A outer s H args us vs Q E hr e0 bt r z => F.run A outer s H args us vs Q E hr e0 bt r (sp _ _ _ _ z)⟩
theorem fx_weak {f1 f2 : Tl.FS} (F : Fx P w K mg base k x f1 dv) (h : ∀ os R Φ Ψ, f2 os R Φ Ψ → f1 os R Φ Ψ) : Fx P w K mg base k x f2 dv := by
  obtain ⟨f, fd, ps, ds, F1, r⟩ := F.ex
  exact ⟨⟨f, fd, ps, ds, fn_weak F1 h, r⟩, F.lit⟩
def g_law_draw (cs : List Str) : Gs := fun as φ _ => match as with
  | [.bag, .val (.int n)] => 0 < n ∧ n < 2 ^ 200 ∧ ∀ d, 0 ≤ d → d < n → φ (.int d)
  | _ => False
theorem draw_a {cs : List Str} : ∀ os R Φ Ψ, fsA (g_law_draw cs) os R Φ Ψ → fsDraw os R Φ Ψ := fun os R Φ Ψ h => by
  obtain ⟨b, as, φ, ψ, rfl, ha, hb, g, h1, h2⟩ := h
  unfold g_law_draw at g
  split at g
  · rename_i n
    obtain ⟨g1, g2, g3⟩ := g
    obtain ⟨l, hl⟩ := hb List.mem_cons_self
    exact ⟨b, l, n, rfl, g1, g2, hl, fun d d0 d1 => h1 _ (g3 d d0 d1)⟩
  · exact False.elim g
theorem fn_lawA {q qual y : Str} {params : Arguments} {body : List Stmt} {scope : Scope} {dvs : List V} {kws : List (Str × V)} {f : Addr} {fd : FuncData} {N : List Str} {st : Stmt} {rest : List Stmt} {n0 : Nat} (Fd : FunD K q qual params body scope dvs kws f fd) (Sc : FnScope N [y] scope) (hN : N.length = n0 + 2) (hbody : body = st :: rest)
    (hb : ∀ (cdv : Value) (A : Around) (outer : List Env) (s : Shared) (H : Hp) (E : XK), Room k (A.deeper (envOfC qual scope s.heap.objs.size f cdv)) → Tk (cxOf (L2.CX P w) P w K mg base N qual scope f cdv A outer s H E) (WF E) →
      PS (cxOf (L2.CX P w) P w K mg base N qual scope f cdv A outer s H E) st (tAsg (tCallSD (spBag K) [] (L2.WE (WF E)) (tCons (tVar 0) tNil)) (gName 1)) ∧
      ∃ ts ws f0, FSs (cxOf (L2.CX P w) P w K mg base N qual scope f cdv A outer s H E) (WF E) rest ts ws f0 ∧
        f0 (.no :: .bag :: List.replicate n0 .no) { nx := fun _ => False, rt := fun d _ => d = .bl true } fun _ _ => False) :
    FnOk P w K mg base (L2.CX P w) (k + 1) f fd [y] (spLaw K) := by
  refine fn_law Fd Sc hN hbody fun cdv A outer s H E hr tk => ?_
  obtain ⟨p1, ts, ws, f0, ff, go⟩ := hb cdv A outer s H E hr tk
  refine ⟨p1, ts, ws, ff.d, fun b l => ?_⟩
  have rr : Rel b [.bag b l] (fun _ => (0, 0)) (.no :: .bag :: List.replicate n0 .no) (.no :: .adr b :: List.replicate n0 .no) [.bag b l] := by
    refine ⟨⟨.inl rfl, .inr rfl, ?_⟩, ?_, fun _ => ⟨l, List.mem_cons_self⟩, fun i a q e s => ?_⟩
    · have e := CeOk.of (b := b) (ps := fun _ => (0, 0)) (env := List.replicate n0 Tl.A.no) (n := 2)
      rw [conc_no] at e
      exact e
    · refine ⟨[], ?_⟩
      show [Res.bag b l].Perm ([] ++ ([] ++ resAt (fun _ => (0, 0)) 2 (List.replicate n0 Tl.A.no)) ++ [Res.bag b l])
      rw [res_no]
      exact List.Perm.refl _
    · rcases List.mem_cons.mp (List.mem_of_getElem? e) with m | m
      · rw [m] at s; cases s
      rcases List.mem_cons.mp m with m | m
      · rw [m] at s; cases s
      rw [List.eq_of_mem_replicate m] at s; cases s
  exact ff.t b _ _ _ _ _ _ _ _ _ rr go (fun er ps env cenv R' r z => False.elim z) ⟨fun ps env cenv R' r z => False.elim z, fun ps env cenv d R' r z => by rw [show d = D.bl true from z], fun ps env cenv R' r z => False.elim z, fun ps env cenv R' r z => False.elim z, fun ps env cenv a q R' r _ z => False.elim z⟩
end
end Tl
namespace Tl
open PySem PySem.Spec PyProof.Rows L2
structure ClA where
  em : Str → Option Bool
  su : FnS
def catchA (P : AP) (ψ : XA) : List ClA → XA
  | [] => ψ
  | k :: r => fun er env => match k.em er.c with
    | some true => k.su env P X0A
    | some false => catchA P ψ r er env
    | none => False
def hTry (fb : FnS) (l : List ClA) : FnS := fun env P ψ => fb env P (catchA P ψ l)
/-- the clauses, none with a name -/
inductive FCls (X : Cx) : List ExceptHandler → List Cl → List ClD → List ClA → Prop
  | nil : FCls X [] [] [] []
  | cons {x : Str} {c : Value} {ts : TS} {st : Stmt} {sts : List Stmt} {p1 p2 : Pos} {hds : List ExceptHandler} {l : List Cl} {m : List ClD} {n : List ClA} {em : Str → Option Bool} {ws : WS} {f : FnS} (nm : Names X x c) (he : ∀ y b, em y = some b → PySem.W.exmOne X.K (.ref (He.ga X.K y)) c = some b)
      (su : ∀ (a : Addr) (oe : Obj) (pn : List (Addr × Obj)), FSs (X.suite a ((a, oe) :: pn)) W0 (st :: sts) ts ws f) (r : FCls X hds l m n) :
      FCls X (.ExceptHandler (some (.Name x p1)) none (st :: sts) p2 :: hds) (⟨c, none, fun a cls d D σ H => ∃ er, em er.c = some true ∧ ErCls X.K cls d er ∧ ts D σ H⟩ :: l) (⟨em, none, fun _ _ _ => ws⟩ :: m) (⟨em, f⟩ :: n)
section
variable {X : Cx} {W : WX} {body : List Stmt} {h0 : ExceptHandler} {hds : List ExceptHandler} {l : List Cl} {m : List ClD} {n : List ClA} {pos : Pos} {tb : WX → TS} {wb : WS} {fb : FnS}
theorem FCls.c {hl : List ExceptHandler} (h : FCls X hl l m n) : Cls' X hl l m := by
  induction h with
  | nil => exact .nil
  | cons nm he su r ih => exact .cons nm he (fun er a oe cls d pn _ _ _ _ => (su a oe pn).d) ih
theorem FCls.t {hl : List ExceptHandler} (h : FCls X hl l m n) {b : Addr} {R0 : List Res} {P : AP} {ψ : XA} {P' : Post} {Ψ : XP} (x : XOkS b R0 ψ Ψ) (k : PostOk b R0 P P') : XOkS b R0 (catchA P ψ n) (catchW P' Ψ m) := by
  induction h with
  | nil => exact x
  | @cons y c ts st sts p1 p2 hds l m n em ws f nm he su r ih =>
    intro er ps env cenv R rr z
    have z' : (match em er.c with
      | some true => f env P X0A
      | some false => catchA P ψ n er env
      | none => False) := z
    cases q : em er.c with
    | none => rw [q] at z'; exact False.elim z'
    | some v =>
      rw [q] at z'
      refine ⟨v, q, fun hv => ?_, fun hv => ?_⟩
      · subst hv
        have dt := (su 0 { cls := .none, dict := none, data := .fields #[] } []).t
        cases er with
        | plain c0 => exact fun a => dt b R0 ps env cenv R P X0A P' X0 rr z' (fun er ps env cenv R r z => False.elim z) k
        | fld c0 f0 x0 => exact fun a dd => dt b R0 ps env cenv _ P X0A P' X0 (rr.more _) z' (fun er ps env cenv R r z => False.elim z) k
      · subst hv
        exact ih er ps env cenv R rr z'
theorem fs_try (stk : X.stack = X.env :: X.outer) (fr : X.env.frame = some X.env.locals) (nd : X.N.Nodup) (tk : Tk X W)
    (bo : ∀ (V : WX) (pn : List (Addr × Obj)) (xe : Value → Shared → Prop) (sk : List Env), Tk (al X pn xe sk) V → FSs (al X pn xe sk) V body (tb V) wb fb) (cl : FCls X (h0 :: hds) l m n) :
    FS' X W (.Try body (h0 :: hds) [] [] pos) (fun D σ H => tb (wMix X.K W D l) D σ H) (sTry wb m) (hTry fb n) :=
  ⟨s_try stk fr nd tk (fun V pn xe sk t => (bo V pn xe sk t).d) cl.c, fun b R0 ps env cenv R P ψ P' Ψ r z x k => by
    have dt := (bo W0 [] (fun _ _ => False) ((X.A.frames.getD []) ++ [X.env]) (tk_idle W0)).t
    exact dt b R0 ps env cenv R P _ P' _ r z (cl.t x k) k⟩
end
end Tl
section
set_option maxHeartbeats 1000000
namespace Tl
open PySem PySem.Spec PyProof.Rows L2
section
variable {X : Cx} {W : WX} {P : Program} {w : World} {K : PySem.W.Frag} {mg : Str → Option Value} {base : Heap} {m mr c : Str} {k j n : Nat} {G Gr : Gs} {e o a b : Expr} {te ta tb to : TE} {we wa wb wo : WE} {p pos apos : Pos} {fo fa fb fe : FnE D} {fs fr : Tl.FS}
def tOwnS (C : Addr) (sp : Sp) (E : L2.St → XK) (ta tb : TE) : TE := fun σ H Q => ta σ H fun x H1 => tb σ H1 fun y H2 => ∃ p dx gs q dy hs, x = .ref p ∧ H2 p = some (.ins C dx gs) ∧ y = .ref q ∧ H2 q = some (.ins C dy hs) ∧ sp [x, y] H2 Q (E σ)
def wOwnS (c : Str) (fs : Tl.FS) (wa wb : WE) : WE := fun env R Φ Ψ => wa env R (fun x R1 => wb env R1 (fun y R2 => match x, y with
  | .val (.obj c1 n1 d1), .val (.obj c2 n2 d2) => c1 = c ∧ c2 = c ∧ fs [.val (.obj c1 n1 d1), .val (.obj c2 n2 d2)] R2 Φ fun er R3 => Ψ er env R3
  | _, _ => False) Ψ) Ψ
theorem d_ownS {op : Operator} (mo : Mono fs) (tp : Top1 X.K c) (cl : Mx X.prog X.w X.K X.mg X.base k c m fs []) (hr : Room j X.A) (hk : k ≤ j) (tk : Tk X W) (ha : DE X W a ta wa) (hb : DE X W b tb wb) (hm : PySem.dunder op.info.2 = m := by decide) :
    DE X W (.BinOp a op b pos) (tOwnS (He.ga X.K c) (spOf X.K fs) (L2.WE W) ta tb) (wOwnS c fs wa wb) := by
  obtain ⟨cd, hc, hm0⟩ := tp.ex
  obtain ⟨f, fd, ps, ds, _, hmf, F, bd, vd⟩ := cl.ex
  cases vd
  have hs : PySem.W.findIn X.K (.ref (He.ga X.K c)) (PySem.dunder op.info.2) = some (some (.ref f)) := by rw [hm]; exact hmf.at_
  refine ⟨⟨fun pins s σ H Q I h => wpAny_BinOp (binT ha.p hb.p I h fun v u s2 x y H2 I2 rx ry q => ?_)⟩, fun B env R Φ Ψ acc w σ F0 H s Q q => ha.v B env R _ Ψ acc w σ F0 H s _ fun x R1 v F1 H1 φ1 s1 x1 e1 => hb.v B env R1 _ Ψ acc φ1 σ F1 H1 s1 _ fun y R2 u F2 H2 φ2 s2 x2 e2 => ?_⟩
  · obtain ⟨p, dx, gs, q0, dy, hs', rfl, hp, rfl, hq, q⟩ := q
    obtain rfl : v = Value.ref p := rx
    obtain rfl : u = Value.ref q0 := ry
    obtain ⟨od, J⟩ := inst_of I2 hp
    obtain ⟨oe, J2⟩ := inst_of I2 hq
    have call : wpAny (model X.prog X.w) X.A (call (.ref f) [.ref p, .ref q0]) (Own.Back fun v s' => EP X pins σ Q v s') X.xe s2 := wpAny_mono (run_at (us := [.ref p, .ref q0]) (vs := [.ref p, .ref q0]) F (hr.mono hk) I2.env0 bd tk I2 (.cons rfl (.cons rfl .nil)) q) (fun _ _ z => ep_back z) fun _ _ z => z
    refine Own.bin_of ?_
    have call2 : wpAny (model X.prog X.w) X.A (PySem.call (.ref f) [.ref p, .ref q0]) (Own.Back fun v s' => ∃ z, some v = some z ∧ EP X pins σ Q z s') X.xe s2 := wpAny_mono call (fun _ _ z => ⟨z.1, _, rfl, z.2⟩) fun _ _ z => z
    exact Own.bin_same I2.kIn hc hm0 J J2 hs hmf.fn call2
  · split at φ2
    · rename_i c1 n1 d1 c2 n2 d2
      obtain ⟨rfl, rfl, φ2⟩ := φ2
      obtain ⟨p, dx, vs, rfl, fp, _⟩ := of_obj (en_val e1)
      obtain ⟨q0, dy, us, rfl, fq, _⟩ := of_obj (en_val e2)
      refine ⟨p, dx, _, q0, dy, _, rfl, s2.fin.fh _ _ (x2 _ _ fp), rfl, s2.fin.fh _ _ fq, ?_⟩
      exact call_go acc s2 (ens2 (e1.up x2) e2) φ2 mo fun o R3 z F3 H3 φ3 s3 x3 e3 => q o R3 z F3 H3 φ3 s3 ((x1.tr x2).tr x3) e3
    · exact False.elim φ2
def eOwnS (c : Str) (G : Gs) (fa fb : FnE D) : FnE D := fun env φ ψ => fa env (fun x env1 => fb env1 (fun y env2 => match x, y with
  | .obj c1 n1 d1, .obj c2 n2 d2 => c1 = c ∧ c2 = c ∧ G [.val (.obj c1 n1 d1), .val (.obj c2 n2 d2)] (fun d => φ d env2) (fun er => ψ er env2)
  | _, _ => False) ψ) ψ
theorem two_arg {d1 d2 : D} : ([.val d1, .val d2] : List A).all A.arg = true := rfl
theorem no_bag2 {d1 d2 : D} {q : Prop} (m : A.bag ∈ ([.val d1, .val d2] : List A)) : q := by
  rcases List.mem_cons.mp m with m | m
  · exact nomatch m
  · rcases List.mem_cons.mp m with m | m
    · exact nomatch m
    · exact nomatch m
theorem f_ownS {op : Operator} (tp : Top1 K c) (cl : Mx P w K mg base k c m (fsA G) []) (hr : Room j X.A) (hk : k ≤ j) (tk : Tk X W) (ha : FE X W a ta wa fa) (hb : FE X W b tb wb fb) (hX : Of X P w K mg base := by exact ⟨rfl, rfl, rfl, rfl, rfl⟩) (hm : PySem.dunder op.info.2 = m := by decide) :
    FE X W (.BinOp a op b pos) (tOwnS (He.ga K c) (spOf K (fsA G)) (L2.WE W) ta tb) (wOwnS c (fsA G) wa wb) (eOwnS c G fa fb) := by
  obtain ⟨rfl, rfl, rfl, rfl, rfl⟩ := hX
  refine ⟨d_ownS (mono_a G) tp cl hr hk tk ha.d hb.d hm, fun b R0 ps env cenv R φ ψ Φ Ψ r z x q => ha.t b R0 ps env cenv R _ ψ _ Ψ r z x fun d1 env1 R1 r1 z1 => hb.t b R0 ps env1 cenv R1 _ ψ _ Ψ r1 z1 x fun d2 env2 R2 r2 z2 => ?_⟩
  split at z2
  · obtain ⟨e1, e2, z2⟩ := z2
    exact ⟨e1, e2, b, _, _, _, rfl, two_arg, fun mm => no_bag2 mm, z2, fun d hd => q d env2 R2 r2 hd, fun er he => x er env2 R2 r2 he⟩
  · exact False.elim z2
end
end Tl
end
section
set_option maxHeartbeats 1000000
namespace Own
open PySem PySem.W PySem.Spec PySem.Calls PyProof.Rows
section
variable {K : Frag} {C f : Addr} {A : Around} {E : Value → Shared → Prop} {s : Shared} {x : Addr} {ox : Obj} {od : Option Obj}
/-- x op v by an own comparison, v of a built-in type -/
theorem cmp_ownT {prog : Program} {w : World} {op : CmpOp} {b : Value} {T : String} {Q : Value → Shared → Prop} (hu : A.units < cLine) (X : K.In s.heap) (I : InstAt s.heap x ox C od) (hb : s.TypeIs b T) (hn : subIn K (.type T) (.ref C) = some false)
    (hs : findIn K (.ref C) (cmpInfo op).2.1 = some (some (.ref f))) (hf : isFn K (.ref f) = true) (hq : wpAny (model prog w) A (call (.ref f) [.ref x, b]) (Back Q) E s) : wpAny (model prog w) A (richCompare op (.ref x) b) Q E s := by
  have one : wpAny (model prog w) A (tryCompare (.ref x) (cmpInfo op).2.1 b) (fun o s' => ∃ v, o = some v ∧ Q v s') E s := by
    unfold tryCompare
    refine wpAny_bind (ifBound_K X I hs hf (wpAny_mono hq (fun v s' z => ?_) fun _ _ z => z))
    obtain ⟨n, z⟩ := z
    cases v <;> first | exact absurd rfl n | exact wpAny_pure ⟨_, rfl, z⟩
  have go : ∀ {t : Sem Value}, wpAny (model prog w) A (tryCompare (.ref x) (cmpInfo op).2.1 b >>= fun o => match o with | some v => pure v | _ => t) Q E s := fun {t} => by
    refine wpAny_bind (wpAny_mono one (fun o s' z => ?_) fun _ _ z => z)
    obtain ⟨v, rfl, z⟩ := z
    exact wpAny_pure z
  unfold richCompare
  simp only [oneThing_ref]
  refine wpAny_holding (wpAny_bind (wpAny_cRoomFor hu (wpAny_bind (I.type.here (wpAny_bind (wpAny_typeOf hb ?_))))))
  split
  · refine wpAny_bind ((looks_subIn X hn).here ?_)
    simp only [Bool.false_eq_true, if_false]
    exact go
  · refine wpAny_bind (wpAny_pure ?_)
    simp only [Bool.false_eq_true, if_false]
    exact go
end
end Own
namespace Tl
open PySem PySem.Spec PyProof.Rows L2
section
variable {X : Cx} {W : WX} {P : Program} {w : World} {K : PySem.W.Frag} {mg : Str → Option Value} {base : Heap} {m mr c : Str} {k j n : Nat} {G Gr : Gs} {e o a b : Expr} {te ta tb to : TE} {we wa wb wo : WE} {p pos apos : Pos} {fo fa fb fe : FnE D} {fs fr : Tl.FS}
structure SubOwn (K : PySem.W.Frag) (c : Str) : Prop where
  t : ∀ T ∈ tyKeys, PySem.W.subIn K (.type T) (.ref (He.ga K c)) = some false
def plainK : D → Bool
  | .non => true | .bl _ => true | .int _ => true | .str _ => true | .tup _ => true | .lst _ => true
  | _ => false
theorem tyb_of {F H : Hp} {d : D} {v : V} (x : Ex F H) (h : plainK d = true) (r : Rep K F d v) : ∃ T ∈ tyKeys, TyB K H v T := by
  cases d with
  | non => rw [of_non r]; exact ⟨_, by decide, .non⟩
  | bl b => rw [of_bl r]; exact ⟨_, by decide, .bl b⟩
  | int b => rw [of_int r]; exact ⟨_, by decide, .int b⟩
  | str b => rw [of_str r]; exact ⟨_, by decide, .str b⟩
  | tup ds => obtain ⟨a, vs, rfl, fa, _⟩ := of_tup r; exact ⟨_, by decide, .tup (SqT.of (x _ _ fa))⟩
  | lst ds => obtain ⟨a, vs, rfl, fa, _⟩ := of_lst r; exact ⟨_, by decide, .lst (SqL.of (x _ _ fa))⟩
  | _ => exact nomatch h
def gInA (c : Str) (G : Gs) (neg : Bool) : G2 := fun x y φ => match y with
  | .obj c1 n1 d1 => c1 = c ∧ G [.val (.obj c1 n1 d1), .val x] (fun d => match d with | .bl v => φ (.bl (if neg then !v else v)) | _ => False) fun _ => False
  | _ => False
end
end Tl
end
section
set_option maxHeartbeats 1000000
namespace Tl
open PySem PySem.Spec PyProof.Rows L2
section
variable {X : Cx} {W : WX} {P : Program} {w : World} {K : PySem.W.Frag} {mg : Str → Option Value} {base : Heap} {m mr c x : Str} {k j n : Nat} {G Gr : Gs} {e o a b : Expr} {es : List Expr} {ts : TA} {va : WA} {te ta tb to : TE} {we wa wb wo : WE} {p pos apos : Pos} {fo fa fb fe : FnE D} {fs : FnE (List A)}
def tCallT (K : PySem.W.Frag) (tab : Str → Option Gs) (i : Nat) (E : L2.St → XK) (t : TA) : TE := fun σ H Q => ∃ x G, tab x = some G ∧ σ[i]? = some (some (.ref (He.ga K x))) ∧ t σ H fun vs H1 => spOf K (fsA G) vs H1 Q (E σ)
def wCallT (tab : Str → Option Gs) (i : Nat) (va : WA) : WE := fun env R Φ Ψ => match env[i]? with
  | some (.val (.glo x)) => ∃ G, tab x = some G ∧ va env R (fun os R1 => fsA G os R1 Φ fun er R2 => Ψ er env R2) Ψ
  | _ => False
structure TabOk (P : Program) (w : World) (K : PySem.W.Frag) (mg : Str → Option Value) (base : Heap) (j : Nat) (tab : Str → Option Gs) : Prop where
  f : ∀ x G, tab x = some G → (∃ k, k ≤ j ∧ Fx P w K mg base k x (fsA G) []) ∧ mg x = some (.ref (He.ga K x))
theorem d_callT {tab : Str → Option Gs} {i : Nat} {y : Str} (T : TabOk X.prog X.w X.K X.mg X.base j tab) (hr : Room j X.A) (tk : Tk X W) (ha : DA X W (e :: es) ts va) (hN : X.N[i]? = some y := by rfl) (hv : Vis X.env.scope y := by first | exact Or.inl rfl | exact Or.inr (Or.inl rfl) | exact Or.inr (Or.inr rfl)) (hd : (y == ("__debug__" : Str)) = false := by decide) (hcd : (y == ("__classdict__" : Str)) = false := by decide)
    (he : starEach (e :: es) X.env = (false, eval e X.env) :: starEach es X.env := by rfl) (hpl : (backTo pos (starEach es X.env)).any (·.1) = false := by rfl) : DE X W (.Call (.Name y p) (e :: es) [] pos) (tCallT X.K tab i (L2.WE W) ts) (wCallT tab i va) := by
  refine ⟨⟨fun pins s σ H Q I h => ?_⟩, fun B env R Φ Ψ acc w0 σ F H s Q q => ?_⟩
  · obtain ⟨x0, G, hG, hs, h⟩ := h
    obtain ⟨⟨k0, hk0, fx⟩, hm0⟩ := T.f x0 G hG
    obtain ⟨f, fd, ps, ds, F, hm, kp, b, d⟩ := fx.ex
    have ef : f = He.ga X.K x0 := by
      rw [hm] at hm0
      cases hm0
      rfl
    subst ef
    cases d
    refine wpAny_Call_Name_kw (thn ((pe_var (pos := p) (i := i) hN hv hd hcd).run pins s σ H (fun v H1 => v = .ref (He.ga X.K x0) ∧ H1 = H) I ⟨.ref (He.ga X.K x0), hs, rfl, rfl⟩) fun u s1 ⟨v, H1, I1, r1, ev, eH⟩ => ?_)
    subst ev
    rw [eH] at I1
    cases r1
    refine PySem.W.callWith_K (h₀ := X.base) I.ok.mod.kin kp (thn (ha.p.run pos pins s1 σ H _ I1 h) fun us s2 ⟨vs, H2, I2, r, q⟩ => ⟨I2.kIn, ?_⟩) he hpl
    refine run_fnSD F (hr.mono hk0) b .nil (passAt tk.takes σ) I2 r ?_
    rw [List.append_nil]
    exact q
  · unfold wCallT at w0
    split at w0
    · rename_i x0 e0
      obtain ⟨G, hG, w0⟩ := w0
      obtain ⟨o0, z0, y0⟩ := s.en.get e0
      obtain ⟨v0, rfl, r0⟩ := y0
      rw [of_glo r0] at z0
      refine ⟨x0, G, hG, z0, ha.v B env R _ Ψ acc w0 σ F H s _ fun os R1 vs F1 H1 φ s1 x1 eo => ?_⟩
      exact call_go acc s1 eo φ (mono_a G) fun o R2 v F2 H2 φ2 s2 x2 e2 => q o R2 v F2 H2 φ2 s2 (x1.tr x2) e2
    · exact False.elim w0
def eCallT (tab : Str → Option Gs) (i : Nat) (f : FnE (List A)) : FnE D := fun env φ ψ => match (env[i]? : Option A) with
  | some (.val (.glo x)) => (match tab x with | some G => f env (fun as env1 => G as (fun d => φ d env1) (fun er => ψ er env1)) ψ | none => False)
  | _ => False
theorem f_callT {tab : Str → Option Gs} {i : Nat} {y : Str} (T : TabOk P w K mg base j tab) (hr : Room j X.A) (tk : Tk X W) (ha : FA X W (e :: es) n ts va fs) (hX : Of X P w K mg base := by exact ⟨rfl, rfl, rfl, rfl, rfl⟩) (hN : X.N[i]? = some y := by rfl) (hv : Vis X.env.scope y := by first | exact Or.inl rfl | exact Or.inr (Or.inl rfl) | exact Or.inr (Or.inr rfl)) (hd : (y == ("__debug__" : Str)) = false := by decide) (hcd : (y == ("__classdict__" : Str)) = false := by decide)
    (he : starEach (e :: es) X.env = (false, eval e X.env) :: starEach es X.env := by rfl) (hpl : (backTo pos (starEach es X.env)).any (·.1) = false := by rfl) : FE X W (.Call (.Name y p) (e :: es) [] pos) (tCallT K tab i (L2.WE W) ts) (wCallT tab i va) (eCallT tab i fs) := by
  obtain ⟨rfl, rfl, rfl, rfl, rfl⟩ := hX
  refine ⟨d_callT T hr tk ha.d hN hv hd hcd he hpl, fun b R0 ps env cenv R φ ψ Φ Ψ r z x q => ?_⟩
  unfold eCallT at z
  split at z
  · rename_i x0 e0
    split at z
    · rename_i G hG
      unfold wCallT
      rw [r.get e0]
      refine ⟨G, hG, ha.t b R0 ps env cenv R _ ψ _ Ψ r z x fun as env1 R1 r1 hl ha hb z1 => ⟨b, as, _, _, rfl, ha, fun mm => ?_, z1, fun d hd => q d env1 R1 r1 hd, fun er he => x er env1 R1 r1 he⟩⟩
      obtain ⟨l, hl⟩ := hb mm
      exact ⟨l, r1.base.mem hl⟩
    · exact False.elim z
  · exact False.elim z
variable {elt tg iter : Expr} {ifs : List Expr} {scope : Scope} {wi : TI} {w1 : WI} {fi : FnE (List D)} {g : TG} {wg : WG} {f1 : D → List A → (List A → Prop) → Prop} {tt : TT} {wt : WT} {ft : FnE Bool} {spos : Pos}
theorem fs_setLc {i : Nat} {y : Str} {py : Pos} (own : List (Str × Nat)) (hc : X.calm = true) (hN : X.N.Nodup) (gw : GW g (own.map (·.2))) (hi : FI X W tg iter wi w1 fi) (ok : BlkOk X.N X.env.scope scope own)
    (hg : ∀ (s : Shared) (H : Hp) (C : Addr) (cl : List (Str × Addr)) (fp : List Addr), FG (X.blk s H scope (compEnvC scope cl C X.env) fp) tg g wg f1) (ht : ∀ (s : Shared) (H : Hp) (C : Addr) (cl : List (Str × Addr)) (fp : List Addr), FTs (X.blk s H scope (compEnvC scope cl C X.env) fp) W0 ifs tt wt ft)
    (he : ∀ (s : Shared) (H : Hp) (C : Addr) (cl : List (Str × Addr)) (fp : List Addr), FE (X.blk s H scope (compEnvC scope cl C X.env) fp) W0 elt te we fe) (hy : X.N[i]? = some y := by rfl) (hyl : X.env.scope.names.lookup y = some .local := by rfl)
    (hsw : swapsWith (.ListComp elt [⟨tg, iter, ifs, 0⟩] scope pos) (some (.Name y py)) spos.line X.env = pure true := by exact sw_true rfl rfl rfl (by decide +kernel)) (hs : ∀ x, foldedSetIterable iter X.env x = pure x := by intro _; rfl) :
    FS' X W (.Assign [.Name y py] (.ListComp elt [⟨tg, iter, ifs, 0⟩] scope pos) spos) (tAsg (tLc wi g tt te (own.map (·.2))) (gName i)) (sSet i (wLc w1 wg (wClT wt) (wCl we) (own.map (·.2)))) (hSetO i (eLc fi f1 ft fe (own.map (·.2)))) :=
  ⟨s_setLc own hc hN gw hi.d ok (fun s H C cl fp => (hg s H C cl fp).d) (fun s H C cl fp => ts_cl (ht s H C cl fp).d) (fun s H C cl fp => de_cl (he s H C cl fp).d) hy hyl hsw hs, fun b R0 ps env cenv R P ψ P' Ψ r z x k =>
    det_lc hi.t (hg X.s_0 X.H_0 0 [] []).t (ht X.s_0 X.H_0 0 [] []).t (he X.s_0 X.H_0 0 [] []).t b R0 ps env cenv R _ ψ _ Ψ r z (x.at_ ps cenv) fun ds p env' R' r' z' => by
      obtain ⟨ps', r2⟩ := r'.setO i p ds
      exact k.nx ps' _ _ _ r2 z'⟩
end
end Tl
end
namespace Tl
open PySem PySem.Spec PyProof.Rows L2 L2H
structure SaysG (fa : List He.Fa) (fn : List He5.DefA) (ex : PySem.W.Frag → Bool) (xs : List XD) (K : PySem.W.Frag) : Prop where
  d : He5.SaysA fa fn K
  e : ex K = true
  x : ∀ x ∈ xs, fnV K (x.at_ K) = x.val
theorem rdB_ok {K : PySem.W.Frag} {c : Str} (h : rdB K c = true) : ClX.CRead K (He.ga K c) (.type "type") := by
  obtain ⟨h1, h2⟩ := Bool.and_eq_true_iff.mp h
  exact ⟨h1, He.eqO_ok h2⟩
theorem smB_ok {K : PySem.W.Frag} {c m : Str} (r : rdB K c = true) (h : smB K c m = true) : SMet K (He.ga K c) m (He.ma K (He.ga K c) m) (He5.wf K (He.ga K c) "staticmethod" m) := by
  obtain ⟨h1, h2⟩ := He5.wrapB_ok h
  exact ⟨rdB_ok r, h1, h2⟩
theorem prB_ok {K : PySem.W.Frag} {c m : Str} (h : prB K c m = true) : PropOf K (He.ga K c) m (He.ma K (He.ga K c) m) (He5.wf K (He.ga K c) "property" m) := by
  unfold prB at h
  simp only [Bool.and_eq_true, decide_eq_true_eq] at h
  obtain ⟨h1, h2, h3, h4⟩ := h
  refine ⟨He.eqO_ok h1, He.eqO_ok h2, h3, ?_⟩
  unfold He5.wf
  split at h4
  · rename_i f r e
    exact ⟨r, by rw [e]⟩
  · cases h4
theorem subB_ok {K : PySem.W.Frag} {c : Str} (h : subB K c = true) : SubOwn K c := by
  unfold subB at h
  simp only [List.all_eq_true, decide_eq_true_eq] at h
  exact ⟨h⟩
theorem topB_ok {K : PySem.W.Frag} {c : Str} (h : topB K c = true) : Top1 K c := by
  unfold topB at h
  cases q : PySem.W.clsIn K (He.ga K c) with
  | none => rw [q] at h; cases h
  | some cd =>
    rw [q] at h
    exact ⟨cd, q, of_decide_eq_true h⟩
section
variable {P : Program} {w : World} {K : PySem.W.Frag} {mg : Str → Option Value} {base : Heap} {x c m q : Str} {st : Stmt} {k : Nat} {fs : Tl.FS} {ps : List Str} {dv : List D}
structure StaK (K : PySem.W.Frag) (mg : Str → Option Value) (c m q : Str) (st : Stmt) (dv : List D) : Prop where
  ex : ∃ fd, FunD K m q (defArgs st) (defBody st) (defScope st) (dv.map lit) [] (He5.wf K (He.ga K c) "staticmethod" m) fd
  sm : SMet K (He.ga K c) m (He.ma K (He.ga K c) m) (He5.wf K (He.ga K c) "staticmethod" m)
  gl : mg c = some (.ref (He.ga K c))
structure ProK (K : PySem.W.Frag) (c m q : Str) (st : Stmt) : Prop where
  ex : ∃ fd, FunD K m q (defArgs st) (defBody st) (defScope st) [] [] (He5.wf K (He.ga K c) "property" m) fd
  cl : Cls K (He.ga K c)
  pr : PropOf K (He.ga K c) m (He.ma K (He.ga K c) m) (He5.wf K (He.ga K c) "property" m)
theorem sx_of (D : StaK K mg c m q st []) (ok : ∀ f fd, FunD K m q (defArgs st) (defBody st) (defScope st) [] [] f fd → FnOk P w K mg base (L2.CX P w) k f fd ps (spOf K fs)) (b : BindN m q st ps) : Sx P w K mg base k c m fs [] := by
  obtain ⟨fd, F⟩ := D.ex
  exact ⟨⟨_, _, fd, ps, [], D.sm, F.kp, ok _ fd F, D.gl, F.bindsN b, .nil⟩, rfl⟩
theorem sx_ofD (D : StaK K mg c m q st dv) (hl : dv.all isLit = true) (hne : dv ≠ []) (n j : Nat) (hn : n + (dv.length - j) = ps.length) (ok : ∀ f fd, FunD K m q (defArgs st) (defBody st) (defScope st) (dv.map lit) [] f fd → FnOk P w K mg base (L2.CX P w) k f fd ps (spOf K fs)) (b : BindD m q st dv ps n j) : Sx P w K mg base k c m fs (dv.drop j) := by
  obtain ⟨fd, F⟩ := D.ex
  obtain ⟨ds, v, bd⟩ := F.binds1 (ps := ps) n j (fun z => hne (List.map_eq_nil_iff.mp z)) (by rw [List.length_map]; exact hn) b
  refine ⟨⟨_, _, fd, ps, ds, D.sm, F.kp, ok _ fd F, D.gl, bd, by rw [List.map_drop]; exact v⟩, ?_⟩
  exact List.all_eq_true.mpr fun y hy => List.all_eq_true.mp hl y (List.mem_of_mem_drop hy)
theorem px_of (D : ProK K c m q st) (ok : ∀ f fd, FunD K m q (defArgs st) (defBody st) (defScope st) [] [] f fd → FnOk P w K mg base (L2.CX P w) k f fd ps (spOf K fs)) (b : BindN m q st ps) : Px P w K mg base k c m fs := by
  obtain ⟨fd, F⟩ := D.ex
  exact ⟨⟨_, _, fd, ps, D.cl, D.pr, ok _ fd F, F.bindsN b⟩⟩
end
end Tl
section
set_option maxHeartbeats 1000000
namespace Tl
open PySem PySem.Spec PyProof.Rows L2
theorem loop_it {J : It} {n : Nat} {G : Hp → Prop} {Y : Nat → Hp → V → Hp → Prop} (w : Walk J n G Y) {Body : V → Hp → (Hp → Prop) → Prop} {H0 : Hp} {Qd : Hp → Prop} (Pv : Nat → Hp → Prop) (h0 : Pv 0 H0) (hG : ∀ i H, i ≤ n → Pv i H → G H)
    (hs : ∀ i x H H', i < n → Pv i H → Y i H x H' → Body x H' (Pv (i + 1))) (hd : ∀ H, Pv n H → Qd H) :
    ∃ W : Nat → Nat → Hp → Prop, (∃ m, W 0 m H0) ∧ ∀ i m H, W i m H → (J.stop i H ∧ Qd H) ∨ (J.go i H ∧ ∃ Nx : Hp → Prop, (∀ H', Nx H' → ∃ m', m' < m ∧ W (i + 1) m' H') ∧ ∀ x H', J.yld i H x H' → Body x H' Nx) := by
  refine ⟨fun i m H => m = n - i ∧ i ≤ n ∧ Pv i H, ⟨n, by simp, Nat.zero_le _, h0⟩, ?_⟩
  rintro i m H ⟨rfl, hi, p⟩
  have q := hG i H hi p
  by_cases hlt : i < n
  · exact .inr ⟨w.goes i H hlt q, Pv (i + 1), fun H' p' => ⟨n - (i + 1), by omega, rfl, hlt, p'⟩, fun x H' y => hs i x H H' hlt p (w.yields i H x H' hlt q y)⟩
  · have e : i = n := by omega
    subst e
    exact .inl ⟨w.stops H q, hd H p⟩
def lcIn (body : D → (Option D → Prop) → Prop) : List D → List D → (List D → Prop) → Prop
  | [], acc, k => k acc
  | d :: ds, acc, k => body d fun o => match o with
    | some y => acc.length < 1000000 ∧ lcIn body ds (acc ++ [y]) k
    | none => lcIn body ds acc k
def lcOut (turn : D → List D → (List D → Prop) → Prop) : List D → List D → (List D → Prop) → Prop
  | [], acc, k => k acc
  | d :: ds, acc, k => turn d acc fun acc' => lcOut turn ds acc' k
abbrev TgF := D → List A → (List A → Prop) → Prop
def lcTurn (f1 : TgF) (ft : FnE Bool) (fi1 : FnE (List D)) (f11 : TgF) (ft1 : FnE Bool) (fe : FnE D) (vs1 : List Nat) (env : List A) : D → List D → (List D → Prop) → Prop := fun d acc k => f1 d env fun env2 => ft env2 (fun v env3 => if v = true then fi1 env3 (fun items1 env4 => lcIn (lcBody f11 ft1 fe (blk0A env4 vs1)) items1 acc k) X0A else k acc) X0A
def eLc2 (fi : FnE (List D)) (f1 : TgF) (ft : FnE Bool) (fi1 : FnE (List D)) (f11 : TgF) (ft1 : FnE Bool) (fe : FnE D) (vs vs1 : List Nat) : FnE (List D) := fun env φ ψ => fi env (fun items env1 => lcOut (lcTurn f1 ft fi1 f11 ft1 fe vs1 (blkA env1 vs)) items [] fun l => φ l env1) ψ
/-- what the data say, taken as a reading -/
def wAbsO (f : FnE (List D)) : WE := fun cenv R Φ Ψ => ∃ b R0 ps env φ ψ, Rel b R0 ps env cenv R ∧ f env φ ψ ∧ XOk b R0 ps cenv ψ Ψ ∧ ∀ ds p env' R', Rel b R0 ps env' cenv R' → φ ds env' → Φ (.adr p) (.lst p ds :: R')
theorem det_absO (f : FnE (List D)) : DetO (wAbsO f) f := fun b R0 ps env cenv R φ ψ Φ Ψ r z x q => ⟨b, R0, ps, env, φ, ψ, r, z, x, q⟩
theorem drop_cons {items : List D} {i : Nat} {d : D} (hd : items[i]? = some d) : items.drop i = d :: items.drop (i + 1) := by
  rw [List.drop_eq_getElem_cons (lt_of_get hd)]
  congr 1
  rw [List.getElem?_eq_getElem (lt_of_get hd)] at hd
  exact Option.some.inj hd
theorem wipe_wipe {σ : L2.St} {vs ws : List Nat} (h : ∀ v ∈ vs, v ∈ ws) : L2.wipe (L2.wipe σ vs) ws = L2.wipe σ ws := by
  have gen : ∀ (vs ws : List Nat) (τ : L2.St), (∀ v ∈ vs, v ∈ ws) → L2.wipe (L2.wipe τ vs) ws = L2.wipe τ ws := by
    intro vs
    induction vs with
    | nil => intro ws τ _; rfl
    | cons v vs ih =>
      intro ws τ h
      show L2.wipe ((L2.wipe τ vs).set v none) ws = _
      rw [wipe_set (h v List.mem_cons_self)]
      exact ih ws τ fun x hx => h x (List.mem_cons_of_mem _ hx)
  exact gen _ _ _ h
section
variable {X : Cx} {W : WX} {elt tg iter tg1 iter1 : Expr} {ifs ifs1 : List Expr} {scope : Scope} {own : List (Str × Nat)} {vs1 : List Nat} {pos : Pos} {wi wi1 : TI} {g g1 : TG} {tt tt1 : TT} {te : TE} {w w1 : WI} {wg wg1 : WG} {wt wt1 : WT} {we : WE} {fi fi1 : FnE (List D)} {f1 f11 : TgF} {ft ft1 : FnE Bool} {fe : FnE D}
theorem f_lc2 (own : List (Str × Nat)) (vs1 : List Nat) (hc : X.calm = true) (hN : X.N.Nodup) (gw : GW g (own.map (·.2))) (gw1 : GW g1 vs1) (hv : ∀ i ∈ vs1, i ∈ own.map (·.2)) (hi : FI X W tg iter wi w fi) (ok : BlkOk X.N X.env.scope scope own)
    (hg : ∀ (s : Shared) (H : Hp) (C : Addr) (cl : List (Str × Addr)) (fp : List Addr), FG (X.blk s H scope (compEnvC scope cl C X.env) fp) tg g wg f1) (ht : ∀ (s : Shared) (H : Hp) (C : Addr) (cl : List (Str × Addr)) (fp : List Addr), FTs (X.blk s H scope (compEnvC scope cl C X.env) fp) W0 ifs tt wt ft)
    (hi1 : ∀ (s : Shared) (H : Hp) (C : Addr) (cl : List (Str × Addr)) (fp : List Addr), FI (X.blk s H scope (compEnvC scope cl C X.env) fp) W0 tg1 iter1 wi1 w1 fi1)
    (hg1 : ∀ (s : Shared) (H : Hp) (C : Addr) (cl : List (Str × Addr)) (fp : List Addr), FG (X.blk s H scope (compEnvC scope cl C X.env) fp) tg1 g1 wg1 f11) (ht1 : ∀ (s : Shared) (H : Hp) (C : Addr) (cl : List (Str × Addr)) (fp : List Addr), FTs (X.blk s H scope (compEnvC scope cl C X.env) fp) W0 ifs1 tt1 wt1 ft1)
    (he : ∀ (s : Shared) (H : Hp) (C : Addr) (cl : List (Str × Addr)) (fp : List Addr), FE (X.blk s H scope (compEnvC scope cl C X.env) fp) W0 elt te we fe) (hs : ∀ x, foldedSetIterable iter X.env x = pure x := by intro _; rfl) (hs1 : ∀ env x, foldedSetIterable iter1 env x = pure x := by intro _ _; rfl) :
    FO X W (.ListComp elt [⟨tg, iter, ifs, 0⟩, ⟨tg1, iter1, ifs1, 0⟩] scope pos) (tLc2 wi g tt wi1 g1 tt1 te (own.map (·.2)) vs1) (wAbsO (eLc2 fi f1 ft fi1 f11 ft1 fe (own.map (·.2)) vs1)) (eLc2 fi f1 ft fi1 f11 ft1 fe (own.map (·.2)) vs1) := by
  refine ⟨⟨pe_lc2 hc hN hi.d.p ok hv (fun s H C cl fp => (hg s H C cl fp).d.p) (fun s H C cl fp => (ht s H C cl fp).d.p) (fun s H C cl fp => (hi1 s H C cl fp).d.p) (fun s H C cl fp => (hg1 s H C cl fp).d.p) (fun s H C cl fp => (ht1 s H C cl fp).d.p) (fun s H C cl fp => (he s H C cl fp).d.p) hs hs1, ?_⟩, det_absO _⟩
  have Hg := hg X.s_0 X.H_0 0 [] []
  have Ht := ht X.s_0 X.H_0 0 [] []
  have Hi1 := hi1 X.s_0 X.H_0 0 [] []
  have Hg1 := hg1 X.s_0 X.H_0 0 [] []
  have Ht1 := ht1 X.s_0 X.H_0 0 [] []
  have He := he X.s_0 X.H_0 0 [] []
  intro B cenv R Φ Ψ acc ww σ F H s Q k
  obtain ⟨b, R0, ps, env, φ, ψ, r, z, x, kk⟩ := ww
  refine hi.d.v B cenv R (fun items R1 => ∃ env1, Rel b R0 ps env1 cenv R1 ∧ lcOut (lcTurn f1 ft fi1 f11 ft1 fe vs1 (blkA env1 (own.map (·.2)))) items [] fun l => φ l env1) Ψ acc (hi.t b R0 ps env cenv R _ ψ _ Ψ r z x fun items env1 R1 r1 z1 => ⟨env1, r1, z1⟩) σ F H s _ fun items R1 F1 H1 J φ1 s1 x1 wd => ?_
  obtain ⟨env1, r1, z1⟩ := φ1
  obtain ⟨Gd, Yd, wk, hGd, hYd⟩ := wd.ex
  have b1 := s1.fin
  have sB : S X.K ⟨F1, H1, R1⟩ cenv R1 σ F1 H1 := ⟨.same b1.fh b1.rk, s1.en⟩
  intro Dl hD
  have s0 : S X.K ⟨F1, H1, R1⟩ cenv (.lst Dl [] :: R1) σ F1 (upd H1 Dl (.lst [])) := sB.newL hD repL_nil
  refine loop_it wk (Body := fun y H' Nx => g y (L2.wipe σ (own.map (·.2))) H' fun σ2 H2 => L2.wipe σ2 (own.map (·.2)) = L2.wipe σ (own.map (·.2)) ∧ tt σ2 H2 fun v H3 =>
    if v = true then wi1 σ2 H3 fun J1 H4 => ∃ W1 : Nat → Nat → Hp → Prop, (∃ m, W1 0 m H4) ∧ ∀ j k H, W1 j k H →
      (J1.stop j H ∧ Nx H) ∨ (J1.go j H ∧ ∃ Nx1 : Hp → Prop, (∀ H', Nx1 H' → ∃ k', k' < k ∧ W1 (j + 1) k' H') ∧ ∀ y H', J1.yld j H y H' → g1 y (L2.wipe σ2 vs1) H' fun σ3 H5 => L2.wipe σ3 vs1 = L2.wipe σ2 vs1 ∧ tt1 σ3 H5 fun v H6 =>
        if v = true then te σ3 H6 fun y H7 => ∃ ac, H7 Dl = some (.lst ac) ∧ ac.length < sizeLine ∧ Nx1 (upd H7 Dl (.lst (ac ++ [y]))) else Nx1 H6)
    else Nx H3)
    (fun i H' => ∃ ac R' F', Rel b R0 ps env1 cenv R' ∧ lcOut (lcTurn f1 ft fi1 f11 ft1 fe vs1 (blkA env1 (own.map (·.2)))) (items.drop i) ac (fun l => φ l env1) ∧ S X.K ⟨F1, H1, R1⟩ cenv (.lst Dl ac :: R') σ F' H')
    ⟨[], R1, F1, r1, z1, s0⟩ (fun i H' _ ⟨ac, R', F', _, _, s'⟩ => hGd H' (s'.fin.ff.tr s'.fin.fh)) ?_ ?_
  · rintro i v H' H2 hlt ⟨ac, R', F', r', z', s'⟩ y
    obtain ⟨d, gd, hd⟩ := hYd i H' v H2 hlt (s'.fin.ff.tr s'.fin.fh) y
    obtain ⟨F2, s2, x2, ev⟩ := s'.yield s'.fin.ff hd
    rw [drop_cons gd] at z'
    have sw : S X.K ⟨F1, H1, R1⟩ (wipeE cenv (own.map (·.2))) (.lst Dl ac :: R') (L2.wipe σ (own.map (·.2))) F2 H2 := ⟨s2.fin, s2.en.wipe _⟩
    have back : ∀ {env3 : List En} {R3 : List Res} {σ3 : L2.St} {F3 H3 : Hp}, Ex F2 F3 → S X.K ⟨F1, H1, R1⟩ env3 R3 σ3 F3 H3 → S X.K ⟨F1, H1, R1⟩ cenv R3 σ F3 H3 := fun x s3 => ⟨s3.fin, s2.en.up x⟩
    have key := Hg.d.v _ _ _ _ F2 H2 (.val d) v (fun ce2 R2 => ∃ env2, Rel b (.lst Dl ac :: (resAt ps 0 env1 ++ R0)) ps env2 ce2 R2 ∧ ft env2 (fun v env3 => if v = true then fi1 env3 (fun items1 env4 => lcIn (lcBody f11 ft1 fe (blk0A env4 vs1)) items1 ac fun ac' => lcOut (lcTurn f1 ft fi1 f11 ft1 fe vs1 (blkA env1 (own.map (·.2)))) (items.drop (i + 1)) ac' fun l => φ l env1) X0A else lcOut (lcTurn f1 ft fi1 f11 ft1 fe vs1 (blkA env1 (own.map (·.2)))) (items.drop (i + 1)) ac fun l => φ l env1) X0A) (fun σ2 H3 => tt σ2 H3 fun v H4 =>
      if v = true then wi1 σ2 H4 fun J1 H4 => ∃ W1 : Nat → Nat → Hp → Prop, (∃ m, W1 0 m H4) ∧ ∀ j k H, W1 j k H →
        (J1.stop j H ∧ (∃ ac R' F', Rel b R0 ps env1 cenv R' ∧ lcOut (lcTurn f1 ft fi1 f11 ft1 fe vs1 (blkA env1 (own.map (·.2)))) (items.drop (i + 1)) ac (fun l => φ l env1) ∧ S X.K ⟨F1, H1, R1⟩ cenv (.lst Dl ac :: R') σ F' H)) ∨ (J1.go j H ∧ ∃ Nx1 : Hp → Prop, (∀ H', Nx1 H' → ∃ k', k' < k ∧ W1 (j + 1) k' H') ∧ ∀ y H', J1.yld j H y H' → g1 y (L2.wipe σ2 vs1) H' fun σ3 H5 => L2.wipe σ3 vs1 = L2.wipe σ2 vs1 ∧ tt1 σ3 H5 fun v H6 =>
          if v = true then te σ3 H6 fun y H7 => ∃ ac, H7 Dl = some (.lst ac) ∧ ac.length < sizeLine ∧ Nx1 (upd H7 Dl (.lst (ac ++ [y]))) else Nx1 H6)
      else ∃ ac R' F', Rel b R0 ps env1 cenv R' ∧ lcOut (lcTurn f1 ft fi1 f11 ft1 fe vs1 (blkA env1 (own.map (·.2)))) (items.drop (i + 1)) ac (fun l => φ l env1) ∧ S X.K ⟨F1, H1, R1⟩ cenv (.lst Dl ac :: R') σ F' H4) sw ev (Hg.t b _ ps _ _ _ d _ _ (rel_blk r' _ (.lst Dl ac)) z' fun env2 ce2 R2 r2 z2 => ⟨env2, r2, z2⟩) fun ce2 R2 σ2 F3 H3 φ3 s3 x3 => ?_
    · have key2 := gw _ _ _ _ key
      rw [wipe_wipe fun _ h => h] at key2
      exact key2
    obtain ⟨env2, r2, z2⟩ := φ3
    refine Ht.d.v _ ce2 R2 (fun v R3 => ∃ env3, Rel b (.lst Dl ac :: (resAt ps 0 env1 ++ R0)) ps env3 ce2 R3 ∧ if v = true then fi1 env3 (fun items1 env4 => lcIn (lcBody f11 ft1 fe (blk0A env4 vs1)) items1 ac fun ac' => lcOut (lcTurn f1 ft fi1 f11 ft1 fe vs1 (blkA env1 (own.map (·.2)))) (items.drop (i + 1)) ac' fun l => φ l env1) X0A else lcOut (lcTurn f1 ft fi1 f11 ft1 fe vs1 (blkA env1 (own.map (·.2)))) (items.drop (i + 1)) ac fun l => φ l env1) X0 acc0 (Ht.t b _ ps env2 ce2 R2 _ X0A _ X0 r2 z2 (fun er env' R' r z => False.elim z) fun v env3 R3 r3 z3 => ⟨env3, r3, z3⟩) σ2 F3 H3 s3 _ fun v R3 F4 H4 φ4 s4 x4 => ?_
    obtain ⟨env3, r3, z3⟩ := φ4
    cases v with
    | false =>
      rw [if_neg (fun h => nomatch h)] at z3 ⊢
      exact ⟨ac, _, F4, rel_back r', z3, back (x3.tr x4) (s4.sub r3.base)⟩
    | true =>
      rw [if_pos rfl] at z3 ⊢
      refine Hi1.d.v _ ce2 R3 (fun items1 R4 => ∃ env4, Rel b (.lst Dl ac :: (resAt ps 0 env1 ++ R0)) ps env4 ce2 R4 ∧ lcIn (lcBody f11 ft1 fe (blk0A env4 vs1)) items1 ac fun ac' => lcOut (lcTurn f1 ft fi1 f11 ft1 fe vs1 (blkA env1 (own.map (·.2)))) (items.drop (i + 1)) ac' fun l => φ l env1) X0 acc0 (Hi1.t b _ ps env3 ce2 R3 _ X0A _ X0 r3 z3 (fun er env' R' r z => False.elim z) fun items1 env4 R4 r4 z4 => ⟨env4, r4, z4⟩) σ2 F4 H4 s4 _ fun items1 R4 F5 H5 J1 φ5 s5 x5 wd1 => ?_
      obtain ⟨env4, r4, z4⟩ := φ5
      obtain ⟨G1, Y1, wk1, hG1, hY1⟩ := wd1.ex
      have s5' : S X.K ⟨F1, H1, R1⟩ ce2 (.lst Dl ac :: (resAt ps 0 env1 ++ R0)) σ2 F5 H5 := s5.sub r4.base
      have rel5 : ∀ ac5 : List D, Rel b (.lst Dl ac5 :: (resAt ps 0 env1 ++ R0)) ps (blk0A env4 vs1) (wipeE ce2 vs1) (.lst Dl ac5 :: (resAt ps 0 env1 ++ R0)) := fun ac5 => by
        refine rel_wipe ⟨ce_hide0 r4.ce, ?_, fun m => ?_, sw_hide0⟩ vs1
        · rw [res_hide0, List.nil_append]
          exact SubR.refl _
        · obtain ⟨l, hl⟩ := r4.bg (bag_hide0 m)
          rcases List.mem_cons.mp hl with hl | hl
          · exact nomatch hl
          · exact ⟨l, List.mem_cons_of_mem _ hl⟩
      refine loop_it wk1 (Body := fun y H' Nx1 => g1 y (L2.wipe σ2 vs1) H' fun σ3 H5 => L2.wipe σ3 vs1 = L2.wipe σ2 vs1 ∧ tt1 σ3 H5 fun v H6 =>
          if v = true then te σ3 H6 fun y H7 => ∃ ac, H7 Dl = some (.lst ac) ∧ ac.length < sizeLine ∧ Nx1 (upd H7 Dl (.lst (ac ++ [y]))) else Nx1 H6)
        (fun j H' => ∃ ac5 F', Ex F5 F' ∧ lcIn (lcBody f11 ft1 fe (blk0A env4 vs1)) (items1.drop j) ac5 (fun ac' => lcOut (lcTurn f1 ft fi1 f11 ft1 fe vs1 (blkA env1 (own.map (·.2)))) (items.drop (i + 1)) ac' fun l => φ l env1) ∧ S X.K ⟨F1, H1, R1⟩ ce2 (.lst Dl ac5 :: (resAt ps 0 env1 ++ R0)) σ2 F' H')
        ⟨ac, F5, Ex.rfl, z4, s5'⟩ (fun j H' _ ⟨ac5, F', xf, _, s'⟩ => hG1 H' (xf.tr s'.fin.fh)) ?_ ?_
      · rintro j v6 H6 H7 hlt6 ⟨ac5, F6, xf6, z6, s6⟩ y6
        obtain ⟨d6, gd6, hd6⟩ := hY1 j H6 v6 H7 hlt6 (xf6.tr s6.fin.fh) y6
        obtain ⟨F7, s7, x7, ev7⟩ := s6.yield xf6 hd6
        rw [drop_cons gd6] at z6
        have sw7 : S X.K ⟨F1, H1, R1⟩ (wipeE ce2 vs1) (.lst Dl ac5 :: (resAt ps 0 env1 ++ R0)) (L2.wipe σ2 vs1) F7 H7 := ⟨s7.fin, s7.en.wipe _⟩
        have back7 : ∀ {env3 : List En} {R3 : List Res} {σ3 : L2.St} {F3 H3 : Hp}, Ex F7 F3 → S X.K ⟨F1, H1, R1⟩ env3 R3 σ3 F3 H3 → S X.K ⟨F1, H1, R1⟩ ce2 R3 σ2 F3 H3 := fun x s3 => ⟨s3.fin, s7.en.up x⟩
        have key := Hg1.d.v _ _ _ _ F7 H7 (.val d6) v6 (fun ce3 R8 => ∃ env5, Rel b (.lst Dl ac5 :: (resAt ps 0 env1 ++ R0)) ps env5 ce3 R8 ∧ ft1 env5 (fun v env6 => if v = true then fe env6 (fun y _ => ac5.length < 1000000 ∧ lcIn (lcBody f11 ft1 fe (blk0A env4 vs1)) (items1.drop (j + 1)) (ac5 ++ [y]) (fun ac' => lcOut (lcTurn f1 ft fi1 f11 ft1 fe vs1 (blkA env1 (own.map (·.2)))) (items.drop (i + 1)) ac' fun l => φ l env1)) X0A
            else lcIn (lcBody f11 ft1 fe (blk0A env4 vs1)) (items1.drop (j + 1)) ac5 (fun ac' => lcOut (lcTurn f1 ft fi1 f11 ft1 fe vs1 (blkA env1 (own.map (·.2)))) (items.drop (i + 1)) ac' fun l => φ l env1)) X0A)
          (fun σ3 H8 => tt1 σ3 H8 fun v H9 => if v = true then te σ3 H9 fun y H10 => ∃ ac, H10 Dl = some (.lst ac) ∧ ac.length < sizeLine ∧ (∃ ac5 F', Ex F5 F' ∧ lcIn (lcBody f11 ft1 fe (blk0A env4 vs1)) (items1.drop (j + 1)) ac5 (fun ac' => lcOut (lcTurn f1 ft fi1 f11 ft1 fe vs1 (blkA env1 (own.map (·.2)))) (items.drop (i + 1)) ac' fun l => φ l env1) ∧ S X.K ⟨F1, H1, R1⟩ ce2 (.lst Dl ac5 :: (resAt ps 0 env1 ++ R0)) σ2 F' (upd H10 Dl (.lst (ac ++ [y]))))
            else ∃ ac5 F', Ex F5 F' ∧ lcIn (lcBody f11 ft1 fe (blk0A env4 vs1)) (items1.drop (j + 1)) ac5 (fun ac' => lcOut (lcTurn f1 ft fi1 f11 ft1 fe vs1 (blkA env1 (own.map (·.2)))) (items.drop (i + 1)) ac' fun l => φ l env1) ∧ S X.K ⟨F1, H1, R1⟩ ce2 (.lst Dl ac5 :: (resAt ps 0 env1 ++ R0)) σ2 F' H9)
          sw7 ev7 (Hg1.t b _ ps _ _ _ d6 _ _ (rel5 ac5) z6 fun env5 ce3 R8 r8 z8 => ⟨env5, r8, z8⟩) fun ce3 R8 σ3 F8 H8 φ8 s8 x8 => ?_
        · have key2 := gw1 _ _ _ _ key
          rw [wipe_wipe fun _ h => h] at key2
          exact key2
        obtain ⟨env5, r8, z8⟩ := φ8
        refine Ht1.d.v _ ce3 R8 (fun v R9 => ∃ env6, Rel b (.lst Dl ac5 :: (resAt ps 0 env1 ++ R0)) ps env6 ce3 R9 ∧ if v = true then fe env6 (fun y _ => ac5.length < 1000000 ∧ lcIn (lcBody f11 ft1 fe (blk0A env4 vs1)) (items1.drop (j + 1)) (ac5 ++ [y]) (fun ac' => lcOut (lcTurn f1 ft fi1 f11 ft1 fe vs1 (blkA env1 (own.map (·.2)))) (items.drop (i + 1)) ac' fun l => φ l env1)) X0A
            else lcIn (lcBody f11 ft1 fe (blk0A env4 vs1)) (items1.drop (j + 1)) ac5 (fun ac' => lcOut (lcTurn f1 ft fi1 f11 ft1 fe vs1 (blkA env1 (own.map (·.2)))) (items.drop (i + 1)) ac' fun l => φ l env1)) X0 acc0 (Ht1.t b _ ps env5 ce3 R8 _ X0A _ X0 r8 z8 (fun er env' R' r z => False.elim z) fun v env6 R9 r9 z9 => ⟨env6, r9, z9⟩) σ3 F8 H8 s8 _ fun v R9 F9 H9 φ9 s9 x9 => ?_
        obtain ⟨env6, r9, z9⟩ := φ9
        cases v with
        | false =>
          rw [if_neg (fun h => nomatch h)] at z9 ⊢
          exact ⟨ac5, F9, ((xf6.tr x7).tr x8).tr x9, z9, back7 (x8.tr x9) (s9.sub r9.base)⟩
        | true =>
          rw [if_pos rfl] at z9 ⊢
          refine He.d.v _ ce3 R9 (fun o R10 => ∃ y, o = .val y ∧ SubR (.lst Dl ac5 :: (resAt ps 0 env1 ++ R0)) R10 ∧ ac5.length < 1000000 ∧ lcIn (lcBody f11 ft1 fe (blk0A env4 vs1)) (items1.drop (j + 1)) (ac5 ++ [y]) (fun ac' => lcOut (lcTurn f1 ft fi1 f11 ft1 fe vs1 (blkA env1 (own.map (·.2)))) (items.drop (i + 1)) ac' fun l => φ l env1)) X0 acc0 (He.t b _ ps env6 ce3 R9 _ X0A _ X0 r9 z9 (fun er env' R' r z => False.elim z) fun y env7 R10 r10 z10 => ⟨y, rfl, r10.base, z10.1, z10.2⟩) σ3 F9 H9 s9 _ fun o R10 u F10 H10 φ10 s10 x10 e10 => ?_
          obtain ⟨y, rfl, su, ln, z10⟩ := φ10
          have s11 := back7 ((x8.tr x9).tr x10) (s10.sub su)
          obtain ⟨us, hu, rl⟩ := s11.own (k := 0) rfl
          refine ⟨us, hu, by rw [rl.len]; exact Nat.lt_of_lt_of_le ln (by decide), ac5 ++ [y], F10, (((xf6.tr x7).tr x8).tr x9).tr x10, z10, ?_⟩
          exact s11.mutL (k := 0) rfl (rl.app (repL_cons (en_val e10) repL_nil))
      · rintro H6 ⟨ac5, F6, xf6, z6, s6⟩
        rw [List.drop_length] at z6
        exact ⟨ac5, _, F6, rel_back r', z6, back ((x3.tr x4).tr (x5.tr xf6)) s6⟩
  · rintro H' ⟨ac, R', F', r', z', s'⟩
    rw [List.drop_length] at z'
    exact k _ _ _ F' H' (kk ac Dl env1 R' r' z') (b1.base s') (x1.tr s'.fin.ff) rfl
end
end Tl
end
section
set_option maxHeartbeats 1000000
namespace Tl
open PySem PySem.Spec PyProof.Rows L2
section
variable {X : Cx} {W : WX} {K : PySem.W.Frag} {e : Expr} {te : TE} {we : WE} {p pos : Pos} {fe : FnE D} {sts : List Stmt}
theorem fss_never : FSs X W sts tNever sNever hNever := ⟨ss_never, fun b R0 ps env cenv R P ψ P' Ψ r z x q => False.elim z⟩
def kSortS : KC := fun os R Φ => match os with
  | [o] => ∃ xs : List Str, LsAt R o (xs.map D.str) ∧ xs.length < 64 ∧ ∀ ys p, ys.Perm xs → sortedS ys = true → Φ (.adr p) (.lst p (ys.map D.str) :: R)
  | _ => False
theorem c_sortS (K : PySem.W.Frag) (hk : X.K = K) : DCall X (.builtin "sorted") (rSortedS K) kSortS := by
  subst hk
  exact ⟨cr_sortedS, fun B env R σ F H os vs Φ Q s eo φ q => by
    unfold kSortS at φ
    split at φ
    · obtain ⟨xs, l, h64, φ⟩ := φ
      obtain ⟨v, rfl, ev⟩ := ens1 eo
      obtain ⟨a, us, rfl, ha, rl⟩ := l.get s ev
      rw [of_repL_strs rl] at ha
      exact ⟨a, xs, rfl, SqL.of ha, h64, fun ys p pm so hp => q _ _ _ F _ (φ ys p pm so) (s.newL hp (repL_strs ys)) Ex.rfl rfl⟩
    · exact False.elim φ⟩
def eSortS (fe : FnE D) : FnE (List D) := fun env φ ψ => fe env (fun d env1 => match d with
  | .lst ds => (match strsD ds with | some xs => xs.length < 64 ∧ ∀ ys, ys.Perm xs → sortedS ys = true → φ (ys.map D.str) env1 | none => False)
  | _ => False) ψ
theorem f_sortS (K : PySem.W.Frag) (hm : X.mg "sorted" = none) (h : FR X W e te we fe) (hk : X.K = K := by rfl) (hg : Gl X "sorted" := by rfl)
    (he : starEach (e :: []) X.env = (false, eval e X.env) :: starEach [] X.env := by rfl) (hpl : (backTo pos (starEach [] X.env)).any (·.1) = false := by rfl) : FO X W (.Call (.Name "sorted" p) [e] [] pos) (tCB (rSortedS K) (tCons te tNil)) (wCB (aCons we aNil) kSortS) (eSortS fe) :=
  ⟨d_callB (c_sortS K hk) hm boot_sorted (a_cons h.d a_nil he) hg (by decide) (by decide) he hpl, fun b R0 ps env cenv R φ ψ Φ Ψ r z x q =>
  h.t b R0 ps env cenv R _ ψ _ Ψ r z x fun d o env1 R1 r1 rd z1 => by
    split at z1
    · split at z1
      · rename_i xs e2
        have e3 := strsD_ok e2
        subst e3
        exact ⟨xs, ls_rd rd, z1.1, fun ys p pm so => q _ p env1 R1 r1 (z1.2 ys pm so)⟩
      · exact False.elim z1
    · exact False.elim z1⟩
end
/-- errs: the classes of errors of the text, none under another one -/
def emC (errs : List Str) (c : Str) : Str → Option Bool := fun y => if y ∈ errs then some (decide (y = c)) else none
theorem emB_ok {K : PySem.W.Frag} {errs : List Str} (h : emB K errs = true) (c : Str) (hc : c ∈ errs) : ∀ y v, emC errs c y = some v → PySem.W.exmOne K (.ref (He.ga K y)) (.ref (He.ga K c)) = some v := fun y v e => by
  unfold emB at h
  simp only [List.all_eq_true, decide_eq_true_eq] at h
  unfold emC at e
  split at e
  · rename_i m
    rw [h y m c hc]
    exact e
  · cases e
end Tl
end
namespace Tl
open PySem PySem.Spec PyProof.Rows L2
end Tl
namespace Tl
open PySem PySem.Spec PyProof.Rows L2
section
variable {X : Cx} {W : WX} {c : Expr} {body : List Stmt} {tc : TT} {wt : WT} {tb : TS} {ws : WS} {pos : Pos} {ft : FnE Bool} {f : FnS}
def sWhile (wt : WT) (ws : WS) : WS := fun env R P Ψ => ∃ I : Nat → List En → List Res → Prop, (∃ m, I m env R) ∧ ∀ m env R, I m env R → wt env R (fun k R1 => if k = true then ws env R1 { P with nx := fun e r => ∃ m', m' < m ∧ I m' e r, ct := fun e r => ∃ m', m' < m ∧ I m' e r, bk := P.nx } Ψ else P.nx env R1) Ψ
theorem s_while (tk : Tk X W) (hc : DT X W c tc wt) (hb : DSs X W body tb ws) : DS X W (.While c body [] pos) (tWhile tc tb) (sWhile wt ws) := ⟨ps_while tk.own hc.p hb.p, fun B env R P Ψ acc z σ F H E s k => by
  obtain ⟨I, ⟨m0, i0⟩, turn⟩ := z
  refine ⟨fun m σ' H' => ∃ env' R' F', I m env' R' ∧ S X.K B env' R' σ' F' H', ⟨m0, env, R, F, i0, s⟩, ?_⟩
  rintro m σ' H' ⟨env', R', F', hI, s'⟩
  refine hc.v B env' R' _ Ψ acc (turn m env' R' hI) σ' F' H' s' _ fun b R1 F1 H1 φ s1 x1 => ?_
  cases b with
  | true =>
    refine ⟨fun σ2 H2 => ∃ m', m' < m ∧ ∃ env2 R2 F2, I m' env2 R2 ∧ S X.K B env2 R2 σ2 F2 H2, fun _ _ h => h, ?_⟩
    exact hb.v B env' R1 _ Ψ acc φ σ' F1 H1 _ s1 ⟨fun env4 R4 σ4 F4 H4 ⟨m', hm, φ4⟩ s4 => ⟨m', hm, env4, R4, F4, φ4, s4⟩, fun o R4 v4 F4 H4 φ4 f4 e4 => k.rt o R4 v4 F4 H4 φ4 f4 e4, fun env4 R4 σ4 F4 H4 φ4 s4 => k.nx env4 R4 σ4 F4 H4 φ4 s4, fun env4 R4 σ4 F4 H4 ⟨m', hm, φ4⟩ s4 => ⟨m', hm, env4, R4, F4, φ4, s4⟩⟩
  | false => exact k.nx env' R1 σ' F1 H1 φ s1⟩
/-- while, by the number of turns -/
def whileA (t : FnE Bool) (body : FnS) : Nat → FnS
  | 0 => fun _ _ _ => False
  | n + 1 => fun env P ψ => t env (fun k env' => if k = true then body env' { P with nx := fun e => whileA t body n e P ψ, ct := fun e => whileA t body n e P ψ, bk := P.nx } ψ else P.nx env') ψ
def hWhile (t : FnE Bool) (body : FnS) : FnS := fun env P ψ => ∃ n, whileA t body n env P ψ
theorem fs_while (tk : Tk X W) (hc : FT X W c tc wt ft) (hb : FSs X W body tb ws f) : FS' X W (.While c body [] pos) (tWhile tc tb) (sWhile wt ws) (hWhile ft f) :=
  ⟨s_while tk hc.d hb.d, fun b R0 ps env cenv R P ψ P' Ψ r z x k => by
    obtain ⟨n, z⟩ := z
    refine ⟨fun m ce R' => ∃ ps' env', Rel b R0 ps' env' ce R' ∧ whileA ft f m env' P ψ, ⟨n, ps, env, r, z⟩, ?_⟩
    rintro m ce R' ⟨ps', env', r', z'⟩
    cases m with
    | zero => exact False.elim z'
    | succ m =>
      refine hc.t b R0 ps' env' ce R' _ ψ _ Ψ r' z' (x.at_ ps' ce) fun v env2 R2 r2 z2 => ?_
      cases v with
      | true => exact hb.t b R0 ps' env2 ce R2 _ ψ _ Ψ r2 z2 x ⟨fun ps3 env3 ce3 R3 r3 z3 => ⟨m, Nat.lt_succ_self m, ps3, env3, r3, z3⟩, k.rt, fun ps3 env3 ce3 R3 r3 z3 => k.nx ps3 env3 ce3 R3 r3 z3, fun ps3 env3 ce3 R3 r3 z3 => ⟨m, Nat.lt_succ_self m, ps3, env3, r3, z3⟩, k.ro⟩
      | false => exact k.nx ps' env2 ce R2 r2 z2⟩
/-- an invariant and a measure for a while -/
theorem while_inv {t : FnE Bool} {body : FnS} {P : AP} {ψ : XA} (I : Nat → List A → Prop) (turn : ∀ m env (k : List A → Prop), I m env → (∀ e m', m' < m → I m' e → k e) → t env (fun b env' => if b = true then body env' { P with nx := k, ct := k, bk := P.nx } ψ else P.nx env') ψ) :
    ∀ (m : Nat) (env : List A), I m env → hWhile t body env P ψ := fun m => by
  have go : ∀ n m env, m < n → I m env → whileA t body n env P ψ := by
    intro n
    induction n with
    | zero => intro m env h; omega
    | succ n ih => intro m env h hI; exact turn m env _ hI fun e m' hm hI' => ih m' e (by omega) hI'
  exact fun env h => ⟨m + 1, go (m + 1) m env (Nat.lt_succ_self m) h⟩
end
section
variable {X : Cx} {W : WX} {pos : Pos}
theorem Rel.take {b : Addr} {R0 R : List Res} {ps : Nat → A2} {env : List A} {cenv : List En} (h : Rel b R0 ps env cenv R) {i : Nat} {a : A} (e : env[i]? = some a) : Rel b R0 ps (env.set i .no) cenv (resAt ps 0 (env.set i .no) ++ R0) ∧ SubR (a.res (ps i) ++ (resAt ps 0 (env.set i .no) ++ R0)) R := by
  have s := res_split (ps := ps) env 0 i _ e
  rw [Nat.zero_add] at s
  refine ⟨⟨h.ce.no, SubR.refl _, fun m => h.bg (bag_set m (fun z => nomatch z)), sw_set h.sw (fun _ => rfl) ps fun _ _ => rfl⟩, SubR.tr ?_ h.rs⟩
  refine ⟨[], ?_⟩
  rw [List.nil_append, ← List.append_assoc]
  exact s.append_right R0
end
end Tl
namespace Tl
open PySem PySem.Spec PyProof.Rows L2
end Tl
namespace Tl
open PySem PySem.Spec PyProof.Rows L2
def keyD : D → Option Key
  | .int i => some (.inl i)
  | .str z => some (.inr z)
  | _ => none
theorem key_rep {K : PySem.W.Frag} {F : Hp} {d : D} {k : Key} {v : V} (h : keyD d = some k) (r : Rep K F d v) : v = kV k := by
  cases d <;> first | (cases h; done) | skip
  · cases h; exact of_int r
  · cases h; exact of_str r
def ReadsD (R : List Res) (o : En) (kd : List Key × List D) : Prop := o = .val (.dct kd.1 kd.2) ∨ ∃ p, o = .adr p ∧ Res.dct p kd.1 kd.2 ∈ R
def DetD (we : WE) (f : FnE (List Key × List D)) : Prop := ∀ b R0 ps env cenv R φ ψ (Φ : En → List Res → Prop) (Ψ : XP), Rel b R0 ps env cenv R → f env φ ψ → XOk b R0 ps cenv ψ Ψ →
  (∀ kd o env' R', Rel b R0 ps env' cenv R' → ReadsD R' o kd → φ kd env' → Φ o R') → we cenv R Φ Ψ
structure FD (X : Cx) (W : WX) (e : Expr) (te : TE) (we : WE) (f : FnE (List Key × List D)) : Prop where
  d : DE X W e te we
  t : DetD we f
end Tl
namespace Tl
open PySem PySem.Spec PyProof.Rows L2
section
variable {X : Cx} {W : WX} {e a b : Expr} {te ta tb : TE} {we wa wb : WE} {fe fa fb : FnE D} {pos apos cpos p : Pos} {j : Nat} {tg : Expr}
def enumD (ds : List D) : List D := ds.mapIdx fun i d => .tup [.int (i : Nat), d]
theorem walkD_enum {K : PySem.W.Frag} {F : Hp} {a : Addr} {vs : List V} {ds : List D} (h : F a = some (.lst vs)) (r : RepL K F ds vs) : WalkD K F (Ite K a) (enumD ds) := by
  have ln : (enumD ds).length = vs.length := by unfold enumD; rw [List.length_mapIdx, r.len]
  refine ⟨fun H => SqL K H a vs, YPair (fun i => some (.int (i : Nat))) (fun i => vs[i]?), ?_, fun H x => Or.inl (Or.inl (x _ _ h)), fun i H v H' hi x y => ?_⟩
  · rw [ln]; exact walk_enum (xs := vs)
  · obtain ⟨T, u, z, rfl, hT, rfl, e1, e2⟩ := y
    cases e1
    obtain ⟨d, g, rd⟩ := r.get' e2
    refine ⟨.tup [.int (i : Nat), d], ?_, .inr (.inl ⟨T, _, _, rfl, rfl, hT, rfl, repL_cons (rep_int _) (repL_cons rd repL_nil)⟩)⟩
    unfold enumD
    rw [List.getElem?_mapIdx, g]; rfl
def wEnum (w : WE) : WI := fun env R Φ Ψ => w env R (fun o R1 => match o with | .val (.lst ds) => Φ (enumD ds) R1 | _ => False) Ψ
def eEnum (fe : FnE D) : FnE (List D) := fun env φ ψ => fe env (fun d env1 => match d with | .lst ds => φ (enumD ds) env1 | _ => False) ψ
theorem fi_enum {elts : List Expr} {kk : Nat} {tpos : Pos} (hm : X.mg "enumerate" = none) (h : FE X W e te we fe) (hg : Gl X "enumerate" := by rfl) (hs : starEach [e] X.env = [(false, eval e X.env)] := by rfl) : FI X W (.Tuple elts kk tpos) (.Call (.Name "enumerate" p) [e] [] pos) (iEnum X.K (tCons te tNil)) (wEnum we) (eEnum fe) :=
  ⟨⟨pi_enum hg hm (pa_cons h.d.p pa_nil hs) hs, fun B env R Φ Ψ acc w σ F H s Rj q => h.d.v B env R _ Ψ acc w σ F H s _ fun o R1 v F1 H1 φ s1 x1 eo => by
    split at φ
    · rename_i ds
      obtain ⟨a, vs, rfl, fa, rl⟩ := of_lst (en_val eo)
      exact ⟨a, vs, rfl, SqL.of (s1.fin.fh _ _ fa), q _ R1 F1 H1 _ φ s1 x1 (walkD_enum fa rl)⟩
    · exact False.elim φ⟩, fun b R0 ps env cenv R φ ψ Φ Ψ r z x q => h.t b R0 ps env cenv R _ ψ _ Ψ r z x fun d env1 R1 r1 z1 => by
    split at z1
    · exact q _ env1 R1 r1 z1
    · exact False.elim z1⟩
theorem repL_rep {K : PySem.W.Frag} {F : Hp} {ds : List D} {vs : List V} (r : RepL K F ds vs) : ∀ n : Nat, RepL K F (List.replicate n ds).flatten (List.replicate n vs).flatten
  | 0 => repL_nil
  | n + 1 => by rw [List.replicate_succ, List.replicate_succ, List.flatten_cons, List.flatten_cons]; exact r.app (repL_rep r n)
def kRepL : KO := fun x y R Φ => match x, y with
  | .val (.lst ds), .val (.int k) => k < 1000000 ∧ ds.length * k.toNat ≤ sizeLine ∧ -1000000 < k ∧ ∀ p, Φ (.adr p) (.lst p (List.replicate k.toNat ds).flatten :: R)
  | _, _ => False
theorem o_repL : DOp X (binaryOp .Mult) rRep kRepL := ⟨op_rep, fun B env R σ F H x y v u Φ Q s ex ey kk q => by
  unfold kRepL at kk
  split at kk
  · rename_i ds k
    obtain ⟨k1, k2, k3, φ⟩ := kk
    obtain ⟨a, vs, rfl, fa, rl⟩ := of_lst (en_val ex)
    rw [of_int (en_val ey)]
    exact ⟨a, k, vs, rfl, rfl, s.fin.fh _ _ fa, by omega, by omega, by rw [rl.len]; exact k2, fun p hp => q _ _ _ F _ (φ p) (s.newL hp (repL_rep rl _)) Ex.rfl rfl⟩
  · exact False.elim kk⟩
def eRep (fa fb : FnE D) : FnE (List D) := fun env φ ψ => fa env (fun x env1 => fb env1 (fun y env2 => match x, y with
  | .lst ds, .int k => (k < 1000000 ∧ ds.length * k.toNat ≤ sizeLine ∧ -1000000 < k) ∧ φ (List.replicate k.toNat ds).flatten env2
  | _, _ => False) ψ) ψ
theorem f_rep (ha : FE X W a ta wa fa) (hb : FE X W b tb wb fb) : FO X W (.BinOp a .Mult b pos) (tOp rRep ta tb) (w2 wa wb kRepL) (eRep fa fb) := ⟨d_op o_repL ha.d hb.d, fun b R0 ps env cenv R φ ψ Φ Ψ r z x q =>
  ha.t b R0 ps env cenv R _ ψ _ Ψ r z x fun d1 env1 R1 r1 z1 => hb.t b R0 ps env1 cenv R1 _ ψ _ Ψ r1 z1 x fun d2 env2 R2 r2 z2 => by
    split at z2
    · exact ⟨z2.1.1, z2.1.2.1, z2.1.2.2, fun p => q _ p env2 R2 r2 z2.2⟩
    · exact False.elim z2⟩
def kSortI : KC := fun os R Φ => match os with
  | [o] => ∃ ns : List Int, LsAt R o (ns.map D.int) ∧ ∀ (ms : List Int) (p : Addr), ms.Perm ns → ms.Pairwise (· ≤ ·) → Φ (.adr p) (.lst p (ms.map D.int) :: R)
  | _ => False
theorem c_sortI (K : PySem.W.Frag) (hk : X.K = K) : DCall X (.builtin "sorted") (rSortedI K) kSortI := by
  subst hk
  exact ⟨cr_sortedI, fun B env R σ F H os vs Φ Q s eo φ q => by
    unfold kSortI at φ
    split at φ
    · obtain ⟨ns, l, φ⟩ := φ
      obtain ⟨v, rfl, ev⟩ := ens1 eo
      obtain ⟨a, us, rfl, ha, rl⟩ := l.get s ev
      rw [of_repL_ints rl] at ha
      exact ⟨a, ns, rfl, SqL.of ha, fun ms p pm so hp => q _ _ _ F _ (φ ms p pm so) (s.newL hp (repL_ints ms)) Ex.rfl rfl⟩
    · exact False.elim φ⟩
def eSortI (fe : FnE D) : FnE (List D) := fun env φ ψ => fe env (fun d env1 => match d with
  | .lst ds => (match intsD ds with | some ns => ∀ ms : List Int, ms.Perm ns → ms.Pairwise (· ≤ ·) → φ (ms.map D.int) env1 | none => False)
  | _ => False) ψ
theorem f_sortI (K : PySem.W.Frag) (hm : X.mg "sorted" = none) (h : FR X W e te we fe) (hk : X.K = K := by rfl) (hg : Gl X "sorted" := by rfl)
    (he : starEach (e :: []) X.env = (false, eval e X.env) :: starEach [] X.env := by rfl) (hpl : (backTo pos (starEach [] X.env)).any (·.1) = false := by rfl) : FO X W (.Call (.Name "sorted" p) [e] [] pos) (tCB (rSortedI K) (tCons te tNil)) (wCB (aCons we aNil) kSortI) (eSortI fe) :=
  ⟨d_callB (c_sortI K hk) hm boot_sorted (a_cons h.d a_nil he) hg (by decide) (by decide) he hpl, fun b R0 ps env cenv R φ ψ Φ Ψ r z x q =>
  h.t b R0 ps env cenv R _ ψ _ Ψ r z x fun d o env1 R1 r1 rd z1 => by
    split at z1
    · split at z1
      · rename_i ns e2
        have e3 := intsD_ok e2
        subst e3
        exact ⟨ns, ls_rd rd, fun ms p pm so => q _ p env1 R1 r1 (z1 ms pm so)⟩
      · exact False.elim z1
    · exact False.elim z1⟩
def pairD (q : Int × Int) : D := .tup [.int q.1, .int q.2]
def pairsD : List D → Option (List (Int × Int))
  | [] => some []
  | .tup [.int i, .int k] :: r => (pairsD r).map ((i, k) :: ·)
  | _ :: _ => none
theorem pairsD_map : ∀ l : List (Int × Int), pairsD (l.map pairD) = some l
  | [] => rfl
  | (i, k) :: l => by
    show (pairsD (l.map pairD)).map ((i, k) :: ·) = _
    rw [pairsD_map l]; rfl
theorem pairsD_ok : ∀ {ds : List D} {l : List (Int × Int)}, pairsD ds = some l → ds = l.map pairD := by
  intro ds
  induction ds with
  | nil => intro l h; cases h; rfl
  | cons d r ih =>
    intro l h
    unfold pairsD at h
    split at h
    · rename_i h0; cases h0
    · rename_i i k r' h0
      cases h0
      cases q : pairsD r with
      | none => rw [q] at h; cases h
      | some m =>
        rw [q] at h
        cases h
        rw [List.map_cons, ← ih q]; rfl
    · cases h
def keyP (H : Hp) (v : V) : Int × Int := match v with
  | .ref t => (match H t with | some (.tup [.int i, .int k]) => (i, k) | _ => (0, 0))
  | _ => (0, 0)
theorem keyP_rep {K : PySem.W.Frag} {F H : Hp} {q : Int × Int} {v : V} (x : Ex F H) (h : Rep K F (pairD q) v) : keyP H v = q ∧ ∃ t, v = .ref t ∧ H t = some (.tup [.int q.1, .int q.2]) := by
  obtain ⟨a, vs, rfl, fa, rl⟩ := of_tup h
  obtain ⟨v1, r1, rfl, e1, rl⟩ := of_repL_cons rl
  obtain ⟨v2, r2, rfl, e2, rl⟩ := of_repL_cons rl
  rw [of_repL_nil rl, of_int e1, of_int e2] at fa
  have hh := x _ _ fa
  refine ⟨?_, a, rfl, hh⟩
  show (match H a with | some (.tup [.int i, .int k]) => (i, k) | _ => (0, 0)) = q
  rw [hh]
theorem keysP {K : PySem.W.Frag} {F H : Hp} (x : Ex F H) : ∀ {l : List (Int × Int)} {vs : List V}, RepL K F (l.map pairD) vs → vs.map (keyP H) = l ∧ ∀ v ∈ vs, Rep K F (pairD (keyP H v)) v
  | [], vs, r => by rw [of_repL_nil r]; exact ⟨rfl, fun v m => nomatch m⟩
  | q :: l, vs, r => by
    obtain ⟨v, vs, rfl, h, r⟩ := of_repL_cons r
    obtain ⟨i1, i2⟩ := keysP x r
    have k := (keyP_rep x h).1
    refine ⟨by rw [List.map_cons, k, i1], fun u m => ?_⟩
    rcases List.mem_cons.mp m with e | m
    · rw [e, k]; exact h
    · exact i2 u m
theorem repL_of_all {K : PySem.W.Frag} {F : Hp} {f : V → D} : ∀ {vs : List V}, (∀ v ∈ vs, Rep K F (f v) v) → RepL K F (vs.map f) vs
  | [], _ => repL_nil
  | v :: vs, h => repL_cons (h v List.mem_cons_self) (repL_of_all fun u m => h u (List.mem_cons_of_mem _ m))
def kSortP : KC := fun os R Φ => match os with
  | [o] => ∃ l : List (Int × Int), LsAt R o (l.map pairD) ∧ ∀ (m : List (Int × Int)) (p : Addr), m.Perm l → m.Pairwise (fun a b => SrtO.lexB b a = false) → Φ (.adr p) (.lst p (m.map pairD) :: R)
  | _ => False
theorem c_sortP (K : PySem.W.Frag) (hk : X.K = K) : DCall X (.builtin "sorted") (rSortedPO K) kSortP := by
  subst hk
  exact ⟨cr_sortedPO, fun B env R σ F H os vs Φ Q s eo φ q => by
    unfold kSortP at φ
    split at φ
    · obtain ⟨l, la, φ⟩ := φ
      obtain ⟨v, rfl, ev⟩ := ens1 eo
      obtain ⟨a, us, rfl, ha, rl⟩ := la.get s ev
      obtain ⟨k1, k2⟩ := keysP s.fin.fh rl
      refine ⟨a, us, keyP H, rfl, SqL.of ha, fun x m => (keyP_rep s.fin.fh (k2 x m)).2, fun ys p so st hp => ?_⟩
      have pm : (ys.map (keyP H)).Perm l := by rw [← k1]; exact st.perm.map _
      have rp : RepL X.K F ((ys.map (keyP H)).map pairD) ys := by
        rw [List.map_map]
        exact repL_of_all fun u m => k2 u (st.perm.mem_iff.mp m)
      exact q _ _ _ F _ (φ _ p pm (List.pairwise_map.mpr so)) (s.newL hp rp) Ex.rfl rfl
    · exact False.elim φ⟩
def eSortP (fe : FnE D) : FnE (List D) := fun env φ ψ => fe env (fun d env1 => match d with
  | .lst ds => (match pairsD ds with | some l => ∀ m : List (Int × Int), m.Perm l → m.Pairwise (fun a b => SrtO.lexB b a = false) → φ (m.map pairD) env1 | none => False)
  | _ => False) ψ
theorem f_sortP (K : PySem.W.Frag) (hm : X.mg "sorted" = none) (h : FR X W e te we fe) (hk : X.K = K := by rfl) (hg : Gl X "sorted" := by rfl)
    (he : starEach (e :: []) X.env = (false, eval e X.env) :: starEach [] X.env := by rfl) (hpl : (backTo pos (starEach [] X.env)).any (·.1) = false := by rfl) : FO X W (.Call (.Name "sorted" p) [e] [] pos) (tCB (rSortedPO K) (tCons te tNil)) (wCB (aCons we aNil) kSortP) (eSortP fe) :=
  ⟨d_callB (c_sortP K hk) hm boot_sorted (a_cons h.d a_nil he) hg (by decide) (by decide) he hpl, fun b R0 ps env cenv R φ ψ Φ Ψ r z x q =>
  h.t b R0 ps env cenv R _ ψ _ Ψ r z x fun d o env1 R1 r1 rd z1 => by
    split at z1
    · split at z1
      · rename_i ns e2
        have e3 := pairsD_ok e2
        subst e3
        exact ⟨ns, ls_rd rd, fun ms p pm so => q _ p env1 R1 r1 (z1 ms pm so)⟩
      · exact False.elim z1
    · exact False.elim z1⟩
end
end Tl
namespace Tl
open PySem PySem.Spec PyProof.Rows L2
section
variable {P : Program} {w : World} {K : PySem.W.Frag} {mg : Str → Option Value} {base : Heap} {X : Cx} {k j : Nat} {c : Str} {G : Gs}
theorem detk_inA {neg : Bool} : DetK0 (kInO c (fsA G) neg) (gInA c G neg) := fun x y R φ Φ z q => by
  unfold gInA at z
  split at z
  · rename_i c1 n1 d1
    obtain ⟨e1, z⟩ := z
    refine ⟨e1, 0, [.val (.obj c1 n1 d1), .val x], _, _, rfl, two_arg, fun mm => no_bag2 mm, z, fun d hd => ?_, fun er he => he⟩
    cases d with
    | bl v => exact q _ hd
    | _ => exact False.elim hd
  · exact False.elim z
theorem p_inA (cc : Mx P w K mg base k c "__contains__" (fsA G) []) (hr : Room j X.A) (hk : k ≤ j) (hX : Of X P w K mg base := by exact ⟨rfl, rfl, rfl, rfl, rfl⟩) : OC X .In (rInO K c (fsA G) false) (kInO c (fsA G) false) (gInA c G false) := by
  obtain ⟨rfl, rfl, rfl, rfl, rfl⟩ := hX
  exact ⟨o_inO (mono_a G) cc hr hk, detk_inA⟩
theorem p_ninA (cc : Mx P w K mg base k c "__contains__" (fsA G) []) (hr : Room j X.A) (hk : k ≤ j) (hX : Of X P w K mg base := by exact ⟨rfl, rfl, rfl, rfl, rfl⟩) : OC X .NotIn (rInO K c (fsA G) true) (kInO c (fsA G) true) (gInA c G true) := by
  obtain ⟨rfl, rfl, rfl, rfl, rfl⟩ := hX
  exact ⟨o_ninO (mono_a G) cc hr hk, detk_inA⟩
end
end Tl
namespace Tl
open PySem PySem.Spec PyProof.Rows L2
section
variable {K : PySem.W.Frag} {X : Cx} {W : WX} {e : Expr} {te : TE} {we : WE} {fe : FnE D} {pos p : Pos}
def eFldI (cs : List Str) (f : Str) (i : Nat) : FnE D := fun env φ _ => match (env[i]? : Option A) with
  | some (.ins _ c ns ds) => c ∈ cs ∧ (match fldOf f ns ds with | some d => φ d env | none => False)
  | _ => False
theorem f_fldI {cs : List Str} {f : Str} (i : Nat) {x : Str} {q : Pos} (h : FldOk K cs f) (hk : X.K = K := by rfl) (hN : X.N[i]? = some x := by rfl) (hv : Vis X.env.scope x := by first | exact Or.inl rfl | exact Or.inr (Or.inl rfl) | exact Or.inr (Or.inr rfl)) (hd : (x == ("__debug__" : Str)) = false := by decide)
    (hcd : (x == ("__classdict__" : Str)) = false := by decide) (hb : attributeBase (.Name x q) f X.env (eval (.Name x q) X.env) = eval (.Name x q) X.env := by rfl) : FE X W (.Attribute (.Name x q) f pos) (tFld K (tVar i) f) (wFld cs f (wVar i)) (eFldI cs f i) := ⟨b_fld h (dv i hN hv hd hcd) hk hb, fun b R0 ps env cenv R φ ψ Φ Ψ r z x k => by
  unfold eFldI at z
  split at z
  · rename_i q2 c ns ds e0
    obtain ⟨z1, z⟩ := z
    have g := r.get e0
    unfold wFld wVar
    rw [g]
    cases e3 : fldOf f ns ds with
    | none => rw [e3] at z; exact False.elim z
    | some d =>
      rw [e3] at z
      obtain ⟨n, gn⟩ := List.getElem?_of_mem (r.ownR e0 rfl)
      exact ⟨n, q2.2, c, ns, ds, gn, z1, d, e3, k d env R r z⟩
  · exact False.elim z⟩
end
end Tl
namespace Tl
open PySem PySem.Spec PyProof.Rows L2
section
variable {X : Cx} {W : WX} {elt tg iter tg1 iter1 : Expr} {ifs ifs1 : List Expr} {scope : Scope} {own : List (Str × Nat)} {vs1 : List Nat} {pos spos : Pos} {wi wi1 : TI} {g g1 : TG} {tt tt1 : TT} {te : TE} {w w1 : WI} {wg wg1 : WG} {wt wt1 : WT} {we : WE} {fi fi1 : FnE (List D)} {f1 f11 : TgF} {ft ft1 : FnE Bool} {fe : FnE D}
theorem fs_setLc2 {i : Nat} {y : Str} {py : Pos} (own : List (Str × Nat)) (vs1 : List Nat) (hc : X.calm = true) (hN : X.N.Nodup) (gw : GW g (own.map (·.2))) (gw1 : GW g1 vs1) (hv : ∀ i ∈ vs1, i ∈ own.map (·.2)) (hi : FI X W tg iter wi w fi) (ok : BlkOk X.N X.env.scope scope own)
    (hg : ∀ (s : Shared) (H : Hp) (C : Addr) (cl : List (Str × Addr)) (fp : List Addr), FG (X.blk s H scope (compEnvC scope cl C X.env) fp) tg g wg f1) (ht : ∀ (s : Shared) (H : Hp) (C : Addr) (cl : List (Str × Addr)) (fp : List Addr), FTs (X.blk s H scope (compEnvC scope cl C X.env) fp) W0 ifs tt wt ft)
    (hi1 : ∀ (s : Shared) (H : Hp) (C : Addr) (cl : List (Str × Addr)) (fp : List Addr), FI (X.blk s H scope (compEnvC scope cl C X.env) fp) W0 tg1 iter1 wi1 w1 fi1)
    (hg1 : ∀ (s : Shared) (H : Hp) (C : Addr) (cl : List (Str × Addr)) (fp : List Addr), FG (X.blk s H scope (compEnvC scope cl C X.env) fp) tg1 g1 wg1 f11) (ht1 : ∀ (s : Shared) (H : Hp) (C : Addr) (cl : List (Str × Addr)) (fp : List Addr), FTs (X.blk s H scope (compEnvC scope cl C X.env) fp) W0 ifs1 tt1 wt1 ft1)
    (he : ∀ (s : Shared) (H : Hp) (C : Addr) (cl : List (Str × Addr)) (fp : List Addr), FE (X.blk s H scope (compEnvC scope cl C X.env) fp) W0 elt te we fe) (hy : X.N[i]? = some y := by rfl) (hyl : X.env.scope.names.lookup y = some .local := by rfl)
    (hsw : swapsWith (.ListComp elt [⟨tg, iter, ifs, 0⟩, ⟨tg1, iter1, ifs1, 0⟩] scope pos) (some (.Name y py)) spos.line X.env = pure true := by exact sw_true rfl rfl rfl (by decide +kernel)) (hs : ∀ x, foldedSetIterable iter X.env x = pure x := by intro _; rfl) (hs1 : ∀ env x, foldedSetIterable iter1 env x = pure x := by intro _ _; rfl) :
    FS' X W (.Assign [.Name y py] (.ListComp elt [⟨tg, iter, ifs, 0⟩, ⟨tg1, iter1, ifs1, 0⟩] scope pos) spos) (tAsg (tLc2 wi g tt wi1 g1 tt1 te (own.map (·.2)) vs1) (gName i)) (sSet i (wAbsO (eLc2 fi f1 ft fi1 f11 ft1 fe (own.map (·.2)) vs1))) (hSetO i (eLc2 fi f1 ft fi1 f11 ft1 fe (own.map (·.2)) vs1)) := by
  have ff := f_lc2 (pos := pos) own vs1 hc hN gw gw1 hv hi ok hg ht hi1 hg1 ht1 he hs hs1
  refine ⟨⟨ps_setLc2 (i := i) hc hN hy hyl hsw hi.d.p ok hv (fun s H C cl fp => (hg s H C cl fp).d.p) (fun s H C cl fp => (ht s H C cl fp).d.p) (fun s H C cl fp => (hi1 s H C cl fp).d.p) (fun s H C cl fp => (hg1 s H C cl fp).d.p) (fun s H C cl fp => (ht1 s H C cl fp).d.p) (fun s H C cl fp => (he s H C cl fp).d.p) hs hs1, fun B env R P Ψ acc w σ F H E s k => ff.d.v B env R _ Ψ acc w σ F H s _ fun o R1 v F1 H1 φ s1 x1 eo => k.nx _ R1 _ F1 H1 φ (s1.set i eo)⟩, fun b R0 ps env cenv R P ψ P' Ψ r z x k => ff.t b R0 ps env cenv R _ ψ _ Ψ r z (x.at_ ps cenv) fun ds p env' R' r' z' => by
      obtain ⟨ps', r2⟩ := r'.setO i p ds
      exact k.nx ps' _ _ _ r2 z'⟩
end
end Tl
namespace Tl
open PySem PySem.Spec PyProof.Rows L2
end Tl
namespace Tl
open PySem PySem.Spec PyProof.Rows L2
def RAll (R : List Res) : List En → List D → Prop
  | [], [] => True
  | o :: os, d :: ds => ReadsAs R o d ∧ RAll R os ds
  | _, _ => False
theorem RAll.len {R : List Res} : ∀ {os : List En} {ds : List D}, RAll R os ds → os.length = ds.length
  | [], [], _ => rfl
  | _ :: _, _ :: _, h => by rw [List.length_cons, List.length_cons, RAll.len h.2]
  | [], _ :: _, h => False.elim h
  | _ :: _, [], h => False.elim h
theorem RAll.app {R : List Res} : ∀ {os : List En} {ds : List D} (es : List D), RAll R os ds → RAll R (os ++ es.map En.val) (ds ++ es)
  | [], [], [], _ => trivial
  | [], [], e :: es, _ => ⟨.inl rfl, RAll.app (os := []) (ds := []) es trivial⟩
  | _ :: _, _ :: _, es, h => ⟨h.1, RAll.app es h.2⟩
  | [], _ :: _, _, h => False.elim h
  | _ :: _, [], _, h => False.elim h
end Tl
namespace Tl
open PySem PySem.Spec PyProof.Rows L2
structure ClB where
  em : Str → Option Bool
  i : Option Nat
  su : Er → Addr → Option Addr → FnS
def endsB (i : Nat) (P : AP) : AP := { nx := fun env => P.nx (env.set i .no), rt := P.rt, bk := fun env => P.bk (env.set i .no), ct := fun env => P.ct (env.set i .no), ro := P.ro }
def goB (k : ClB) (er : Er) (env : List A) (P : AP) : Prop := match k.i, er with
  | none, er => ∀ a d, k.su er a d env P X0A
  | some i, .plain c => ∀ a, k.su (.plain c) a none (env.set i (.err a none (.plain c))) (endsB i P) X0A
  | some i, .fld c f x => ∀ a dd, k.su (.fld c f x) a (some dd) (env.set i (.err a (some dd) (.fld c f x))) (endsB i P) X0A
def catchB (P : AP) (ψ : XA) : List ClB → XA
  | [] => ψ
  | k :: r => fun er env => match k.em er.c with
    | some true => goB k er env P
    | some false => catchB P ψ r er env
    | none => False
def hTryB (fb : FnS) (l : List ClB) : FnS := fun env P ψ => fb env P (catchB P ψ l)
inductive FClsB (X : Cx) : List ExceptHandler → List Cl → List ClD → List ClB → Prop
  | nil : FClsB X [] [] [] []
  | cons {x : Str} {c : Value} {ts : TS} {st : Stmt} {sts : List Stmt} {p1 p2 : Pos} {hds : List ExceptHandler} {l : List Cl} {m : List ClD} {n : List ClB} {em : Str → Option Bool} {ws : WS} {f : FnS} (nm : Names X x c) (he : ∀ y b, em y = some b → PySem.W.exmOne X.K (.ref (He.ga X.K y)) c = some b)
      (su : ∀ (a : Addr) (oe : Obj) (pn : List (Addr × Obj)), FSs (X.suite a ((a, oe) :: pn)) W0 (st :: sts) ts ws f) (r : FClsB X hds l m n) :
      FClsB X (.ExceptHandler (some (.Name x p1)) none (st :: sts) p2 :: hds) (⟨c, none, fun a cls d D σ H => ∃ er, em er.c = some true ∧ ErCls X.K cls d er ∧ ts D σ H⟩ :: l) (⟨em, none, fun _ _ _ => ws⟩ :: m) (⟨em, none, fun _ _ _ => f⟩ :: n)
  | as {x y : Str} {i : Nat} {c : Value} {tsE : Er → Addr → Option Addr → TS} {st : Stmt} {sts : List Stmt} {p1 p2 : Pos} {hds : List ExceptHandler} {l : List Cl} {m : List ClD} {n : List ClB} {em : Str → Option Bool} {ws : Er → Addr → Option Addr → WS} {f : Er → Addr → Option Addr → FnS} (nm : Names X x c) (he : ∀ y b, em y = some b → PySem.W.exmOne X.K (.ref (He.ga X.K y)) c = some b)
      (su : ∀ (er : Er) (a : Addr) (oe : Obj) (cls : Value) (d : Option Addr) (pn : List (Addr × Obj)), em er.c = some true → ErCls X.K cls d er → Zc cls d oe → (∃ vs, oe.data = .fields vs) → FSs (X.suite a ((a, oe) :: pn)) W0 (st :: sts) (tsE er a d) (ws er a d) (f er a d)) (r : FClsB X hds l m n)
      (hi : X.N[i]? = some y := by rfl) (hl : X.env.kindOf y = some .local := by rfl) :
      FClsB X (.ExceptHandler (some (.Name x p1)) (some y) (st :: sts) p2 :: hds) (⟨c, some i, fun a cls d D σ H => ∃ er, em er.c = some true ∧ ErCls X.K cls d er ∧ tsE er a d D σ H⟩ :: l) (⟨em, some i, ws⟩ :: m) (⟨em, some i, f⟩ :: n)
section
variable {X : Cx} {W : WX} {body : List Stmt} {h0 : ExceptHandler} {hds : List ExceptHandler} {l : List Cl} {m : List ClD} {n : List ClB} {pos : Pos} {tb : WX → TS} {wb : WS} {fb : FnS}
theorem FClsB.c {hl : List ExceptHandler} (h : FClsB X hl l m n) : Cls' X hl l m := by
  induction h with
  | nil => exact .nil
  | cons nm he su r ih => exact .cons nm he (fun er a oe cls d pn _ _ _ _ => (su a oe pn).d) ih
  | as nm he su r hi hl ih => exact .as nm hi hl he (fun er a oe cls d pn h1 h2 h3 h4 => (su er a oe cls d pn h1 h2 h3 h4).d) ih
theorem ends_ok {b : Addr} {R0 : List Res} {P : AP} {P' : Post} {em : Str → Option Bool} {i : Nat} {ws : Er → Addr → Option Addr → WS} (k : PostOk b R0 P P') : PostOk b R0 (endsB i P) (ClD.ends ⟨em, some i, ws⟩ P') :=
  ⟨fun ps env cenv R r z => k.nx ps _ _ R (r.setN i) z, k.rt, fun ps env cenv R r z => k.bk ps _ _ R (r.setN i) z, fun ps env cenv R r z => k.ct ps _ _ R (r.setN i) z, k.ro⟩
theorem FClsB.t {hl : List ExceptHandler} (h : FClsB X hl l m n) {b : Addr} {R0 : List Res} {P : AP} {ψ : XA} {P' : Post} {Ψ : XP} (x : XOkS b R0 ψ Ψ) (k : PostOk b R0 P P') : XOkS b R0 (catchB P ψ n) (catchW P' Ψ m) := by
  induction h with
  | nil => exact x
  | @cons y c ts st sts p1 p2 hds l m n em ws f nm he su r ih =>
    intro er ps env cenv R rr z
    have z' : (match em er.c with
      | some true => goB ⟨em, none, fun _ _ _ => f⟩ er env P
      | some false => catchB P ψ n er env
      | none => False) := z
    cases q : em er.c with
    | none => rw [q] at z'; exact False.elim z'
    | some v =>
      rw [q] at z'
      refine ⟨v, q, fun hv => ?_, fun hv => ?_⟩
      · subst hv
        have dt := (su 0 { cls := .none, dict := none, data := .fields #[] } []).t
        have z2 : f env P X0A := by
          have z3 : goB ⟨em, none, fun _ _ _ => f⟩ er env P := z'
          unfold goB at z3
          exact z3 0 none
        cases er with
        | plain c0 => exact fun a => dt b R0 ps env cenv R P X0A P' X0 rr z2 (fun er ps env cenv R r z => False.elim z) k
        | fld c0 f0 x0 => exact fun a dd => dt b R0 ps env cenv _ P X0A P' X0 (rr.more _) z2 (fun er ps env cenv R r z => False.elim z) k
      · subst hv
        exact ih er ps env cenv R rr z'
  | @as y yy i c tsE st sts p1 p2 hds l m n em ws f nm he su r hi hl ih =>
    intro er ps env cenv R rr z
    have z' : (match em er.c with
      | some true => goB ⟨em, some i, f⟩ er env P
      | some false => catchB P ψ n er env
      | none => False) := z
    cases q : em er.c with
    | none => rw [q] at z'; exact False.elim z'
    | some v =>
      rw [q] at z'
      refine ⟨v, q, fun hv => ?_, fun hv => ?_⟩
      · subst hv
        have z3 : goB ⟨em, some i, f⟩ er env P := z'
        cases er with
        | plain c0 =>
          intro a
          have dt := (su (.plain c0) a { cls := .ref (He.ga X.K c0), dict := none, data := .fields #[] } _ none [] q ⟨rfl, rfl⟩ ⟨rfl, rfl⟩ ⟨_, rfl⟩).t
          obtain ⟨ps', r'⟩ := rr.setN' i (0, 0) (.err a none (.plain c0)) (fun z => nomatch z)
          exact dt b R0 ps' _ _ R (endsB i P) X0A _ X0 r' (z3 a) (fun er ps env cenv R r z => False.elim z) (ends_ok k)
        | fld c0 f0 x0 =>
          intro a dd
          have dt := (su (.fld c0 f0 x0) a { cls := .ref (He.ga X.K c0), dict := some dd, data := .fields #[] } _ (some dd) [] q ⟨rfl, dd, rfl⟩ ⟨rfl, rfl⟩ ⟨_, rfl⟩).t
          obtain ⟨ps', r'⟩ := rr.setN' i (0, 0) (.err a (some dd) (.fld c0 f0 x0)) (fun z => nomatch z)
          exact dt b R0 ps' _ _ _ (endsB i P) X0A _ X0 r' (z3 a dd) (fun er ps env cenv R r z => False.elim z) (ends_ok k)
      · subst hv
        exact ih er ps env cenv R rr z'
theorem fs_tryB (stk : X.stack = X.env :: X.outer) (fr : X.env.frame = some X.env.locals) (nd : X.N.Nodup) (tk : Tk X W)
    (bo : ∀ (V : WX) (pn : List (Addr × Obj)) (xe : Value → Shared → Prop) (sk : List Env), Tk (al X pn xe sk) V → FSs (al X pn xe sk) V body (tb V) wb fb) (cl : FClsB X (h0 :: hds) l m n) :
    FS' X W (.Try body (h0 :: hds) [] [] pos) (fun D σ H => tb (wMix X.K W D l) D σ H) (sTry wb m) (hTryB fb n) :=
  ⟨s_try stk fr nd tk (fun V pn xe sk t => (bo V pn xe sk t).d) cl.c, fun b R0 ps env cenv R P ψ P' Ψ r z x k => by
    have dt := (bo W0 [] (fun _ _ => False) ((X.A.frames.getD []) ++ [X.env]) (tk_idle W0)).t
    exact dt b R0 ps env cenv R P _ P' _ r z (cl.t x k) k⟩
end
section
variable {X : Cx} {a : Addr} {oe : Obj} {cls : Value} {d : Option Addr} {pn : List (Addr × Obj)} {W : WX} {pos : Pos} {K : PySem.W.Frag} {er : Er}
theorem emC_eq {errs : List Str} {c y : Str} (h : emC errs c y = some true) : y = c := by
  unfold emC at h
  split at h
  · have h2 : decide (y = c) = true := Option.some.inj h
    exact of_decide_eq_true h2
  · cases h
end
end Tl
namespace Tl
open PySem PySem.Spec PyProof.Rows L2
end Tl
namespace Tl
open PySem PySem.Spec PyProof.Rows L2
section
variable {b : Addr} {R0 R : List Res} {ps : Nat → A2} {env : List A} {cenv : List En}
theorem Rel.frame (h : Rel b R0 ps env cenv R) (r : Res) : Rel b (r :: R0) ps env cenv (r :: R) := by
  refine ⟨h.ce, ?_, fun m => ?_, fun i a q e s => List.mem_cons_of_mem _ (h.sw i a q e s)⟩
  · obtain ⟨G, p⟩ := h.rs
    refine ⟨G, ?_⟩
    refine (p.cons r).trans ?_
    rw [← List.append_assoc, ← List.append_assoc]
    exact List.perm_middle.symm
  · obtain ⟨l, hl⟩ := h.bg m
    exact ⟨l, List.mem_cons_of_mem _ hl⟩
end
def DetQ (we : WE) (f : FnE (List Key × List D)) : Prop := ∀ b R0 ps env cenv R φ ψ (Φ : En → List Res → Prop) (Ψ : XP), Rel b R0 ps env cenv R → f env φ ψ → XOk b R0 ps cenv ψ Ψ →
  (∀ kd p env' R', Rel b R0 ps env' cenv R' → φ kd env' → Φ (.adr p) (.dct p kd.1 kd.2 :: R')) → we cenv R Φ Ψ
structure FQ (X : Cx) (W : WX) (e : Expr) (te : TE) (we : WE) (f : FnE (List Key × List D)) : Prop where
  d : DE X W e te we
  t : DetQ we f
theorem FQ.rd {X : Cx} {W : WX} {e : Expr} {te : TE} {we : WE} {f : FnE (List Key × List D)} (h : FQ X W e te we f) : FD X W e te we f := ⟨h.d, fun b R0 ps env cenv R φ ψ Φ Ψ r z x k => h.t b R0 ps env cenv R _ ψ Φ Ψ r z x fun kd p env' R' r' q => k kd _ env' _ (r'.more _) (.inr ⟨p, rfl, List.mem_cons_self⟩) q⟩
end Tl
namespace Tl
open PySem PySem.Spec PyProof.Rows L2
end Tl
namespace Tl
open PySem PySem.Spec PyProof.Rows L2
end Tl
namespace Tx
open PySem PySem.Spec PyProof.Rows L2
/-- not too many unlike ones -/
def FewI (xs : List Int) : Prop := ∀ l : List Int, l.Nodup → (∀ k ∈ l, k ∈ xs) → l.length < 4000
theorem FewI.len {xs : List Int} (h : xs.length < 4000) : FewI xs := fun l nd sub => Nat.lt_of_le_of_lt (List.Nodup.length_le_of_subset nd sub) h
theorem FewI.range {xs : List Int} (lo : Int) (n : Nat) (hn : n < 4000) (h : ∀ k ∈ xs, lo ≤ k ∧ k < lo + n) : FewI xs := fun l nd sub => by
  have : l.length ≤ ((List.range n).map fun i => lo + (i : Nat)).length := List.Nodup.length_le_of_subset nd fun k hk => by
    obtain ⟨a, b⟩ := h k (sub k hk)
    exact List.mem_map.mpr ⟨(k - lo).toNat, List.mem_range.mpr (by omega), by omega⟩
  rw [List.length_map, List.length_range] at this
  omega
end Tx
namespace Tl
open PySem PySem.Spec PyProof.Rows L2
end Tl
namespace Tl
open PySem PySem.Spec PyProof.Rows L2
end Tl
namespace Tl
open PySem PySem.Spec PyProof.Rows L2
end Tl
section
set_option maxHeartbeats 2000000
namespace Tl
open PySem PySem.Spec PyProof.Rows L2
end Tl
end
section
set_option maxHeartbeats 2000000
namespace Tl
open PySem PySem.Spec PyProof.Rows L2
end Tl
end
section
set_option maxHeartbeats 2000000
namespace PySem
open Sem (wp)
open AutoSeq1 (wpAny_loadPart')
theorem meets_enumT (l : Addr) (items : Array Value) (n : Nat) (dct : Option Addr) (sl : Array (Option Value)) :
    Meets (Builtin.«enumerate.__new__» ⟨[.type "enumerate", .ref l], []⟩) (fun _ R s => s.heap.get? l = some { cls := .type "tuple", dict := dct, data := .seq items n, slots := sl } ∧
      R (.ok (.ret (.ref (s.heap.push { cls := .type "tuple_iterator", data := .fields #[.ref l, .int 0 0] }).objs.size)))
        { s with heap := (s.heap.push { cls := .type "tuple_iterator", data := .fields #[.ref l, .int 0 0] }).push { cls := .type "enumerate", data := .fields #[.none, .bool false, .ref s.heap.objs.size, rawInt 0, .none, .none] } }) :=
  .of_wp fun prog w A R s h => by
    obtain ⟨hp, g, d, tk, os⟩ := s; obtain ⟨hl, h⟩ := h
    have hsub := sub_enumerate
    have hL : Heap.IsTuple (Shared.heap ⟨hp, g, d, tk, os⟩) l items := ⟨_, hl, rfl, n, rfl⟩
    wp_walk using wpAny_loadPart' hl
    refine wpAny_stack_any fun st => wpAny_pure ?_
    split
    · rename_i c _ _ _ _ _
      cases (c == Value.type "enumerate")
      · wp_walk using wpAny_loadPart' hl, wpAny_pyIter_tuple hL
        exact ⟨_, rfl, h⟩
      · wp_walk using wpAny_loadPart' hl, wpAny_pyIter_tuple hL
        exact ⟨_, rfl, h⟩
    · wp_walk using wpAny_loadPart' hl, wpAny_pyIter_tuple hL
      exact ⟨_, rfl, h⟩
section
variable {prog : Program} {w : World} {A : Around} {E : Value → Shared → Prop} {s : Shared}
theorem call_enumT {l : Addr} {items : Array Value} {Q : Value → Shared → Prop} (hL : s.heap.IsTuple l items)
    (h : ∀ h', IsEnum h' (s.heap.objs.size + 1) s.heap.objs.size 0 .none → h'.IsTupleIter s.heap.objs.size l 0 → h'.objs.size = s.heap.objs.size + 2 →
      (∀ b o, s.heap.get? b = some o → h'.get? b = some o) → Q (.ref (s.heap.objs.size + 1)) { s with heap := h' }) :
    wpAny (model prog w) A (call (.type "enumerate") [.ref l]) Q E s := by
  obtain ⟨⟨c, dct, dt, sl⟩, hl, hc, n, hd⟩ := hL
  replace hc : c = .type "tuple" := hc
  replace hd : dt = .seq items n := hd
  subst hc hd
  refine callType_new F.called_enumerate (by decide) (F.typeCall_enumerate_1 _) (F.newCall_enumerate_1 _) (fun obj => F.args_object_init_2 obj _) F.entry_enumerate_new
    (meets_enumT l items n dct sl) ⟨hl, ?_⟩
  have hz : (s.heap.push { cls := .type "tuple_iterator", data := .fields #[.ref l, .int 0 0] }).objs.size = s.heap.objs.size + 1 := Heap.size_push ..
  show _ ∧ _
  rw [hz]
  have he : IsEnum ((s.heap.push { cls := .type "tuple_iterator", data := .fields #[.ref l, .int 0 0] }).push
      { cls := .type "enumerate", data := .fields #[.none, .bool false, .ref s.heap.objs.size, rawInt 0, .none, .none] }) (s.heap.objs.size + 1) s.heap.objs.size 0 .none := by
    have := Heap.get?_push_size (s.heap.push { cls := .type "tuple_iterator", data := .fields #[.ref l, .int 0 0] })
      (o := { cls := .type "enumerate", data := .fields #[.none, .bool false, .ref s.heap.objs.size, rawInt 0, .none, .none] }) rfl
    rw [hz] at this; exact this
  refine ⟨⟨_, he, rfl⟩, h _ he ⟨_, Heap.get?_push_of_some _ (Heap.get?_push_size _ rfl), rfl, rfl⟩ (by rw [Heap.size_push, hz]) fun b o x => Heap.get?_push_of_some _ (Heap.get?_push_of_some _ x)⟩
end
end PySem
namespace L2
open PySem PySem.Spec PyProof.Rows
/-- the tuple at a, each item in a new pair -/
def Iet (K : PySem.W.Frag) (a : Addr) : It :=
  ⟨fun i H => ∃ (xs : List V) (x : V), SqT K H a xs ∧ xs[i]? = some x, fun i H v H' => ∃ T x, v = .ref T ∧ H T = none ∧ H' = upd H T (.tup [.int (i : Nat), x]) ∧ ∀ xs, SqT K H a xs → xs[i]? = some x, fun i H => ∃ xs : List V, SqT K H a xs ∧ xs.length = i⟩
theorem tup_inj {X : Cx} {pins : List (Addr × Obj)} {σ : St} {H : Hp} {s : Shared} {a : Addr} {xs ys : List V} (I : Inv X pins σ H s) (h : SqT X.K H a xs) (g : SqT X.K H a ys) : xs = ys := by
  obtain ⟨its, r, e, _⟩ := I.tuple h
  obtain ⟨its2, r2, e2, _⟩ := I.tuple g
  obtain ⟨o, ho, _, n, hd⟩ := e
  obtain ⟨o2, ho2, _, n2, hd2⟩ := e2
  rw [ho] at ho2
  cases ho2
  rw [hd] at hd2
  injection hd2 with e3 _
  have e4 : its = its2 := by injection e3
  subst e4
  exact r.inj r2
theorem turn_enumT {P : Program} {w : World} {K : PySem.W.Frag} {elts : List Expr} {kk : Nat} {tpos : Pos} (a e it : Addr) :
    Turn P w K (.Tuple elts kk tpos) (Iet K a) [e, it] e (fun i h => (∃ old, IsEnum h e it ((i : Nat) : Int) old) ∧ h.IsTupleIter it a i ∧ e ≠ it ∧ a ≠ it ∧ a ≠ e) where
  mem := by simp
  obj := fun i h st b hb => by
    obtain ⟨⟨old, he⟩, ⟨o, ho, hc, hd⟩, _⟩ := st
    have e' : b = e ∨ b = it := by simpa using hb
    rcases e' with z | z
    · rw [z]; exact ⟨_, he, fun v q => nomatch q⟩
    · rw [z]; exact ⟨o, ho, fun v q => by rw [hd] at q; cases q⟩
  keep := fun i h h' st k => let ⟨⟨old, he⟩, hi, hne⟩ := st; ⟨⟨old, k e (by simp) _ he⟩, hi.at fun o q => k it (by simp) o q, hne⟩
  item := by
    intro X hP hw hK hc i pins s σ H E I hf st hg
    subst hP hw hK
    obtain ⟨⟨old, he⟩, hit, hne, hai, hae⟩ := st
    obtain ⟨xs, x, hq, hx⟩ := hg
    obtain ⟨its, rv, p, hz⟩ := I.tuple hq
    obtain ⟨u, hu, ru⟩ := rv.get hx
    have hel : e < s.heap.objs.size := Heap.lt_size he
    have hil : it < s.heap.objs.size := by obtain ⟨_, q, _⟩ := hit; exact Heap.lt_size q
    have hlt : i < its.toArray.size := by
      have := (List.getElem?_eq_some_iff.mp hu).1
      simpa using this
    have D := Draws.tuple (prog := X.prog) (w := X.w) (A := X.A.in1) (I.ok.hd hc) it a hai its.toArray
    refine wpAny_pyNext_enum_itemD D he ⟨hit, p⟩ hlt hne (by simp only [List.mem_cons, List.not_mem_nil, or_false, not_or]; exact ⟨hne, Ne.symm hae⟩) fun y h' tk hy ho st' hT hsz hk => ?_
    have hy : y = u := by
      have hu' : its.toArray[i]? = some u := by simpa using hu
      have hy2 : its.toArray[i]? = some y := hy
      rw [hu'] at hy2
      exact (Option.some.inj hy2).symm
    subst hy
    refine ⟨_, rfl, wpAny_letOwnedTupleGo_enum (s := { s with heap := h', toks := tk + 1 }) ho fun h'' he' sb => ?_⟩
    have hT2 : h''.get? s.heap.objs.size = some { cls := .type "tuple", data := .seq #[.int i tk, y] } := (sb.2 _ (Nat.ne_of_gt hel)).trans hT
    have new : ObjOk X.prog X.w (upd H s.heap.objs.size (.tup [.int (i : Nat), x])) h'' s.heap.objs.size (.tup [.int (i : Nat), x]) :=
      ⟨by show 2 ≤ sizeLine; decide, [.int i tk, y], .cons ⟨_, rfl⟩ (.cons ru .nil), ⟨_, hT2, rfl, _, rfl⟩⟩
    have I1 : Inv X pins σ (upd H s.heap.objs.size (.tup [.int (i : Nat), x])) { s with heap := h'', toks := tk + 1 } :=
      I.turnedNew (ch := [e, it]) (fun b ob hb q => (sb.2 b (fun z => hb (by simp [z]))).trans (hk b ob (fun z => hb (by simp [z])) (fun z => hb (by simp [z])) q)) hf (Nat.le_refl _) new
    refine ⟨.ref s.heap.objs.size, _, I1, rfl, ⟨_, x, rfl, I.hok.fresh (Nat.le_refl _), rfl, fun ys hy => by rw [tup_inj I hy hq]; exact hx⟩, ⟨⟨y, ?_⟩, st'.1.at fun o q => (sb.2 it (Ne.symm hne)).trans q, hne, hai, hae⟩, fun b hb => ?_⟩
    · have e1 : ((i + 1 : Nat) : Int) = (i : Int) + 1 := by omega
      rw [e1]; exact he'
    · have hb' : b < s.heap.objs.size := by
        have e' : b = e ∨ b = it := by simpa using hb
        rcases e' with z | z
        · rw [z]; exact hel
        · rw [z]; exact hil
      rw [upd_ne (Nat.ne_of_lt hb')]
      exact (hf b hb).1
  done := by
    intro X hP hw hK hc i pins s σ H E I hf st hg
    subst hP hw hK
    obtain ⟨⟨old, he⟩, hit, hne, hai, hae⟩ := st
    obtain ⟨xs, hq, hx⟩ := hg
    obtain ⟨its, rv, p, hz⟩ := I.tuple hq
    obtain ⟨f0, f1, f2, f3, f4, f5⟩ := hf it (by simp)
    have hl := rv.length
    have hsz : its.toArray.size = i := by simp; omega
    have D := Draws.tuple (prog := X.prog) (w := X.w) (A := X.A.in1) (I.ok.hd hc) it a hai its.toArray
    rw [hsz] at D
    exact wpAny_pyNext_enum_endD D he ⟨hit, p⟩ fun h' eb => ⟨rfl, I.turned (t' := s.toks) (fun b o hb q => eb b o hb q) f0 f1 f3 f4 f5⟩
  self := fun A i s Q E st h => let ⟨⟨_, he⟩, _⟩ := st; wpAny_pyIter_enum he h
/-- enumerate of a list, a tuple -/
def iEnumB (K : PySem.W.Frag) (ta : TA) : TI := fun σ H R => ta σ H fun vs H1 => ∃ a xs, vs = [.ref a] ∧ ((SqL K H1 a xs ∧ R (Ite K a) H1) ∨ (SqT K H1 a xs ∧ R (Iet K a) H1))
theorem pi_enumB {X : Cx} {e : Expr} {ta : TA} {p pos tpos : Pos} {elts : List Expr} {kk : Nat} (hg : Gl X "enumerate") (hm : X.mg "enumerate" = none) (ha : PA X [e] ta) (hs : starEach [e] X.env = [(false, eval e X.env)] := by rfl) :
    PI X (.Tuple elts kk tpos) (.Call (.Name "enumerate" p) [e] [] pos) (iEnumB X.K ta) := by
  refine ⟨fun pins s σ H R I h => ?_⟩
  refine Call_ (ld_blt I hg hm boot_enumerate (PyProof.Rows.callWith_type1 (thn (ha.run pos pins s σ H _ I h) fun us s1 ⟨vs, H1, I1, r1, q1⟩ => ?_) hs rfl))
  obtain ⟨a, xs, ex, q1⟩ := q1
  subst ex
  cases r1 with
  | cons r rr =>
    cases rr
    cases r
    rcases q1 with ⟨hq, q⟩ | ⟨hq, q⟩
    · obtain ⟨its, rv, p', hz⟩ := I1.list hq
      refine call_enumerate_list p'.isList fun h' he hit hsz hk => wpAny_pyIter_enum he ?_
      have I2 : Inv X pins σ H1 { s1 with heap := h' } := I1.kept (t' := s1.toks) hk
      refine ⟨s1.heap.objs.size + 1, [s1.heap.objs.size + 1, s1.heap.objs.size], _, _, H1, rfl, I2, turn_enum a (s1.heap.objs.size + 1) s1.heap.objs.size, ⟨⟨.none, he⟩, hit, Nat.succ_ne_self _⟩, fun b hb => ?_, q⟩
      have e' : b = s1.heap.objs.size + 1 ∨ b = s1.heap.objs.size := by simpa using hb
      have hle : s1.heap.objs.size ≤ b := by
        rcases e' with z | z
        · rw [z]; exact Nat.le_add_right _ _
        · rw [z]; exact Nat.le_refl _
      exact I1.fpOk hle (I1.hok.fresh hle)
    · obtain ⟨its, rv, p', hz⟩ := I1.tuple hq
      have hal : a < s1.heap.objs.size := by obtain ⟨_, ho, _⟩ := p'; exact Heap.lt_size ho
      refine call_enumT p' fun h' he hit hsz hk => wpAny_pyIter_enum he ?_
      have I2 : Inv X pins σ H1 { s1 with heap := h' } := I1.kept (t' := s1.toks) hk
      refine ⟨s1.heap.objs.size + 1, [s1.heap.objs.size + 1, s1.heap.objs.size], _, _, H1, rfl, I2, turn_enumT a (s1.heap.objs.size + 1) s1.heap.objs.size, ⟨⟨.none, he⟩, hit, Nat.succ_ne_self _, Nat.ne_of_lt hal, Nat.ne_of_lt (Nat.lt_succ_of_lt hal)⟩, fun b hb => ?_, q⟩
      have e' : b = s1.heap.objs.size + 1 ∨ b = s1.heap.objs.size := by simpa using hb
      have hle : s1.heap.objs.size ≤ b := by
        rcases e' with z | z
        · rw [z]; exact Nat.le_add_right _ _
        · rw [z]; exact Nat.le_refl _
      exact I1.fpOk hle (I1.hok.fresh hle)
theorem walk_enumT {K : PySem.W.Frag} {a : Addr} {xs : List V} : Walk (Iet K a) xs.length (fun H => SqT K H a xs) (YPair (fun i => some (.int (i : Nat))) (fun i => xs[i]?)) := by
  refine ⟨fun i _ hi q => ⟨xs, xs[i], q, by simp [hi]⟩, fun _ q => ⟨xs, q, rfl⟩, fun i H v H' _ q y => ?_⟩
  obtain ⟨T, x, h1, h2, h3, h4⟩ := y
  exact ⟨T, .int (i : Nat), x, h1, h2, h3, rfl, h4 xs q⟩
end L2
namespace Tl
open PySem PySem.Spec PyProof.Rows L2
section
variable {X : Cx} {W : WX} {e a b : Expr} {te ta tb : TE} {we wa wb : WE} {fe fa fb : FnE D} {pos apos cpos p : Pos} {j : Nat} {tg : Expr}
theorem walkD_enumT {K : PySem.W.Frag} {F : Hp} {a : Addr} {vs : List V} {ds : List D} (h : F a = some (.tup vs)) (r : RepL K F ds vs) : WalkD K F (Iet K a) (enumD ds) := by
  have ln : (enumD ds).length = vs.length := by unfold enumD; rw [List.length_mapIdx, r.len]
  refine ⟨fun H => SqT K H a vs, YPair (fun i => some (.int (i : Nat))) (fun i => vs[i]?), ?_, fun H x => SqT.of (x _ _ h), fun i H v H' hi x y => ?_⟩
  · rw [ln]; exact walk_enumT (xs := vs)
  · obtain ⟨T, u, z, rfl, hT, rfl, e1, e2⟩ := y
    cases e1
    obtain ⟨d, g, rd⟩ := r.get' e2
    refine ⟨.tup [.int (i : Nat), d], ?_, .inr (.inl ⟨T, _, _, rfl, rfl, hT, rfl, repL_cons (rep_int _) (repL_cons rd repL_nil)⟩)⟩
    unfold enumD
    rw [List.getElem?_mapIdx, g]; rfl
def rowK (d : D) (k : List D → Prop) : Prop := match d with
  | .lst ds => k ds
  | .tup ds => k ds
  | _ => False
def wEnumB (w : WE) : WI := fun env R Φ Ψ => w env R (fun o R1 => match o with | .val d => rowK d fun ds => Φ (enumD ds) R1 | _ => False) Ψ
def eEnumB (fe : FnE D) : FnE (List D) := fun env φ ψ => fe env (fun d env1 => rowK d fun ds => φ (enumD ds) env1) ψ
theorem fi_enumB {elts : List Expr} {kk : Nat} {tpos : Pos} (hm : X.mg "enumerate" = none) (h : FE X W e te we fe) (hg : Gl X "enumerate" := by rfl) (hs : starEach [e] X.env = [(false, eval e X.env)] := by rfl) : FI X W (.Tuple elts kk tpos) (.Call (.Name "enumerate" p) [e] [] pos) (iEnumB X.K (tCons te tNil)) (wEnumB we) (eEnumB fe) :=
  ⟨⟨pi_enumB hg hm (pa_cons h.d.p pa_nil hs) hs, fun B env R Φ Ψ acc w σ F H s Rj q => h.d.v B env R _ Ψ acc w σ F H s _ fun o R1 v F1 H1 φ s1 x1 eo => by
    split at φ
    · rename_i d
      cases d with
      | lst ds =>
        obtain ⟨a, vs, rfl, fa, rl⟩ := of_lst (en_val eo)
        exact ⟨a, vs, rfl, .inl ⟨SqL.of (s1.fin.fh _ _ fa), q _ R1 F1 H1 _ φ s1 x1 (walkD_enum fa rl)⟩⟩
      | tup ds =>
        obtain ⟨a, vs, rfl, fa, rl⟩ := of_tup (en_val eo)
        exact ⟨a, vs, rfl, .inr ⟨SqT.of (s1.fin.fh _ _ fa), q _ R1 F1 H1 _ φ s1 x1 (walkD_enumT fa rl)⟩⟩
      | _ => exact False.elim φ
    · exact False.elim φ⟩, fun b R0 ps env cenv R φ ψ Φ Ψ r z x q => h.t b R0 ps env cenv R _ ψ _ Ψ r z x fun d env1 R1 r1 z1 => by
    cases d with
    | lst ds => exact q _ env1 R1 r1 z1
    | tup ds => exact q _ env1 R1 r1 z1
    | _ => exact False.elim z1⟩
end
end Tl
end
section
set_option maxHeartbeats 2000000
namespace Tl
open PySem PySem.Spec PyProof.Rows L2
end Tl
end
section
set_option maxHeartbeats 2000000
namespace L2
open PySem PySem.Spec PyProof.Rows
end L2
namespace Tl
open PySem PySem.Spec PyProof.Rows L2
end Tl
end
section
set_option maxHeartbeats 4000000
namespace L2
open PySem PySem.Spec PyProof.Rows
end L2
namespace Tl
open PySem PySem.Spec PyProof.Rows L2
end Tl
end
namespace Tw
open PySem PySem.Spec PyProof.Rows L2 Tl
abbrev T (z : Str) : List Nat := z.cps.toList
abbrev mk (l : List Nat) : Str := SX.S l
abbrev sgn (c : Nat) : Str := ⟨#[c]⟩
theorem T_mk (l : List Nat) : T (mk l) = l := by simp [T, mk, SX.S]
theorem mk_T (z : Str) : mk (T z) = z := by
  obtain ⟨c⟩ := z
  simp [T, mk, SX.S]
theorem signs_T (z : Str) : Tl.signs z = ((T z).map sgn).map D.str := by
  unfold Tl.signs
  rw [List.map_map]
  rfl
theorem joinL_one : ∀ cs : List Nat, TL.joinL [] (cs.map fun c => [c]) = cs
  | [] => rfl
  | [_] => rfl
  | a :: b :: r => by
    show [a] ++ ([] ++ TL.joinL [] ((b :: r).map fun c => [c])) = _
    rw [joinL_one (b :: r)]
    rfl
theorem join_sgn (cs : List Nat) : Txt.join (SX.S []) (cs.map sgn) = mk cs := by
  have e : cs.map sgn = (cs.map fun c => [c]).map SX.S := by
    rw [List.map_map]
    rfl
  rw [e, SX.join_S, joinL_one]
theorem sum_sgn : ∀ cs : List Nat, ((cs.map sgn).map (·.length)).sum = cs.length
  | [] => rfl
  | c :: cs => by
    rw [List.map_cons, List.map_cons, List.sum_cons, sum_sgn cs, List.length_cons]
    show 1 + cs.length = cs.length + 1
    omega
theorem al_up : (T AL).Pairwise (· < ·) := by decide +kernel
theorem al_len : (T AL).length = 94 := by decide +kernel
theorem al_nodup : (T AL).Nodup := al_up.imp fun h => Nat.ne_of_lt h
def Ok (z : Str) : Prop := ∀ c ∈ T z, c ∈ T AL
def pOf (z : Str) : Nat → Bool := fun c => decide (c ∈ T z)
/-- the signs with p, ascending -/
def of (p : Nat → Bool) : Str := mk ((T AL).filter p)
theorem T_of (p : Nat → Bool) : T (of p) = (T AL).filter p := T_mk _
theorem of_congr {p q : Nat → Bool} (h : ∀ c ∈ T AL, p c = q c) : of p = of q := by
  unfold of
  rw [List.filter_congr h]
theorem ok_of (p : Nat → Bool) : Ok (of p) := fun c m => by
  rw [T_of] at m
  exact (List.mem_filter.mp m).1
theorem pOf_of {p : Nat → Bool} {c : Nat} (m : c ∈ T AL) : pOf (of p) c = p c := by
  unfold pOf
  rw [T_of]
  simp [List.mem_filter, m]
theorem of_pOf_of (p : Nat → Bool) : of (pOf (of p)) = of p := of_congr fun c m => pOf_of m
theorem of_le (p : Nat → Bool) : (T (of p)).length ≤ 94 := by
  rw [T_of, ← al_len]
  exact List.length_filter_le _ _
theorem mem_of {p : Nat → Bool} {c : Nat} : c ∈ T (of p) ↔ c ∈ T AL ∧ p c = true := by
  rw [T_of, List.mem_filter]
/-- ascending lists with the same members -/
theorem up_eq : ∀ {l m : List Nat}, l.Pairwise (· < ·) → m.Pairwise (· < ·) → (∀ c, c ∈ l ↔ c ∈ m) → l = m
  | [], [], _, _, _ => rfl
  | [], b :: m, _, _, h => by
    have := (h b).mpr List.mem_cons_self
    cases this
  | a :: l, [], _, _, h => by
    have := (h a).mp List.mem_cons_self
    cases this
  | a :: l, b :: m, hl, hm, h => by
    obtain ⟨l1, l2⟩ := List.pairwise_cons.mp hl
    obtain ⟨m1, m2⟩ := List.pairwise_cons.mp hm
    have ab : a = b := by
      rcases List.mem_cons.mp ((h a).mp List.mem_cons_self) with e | e
      · exact e
      · rcases List.mem_cons.mp ((h b).mpr List.mem_cons_self) with e2 | e2
        · exact e2.symm
        · have x := m1 a e
          have y := l1 b e2
          omega
    subst ab
    rw [up_eq l2 m2 fun c => ?_]
    constructor
    · intro hc
      rcases List.mem_cons.mp ((h c).mp (List.mem_cons_of_mem _ hc)) with e | e
      · exact absurd (l1 c hc) (by omega)
      · exact e
    · intro hc
      rcases List.mem_cons.mp ((h c).mpr (List.mem_cons_of_mem _ hc)) with e | e
      · exact absurd (m1 c hc) (by omega)
      · exact e
theorem rising_sgn : ∀ (x : Nat) (cs : List Nat), risingS (sgn x) (cs.map sgn) = true → (x :: cs).Pairwise (· ≤ ·)
  | x, [], _ => by simp
  | x, y :: cs, h => by
    have h2 : (!ltCps [y] [x] && risingS (sgn y) (cs.map sgn)) = true := h
    obtain ⟨a, b⟩ := Bool.and_eq_true_iff.mp h2
    have le : x ≤ y := by
      rcases Nat.lt_or_ge y x with z | z
      · exfalso
        have : ltCps [y] [x] = true := by
          unfold ltCps
          simp [z]
        rw [this] at a
        cases a
      · exact z
    have ih := rising_sgn y cs b
    refine List.pairwise_cons.mpr ⟨fun c hc => ?_, ih⟩
    rcases List.mem_cons.mp hc with e | e
    · omega
    · have := (List.pairwise_cons.mp ih).1 c e
      omega
theorem sorted_sgn (cs : List Nat) (h : sortedS (cs.map sgn) = true) : cs.Pairwise (· ≤ ·) := by
  cases cs with
  | nil => exact List.Pairwise.nil
  | cons x r => exact rising_sgn x r h
theorem sgn_inj {a b : Nat} (h : sgn a = sgn b) : a = b := by
  have : [a] = [b] := congrArg (fun z : Str => z.cps.toList) h
  exact (List.cons.inj this).1
/-- ''.join(sorted(set(list(z)))) -/
theorem once_eq {z : Str} {ys : List Str} (ok : Ok z) (pm : ys.Perm (Tx.got ((T z).map sgn) [])) (so : sortedS ys = true) : ys = ((T AL).filter (pOf z)).map sgn := by
  have mem : ∀ y, y ∈ ys ↔ y ∈ (T z).map sgn := fun y => by
    rw [pm.mem_iff, Tx.got_mem]
    simp
  have ex : ∃ cs : List Nat, ys = cs.map sgn := by
    have gen : ∀ l : List Str, (∀ y ∈ l, y ∈ (T z).map sgn) → ∃ cs : List Nat, l = cs.map sgn := by
      intro l
      induction l with
      | nil => exact fun _ => ⟨[], rfl⟩
      | cons y l ih =>
        intro h
        obtain ⟨c, _, e⟩ := List.mem_map.mp (h y List.mem_cons_self)
        obtain ⟨cs, e2⟩ := ih fun u hu => h u (List.mem_cons_of_mem _ hu)
        exact ⟨c :: cs, by rw [List.map_cons, e, e2]⟩
    exact gen ys fun y hy => (mem y).mp hy
  obtain ⟨cs, rfl⟩ := ex
  have nd : (cs.map sgn).Nodup := pm.nodup_iff.mpr (Tx.got_nodup _ _ List.nodup_nil)
  have nd2 : cs.Nodup := List.Pairwise.of_map sgn (fun _ _ hne e => hne (congrArg sgn e)) nd
  have le := sorted_sgn cs so
  have lt : cs.Pairwise (· < ·) := by
    refine (List.pairwise_and_iff.mpr ⟨le, nd2⟩).imp fun h => ?_
    have := h.1
    have := h.2
    omega
  congr 1
  refine up_eq lt (al_up.filter _) fun c => ?_
  have m1 : c ∈ cs ↔ c ∈ T z := by
    constructor
    · intro h
      obtain ⟨d, hd, e⟩ := List.mem_map.mp ((mem (sgn c)).mp (List.mem_map.mpr ⟨c, h, rfl⟩))
      rw [← sgn_inj e]
      exact hd
    · intro h
      obtain ⟨d, hd, e⟩ := List.mem_map.mp ((mem (sgn c)).mpr (List.mem_map.mpr ⟨c, h, rfl⟩))
      rw [← sgn_inj e]
      exact hd
  rw [m1, List.mem_filter]
  unfold pOf
  simp only [decide_eq_true_eq]
  exact ⟨fun h => ⟨ok c h, h⟩, fun h => h.2⟩
end Tw
namespace Tl
open PySem PySem.Spec PyProof.Rows L2
theorem for_st {α : Type} {tgt : TgF} {body : FnS} {P : AP} {ψ : XA} (f : α → D) (St : List α → List A → Prop) : ∀ (items done : List α) (env : List A), St done env →
    (∀ pre a suf env (k : List A → Prop), done ++ items = pre ++ a :: suf → done.length ≤ pre.length → St pre env → (∀ env', St (pre ++ [a]) env' → k env') → tgt (f a) env fun env1 => body env1 { P with nx := k, ct := k, bk := P.nx } ψ) →
    (∀ env, St (done ++ items) env → P.nx env) → forA tgt body (items.map f) env P ψ
  | [], done, env, h0, step, fin => fin env (by rw [List.append_nil]; exact h0)
  | a :: items, done, env, h0, step, fin => by
    refine step done a items env _ rfl (Nat.le_refl _) h0 fun env' h => ?_
    refine for_st f St items (done ++ [a]) env' h (fun pre a' suf env k e hl hs hk => step pre a' suf env k ?_ ?_ hs hk) fun env h => fin env ?_
    · rw [← e, List.append_assoc]; rfl
    · rw [List.length_append] at hl; omega
    · rw [List.append_assoc] at h; exact h
theorem for_all {α : Type} {tgt : TgF} {body : FnS} {P : AP} {ψ : XA} {env : List A} (f : α → D) (items : List α) (St : List α → List A → Prop) (h0 : St [] env)
    (step : ∀ pre a suf env (k : List A → Prop), items = pre ++ a :: suf → St pre env → (∀ env', St (pre ++ [a]) env' → k env') → tgt (f a) env fun env1 => body env1 { P with nx := k, ct := k, bk := P.nx } ψ)
    (fin : ∀ env, St items env → P.nx env) : forA tgt body (items.map f) env P ψ :=
  for_st f St items [] env h0 (fun pre a suf env k e _ hs hk => step pre a suf env k e hs hk) fin
/-- a loop that stops at the first for which p holds -/
theorem for_find {α : Type} {tgt : TgF} {body : FnS} {P : AP} {ψ : XA} (f : α → D) (p : α → Bool) (St : List A → Prop) (Q : α → Prop) : ∀ (items : List α) (env : List A), St env →
    (∀ a ∈ items, ∀ env (k : List A → Prop), St env → (p a = false → ∀ env', St env' → k env') → (p a = true → Q a) → tgt (f a) env fun env1 => body env1 { P with nx := k, ct := k, bk := P.nx } ψ) →
    (match items.find? p with | some a => Q a | none => ∀ env, St env → P.nx env) → forA tgt body (items.map f) env P ψ
  | [], env, h0, step, fin => fin env h0
  | a :: items, env, h0, step, fin => by
    refine step a List.mem_cons_self env _ h0 (fun e env' h => ?_) (fun e => ?_)
    · refine for_find f p St Q items env' h (fun b m => step b (List.mem_cons_of_mem _ m)) ?_
      rw [List.find?_cons_of_neg (by rw [e]; decide)] at fin
      exact fin
    · rw [List.find?_cons_of_pos e] at fin
      exact fin
theorem lc_map {α : Type} {body : D → (Option D → Prop) → Prop} (f : α → D) (g : α → Option D) : ∀ (items : List α) (φ : List D → Prop), (∀ a ∈ items, ∀ k : Option D → Prop, k (g a) → body (f a) k) → φ (items.filterMap g) → lcA body (items.map f) φ
  | [], φ, _, h => h
  | a :: items, φ, hb, h => by
    refine hb a List.mem_cons_self _ ?_
    refine lc_map f g items _ (fun b m => hb b (List.mem_cons_of_mem _ m)) ?_
    cases q : g a with
    | none => rw [List.filterMap_cons_none q] at h; exact h
    | some d => rw [List.filterMap_cons_some q] at h; exact h
theorem lc_all {α : Type} {body : D → (Option D → Prop) → Prop} (f g : α → D) (items : List α) (φ : List D → Prop) (hb : ∀ a ∈ items, ∀ k : Option D → Prop, k (some (g a)) → body (f a) k) (h : φ (items.map g)) : lcA body (items.map f) φ :=
  lc_map f (fun a => some (g a)) items φ hb (by rw [List.filterMap_eq_map']; exact h)
theorem in_map {α : Type} {body : D → (Option D → Prop) → Prop} (f g : α → D) : ∀ (items : List α) (acc : List D) (φ : List D → Prop), acc.length + items.length < 1000000 → (∀ a ∈ items, ∀ k : Option D → Prop, k (some (g a)) → body (f a) k) → φ (acc ++ items.map g) → lcIn body (items.map f) acc φ
  | [], acc, φ, _, _, h => by rw [List.map_nil, List.append_nil] at h; exact h
  | a :: items, acc, φ, hl, hb, h => by
    refine hb a List.mem_cons_self _ ⟨by rw [List.length_cons] at hl; omega, ?_⟩
    refine in_map f g items _ φ (by rw [List.length_append, List.length_singleton]; rw [List.length_cons] at hl; omega) (fun b m => hb b (List.mem_cons_of_mem _ m)) ?_
    rw [List.append_assoc]; exact h
theorem out_map {α β : Type} {turn : D → List D → (List D → Prop) → Prop} (f : α → D) (g : α → List D) (n : Nat) : ∀ (items : List α) (acc : List D) (φ : List D → Prop), (∀ a ∈ items, (g a).length ≤ n) → acc.length + items.length * n < 1000000 →
    (∀ a ∈ items, ∀ (acc : List D) (k : List D → Prop), acc.length + n < 1000000 → k (acc ++ g a) → turn (f a) acc k) → φ (acc ++ items.flatMap g) → lcOut turn (items.map f) acc φ
  | [], acc, φ, _, _, _, h => by rw [List.flatMap_nil, List.append_nil] at h; exact h
  | a :: items, acc, φ, hn, hl, hb, h => by
    rw [List.length_cons, Nat.add_mul, Nat.one_mul] at hl
    refine hb a List.mem_cons_self acc _ (by omega) ?_
    refine out_map (β := β) f g n items _ φ (fun b m => hn b (List.mem_cons_of_mem _ m)) ?_ (fun b m => hb b (List.mem_cons_of_mem _ m)) ?_
    · rw [List.length_append]
      have := hn a List.mem_cons_self
      omega
    · rw [List.append_assoc]; exact h
mutual
/-- none, ints, texts, rows of them -/
def flatD : D → Bool
  | .non => true
  | .int _ => true
  | .str _ => true
  | .tup ds => flatL ds
  | .lst ds => flatL ds
  | .bl _ => false
  | .obj _ _ _ => false
  | .dct _ _ => false
  | .glo _ => false
  | .ty _ => false
def flatL : List D → Bool
  | [] => true
  | d :: ds => flatD d && flatL ds
end
mutual
theorem eqD_flat : ∀ d e : D, flatD d = true → flatD e = true → (eqD d e = true ↔ d = e)
  | .non, e, _, he => by
    cases e <;> first | (rw [flatD] at he; cases he; done) | (unfold eqD; simp [pyOf, PyData.eqv])
  | .int i, e, _, he => by
    cases e <;> first | (rw [flatD] at he; cases he; done) | (unfold eqD; simp [pyOf, PyData.eqv])
  | .str i, e, _, he => by
    cases e <;> first | (rw [flatD] at he; cases he; done) | (unfold eqD; simp [pyOf, PyData.eqv])
  | .tup ds, e, hd, he => by
    cases e <;> first | (rw [flatD] at he; cases he; done) | skip
    case tup es =>
      rw [flatD] at hd he
      have := eqL_flat ds es hd he
      unfold eqD
      rw [pyOf, pyOf, PyData.eqv, this]
      simp
    all_goals (unfold eqD; simp [pyOf, PyData.eqv])
  | .lst ds, e, hd, he => by
    cases e <;> first | (rw [flatD] at he; cases he; done) | skip
    case lst es =>
      rw [flatD] at hd he
      have := eqL_flat ds es hd he
      unfold eqD
      rw [pyOf, pyOf, PyData.eqv, this]
      simp
    all_goals (unfold eqD; simp [pyOf, PyData.eqv])
  | .bl _, _, h, _ => by rw [flatD] at h; cases h
  | .obj _ _ _, _, h, _ => by rw [flatD] at h; cases h
  | .dct _ _, _, h, _ => by rw [flatD] at h; cases h
  | .glo _, _, h, _ => by rw [flatD] at h; cases h
  | .ty _, _, h, _ => by rw [flatD] at h; cases h
theorem eqL_flat : ∀ ds es : List D, flatL ds = true → flatL es = true → (PyData.eqvAll (pyOfL ds) (pyOfL es) = true ↔ ds = es)
  | [], [], _, _ => by simp [pyOfL, PyData.eqvAll]
  | [], _ :: _, _, _ => by simp [pyOfL, PyData.eqvAll]
  | _ :: _, [], _, _ => by simp [pyOfL, PyData.eqvAll]
  | d :: ds, e :: es, hd, he => by
    rw [flatL, Bool.and_eq_true] at hd he
    have h1 := eqD_flat d e hd.1 he.1
    have h2 := eqL_flat ds es hd.2 he.2
    unfold eqD at h1
    rw [pyOfL, pyOfL, PyData.eqvAll, Bool.and_eq_true, h1, h2]
    simp
end
end Tl
namespace Tw
open PySem PySem.Spec PyProof.Rows L2 Tl
structure Rn where
  s : Str
  l : Int
  m : Option Int
deriving DecidableEq
def oi : Option Int → D
  | none => .non
  | some i => .int i
def Rn.d (r : Rn) : D := .tup [.str r.s, .int r.l, oi r.m]
abbrev Rw := List Rn
def rowD (r : Rw) : D := .tup (r.map Rn.d)
def kindD (rows : List Rw) : D := .obj "Kind" ["rows"] [.tup (rows.map rowD)]
theorem oi_inj : ∀ {a b : Option Int}, oi a = oi b → a = b
  | none, none, _ => rfl
  | some _, some _, h => by injection h with h; rw [h]
  | none, some _, h => nomatch h
  | some _, none, h => nomatch h
theorem rn_inj {a b : Rn} (h : a.d = b.d) : a = b := by
  unfold Rn.d at h
  injection h with h
  injection h with h1 h
  injection h with h2 h
  injection h with h3 h
  injection h1 with h1
  injection h2 with h2
  obtain ⟨s, l, m⟩ := a
  obtain ⟨s', l', m'⟩ := b
  have h4 := oi_inj h3
  simp only at h1 h2 h4
  rw [h1, h2, h4]
theorem map_inj {α β : Type} {f : α → β} (hf : ∀ a b, f a = f b → a = b) : ∀ {l m : List α}, l.map f = m.map f → l = m
  | [], [], _ => rfl
  | [], _ :: _, h => nomatch h
  | _ :: _, [], h => nomatch h
  | a :: l, b :: m, h => by
    rw [List.map_cons, List.map_cons] at h
    injection h with h1 h2
    rw [hf a b h1, map_inj hf h2]
theorem row_inj {a b : Rw} (h : rowD a = rowD b) : a = b := by
  unfold rowD at h
  injection h with h
  exact map_inj (fun _ _ => rn_inj) h
def okS (z : Str) : Prop := PyData.strOk z = true
def okW (r : Rw) : Prop := ∀ x ∈ r, okS x.s
def okWs (rows : List Rw) : Prop := ∀ r ∈ rows, okW r
theorem oi_flat (m : Option Int) : flatD (oi m) = true ∧ plainD (oi m) = true ∧ dpD (oi m) = 0 := by
  cases m <;> exact ⟨by simp [oi, flatD], by simp [oi, plainD], by simp [oi, dpD]⟩
theorem rn_flat (r : Rn) : flatD r.d = true := by
  unfold Rn.d
  rw [flatD, flatL, flatL, flatL, flatL, flatD, flatD, (oi_flat r.m).1]
  rfl
theorem flat_map {α : Type} {f : α → D} (h : ∀ a, flatD (f a) = true) : ∀ l : List α, flatL (l.map f) = true
  | [] => by rw [List.map_nil, flatL]
  | a :: l => by rw [List.map_cons, flatL, h a, flat_map h l]; rfl
theorem row_flat (r : Rw) : flatD (rowD r) = true := by
  unfold rowD
  rw [flatD]
  exact flat_map rn_flat r
theorem plain_map {α : Type} {f : α → D} : ∀ l : List α, (∀ a ∈ l, plainD (f a) = true) → plainL (l.map f) = true
  | [], _ => by rw [List.map_nil, plainL]
  | a :: l, h => by rw [List.map_cons, plainL, h a List.mem_cons_self, plain_map l fun b m => h b (List.mem_cons_of_mem _ m)]; rfl
theorem dp_map {α : Type} {f : α → D} {n : Nat} : ∀ l : List α, (∀ a ∈ l, dpD (f a) ≤ n) → dpL (l.map f) ≤ n
  | [], _ => by rw [List.map_nil, dpL]; omega
  | a :: l, h => by
    rw [List.map_cons, dpL]
    have h1 := h a List.mem_cons_self
    have h2 := dp_map l fun b m => h b (List.mem_cons_of_mem _ m)
    omega
theorem rn_plain {r : Rn} (h : okS r.s) : plainD r.d = true ∧ dpD r.d ≤ 1 := by
  unfold Rn.d
  refine ⟨?_, ?_⟩
  · rw [plainD, plainL, plainL, plainL, plainL, plainD, plainD, (oi_flat r.m).2.1]
    rw [show PyData.strOk r.s = true from h]
    rfl
  · rw [dpD, dpL, dpL, dpL, dpL, dpD, dpD, (oi_flat r.m).2.2]
    decide
theorem row_plain {r : Rw} (h : okW r) : plainD (rowD r) = true ∧ dpD (rowD r) ≤ 2 := by
  unfold rowD
  refine ⟨?_, ?_⟩
  · rw [plainD]; exact plain_map r fun a m => (rn_plain (h a m)).1
  · rw [dpD]
    have := dp_map (f := Rn.d) (n := 1) r fun a m => (rn_plain (h a m)).2
    omega
theorem pl_row {r : Rw} (h : okW r) : PlD (rowD r) := ⟨(row_plain h).1, by have := (row_plain h).2; omega⟩
theorem pl_rows {rows : List Rw} (h : okWs rows) : PlD (.lst (rows.map rowD)) ∧ PlD (.tup (rows.map rowD)) := by
  have h1 := plain_map (f := rowD) rows fun a m => (row_plain (h a m)).1
  have h2 := dp_map (f := rowD) (n := 2) rows fun a m => (row_plain (h a m)).2
  exact ⟨⟨by rw [plainD]; exact h1, by rw [dpD]; omega⟩, ⟨by rw [plainD]; exact h1, by rw [dpD]; omega⟩⟩
theorem eq_row (a b : Rw) : eqD (rowD a) (rowD b) = decide (a = b) := by
  rw [Bool.eq_iff_iff, decide_eq_true_eq, eqD_flat _ _ (row_flat a) (row_flat b)]
  exact ⟨row_inj, fun h => by rw [h]⟩
theorem any_row (r : Rw) (rows : List Rw) : (rows.map rowD).any (fun z => eqD z (rowD r)) = decide (r ∈ rows) := by
  rw [Bool.eq_iff_iff, List.any_eq_true, decide_eq_true_eq]
  constructor
  · rintro ⟨z, m, e⟩
    obtain ⟨a, ha, rfl⟩ := List.mem_map.mp m
    rw [eq_row, decide_eq_true_eq] at e
    rw [← e]; exact ha
  · intro m
    exact ⟨rowD r, List.mem_map.mpr ⟨r, m, rfl⟩, by rw [eq_row]; simp⟩
def keepA (acc rows : List Rw) : List Rw := rows.foldl (fun a r => if r ∈ a then a else a ++ [r]) acc
def kept (rows : List Rw) : List Rw := keepA [] rows
theorem keepA_mem : ∀ (rows acc : List Rw) (r : Rw), r ∈ keepA acc rows ↔ r ∈ acc ∨ r ∈ rows
  | [], acc, r => by simp [keepA]
  | x :: rows, acc, r => by
    show r ∈ keepA (if x ∈ acc then acc else acc ++ [x]) rows ↔ _
    rw [keepA_mem rows]
    split
    · rename_i h
      constructor
      · rintro (h1 | h1)
        · exact .inl h1
        · exact .inr (List.mem_cons_of_mem _ h1)
      · rintro (h1 | h1)
        · exact .inl h1
        · rcases List.mem_cons.mp h1 with e | h1
          · rw [e]; exact .inl h
          · exact .inr h1
    · simp [List.mem_append, or_assoc]
theorem kept_mem {rows : List Rw} {r : Rw} : r ∈ kept rows ↔ r ∈ rows := by
  unfold kept
  rw [keepA_mem]; simp
theorem keepA_app (a b acc : List Rw) : keepA acc (a ++ b) = keepA (keepA acc a) b := by unfold keepA; rw [List.foldl_append]
theorem kept_snoc (pre : List Rw) (r : Rw) : kept (pre ++ [r]) = if r ∈ kept pre then kept pre else kept pre ++ [r] := by
  unfold kept
  rw [keepA_app]; rfl
theorem keepA_len : ∀ (rows acc : List Rw), (keepA acc rows).length ≤ acc.length + rows.length
  | [], acc => by simp [keepA]
  | x :: rows, acc => by
    have h := keepA_len rows (if x ∈ acc then acc else acc ++ [x])
    have h2 : (if x ∈ acc then acc else acc ++ [x]).length ≤ acc.length + 1 := by
      split
      · omega
      · rw [List.length_append, List.length_singleton]; omega
    show (keepA (if x ∈ acc then acc else acc ++ [x]) rows).length ≤ _
    rw [List.length_cons]; omega
theorem kept_len (rows : List Rw) : (kept rows).length ≤ rows.length := by
  have := keepA_len rows []
  rw [List.length_nil] at this
  unfold kept; omega
theorem kept_ne {rows : List Rw} (h : rows ≠ []) : kept rows ≠ [] := by
  intro e
  cases rows with
  | nil => exact h rfl
  | cons x r =>
    have : x ∈ kept (x :: r) := kept_mem.mpr List.mem_cons_self
    rw [e] at this
    cases this
theorem kept_ok {rows : List Rw} (h : okWs rows) : okWs (kept rows) := fun r m => h r (kept_mem.mp m)
def Rn.pl (r : Rn) : Int := match r.m with
  | none => if 1 > r.l then 1 else r.l
  | some m => m
def rowPl (r : Rw) : Int := (r.map Rn.pl).sum
def rowsPl (rows : List Rw) : Int := (rows.map rowPl).sum
def fits (rows : List Rw) : Bool := decide (rows.length ≤ 20) && (decide (∀ r ∈ rows, r.length ≤ 20) && decide (rowsPl rows ≤ 120))
end Tw
namespace Tw
open PySem PySem.Spec PyProof.Rows L2 Tl
abbrev vKind (rows : List Rw) : A := .val (kindD rows)
/-- alternatives as they come: not too many, none empty, texts of codes -/
structure Rs (rows : List Rw) : Prop where
  ne : rows ≠ []
  ok : okWs rows
  len : rows.length ≤ 400
  wid : ∀ r ∈ rows, r.length ≤ 40
/-- a kind's -/
structure Ks (rows : List Rw) : Prop where
  rs : Rs rows
  one : kept rows = rows
  fit : fits rows = true
/-- what made_kind makes of rows -/
def made (rows : List Rw) (φ : D → Prop) (ψ : Er → Prop) : Prop := if fits (kept rows) = true then φ (kindD (kept rows)) else ψ (.plain "BadKind")
def g_run_places (cs : List Str) : Gs := fun as φ _ => ∃ r : Rn, as = [.val r.d] ∧ φ (.int r.pl)
def g_Kind_init (cs : List Str) : Gs := fun as φ _ => ∃ d, as = [.val d] ∧ φ (.obj "Kind" ["rows"] [d])
def g_is_number (cs : List Str) : Gs := fun as φ _ => ∃ i lo hi : Int, as = [.val (.int i), .val (.int lo), .val (.int hi)] ∧ φ (.bl (decide (lo ≤ i) && decide (i ≤ hi)))
/-- isinstance can look at it -/
def KnD (cs : List Str) : D → Prop
  | .obj c _ _ => c ∈ cs
  | .glo _ => False
  | .ty _ => False
  | _ => True
def g_is_signs (cs : List Str) : Gs := fun as φ _ => (∃ z, as = [.val (.str z)] ∧ Ok z ∧ φ (.bl true)) ∨ ∃ d, as = [.val d] ∧ KnD cs d ∧ (∀ z, d = .str z → ¬ Ok z) ∧ φ (.bl false)
def g_in_order (cs : List Str) : Gs := fun as φ _ => ∃ z, as = [.val (.str z)] ∧ φ (.str (of (pOf z)))
def g_held_signs (cs : List Str) : Gs := fun as φ _ => ∃ z, as = [.val (.str z)] ∧ Ok z ∧ φ (.str (of (pOf z)))
def g_run_signs (cs : List Str) : Gs := fun as φ _ => ∃ z, as = [.val (.str z)] ∧ Ok z ∧ T z ≠ [] ∧ φ (.str (of (pOf z)))
def g_made_kind (cs : List Str) : Gs := fun as φ ψ => ∃ rows d, as = [.val d] ∧ (d = .lst (rows.map rowD) ∨ d = .tup (rows.map rowD)) ∧ Rs rows ∧ made rows φ ψ
def g_Kind_run (cs : List Str) : Gs := fun as φ _ => ∃ (z : Str) (l : Int) (m : Option Int), as = [.val (.str z), .val (.int l), .val (oi m)] ∧ Ok z ∧ T z ≠ [] ∧ 0 ≤ l ∧ l ≤ 40 ∧ (∀ i, m = some i → 1 ≤ i ∧ i ≤ 40 ∧ l ≤ i) ∧ φ (kindD [[⟨of (pOf z), l, m⟩]])
def g_Kind_alternatives (cs : List Str) : Gs := fun as φ _ => ∃ a, as = [vKind a] ∧ φ (.tup (a.map rowD))
/-- signs drawn out of letters -/
structure Sgs (z : Str) : Prop where
  ok : Ok z
  ne : T z ≠ []
  as : of (pOf z) = z
structure GRn (r : Rn) : Prop where
  s : Sgs r.s
  l0 : 0 ≤ r.l
  l1 : r.l ≤ 3
  m : ∀ i, r.m = some i → 1 ≤ i ∧ i ≤ 5 ∧ r.l ≤ i
structure GRows (rows : List Rw) : Prop where
  r : ∀ row ∈ rows, ∀ x ∈ row, GRn x
  w : ∀ row ∈ rows, 1 ≤ row.length ∧ row.length ≤ 3
  n : 1 ≤ rows.length ∧ rows.length ≤ 2
  e : ∀ row ∈ rows, ∃ x ∈ row, 1 ≤ x.l
def g_law_letters (cs : List Str) : Gs := fun as φ _ => ∃ n, as = [.bag, .val (.int n)] ∧ 0 ≤ n ∧ n ≤ 94 ∧ ∀ ls : List Nat, ls.length = n.toNat → ls.Nodup → (∀ c ∈ ls, c ∈ T AL) → φ (.lst (ls.map fun c => D.str (sgn c)))
end Tw
section
set_option maxHeartbeats 4000000
namespace Tw
open PySem PySem.Spec PyProof.Rows L2 Tl
def b_run_places (cs errs : List Str) : FnS := (hSeq (hIf (bE (eOp (gIs false) (eOp gIx (eVar 0) (eC (.int 2))) (eC .non))) (hRet (eCB gMax2 (zCons (eOp gIx (eVar 0) (eC (.int 1))) (zCons (eC (.int 1)) zNil)))) hNext)
    (hRet (eOp gIx (eVar 0) (eC (.int 2)))))
def b_Kind_init (cs errs : List Str) : FnS := (hFld ["Kind"] "rows" 0 (eVar 1))
def b_is_number (cs errs : List Str) : FnS := (hSeq (hIf (bOr (bE (eCB (gIsi (.ty "bool") (isiOf cs (.ty "bool"))) (zCons (eVar 0) (zCons (eC (.ty "bool")) zNil)))) (bNot (bE (eCB (gIsi (.ty "int") (isiOf cs (.ty "int"))) (zCons (eVar 0) (zCons (eC (.ty "int")) zNil)))))) (hRet (eC (.bl false))) hNext)
    (hRet (eAnd (eOp (gI0 fun i j => .bl (decide (j ≤ i))) (eVar 0) (eVar 1)) (eOr (eOp (gIs false) (eVar 2) (eC .non)) (eOp (gI0 fun i j => .bl (decide (i ≤ j))) (eVar 0) (eVar 2))))))
def b_is_signs (cs errs : List Str) : FnS := (hSeq (hIf (bNot (bE (eCB (gIsi (.ty "str") (isiOf cs (.ty "str"))) (zCons (eVar 0) (zCons (eC (.ty "str")) zNil))))) (hRet (eC (.bl false))) hNext)
    (hSeq (hFor (eIt (eVar 0)) (tgSet 1)
      (hIf (bE (eOp (gInS true) (eVar 1) (eC (.str c_ALPHABET)))) (hRet (eC (.bl false))) hNext))
    (hRet (eC (.bl true)))))
def b_Kind_alternatives (cs errs : List Str) : FnS := (hRet (eFld ["Kind"] "rows" (eVar 0)))
def b_in_order (cs errs : List Str) : FnS := (hRet (eJoin (eC (.str "")) (eLv (eLc (eIt (eC (.str c_ALPHABET))) (tgSet 1) (bE (eOp (gInS false) (eVar 1) (eVar 0))) (eVar 1) [1]))))
def b_held_signs (cs errs : List Str) : FnS := (hSeq (hIf (bE (eCB (gIsi (.glo "Signs") (isiOf cs (.glo "Signs"))) (zCons (eVar 0) (zCons (eC (.glo "Signs")) zNil)))) (hRet (eFld ["Signs"] "held" (eVar 0))) hNext)
    (hSeq (hIf (bNot (bE (eCall (g_is_signs cs) [] (zCons (eVar 0) zNil)))) (hRaise0 "BadSigns") hNext)
    (hRet (eCall (g_in_order cs) [] (zCons (eVar 0) zNil)))))
def b_made_kind (cs errs : List Str) : FnS := (hSeq (hSetO 1 (eLst zNil))
    (hSeq (hFor (eIt (eVar 0)) (tgSet 2)
      (hIf (bE (eOp (gInL true) (eVar 2) (eOwn 1))) (hApp 1 (eVar 2)) hNext))
    (hSettle 1 (hSeq (hSet 3 (eCr gSum (eLv (eLc (eIt (eVar 1)) (tgSet 2) bYes (eCr gSum (eLv (eLc (eIt (eVar 2)) (tgSet 4) bYes (eCall (g_run_places cs) [] (zCons (eVar 4) zNil)) [4]))) [2]))))
    (hSeq (hIf (bOr (bE (eOp gGt (eCr gLen (eVar 1)) (eC (.int 20)))) (bOr (bE (eOp gGt (eCr gMax (eLv (eLc (eIt (eVar 1)) (tgSet 2) bYes (eCr gLen (eVar 2)) [2]))) (eC (.int 20)))) (bE (eOp gGt (eVar 3) (eC (.int 120)))))) (hRaise0 "BadKind") hNext)
    (hRet (eMake "Kind" (g_Kind_init cs) [] (zCons (eCr gTuple (eVar 1)) zNil))))))))
def b_run_signs (cs errs : List Str) : FnS := (hSeq (hTry (hSet 1 (eCall (g_held_signs cs) [] (zCons (eVar 0) zNil))) [⟨(fun _ => none), hNever⟩])
    (hSeq (hIf (bE (eOp (gEq false) (eVar 1) (eC (.str "")))) (hRaise0 "BadKind") hNext)
    (hRet (eVar 1))))
def b_Kind_run (cs errs : List Str) : FnS := (hSeq (hSet 3 (eCall (g_run_signs cs) [] (zCons (eVar 0) zNil)))
    (hSeq (hIf (bOr (bNot (bE (eCall (g_is_number cs) [] (zCons (eVar 1) (zCons (eC (.int 0)) (zCons (eC (.int 40)) zNil)))))) (bAnd (bE (eOp (gIs true) (eVar 2) (eC .non))) (bNot (bE (eCall (g_is_number cs) [] (zCons (eVar 2) (zCons (eC (.int 1)) (zCons (eC (.int 40)) zNil)))))))) (hRaise0 "BadKind") hNext)
    (hSeq (hIf (bAnd (bE (eOp (gIs true) (eVar 2) (eC .non))) (bE (eOp gGt (eVar 1) (eVar 2)))) (hRaise0 "BadKind") hNext)
    (hRet (eCall (g_made_kind cs) [] (zCons (eLv (eLst (zCons (eTup (zCons (eTup (zCons (eVar 3) (zCons (eVar 1) (zCons (eVar 2) zNil)))) zNil)) zNil))) zNil))))))
end Tw
end
section
set_option maxHeartbeats 1000000
namespace Tw
open PySem PySem.Spec PyProof.Rows L2 Tl
variable (cs errs : List Str)
theorem u_run_places : ∀ as φ ψ, g_run_places cs as φ ψ → as.length = 1 ∧ runF 1 (b_run_places cs errs) as φ ψ := fun as φ ψ h => by
  obtain ⟨⟨s, l, m⟩, rfl, h⟩ := h
  refine ⟨rfl, ?_⟩
  cases m with
  | none => exact h
  | some i => exact h
theorem u_Kind_init : ∀ as φ ψ, g_Kind_init cs as φ ψ → runM "Kind" 1 (b_Kind_init cs errs) as φ ψ := fun as φ ψ h => by
  obtain ⟨d, rfl, h⟩ := h
  intro p
  exact ⟨List.mem_cons_self, List.not_mem_nil, by decide, rfl, rfl, h⟩
theorem l_Kind_init : ∀ as φ ψ, g_Kind_init cs as φ ψ → as.length = 1 := fun as φ ψ h => by
  obtain ⟨d, rfl, h⟩ := h
  rfl
theorem u_is_number : ∀ as φ ψ, g_is_number cs as φ ψ → as.length = 3 ∧ runF 3 (b_is_number cs errs) as φ ψ := fun as φ ψ h => by
  obtain ⟨i, lo, hi, rfl, h⟩ := h
  refine ⟨rfl, rfl, rfl, ?_⟩
  show if decide (lo ≤ i) = true then _ else _
  cases q : decide (lo ≤ i) with
  | true => rw [q] at h; exact h
  | false => rw [q] at h; exact h
theorem kn_str {cs : List Str} {d : D} (h : KnD cs d) : ∃ k v, kiOf d = some k ∧ isiOf cs (.ty "str") k = some v ∧ (v = true ↔ ∃ z, d = .str z) := by
  cases d with
  | glo _ => exact False.elim h
  | ty _ => exact False.elim h
  | str z => exact ⟨_, true, rfl, rfl, ⟨fun _ => ⟨z, rfl⟩, fun _ => rfl⟩⟩
  | obj c _ _ => exact ⟨_, false, rfl, if_pos h, ⟨(fun z => nomatch z), fun ⟨z, e⟩ => nomatch e⟩⟩
  | _ => exact ⟨_, false, rfl, rfl, ⟨(fun z => nomatch z), fun ⟨z, e⟩ => nomatch e⟩⟩
theorem u_is_signs : ∀ as φ ψ, g_is_signs cs as φ ψ → as.length = 1 ∧ runF 2 (b_is_signs cs errs) as φ ψ := fun as φ ψ h => by
  rcases h with ⟨z, rfl, oz, h⟩ | ⟨d, rfl, kn, nz, h⟩
  · refine ⟨rfl, rfl, ?_⟩
    show forA _ _ (Tl.signs z) _ _ _
    unfold Tl.signs
    refine for_all _ (T z) (fun pre env => ∃ x, env = [.val (.str z), x]) ⟨_, rfl⟩ (fun pre c suf env k e hs hk => ?_) (fun env hs => ?_)
    · obtain ⟨x, rfl⟩ := hs
      have hc : c ∈ T AL := oz c (by rw [e]; simp)
      show if (!decide (c ∈ T AL)) = true then _ else _
      rw [decide_eq_true hc]
      exact hk _ ⟨_, rfl⟩
    · exact h
  · refine ⟨rfl, rfl, ?_⟩
    obtain ⟨k, v, e1, e2, e3⟩ := kn_str kn
    show (match kiOf d with | some k => (match isiOf cs (.ty "str") k with | some v => _ | none => False) | none => False)
    rw [e1]
    show (match isiOf cs (.ty "str") k with | some v => _ | none => False)
    rw [e2]
    cases v with
    | false => exact h
    | true =>
    obtain ⟨z, e⟩ := e3.mp rfl
    subst e
    show forA _ _ (Tl.signs z) _ _ _
    unfold Tl.signs
    refine for_find _ (fun c => !decide (c ∈ T AL)) (fun env => ∃ x, env = [.val (.str z), x]) (fun _ => φ (.bl false)) (T z) _ ⟨_, rfl⟩ (fun c mc env k hs h0 h1 => ?_) ?_
    · obtain ⟨x, rfl⟩ := hs
      show if (!decide (c ∈ T AL)) = true then _ else _
      cases q : decide (c ∈ T AL) with
      | true => rw [q] at h0; exact h0 rfl _ ⟨_, rfl⟩
      | false => exact h
    · cases q : (T z).find? fun c => !decide (c ∈ T AL) with
      | some c => exact h
      | none =>
        refine absurd (fun c mc => ?_) (nz z rfl)
        have := List.find?_eq_none.mp q c mc
        simpa using this
theorem u_Kind_alternatives : ∀ as φ ψ, g_Kind_alternatives cs as φ ψ → as.length = 1 ∧ runF 1 (b_Kind_alternatives cs errs) as φ ψ := fun as φ ψ h => by
  obtain ⟨a, rfl, h⟩ := h
  exact ⟨rfl, List.mem_cons_self, h⟩
end Tw
end
section
set_option maxHeartbeats 1000000
namespace Tw
open PySem PySem.Spec PyProof.Rows L2 Tl
variable (cs errs : List Str)
theorem strsD_sgn (l : List Nat) : strsD (l.map fun c => D.str (sgn c)) = some (l.map sgn) := by
  have e : (l.map fun c => D.str (sgn c)) = (l.map sgn).map D.str := by rw [List.map_map]; rfl
  rw [e, strsD_map]
theorem sgn_len (l : List Nat) : ((l.map sgn).map (·.length)).sum + (l.map sgn).length * (SX.S []).length = l.length := by
  rw [sum_sgn]
  show l.length + _ * 0 = _
  omega
theorem u_in_order : ∀ as φ ψ, g_in_order cs as φ ψ → as.length = 1 ∧ runF 2 (b_in_order cs errs) as φ ψ := fun as φ ψ h => by
  obtain ⟨z, rfl, h⟩ := h
  refine ⟨rfl, trivial, ?_⟩
  refine ⟨?_, ?_⟩
  · show (Tl.signs AL).length < 1000000
    rw [signs_len]
    decide +kernel
  show lcA _ (Tl.signs AL) _
  unfold Tl.signs
  refine lc_map _ (fun c => if pOf z c = true then some (D.str (sgn c)) else none) (T AL) _ (fun c hc k hk => ?_) ?_
  · show if decide (c ∈ T z) = true then _ else _
    unfold pOf at hk
    split
    · rename_i hh; rw [if_pos hh] at hk; exact hk
    · rename_i hh; rw [if_neg hh] at hk; exact hk
  · have e : (T AL).filterMap (fun c => if pOf z c = true then some (D.str (sgn c)) else none) = ((T AL).filter (pOf z)).map fun c => D.str (sgn c) := by
      generalize T AL = l
      induction l with
      | nil => rfl
      | cons a l ih =>
        rw [List.filterMap_cons, List.filter_cons]
        cases q : pOf z a with
        | true => rw [if_pos rfl, if_pos rfl, List.map_cons, ih]
        | false => rw [if_neg (fun h => nomatch h), if_neg (fun h => nomatch h), ih]
    show (match strsD ((T AL).filterMap _) with | some ys => _ ∧ _ | none => False)
    rw [e, strsD_sgn]
    have j := join_sgn ((T AL).filter (pOf z))
    refine ⟨?_, ?_⟩
    · have := sgn_len ((T AL).filter (pOf z))
      have l2 : ((T AL).filter (pOf z)).length ≤ 94 := by rw [← al_len]; exact List.length_filter_le _ _
      show ((((T AL).filter (pOf z)).map sgn).map (·.length)).sum + (((T AL).filter (pOf z)).map sgn).length * (SX.S []).length ≤ _
      omega
    · show φ (.str (Txt.join (SX.S []) _))
      rw [j]; exact h
theorem u_held_signs : ∀ as φ ψ, g_held_signs cs as φ ψ → as.length = 1 ∧ runF 1 (b_held_signs cs errs) as φ ψ := fun as φ ψ h => by
  obtain ⟨z, rfl, oz, h⟩ := h
  exact ⟨rfl, rfl, .inl ⟨z, rfl, oz, z, rfl, h⟩⟩
theorem of_ne {z : Str} (oz : Ok z) (ne : T z ≠ []) : of (pOf z) ≠ SX.S [] := fun e => by
  cases q : T z with
  | nil => exact ne q
  | cons c r =>
    have m : c ∈ T (of (pOf z)) := by
      rw [T_of]
      refine List.mem_filter.mpr ⟨oz c (by rw [q]; exact List.mem_cons_self), ?_⟩
      unfold pOf
      rw [q]; simp
    rw [e] at m
    exact nomatch m
theorem u_run_signs : ∀ as φ ψ, g_run_signs cs as φ ψ → as.length = 1 ∧ runF 2 (b_run_signs cs errs) as φ ψ := fun as φ ψ h => by
  obtain ⟨z, rfl, oz, ne, h⟩ := h
  refine ⟨rfl, z, rfl, oz, ?_⟩
  show if decide (of (pOf z) = SX.S []) = true then _ else _
  rw [if_neg (by rw [decide_eq_true_eq]; exact of_ne oz ne)]
  exact h
end Tw
end
section
set_option maxHeartbeats 1000000
namespace Tw
open PySem PySem.Spec PyProof.Rows L2 Tl
variable (cs errs : List Str)
theorem pl_one (r : Rw) : rowsPl [r] = rowPl r := by
  unfold rowsPl; simp
theorem rpl_one (r : Rn) : rowPl [r] = r.pl := by
  unfold rowPl; simp
abbrev lens (rows : List Rw) : List Int := rows.map fun r => (r.length : Int)
theorem max_lens {rows : List Rw} {m : Int} (h : m ∈ lens rows ∧ ∀ y ∈ lens rows, y ≤ m) : (m ≤ 20) ↔ ∀ r ∈ rows, r.length ≤ 20 := by
  constructor
  · intro h2 r hr
    have := h.2 _ (List.mem_map.mpr ⟨r, hr, rfl⟩)
    omega
  · intro h2
    obtain ⟨r, hr, e⟩ := List.mem_map.mp h.1
    have := h2 r hr
    omega
theorem ints_lens (rows : List Rw) : intsD (rows.map fun r => D.int (r.length : Int)) = some (lens rows) := by
  rw [show (rows.map fun r => D.int (r.length : Int)) = (lens rows).map D.int by rw [List.map_map]; rfl]
  exact intsD_map _
theorem rowD_len (r : Rw) : (r.map Rn.d).length = r.length := List.length_map ..
theorem ints_of {α : Type} (f : α → Int) (l : List α) : intsD (l.map fun r => D.int (f r)) = some (l.map f) := by
  rw [show (l.map fun r => D.int (f r)) = (l.map f).map D.int by rw [List.map_map]; rfl]
  exact intsD_map _
theorem kept_loop {d : D} {P : AP} {ψ : XA} {rows : List Rw} (hr : Rs rows) (fin : ∀ x, P.nx [.val d, .own ((kept rows).map rowD), x, .no, .no]) :
    forA (tgSet 2) (hIf (bE (eOp (gInL true) (eVar 2) (eOwn 1))) (hApp 1 (eVar 2)) hNext) (rows.map rowD) [.val d, .own [], .no, .no, .no] P ψ := by
  refine for_all rowD rows (fun pre env => ∃ x, env = [.val d, .own ((kept pre).map rowD), x, .no, .no]) ⟨_, rfl⟩ (fun pre r suf env k e hs hk => ?_) (fun env hs => ?_)
  · obtain ⟨x, rfl⟩ := hs
    have opre : okWs pre := fun a m => hr.ok a (by rw [e]; exact List.mem_append_left _ m)
    have okr : okW r := hr.ok r (by rw [e]; simp)
    refine ⟨pl_row okr, (pl_rows (kept_ok opre)).1, ?_⟩
    show if (!((kept pre).map rowD).any fun z => eqD z (rowD r)) = true then _ else _
    rw [any_row]
    have ks := kept_snoc pre r
    by_cases m : r ∈ kept pre
    · rw [if_pos m] at ks
      rw [decide_eq_true m]
      exact hk _ ⟨_, by rw [ks]; rfl⟩
    · rw [if_neg m] at ks
      rw [decide_eq_false m]
      refine ⟨trivial, ?_, hk _ ⟨.val (rowD r), ?_⟩⟩
      · rw [List.length_map]
        have l1 := kept_len pre
        have l2 := hr.len
        rw [e, List.length_append] at l2
        omega
      · rw [ks, List.map_append]; rfl
  · obtain ⟨x, rfl⟩ := hs
    exact fin x
abbrev tl_made (cs : List Str) : FnS := (hSettle 1 (hSeq (hSet 3 (eCr gSum (eLv (eLc (eIt (eVar 1)) (tgSet 2) bYes (eCr gSum (eLv (eLc (eIt (eVar 2)) (tgSet 4) bYes (eCall (g_run_places cs) [] (zCons (eVar 4) zNil)) [4]))) [2]))))
    (hSeq (hIf (bOr (bE (eOp gGt (eCr gLen (eVar 1)) (eC (.int 20)))) (bOr (bE (eOp gGt (eCr gMax (eLv (eLc (eIt (eVar 1)) (tgSet 2) bYes (eCr gLen (eVar 2)) [2]))) (eC (.int 20)))) (bE (eOp gGt (eVar 3) (eC (.int 120)))))) (hRaise0 "BadKind") hNext)
    (hRet (eMake "Kind" (g_Kind_init cs) [] (zCons (eCr gTuple (eVar 1)) zNil))))))
theorem u_made_kind : ∀ as φ ψ, g_made_kind cs as φ ψ → as.length = 1 ∧ runF 5 (b_made_kind cs errs) as φ ψ := fun as φ ψ h => by
  obtain ⟨rows, d, rfl, hd, hr, h⟩ := h
  refine ⟨rfl, ?_⟩
  have go : ∀ x, tl_made cs [.val d, .own ((kept rows).map rowD), x, .no, .no] { nx := fun _ => φ .non, rt := fun d _ => φ d } (fun er _ => ψ er) := fun x => by
    have kl : (kept rows).length ≤ 400 := Nat.le_trans (kept_len rows) hr.len
    refine ⟨by rw [List.length_map]; omega, ?_⟩
    show lcA _ ((kept rows).map rowD) _
    refine lc_all rowD (fun r => D.int (rowPl r)) (kept rows) _ (fun r m k hk => ?_) ?_
    · have wr := hr.wid r (kept_mem.mp m)
      refine ⟨by rw [List.length_map]; omega, ?_⟩
      show lcA _ (r.map Rn.d) _
      refine lc_all Rn.d (fun x => D.int x.pl) r _ (fun x _ k hk => ⟨x, rfl, hk⟩) ?_
      show (match intsD (r.map fun x => D.int x.pl) with | some ns => _ | none => False)
      rw [ints_of]
      exact hk
    · show (match intsD ((kept rows).map fun x => D.int (rowPl x)) with | some ns => _ | none => False)
      rw [ints_of]
      show if decide (20 < (((kept rows).map rowD).length : Int)) = true then _ else _
      have e1 : decide (20 < (((kept rows).map rowD).length : Int)) = !decide ((kept rows).length ≤ 20) := by
        rw [List.length_map, ← decide_not, decide_eq_decide]; omega
      rw [e1]
      unfold made fits at h
      cases q1 : decide ((kept rows).length ≤ 20) with
      | false => rw [q1] at h; exact h
      | true =>
        rw [q1] at h
        refine ⟨by rw [List.length_map]; omega, ?_⟩
        show lcA _ ((kept rows).map rowD) _
        refine lc_all rowD (fun r => D.int (r.length : Int)) (kept rows) _ (fun r _ k hk => ?_) ?_
        · show k (some (.int ((r.map Rn.d).length : Int)))
          rw [rowD_len]; exact hk
        · show (match intsD ((kept rows).map fun r => D.int (r.length : Int)) with | some ns => ns ≠ [] ∧ _ | none => False)
          rw [ints_lens]
          refine ⟨fun e => kept_ne hr.ne (List.map_eq_nil_iff.mp e), fun m hm => ?_⟩
          show if decide (20 < m) = true then _ else _
          have e2 : decide (20 < m) = !decide (∀ r ∈ kept rows, r.length ≤ 20) := by
            rw [← decide_eq_decide.mpr (max_lens hm), ← decide_not, decide_eq_decide]; omega
          rw [e2]
          cases q2 : decide (∀ r ∈ kept rows, r.length ≤ 20) with
          | false => rw [q2] at h; exact h
          | true =>
            rw [q2] at h
            show if decide (120 < rowsPl (kept rows)) = true then _ else _
            have e3 : decide (120 < rowsPl (kept rows)) = !decide (rowsPl (kept rows) ≤ 120) := by
              rw [← decide_not, decide_eq_decide]; omega
            rw [e3]
            cases q3 : decide (rowsPl (kept rows) ≤ 120) with
            | false => rw [q3] at h; exact h
            | true => rw [q3] at h; exact ⟨_, rfl, h⟩
  rcases hd with rfl | rfl
  · exact kept_loop hr go
  · exact kept_loop hr go
end Tw
end
section
set_option maxHeartbeats 1000000
namespace Tw
open PySem PySem.Spec PyProof.Rows L2 Tl
class InE (c : Str) (l : List Str) : Prop where
  h : c ∈ l
variable (cs errs : List Str)
theorem strOk_al : ∀ c ∈ T AL, c < 0x110000 := by decide +kernel
theorem okS_of_sub {z : Str} (h : ∀ c ∈ T z, c ∈ T AL) : okS z := by
  unfold okS PyData.strOk
  rw [← Array.all_toList, List.all_eq_true]
  intro c hc
  exact decide_eq_true (strOk_al c (h c hc))
theorem okS_of (p : Nat → Bool) : okS (of p) := okS_of_sub fun c hc => by
  rw [T_of] at hc
  exact (List.mem_filter.mp hc).1
theorem T_len (z : Str) : (T z).length = z.length := by
  show z.cps.toList.length = z.cps.size
  exact Array.length_toList
end Tw
end
section
set_option maxHeartbeats 1000000
namespace Tw
open PySem PySem.Spec PyProof.Rows L2 Tl
variable (cs errs : List Str)
theorem keepA_nodup : ∀ (rows acc : List Rw), acc.Nodup → (keepA acc rows).Nodup
  | [], acc, h => h
  | x :: rows, acc, h => by
    show (keepA (if x ∈ acc then acc else acc ++ [x]) rows).Nodup
    refine keepA_nodup rows _ ?_
    split
    · exact h
    · rename_i m
      rw [List.nodup_append]
      refine ⟨h, List.nodup_cons.mpr ⟨List.not_mem_nil, List.nodup_nil⟩, fun a ha b hb => ?_⟩
      rw [List.mem_singleton] at hb
      intro e
      rw [e, hb] at ha
      exact m ha
theorem keepA_of_nodup : ∀ (rows acc : List Rw), (acc ++ rows).Nodup → keepA acc rows = acc ++ rows
  | [], acc, h => by rw [List.append_nil]; rfl
  | x :: rows, acc, h => by
    show keepA (if x ∈ acc then acc else acc ++ [x]) rows = _
    have m : x ∉ acc := fun m => by
      rw [List.nodup_append] at h
      exact h.2.2 x m x List.mem_cons_self rfl
    rw [if_neg m, keepA_of_nodup rows (acc ++ [x]) (by rw [List.append_assoc]; exact h), List.append_assoc]
    rfl
theorem kept_idem (rows : List Rw) : kept (kept rows) = kept rows := by
  have := keepA_of_nodup (kept rows) [] (keepA_nodup rows [] List.nodup_nil)
  exact this
theorem fits_iff {rows : List Rw} : fits rows = true ↔ rows.length ≤ 20 ∧ (∀ r ∈ rows, r.length ≤ 20) ∧ rowsPl rows ≤ 120 := by
  unfold fits
  rw [Bool.and_eq_true, Bool.and_eq_true, decide_eq_true_eq, decide_eq_true_eq, decide_eq_true_eq]
theorem rs_kept {rows : List Rw} (h : Rs rows) : Rs (kept rows) := ⟨kept_ne h.ne, kept_ok h.ok, Nat.le_trans (kept_len rows) h.len, fun r m => h.wid r (kept_mem.mp m)⟩
theorem ks_made {rows : List Rw} (h : Rs rows) (f : fits (kept rows) = true) : Ks (kept rows) := ⟨rs_kept h, kept_idem rows, f⟩
theorem u_Kind_run : ∀ as φ ψ, g_Kind_run cs as φ ψ → as.length = 3 ∧ runF 4 (b_Kind_run cs errs) as φ ψ := fun as φ ψ h => by
  obtain ⟨z, l, m, rfl, oz, ne, l0, l1, hm, h⟩ := h
  refine ⟨rfl, z, rfl, oz, ne, l, 0, 40, rfl, ?_⟩
  show if (!(decide (0 ≤ l) && decide (l ≤ 40))) = true then _ else _
  rw [decide_eq_true l0, decide_eq_true l1]
  have fin : g_made_kind cs [.val (.lst [.tup [.tup [.str (of (pOf z)), .int l, oi m]]])] φ ψ := by
    refine ⟨[[⟨of (pOf z), l, m⟩]], _, rfl, .inl rfl, ⟨by simp, ?_, by show 1 ≤ 400; decide, ?_⟩, ?_⟩
    · intro r hr x hx
      rw [List.mem_singleton] at hr
      subst hr
      rw [List.mem_singleton] at hx
      subst hx
      exact okS_of _
    · intro r hr
      rw [List.mem_singleton] at hr
      subst hr
      show 1 ≤ 40
      decide
    · have kp : kept [[(⟨of (pOf z), l, m⟩ : Rn)]] = [[⟨of (pOf z), l, m⟩]] := rfl
      unfold made
      rw [kp, if_pos]
      · exact h
      · rw [fits_iff]
        refine ⟨by show 1 ≤ 20; decide, fun r hr => ?_, ?_⟩
        · rw [List.mem_singleton] at hr
          subst hr
          show 1 ≤ 20
          decide
        · rw [pl_one, rpl_one]
          cases m with
          | none =>
            show (if 1 > l then 1 else l) ≤ 120
            split <;> omega
          | some i =>
            have := (hm i rfl).2.1
            show i ≤ 120
            omega
  cases m with
  | none => exact fin
  | some i =>
    obtain ⟨i1, i2, i3⟩ := hm i rfl
    refine ⟨i, 1, 40, rfl, ?_⟩
    show if (!(decide (1 ≤ i) && decide (i ≤ 40))) = true then _ else _
    rw [decide_eq_true i1, decide_eq_true i2]
    show if decide (i < l) = true then _ else _
    rw [if_neg (by rw [decide_eq_true_eq]; omega)]
    exact fin
end Tw
end
section
set_option maxHeartbeats 1000000
namespace Tw
open PySem PySem.Spec PyProof.Rows L2 Tl
variable (cs errs : List Str)
theorem isi_kind {cs : List Str} (hc : ("Kind" : Str) ∈ cs) : isiOf cs (.glo "Kind") (.ob "Kind") = some true := by
  show (if _ then _ else _) = _
  rw [if_pos hc]; rfl
end Tw
end
section
set_option maxHeartbeats 1000000
namespace Tw
open PySem PySem.Spec PyProof.Rows L2 Tl
variable (cs errs : List Str)
theorem sgs_of {sub : List Nat} (nd : sub.Nodup) (hs : ∀ c ∈ sub, c ∈ T AL) (ne : sub ≠ []) {ys : List Str} (pm : ys.Perm (sub.map sgn)) (so : sortedS ys = true) :
    ∃ l, ys = l.map sgn ∧ l.length ≤ 94 ∧ Sgs (mk l) := by
  have oz : Ok (mk sub) := fun c hc => hs c (by rw [T_mk] at hc; exact hc)
  have nd1 : (sub.map sgn).Nodup := by
    rw [List.nodup_iff_pairwise_ne, List.pairwise_map]
    exact nd.imp fun h e => h (sgn_inj e)
  have pm2 : (sub.map sgn).Perm (Tx.got ((T (mk sub)).map sgn) []) := by
    rw [List.perm_ext_iff_of_nodup nd1 (Tx.got_nodup _ _ List.nodup_nil)]
    intro y
    rw [Tx.got_mem, T_mk]
    simp
  refine ⟨(T AL).filter (pOf (mk sub)), once_eq oz (pm.trans pm2) so, by rw [← al_len]; exact List.length_filter_le _ _, ok_of _, ?_, of_pOf_of _⟩
  intro e
  have n2 : T (mk sub) ≠ [] := by rw [T_mk]; exact ne
  have h3 : of (pOf (mk sub)) = mk (T (of (pOf (mk sub)))) := (mk_T _).symm
  rw [show T (of (pOf (mk sub))) = [] from e] at h3
  exact of_ne oz n2 h3
end Tw
end
section
set_option maxHeartbeats 1000000
namespace Tw
open PySem PySem.Spec PyProof.Rows L2 Tl
variable (cs errs : List Str)
structure GRw (r : Rw) : Prop where
  g : ∀ x ∈ r, GRn x
  ge : 1 ≤ r.length
  le : r.length ≤ 3
theorem gr_pl {x : Rn} (h : GRn x) : x.pl ≤ 5 := by
  obtain ⟨s, l, m⟩ := x
  cases m with
  | none =>
    have : l ≤ 3 := h.l1
    show (if 1 > l then 1 else l) ≤ 5
    split <;> omega
  | some i =>
    have := (h.m i rfl).2.1
    exact this
theorem grow_pl : ∀ r : Rw, (∀ x ∈ r, GRn x) → rowPl r ≤ 5 * (r.length : Int)
  | [], _ => by decide
  | x :: r, h => by
    have h1 := gr_pl (h x List.mem_cons_self)
    have h2 := grow_pl r fun y m => h y (List.mem_cons_of_mem _ m)
    have e : rowPl (x :: r) = x.pl + rowPl r := by unfold rowPl; rw [List.map_cons, List.sum_cons]
    rw [e, List.length_cons]
    omega
theorem grows_pl : ∀ rows : List Rw, (∀ r ∈ rows, GRw r) → rowsPl rows ≤ 15 * (rows.length : Int)
  | [], _ => by decide
  | r :: rows, h => by
    have h0 := h r List.mem_cons_self
    have h1 := grow_pl r h0.g
    have h3 := h0.le
    have h2 := grows_pl rows fun y m => h y (List.mem_cons_of_mem _ m)
    have e : rowsPl (r :: rows) = rowPl r + rowsPl rows := by unfold rowsPl; rw [List.map_cons, List.sum_cons]
    rw [e, List.length_cons]
    omega
theorem grows_fit {rows : List Rw} (h : ∀ r ∈ rows, GRw r) (l : rows.length ≤ 2) : fits rows = true := by
  rw [fits_iff]
  have := grows_pl rows h
  exact ⟨by omega, fun r m => by have := (h r m).le; omega, by omega⟩
theorem grow_ok {r : Rw} (h : ∀ x ∈ r, GRn x) : okW r := fun x m => okS_of_sub (h x m).s.ok
theorem grows_rs {rows : List Rw} (h : ∀ r ∈ rows, GRw r) (ne : rows ≠ []) (l : rows.length ≤ 2) : Rs rows :=
  ⟨ne, fun r m => grow_ok (h r m).g, by omega, fun r m => by have := (h r m).le; omega⟩
theorem ks_one {r : Rw} (h : GRw r) : Ks [r] := by
  have a : ∀ x ∈ [r], GRw x := fun x m => by rw [List.mem_singleton] at m; rw [m]; exact h
  exact ⟨grows_rs a (by simp) (by show 1 ≤ 2; decide), rfl, grows_fit a (by show 1 ≤ 2; decide)⟩
theorem ks_kept {rows : List Rw} (h : ∀ r ∈ rows, GRw r) (ne : rows ≠ []) (l : rows.length ≤ 2) : Ks (kept rows) :=
  ks_made (grows_rs h ne l) (grows_fit (fun r m => h r (kept_mem.mp m)) (Nat.le_trans (kept_len rows) l))
end Tw
end
namespace Tw
open PySem PySem.Spec PyProof.Rows L2 Tl
inductive It where
  | fld (n : Str) (rows : List Rw)
  | mrk (z : Str)
  | grp (ps : List It)
mutual
def itD : It → D
  | .fld n rows => .obj "Field" ["name", "kind"] [.str n, kindD rows]
  | .mrk z => .obj "Mark" ["text"] [.str z]
  | .grp ps => .obj "Maybe" ["parts"] [.tup (itsD ps)]
def itsD : List It → List D
  | [] => []
  | a :: r => itD a :: itsD r
end
theorem itsD_map : ∀ l : List It, itsD l = l.map itD
  | [] => by rw [itsD]; rfl
  | a :: r => by rw [itsD, itsD_map r]; rfl
mutual
def It.dep : It → Nat
  | .fld _ _ => 0
  | .mrk _ => 0
  | .grp ps => 1 + depL ps
def depL : List It → Nat
  | [] => 0
  | a :: r => max a.dep (depL r)
end
mutual
def It.nms : It → List Str
  | .fld n _ => [n]
  | .mrk _ => []
  | .grp ps => nmsL ps
def nmsL : List It → List Str
  | [] => []
  | a :: r => a.nms ++ nmsL r
end
mutual
def It.pl : It → Int
  | .fld _ rows => rowsPl rows
  | .mrk z => (z.length : Nat)
  | .grp ps => plL ps
def plL : List It → Int
  | [] => 0
  | a :: r => a.pl + plL r
end
mutual
/-- how many items, at all depths -/
def It.sz : It → Nat
  | .fld _ _ => 1
  | .mrk _ => 1
  | .grp ps => 1 + szL ps
def szL : List It → Nat
  | [] => 0
  | a :: r => a.sz + szL r
end
def ownN : List It → List Str
  | [] => []
  | .fld n _ :: r => n :: ownN r
  | .mrk _ :: r => ownN r
  | .grp _ :: r => ownN r
theorem depL_app : ∀ a b : List It, depL (a ++ b) = max (depL a) (depL b)
  | [], b => by rw [List.nil_append, depL]; omega
  | x :: a, b => by rw [List.cons_append, depL, depL, depL_app a b]; omega
theorem nmsL_app : ∀ a b : List It, nmsL (a ++ b) = nmsL a ++ nmsL b
  | [], b => by rw [List.nil_append, nmsL, List.nil_append]
  | x :: a, b => by rw [List.cons_append, nmsL, nmsL, nmsL_app a b, List.append_assoc]
theorem plL_app : ∀ a b : List It, plL (a ++ b) = plL a + plL b
  | [], b => by rw [List.nil_append, plL]; omega
  | x :: a, b => by rw [List.cons_append, plL, plL, plL_app a b]; omega
theorem szL_app : ∀ a b : List It, szL (a ++ b) = szL a + szL b
  | [], b => by rw [List.nil_append, szL]; omega
  | x :: a, b => by rw [List.cons_append, szL, szL, szL_app a b]; omega
theorem ownN_app : ∀ a b : List It, ownN (a ++ b) = ownN a ++ ownN b
  | [], b => by rw [List.nil_append, ownN, List.nil_append]
  | .fld n rows :: a, b => by rw [List.cons_append, ownN, ownN, ownN_app a b, List.cons_append]
  | .mrk z :: a, b => by rw [List.cons_append, ownN, ownN, ownN_app a b]
  | .grp ps :: a, b => by rw [List.cons_append, ownN, ownN, ownN_app a b]
theorem depL_one (x : It) : depL [x] = x.dep := by rw [depL, depL]; omega
theorem nmsL_one (x : It) : nmsL [x] = x.nms := by rw [nmsL, nmsL, List.append_nil]
theorem plL_one (x : It) : plL [x] = x.pl := by rw [plL, plL]; omega
theorem szL_one (x : It) : szL [x] = x.sz := by rw [szL, szL]; omega
theorem sz_pos (x : It) : 1 ≤ x.sz := by cases x <;> rw [It.sz] <;> omega
theorem len_sz : ∀ l : List It, l.length ≤ szL l
  | [] => by rw [szL]; exact Nat.le_refl _
  | a :: r => by rw [List.length_cons, szL]; have := len_sz r; have := sz_pos a; omega
mutual
theorem nms_sz : ∀ x : It, x.nms.length ≤ x.sz
  | .fld n rows => by rw [It.nms, It.sz]; exact Nat.le_refl _
  | .mrk z => by rw [It.nms, It.sz]; exact Nat.zero_le _
  | .grp ps => by rw [It.nms, It.sz]; have := nmsL_sz ps; omega
theorem nmsL_sz : ∀ l : List It, (nmsL l).length ≤ szL l
  | [] => by rw [nmsL]; exact Nat.zero_le _
  | a :: r => by rw [nmsL, szL, List.length_append]; have := nms_sz a; have := nmsL_sz r; omega
end
theorem mem_dep {x : It} : ∀ {l : List It}, x ∈ l → x.dep ≤ depL l
  | a :: r, h => by
    rw [depL]
    rcases List.mem_cons.mp h with e | h
    · rw [e]; omega
    · have := mem_dep h; omega
def jStep (acc : List It) (x : It) : List It := match acc.getLast?, x with
  | some (.mrk a), .mrk b => acc.dropLast ++ [.mrk (a ++ b)]
  | _, _ => acc ++ [x]
def joinM (l : List It) : List It := l.foldl jStep []
theorem joinM_snoc (l : List It) (x : It) : joinM (l ++ [x]) = jStep (joinM l) x := by unfold joinM; rw [List.foldl_append]; rfl
structure NameS (n : Str) : Prop where
  lo : ∀ c ∈ T n, 97 ≤ c ∧ c ≤ 122
  ge : 1 ≤ n.length
  le : n.length ≤ 12
/-- the empty word is of the kind -/
def hasE (rows : List Rw) : Bool := rows.any fun r => r.all fun x => decide (x.l ≤ 0)
mutual
def okI : It → Prop
  | .fld n rows => NameS n ∧ Ks rows ∧ hasE rows = false
  | .mrk z => Ok z ∧ 1 ≤ z.length
  | .grp ps => okL ps ∧ ps ≠ [] ∧ ownN ps ≠ []
def okL : List It → Prop
  | [] => True
  | a :: r => okI a ∧ okL r
end
theorem okL_app : ∀ a b : List It, okL (a ++ b) ↔ okL a ∧ okL b
  | [], b => by rw [List.nil_append]; exact ⟨fun h => ⟨by rw [okL]; trivial, h⟩, fun h => h.2⟩
  | x :: a, b => by rw [List.cons_append, okL, okL, okL_app a b, and_assoc]
theorem okL_one (x : It) : okL [x] ↔ okI x := by rw [okL, okL]; exact ⟨fun h => h.1, fun h => ⟨h, trivial⟩⟩
theorem okL_mem {x : It} : ∀ {l : List It}, okL l → x ∈ l → okI x
  | a :: r, h, m => by
    rw [okL] at h
    rcases List.mem_cons.mp m with e | m
    · rw [e]; exact h.1
    · exact okL_mem h.2 m
structure Pc where
  sg : List Str
  nm : List Str
  ed : List (Int × Int)
  bg : List Int
  fn : List Int
  bl : Bool
def Pc.d (p : Pc) : D := .tup [.lst (p.sg.map D.str), .lst (p.nm.map D.str), .lst (p.ed.map pairD), .lst (p.bg.map D.int), .lst (p.fn.map D.int), .bl p.bl]
def pNil : Pc := ⟨[], [], [], [], [], true⟩
def pThen (a b : Pc) : Pc where
  sg := a.sg ++ b.sg
  nm := a.nm ++ b.nm
  ed := a.ed ++ b.ed ++ (a.fn.flatMap fun x => b.bg.map fun y => (x, y))
  bg := if a.bl then a.bg ++ b.bg else a.bg
  fn := if b.bl then b.fn ++ a.fn else b.fn
  bl := a.bl && b.bl
def Rn.plN (r : Rn) : Nat := r.pl.toNat
def pRun (start : Int) (r : Rn) (name : Str) : Pc where
  sg := List.replicate r.plN r.s
  nm := List.replicate r.plN name
  ed := (if r.m = none then [(start + r.plN - 1, start + r.plN - 1)] else []) ++ (List.range (r.plN - 1)).map fun i => (start + (i : Nat), start + (i : Nat) + 1)
  bg := [start]
  fn := (List.range (r.plN - ((max r.l 1).toNat - 1))).map fun i => start + (max r.l 1 - 1 + (i : Nat))
  bl := decide (r.l = 0)
def pRowGo (start : Int) (name : Str) (acc : Pc) : Rw → Pc
  | [] => acc
  | r :: rs => pRowGo start name (pThen acc (pRun (start + acc.sg.length) r name)) rs
def pRow (start : Int) (row : Rw) (name : Str) : Pc := pRowGo start name pNil row
def pAdd (a b : Pc) : Pc := ⟨a.sg ++ b.sg, a.nm ++ b.nm, a.ed ++ b.ed, a.bg ++ b.bg, a.fn ++ b.fn, a.bl || b.bl⟩
def pKindGo (start : Int) (name : Str) (acc : Pc) : List Rw → Pc
  | [] => acc
  | r :: rs => pKindGo start name (pAdd acc (pRow (start + acc.sg.length) r name)) rs
def pKind (start : Int) (rows : List Rw) (name : Str) : Pc := pKindGo start name ⟨[], [], [], [], [], false⟩ rows
def pSign (place : Int) (c : Str) : Pc := ⟨[c], [SX.S []], [], [place], [place], false⟩
def pMarkGo (start : Int) (acc : Pc) (i : Nat) : List Nat → Pc
  | [] => acc
  | c :: cs => pMarkGo start (pThen acc (pSign (start + (i : Nat)) (sgn c))) (i + 1) cs
def pMark (start : Int) (z : Str) : Pc := pMarkGo start pNil 0 (T z)
mutual
def pItem (start : Int) : It → Pc
  | .fld n rows => pKind start rows n
  | .mrk z => pMark start z
  | .grp ps => { pItGo start pNil ps with bl := true }
def pItGo (start : Int) (acc : Pc) : List It → Pc
  | [] => acc
  | x :: r => pItGo start (pThen acc (pItem (start + acc.sg.length) x)) r
end
def pIts (start : Int) (l : List It) : Pc := pItGo start pNil l
def pLine (w : Pc) (l : List It) : Pc :=
  let feed : Int := w.sg.length
  let b := pIts (feed + 1) l
  { sg := w.sg ++ [mk [10]] ++ b.sg
    nm := w.nm ++ [SX.S []] ++ b.nm
    ed := w.ed ++ ((w.fn.map fun x => (x, feed)) ++ b.bg.map fun y => (feed, y)) ++ b.ed
    bg := if w.bl then w.bg ++ b.bg else w.bg
    fn := if b.bl then b.fn ++ w.fn else b.fn
    bl := w.bl && b.bl }
def pLines (w : Pc) : List (List It) → Pc
  | [] => w
  | l :: r => pLines (pLine w l) r
def pForm : List (List It) → Pc
  | [] => pNil
  | l :: r => pLines (pIts 0 l) r
end Tw
namespace Tw
open PySem PySem.Spec PyProof.Rows L2 Tl
/-- a run as the program makes them -/
structure RnOk (r : Rn) : Prop where
  l0 : 0 ≤ r.l
  l1 : r.l ≤ 40
  m : ∀ i, r.m = some i → 1 ≤ i ∧ i ≤ 40 ∧ r.l ≤ i
def okR (rows : List Rw) : Prop := ∀ r ∈ rows, ∀ x ∈ r, RnOk x
mutual
/-- all runs in it are good -/
def okK : It → Prop
  | .fld _ rows => okR rows
  | .mrk _ => True
  | .grp ps => okKs ps
def okKs : List It → Prop
  | [] => True
  | a :: r => okK a ∧ okKs r
end
structure Good (ps : List It) : Prop where
  ok : okL ps
  k : okKs ps
  sz : szL ps ≤ 10000
  pl : plL ps ≤ 200
structure GoodI (x : It) : Prop where
  ok : okI x
  k : okK x
  sz : x.sz ≤ 10000
  pl : x.pl ≤ 200
def rowAt (d : D) (ps : List It) : Prop := d = .lst (itsD ps) ∨ d = .tup (itsD ps)
def rowE (b : Bool) (l : List It) : D := if b then .tup (itsD l) else .lst (itsD l)
def lnsD (b : Bool) (ls : List (List It)) : D := if b then .tup (ls.map (rowE b)) else .lst (ls.map (rowE b))
def allN (ls : List (List It)) : List Str := ls.flatMap nmsL
def allP (ls : List (List It)) : Int := (ls.length : Int) - 1 + (ls.map plL).sum
structure GoodF (ls : List (List It)) : Prop where
  ge : 1 ≤ ls.length
  le : ls.length ≤ 10
  ne : ∀ l ∈ ls, l ≠ []
  ok : ∀ l ∈ ls, Good l
  dep : ∀ l ∈ ls, depL l ≤ 3
  nd : (allN ls).Nodup
  few : (allN ls).length ≤ 12
  pl : allP ls ≤ 200
def g_is_item (cs : List Str) : Gs := fun as φ _ => ∃ x : It, as = [.val (itD x)] ∧ φ (.bl true)
def g_own_names (cs : List Str) : Gs := fun as φ _ => ∃ ps d, as = [.val d] ∧ rowAt d ps ∧ szL ps ≤ 10000 ∧ φ (.lst ((ownN ps).map D.str))
def g_names_inR (cs : List Str) : Nat → Gs
  | 0 => fun _ _ _ => False
  | n + 1 => fun as φ _ => ∃ ps d, as = [.val d] ∧ rowAt d ps ∧ depL ps ≤ n ∧ szL ps ≤ 10000 ∧ φ (.lst ((nmsL ps).map D.str))
def g_names_in (cs : List Str) : Gs := g_names_inR cs 4
def g_depth_ofR (cs : List Str) : Nat → Gs
  | 0 => fun _ _ _ => False
  | n + 1 => fun as φ _ => ∃ ps d, as = [.val d] ∧ rowAt d ps ∧ depL ps ≤ n ∧ szL ps ≤ 10000 ∧ φ (.int (depL ps : Nat))
def g_depth_of (cs : List Str) : Gs := g_depth_ofR cs 4
def g_kind_places (cs : List Str) : Gs := fun as φ _ => ∃ rows, as = [vKind rows] ∧ Ks rows ∧ φ (.int (rowsPl rows))
def g_count_placesR (cs : List Str) : Nat → Gs
  | 0 => fun _ _ _ => False
  | n + 1 => fun as φ _ => ∃ ps d, as = [.val d] ∧ rowAt d ps ∧ depL ps ≤ n ∧ szL ps ≤ 10000 ∧ okL ps ∧ okKs ps ∧ plL ps ≤ 1000000 ∧ φ (.int (plL ps))
def g_count_places (cs : List Str) : Gs := g_count_placesR cs 4
def g_is_name (cs : List Str) : Gs := fun as φ _ => ∃ n, as = [.val (.str n)] ∧ NameS n ∧ φ (.bl true)
def g_Kind_has_empty (cs : List Str) : Gs := fun as φ _ => ∃ rows, as = [vKind rows] ∧ Ks rows ∧ φ (.bl (hasE rows))
def g_Field_init (cs : List Str) : Gs := fun as φ _ => ∃ n rows, as = [.val (.str n), vKind rows] ∧ NameS n ∧ Ks rows ∧ hasE rows = false ∧ φ (itD (.fld n rows))
def g_Mark_init (cs : List Str) : Gs := fun as φ _ => ∃ z, as = [.val (.str z)] ∧ Ok z ∧ 1 ≤ z.length ∧ z.length ≤ 200 ∧ φ (itD (.mrk z))
def g_joined_marks (cs : List Str) : Gs := fun as φ _ => ∃ ps d, as = [.val d] ∧ rowAt d ps ∧ Good ps ∧ φ (.tup (itsD (joinM ps)))
def g_Maybe_init (cs : List Str) : Gs := fun as φ _ => ∃ ps, as = [.val (.lst (itsD ps))] ∧ ps ≠ [] ∧ Good ps ∧ ownN ps ≠ [] ∧ depL ps < 3 ∧ φ (itD (.grp (joinM ps)))
def g_is_line (cs : List Str) : Gs := fun as φ _ => ∃ ps d, as = [.val d] ∧ rowAt d ps ∧ ps ≠ [] ∧ szL ps ≤ 10000 ∧ φ (.bl true)
def g_line_places (cs : List Str) : Gs := fun as φ _ => ∃ b ls, as = [.val (lnsD b ls)] ∧ ls.length ≤ 10 ∧ (∀ l ∈ ls, Good l ∧ depL l ≤ 3) ∧ φ (.int (allP ls))
def g_checked_lines (cs : List Str) : Gs := fun as φ _ => ∃ b ls, as = [.val (lnsD b ls)] ∧ GoodF ls ∧ φ (lnsD true (ls.map joinM))
structure PcOk (p : Pc) : Prop where
  nm : p.nm.length = p.sg.length
  bg : p.bg.length ≤ p.sg.length
  fn : p.fn.length ≤ p.sg.length
  ed : p.ed.length ≤ p.sg.length * p.sg.length
def g_nothing (cs : List Str) : Gs := fun as φ _ => as = [] ∧ φ pNil.d
def g_then (cs : List Str) : Gs := fun as φ _ => ∃ a b : Pc, as = [.val a.d, .val b.d] ∧ PcOk a ∧ PcOk b ∧ a.sg.length + b.sg.length ≤ 400 ∧ φ (pThen a b).d
def g_run_piece (cs : List Str) : Gs := fun as φ _ => ∃ st r name, as = [.val (.int st), .val r.d, .val (.str name)] ∧ RnOk r ∧ φ (pRun st r name).d
def g_row_of_runs (cs : List Str) : Gs := fun as φ _ => ∃ st row name, as = [.val (.int st), .val (rowD row), .val (.str name)] ∧ (∀ x ∈ row, RnOk x) ∧ rowPl row ≤ 200 ∧ φ (pRow st row name).d
def g_kind_piece (cs : List Str) : Gs := fun as φ _ => ∃ st rows name, as = [.val (.int st), .val (.tup (rows.map rowD)), .val (.str name)] ∧ okR rows ∧ rowsPl rows ≤ 200 ∧ φ (pKind st rows name).d
def g_mark_piece (cs : List Str) : Gs := fun as φ _ => ∃ st z, as = [.val (.int st), .val (.str z)] ∧ z.length ≤ 200 ∧ φ (pMark st z).d
def g_row_pieceR (cs : List Str) : Nat → Gs
  | 0 => fun _ _ _ => False
  | n + 1 => fun as φ _ => ∃ st ps d, as = [.val (.int st), .val d] ∧ rowAt d ps ∧ depL ps ≤ n ∧ Good ps ∧ φ (pIts st ps).d
def g_item_pieceR (cs : List Str) (n : Nat) : Gs := fun as φ _ => ∃ st x, as = [.val (.int st), .val (itD x)] ∧ x.dep ≤ n ∧ GoodI x ∧ φ (pItem st x).d
def g_row_piece (cs : List Str) : Gs := g_row_pieceR cs 4
def g_with_line (cs : List Str) : Gs := fun as φ _ => ∃ w l, as = [.val w.d, .val (.tup (itsD l))] ∧ PcOk w ∧ depL l ≤ 3 ∧ Good l ∧ (w.sg.length : Int) + 1 + plL l ≤ 400 ∧ φ (pLine w l).d
/-- the edges, ascending -/
def srtP (l : List (Int × Int)) : List (Int × Int) := l.mergeSort fun a b => !(SrtO.lexB b a)
def srtI (l : List Int) : List Int := l.mergeSort fun a b => decide (a ≤ b)
def folL (n : Nat) (ed : List (Int × Int)) : List (List Int) := (List.range n).map fun i => ((srtP ed).filter fun q => decide (q.1 = ((i : Nat) : Int))).map (·.2)
def layD (p : Pc) : D := .obj "Layout" ["signs_at", "names_at", "follows", "begins", "finishes", "blank"]
  [.lst (p.sg.map D.str), .lst (p.nm.map D.str), .lst ((folL p.sg.length p.ed).map fun l => .lst (l.map D.int)), .lst ((srtI p.bg).map D.int), .lst ((srtI p.fn).map D.int), .bl p.bl]
def EdIn (n : Nat) (ed : List (Int × Int)) : Prop := ∀ q ∈ ed, 0 ≤ q.1 ∧ q.1 < n
def g_followers (cs : List Str) : Gs := fun as φ _ => ∃ (n : Nat) (ed : List (Int × Int)), as = [.val (.int n), .val (.lst (ed.map pairD))] ∧ n ≤ 400 ∧ ed.length ≤ 160000 ∧ EdIn n ed ∧ φ (.lst ((folL n ed).map fun l => .lst (l.map D.int)))
def g_Layout_init (cs : List Str) : Gs := fun as φ _ => ∃ p : Pc, as = [.val p.d] ∧ PcOk p ∧ p.sg.length ≤ 400 ∧ EdIn p.sg.length p.ed ∧ φ (layD p)
def g_form_layout (cs : List Str) : Gs := fun as φ _ => ∃ ls, as = [.val (lnsD true ls)] ∧ GoodF ls ∧ φ (layD (pForm ls))
def formD (ls : List (List It)) : D := .obj "Form" ["lines", "layout"] [lnsD true ls, layD (pForm ls)]
def g_Form_init (cs : List Str) : Gs := fun as φ _ => ∃ b ls, as = [.val (lnsD b ls)] ∧ GoodF ls ∧ φ (formD (ls.map joinM))
end Tw
section
set_option maxHeartbeats 4000000
namespace Tw
open PySem PySem.Spec PyProof.Rows L2 Tl
def b_own_names (cs errs : List Str) : FnS := (hRet (eLv (eLc (eIt (eVar 0)) (tgSet 1) (bE (eCB (gIsi (.glo "Field") (isiOf cs (.glo "Field"))) (zCons (eVar 1) (zCons (eC (.glo "Field")) zNil)))) (eFld ["Field"] "name" (eVar 1)) [1])))
def b_is_item (cs errs : List Str) : FnS := (hRet (eCB (gIsiT cs [.glo "Field", .glo "Mark", .glo "Maybe"]) (zCons (eVar 0) (zCons (eTup (zCons (eC (.glo "Field")) (zCons (eC (.glo "Mark")) (zCons (eC (.glo "Maybe")) zNil)))) zNil))))
def b_is_name (cs errs : List Str) : FnS := (hSeq (hIf (bOr (bNot (bE (eCB (gIsi (.ty "str") (isiOf cs (.ty "str"))) (zCons (eVar 0) (zCons (eC (.ty "str")) zNil))))) (bOr (bE (eOp gLt (eCr gLen (eVar 0)) (eC (.int 1)))) (bE (eOp gGt (eCr gLen (eVar 0)) (eC (.int 12)))))) (hRet (eC (.bl false))) hNext)
    (hSeq (hFor (eIt (eVar 0)) (tgSet 1)
      (hIf (bE (eOp (gInS true) (eVar 1) (eC (.str c_LOWER)))) (hRet (eC (.bl false))) hNext))
    (hRet (eC (.bl true)))))
def b_Kind_has_empty (cs errs : List Str) : FnS := (hRet (eOp gGt (eCr gLen (eLv (eLc (eIt (eFld ["Kind"] "rows" (eVar 0))) (tgSet 1) (bE (eOp (gEq false) (eCr gLen (eLv (eLc (eIt (eVar 1)) (tgSet 2) (bE (eOp gGt (eOp gIx (eVar 2) (eC (.int 1))) (eC (.int 0)))) (eVar 2) [2]))) (eC (.int 0)))) (eVar 1) [1]))) (eC (.int 0))))
def b_then (cs errs : List Str) : FnS := (hSeq (hSetO 2 (eLc2 (eIt (eOp gIx (eVar 0) (eC (.int 4)))) (tgSet 3) bYes (eIt (eOp gIx (eVar 1) (eC (.int 3)))) (tgSet 4) bYes (eTup (zCons (eVar 3) (zCons (eVar 4) zNil))) [3, 4] [4]))
    (hSeq (hSet 5 (eLv (eList (eOp gIx (eVar 0) (eC (.int 3))))))
    (hSeq (hIf (bE (eOp gIx (eVar 0) (eC (.int 5)))) (hSet 5 (eOp gAdd (eVar 5) (eOp gIx (eVar 1) (eC (.int 3))))) hNext)
    (hSeq (hSet 6 (eLv (eList (eOp gIx (eVar 1) (eC (.int 4))))))
    (hSeq (hIf (bE (eOp gIx (eVar 1) (eC (.int 5)))) (hSet 6 (eOp gAdd (eVar 6) (eOp gIx (eVar 0) (eC (.int 4))))) hNext)
    (hSettle 2 (hRet (eTup (zCons (eOp gAdd (eOp gIx (eVar 0) (eC (.int 0))) (eOp gIx (eVar 1) (eC (.int 0)))) (zCons (eOp gAdd (eOp gIx (eVar 0) (eC (.int 1))) (eOp gIx (eVar 1) (eC (.int 1)))) (zCons (eOp gAdd (eOp gAdd (eOp gIx (eVar 0) (eC (.int 2))) (eOp gIx (eVar 1) (eC (.int 2)))) (eVar 2)) (zCons (eVar 5) (zCons (eVar 6) (zCons (eAnd (eOp gIx (eVar 0) (eC (.int 5))) (eOp gIx (eVar 1) (eC (.int 5)))) zNil))))))))))))))
def b_nothing (cs errs : List Str) : FnS := (hRet (eTup (zCons (eLv (eLst zNil)) (zCons (eLv (eLst zNil)) (zCons (eLv (eLst zNil)) (zCons (eLv (eLst zNil)) (zCons (eLv (eLst zNil)) (zCons (eC (.bl true)) zNil))))))))
def b_run_piece (cs errs : List Str) : FnS := (hSeq (hAsg (eVar 1) (tgTup (tgCons (tgSet 3) (tgCons (tgSet 4) (tgCons (tgSet 5) tgNil)))))
    (hSeq (hSet 6 (eVar 5))
    (hSeq (hSet 7 (eLv (eLst zNil)))
    (hSeq (hIf (bE (eOp (gIs false) (eVar 5) (eC .non))) (hSeq (hSet 6 (eCB gMax2 (zCons (eVar 4) (zCons (eC (.int 1)) zNil))))
    (hSet 7 (eLv (eLst (zCons (eTup (zCons (eOp (gI0 fun i j => .int (i - j)) (eOp gAdd (eVar 0) (eVar 6)) (eC (.int 1))) (zCons (eOp (gI0 fun i j => .int (i - j)) (eOp gAdd (eVar 0) (eVar 6)) (eC (.int 1))) zNil))) zNil))))) hNext)
    (hSeq (hSet 7 (eOp gAdd (eVar 7) (eLv (eLc (eRg1 (zCons (eOp (gI0 fun i j => .int (i - j)) (eVar 6) (eC (.int 1))) zNil)) (tgSet 8) bYes (eTup (zCons (eOp gAdd (eVar 0) (eVar 8)) (zCons (eOp gAdd (eOp gAdd (eVar 0) (eVar 8)) (eC (.int 1))) zNil))) [8]))))
    (hSeq (hSetO 9 (eLc (eRg2 (zCons (eOp (gI0 fun i j => .int (i - j)) (eCB gMax2 (zCons (eVar 4) (zCons (eC (.int 1)) zNil))) (eC (.int 1))) (zCons (eVar 6) zNil))) (tgSet 8) bYes (eOp gAdd (eVar 0) (eVar 8)) [8]))
    (hSettle 9 (hRet (eTup (zCons (eLv (eRep (eLv (eLst (zCons (eVar 3) zNil))) (eVar 6))) (zCons (eLv (eRep (eLv (eLst (zCons (eVar 2) zNil))) (eVar 6))) (zCons (eVar 7) (zCons (eLv (eLst (zCons (eVar 0) zNil))) (zCons (eVar 9) (zCons (eOp (gEq false) (eVar 4) (eC (.int 0))) zNil)))))))))))))))
def b_followers (cs errs : List Str) : FnS := (hSeq (hSet 2 (eLv (eSortP (eVar 1))))
    (hSeq (hSetO 3 (eLst zNil))
    (hSeq (hSet 4 (eC (.int 0)))
    (hSeq (hFor (eRg1 (zCons (eVar 0) zNil)) (tgSet 5)
      (hSeq (hSet 6 (eVar 4))
    (hSeq (hWhile (bAnd (bE (eOp gLt (eVar 6) (eCr gLen (eVar 2)))) (bE (eOp (gEq false) (eOp gIx (eOp gIx (eVar 2) (eVar 6)) (eC (.int 0))) (eVar 5))))
      (hSet 6 (eOp gAdd (eVar 6) (eC (.int 1)))))
    (hSeq (hApp 3 (eLv (eLc (eIt (eSl (eVar 2) (oSo (eVar 4)) (oSo (eVar 6)))) (tgTup (tgCons (tgSet 7) (tgCons (tgSet 8) tgNil))) bYes (eVar 8) [7, 8])))
    (hSet 4 (eVar 6))))))
    (hSettle 3 (hRet (eVar 3)))))))
def b_Mark_init (cs errs : List Str) : FnS := (hSeq (hIf (bOr (bNot (bE (eCall (g_is_signs cs) [] (zCons (eVar 1) zNil)))) (bOr (bE (eOp gLt (eCr gLen (eVar 1)) (eC (.int 1)))) (bE (eOp gGt (eCr gLen (eVar 1)) (eC (.int 200)))))) (hRaise0 "BadSigns") hNext)
    (hFld ["Mark"] "text" 0 (eVar 1)))
def b_kind_places (cs errs : List Str) : FnS := (hRet (eCr gSum (eLv (eLc (eIt (eMeth "Kind" "alternatives" (g_Kind_alternatives cs) [] (eVar 0) zNil)) (tgSet 1) bYes (eCr gSum (eLv (eLc (eIt (eVar 1)) (tgSet 2) bYes (eCall (g_run_places cs) [] (zCons (eVar 2) zNil)) [2]))) [1]))))
def b_mark_piece (cs errs : List Str) : FnS := (hSeq (hSet 2 (eCall (g_nothing cs) [] zNil))
    (hSeq (hFor (eRg1 (zCons (eCr gLen (eVar 1)) zNil)) (tgSet 3)
      (hSeq (hSet 4 (eOp gAdd (eVar 0) (eVar 3)))
    (hSet 2 (eCall (g_then cs) [] (zCons (eVar 2) (zCons (eTup (zCons (eLv (eLst (zCons (eOp gIx (eVar 1) (eVar 3)) zNil))) (zCons (eLv (eLst (zCons (eC (.str "")) zNil))) (zCons (eLv (eLst zNil)) (zCons (eLv (eLst (zCons (eVar 4) zNil))) (zCons (eLv (eLst (zCons (eVar 4) zNil))) (zCons (eC (.bl false)) zNil))))))) zNil))))))
    (hRet (eVar 2))))
def b_row_of_runs (cs errs : List Str) : FnS := (hSeq (hSet 3 (eCall (g_nothing cs) [] zNil))
    (hSeq (hFor (eIt (eVar 1)) (tgSet 4)
      (hSet 3 (eCall (g_then cs) [] (zCons (eVar 3) (zCons (eCall (g_run_piece cs) [] (zCons (eOp gAdd (eVar 0) (eCr gLen (eOp gIx (eVar 3) (eC (.int 0))))) (zCons (eVar 4) (zCons (eVar 2) zNil)))) zNil)))))
    (hRet (eVar 3))))
def b_Layout_init (cs errs : List Str) : FnS := (hSeq (hAsg (eVar 1) (tgTup (tgCons (tgSet 2) (tgCons (tgSet 3) (tgCons (tgSet 4) (tgCons (tgSet 5) (tgCons (tgSet 6) (tgCons (tgSet 7) tgNil))))))))
    (hSeq (hFld ["Layout"] "signs_at" 0 (eVar 2))
    (hSeq (hFld ["Layout"] "names_at" 0 (eVar 3))
    (hSeq (hFld ["Layout"] "follows" 0 (eCall (g_followers cs) [] (zCons (eCr gLen (eVar 2)) (zCons (eVar 4) zNil))))
    (hSeq (hFld ["Layout"] "begins" 0 (eLv (eSortI (eVar 5))))
    (hSeq (hFld ["Layout"] "finishes" 0 (eLv (eSortI (eVar 6))))
    (hFld ["Layout"] "blank" 0 (eVar 7))))))))
def b_is_line (cs errs : List Str) : FnS := (hSeq (hIf (bOr (bNot (bE (eCB (gIsiT cs [.ty "list", .ty "tuple"]) (zCons (eVar 0) (zCons (eTup (zCons (eC (.ty "list")) (zCons (eC (.ty "tuple")) zNil))) zNil))))) (bE (eOp (gEq false) (eCr gLen (eVar 0)) (eC (.int 0))))) (hRet (eC (.bl false))) hNext)
    (hSeq (hFor (eIt (eVar 0)) (tgSet 1)
      (hIf (bNot (bE (eCall (g_is_item cs) [] (zCons (eVar 1) zNil)))) (hRet (eC (.bl false))) hNext))
    (hRet (eC (.bl true)))))
def b_Field_init (cs errs : List Str) : FnS := (hSeq (hIf (bNot (bE (eCall (g_is_name cs) [] (zCons (eVar 1) zNil)))) (hRaiseF "BadName" "name" (zCons (eVar 1) zNil)) hNext)
    (hSeq (hIf (bOr (bNot (bE (eCB (gIsi (.glo "Kind") (isiOf cs (.glo "Kind"))) (zCons (eVar 2) (zCons (eC (.glo "Kind")) zNil))))) (bE (eProp "Kind" (g_Kind_has_empty cs) (eVar 2)))) (hRaise0 "BadKind") hNext)
    (hSeq (hFld ["Field"] "name" 0 (eVar 1))
    (hFld ["Field"] "kind" 0 (eVar 2)))))
def b_kind_piece (cs errs : List Str) : FnS := (hSeq (hAsg (eTup (zCons (eLv (eLst zNil)) (zCons (eLv (eLst zNil)) (zCons (eLv (eLst zNil)) (zCons (eLv (eLst zNil)) (zCons (eLv (eLst zNil)) (zCons (eC (.bl false)) zNil))))))) (tgTup (tgCons (tgSet 3) (tgCons (tgSet 4) (tgCons (tgSet 5) (tgCons (tgSet 6) (tgCons (tgSet 7) (tgCons (tgSet 8) tgNil))))))))
    (hSeq (hFor (eIt (eVar 1)) (tgSet 9)
      (hSeq (hSet 10 (eCall (g_row_of_runs cs) [] (zCons (eOp gAdd (eVar 0) (eCr gLen (eVar 3))) (zCons (eVar 9) (zCons (eVar 2) zNil)))))
    (hSeq (hSet 3 (eOp gAdd (eVar 3) (eOp gIx (eVar 10) (eC (.int 0)))))
    (hSeq (hSet 4 (eOp gAdd (eVar 4) (eOp gIx (eVar 10) (eC (.int 1)))))
    (hSeq (hSet 5 (eOp gAdd (eVar 5) (eOp gIx (eVar 10) (eC (.int 2)))))
    (hSeq (hSet 6 (eOp gAdd (eVar 6) (eOp gIx (eVar 10) (eC (.int 3)))))
    (hSeq (hSet 7 (eOp gAdd (eVar 7) (eOp gIx (eVar 10) (eC (.int 4)))))
    (hSet 8 (eOr (eVar 8) (eOp gIx (eVar 10) (eC (.int 5))))))))))))
    (hRet (eTup (zCons (eVar 3) (zCons (eVar 4) (zCons (eVar 5) (zCons (eVar 6) (zCons (eVar 7) (zCons (eVar 8) zNil))))))))))
def b_joined_marks (cs errs : List Str) : FnS := (hSeq (hSet 1 (eLv (eLst zNil)))
    (hSeq (hFor (eIt (eVar 0)) (tgSet 2)
      (hIf (bAnd (bE (eCB (gIsi (.glo "Mark") (isiOf cs (.glo "Mark"))) (zCons (eVar 2) (zCons (eC (.glo "Mark")) zNil)))) (bAnd (bE (eOp gGt (eCr gLen (eVar 1)) (eC (.int 0)))) (bE (eCB (gIsi (.glo "Mark") (isiOf cs (.glo "Mark"))) (zCons (eOp gIx (eVar 1) (eNeg (eC (.int 1)))) (zCons (eC (.glo "Mark")) zNil)))))) (hSet 1 (eOp gAdd (eSl (eVar 1) oNo (oSo (eNeg (eC (.int 1))))) (eLv (eLst (zCons (eMake "Mark" (g_Mark_init cs) [] (zCons (eOp gAdd (eFld ["Mark"] "text" (eOp gIx (eVar 1) (eNeg (eC (.int 1))))) (eFld ["Mark"] "text" (eVar 2))) zNil)) zNil))))) (hSet 1 (eOp gAdd (eVar 1) (eLv (eLst (zCons (eVar 2) zNil)))))))
    (hRet (eCr gTuple (eVar 1)))))
def b_depth_of (cs errs : List Str) (G : Gs) : FnS := (hSeq (hSet 1 (eC (.int 0)))
    (hSeq (hFor (eIt (eVar 0)) (tgSet 2)
      (hIf (bE (eCB (gIsi (.glo "Maybe") (isiOf cs (.glo "Maybe"))) (zCons (eVar 2) (zCons (eC (.glo "Maybe")) zNil)))) (hSet 1 (eCB gMax2 (zCons (eVar 1) (zCons (eOp gAdd (eC (.int 1)) (eCall G [] (zCons (eFld ["Maybe"] "parts" (eVar 2)) zNil))) zNil)))) hNext))
    (hRet (eVar 1))))
def b_names_in (cs errs : List Str) (G : Gs) : FnS := (hSeq (hSet 1 (eLv (eLst zNil)))
    (hSeq (hFor (eIt (eVar 0)) (tgSet 2)
      (hIf (bE (eCB (gIsi (.glo "Field") (isiOf cs (.glo "Field"))) (zCons (eVar 2) (zCons (eC (.glo "Field")) zNil)))) (hSet 1 (eOp gAdd (eVar 1) (eLv (eLst (zCons (eFld ["Field"] "name" (eVar 2)) zNil))))) (hIf (bE (eCB (gIsi (.glo "Maybe") (isiOf cs (.glo "Maybe"))) (zCons (eVar 2) (zCons (eC (.glo "Maybe")) zNil)))) (hSet 1 (eOp gAdd (eVar 1) (eCall G [] (zCons (eFld ["Maybe"] "parts" (eVar 2)) zNil)))) hNext)))
    (hRet (eVar 1))))
def b_count_places (cs errs : List Str) (G : Gs) : FnS := (hSeq (hSet 1 (eC (.int 0)))
    (hSeq (hFor (eIt (eVar 0)) (tgSet 2)
      (hIf (bE (eCB (gIsi (.glo "Field") (isiOf cs (.glo "Field"))) (zCons (eVar 2) (zCons (eC (.glo "Field")) zNil)))) (hSet 1 (eOp gAdd (eVar 1) (eCall (g_kind_places cs) [] (zCons (eFld ["Field"] "kind" (eVar 2)) zNil)))) (hIf (bE (eCB (gIsi (.glo "Mark") (isiOf cs (.glo "Mark"))) (zCons (eVar 2) (zCons (eC (.glo "Mark")) zNil)))) (hSet 1 (eOp gAdd (eVar 1) (eCr gLen (eFld ["Mark"] "text" (eVar 2))))) (hSet 1 (eOp gAdd (eVar 1) (eCall G [] (zCons (eFld ["Maybe"] "parts" (eVar 2)) zNil)))))))
    (hRet (eVar 1))))
def b_Maybe_init (cs errs : List Str) : FnS := (hSeq (hIf (bOr (bNot (bE (eCB (gIsiT cs [.ty "list", .ty "tuple"]) (zCons (eVar 1) (zCons (eTup (zCons (eC (.ty "list")) (zCons (eC (.ty "tuple")) zNil))) zNil))))) (bE (eOp (gEq false) (eCr gLen (eVar 1)) (eC (.int 0))))) (hRaiseF "BadItem" "at" (zCons (eNeg (eC (.int 1))) zNil)) hNext)
    (hSeq (hFor (eEnum (eVar 1)) (tgTup (tgCons (tgSet 2) (tgCons (tgSet 3) tgNil)))
      (hIf (bNot (bE (eCall (g_is_item cs) [] (zCons (eVar 3) zNil)))) (hRaiseF "BadItem" "at" (zCons (eVar 2) zNil)) hNext))
    (hSeq (hIf (bOr (bE (eOp (gEq false) (eCr gLen (eCall (g_own_names cs) [] (zCons (eVar 1) zNil))) (eC (.int 0)))) (bOr (bE (eOp (gI0 fun i j => .bl (decide (j ≤ i))) (eCall (g_depth_of cs) [] (zCons (eVar 1) zNil)) (eC (.int 3)))) (bE (eOp gGt (eCall (g_count_places cs) [] (zCons (eVar 1) zNil)) (eC (.int 200)))))) (hRaiseF "BadItem" "at" (zCons (eNeg (eC (.int 1))) zNil)) hNext)
    (hFld ["Maybe"] "parts" 0 (eCall (g_joined_marks cs) [] (zCons (eVar 1) zNil))))))
def b_line_places (cs errs : List Str) : FnS := (hRet (eOp gAdd (eOp (gI0 fun i j => .int (i - j)) (eCr gLen (eVar 0)) (eC (.int 1))) (eCr gSum (eLv (eLc (eIt (eVar 0)) (tgSet 1) bYes (eCall (g_count_places cs) [] (zCons (eVar 1) zNil)) [1])))))
def b_checked_lines (cs errs : List Str) : FnS := (hSeq (hIf (bOr (bNot (bE (eCB (gIsiT cs [.ty "list", .ty "tuple"]) (zCons (eVar 0) (zCons (eTup (zCons (eC (.ty "list")) (zCons (eC (.ty "tuple")) zNil))) zNil))))) (bOr (bE (eOp gLt (eCr gLen (eVar 0)) (eC (.int 1)))) (bE (eOp gGt (eCr gLen (eVar 0)) (eC (.int 10)))))) (hRaiseF "BadForm" "at" (zCons (eNeg (eC (.int 1))) zNil)) hNext)
    (hSeq (hSetO 1 (eLst zNil))
    (hSeq (hFor (eEnumB (eVar 0)) (tgTup (tgCons (tgSet 2) (tgCons (tgSet 3) tgNil)))
      (hSeq (hIf (bNot (bE (eCall (g_is_line cs) [] (zCons (eVar 3) zNil)))) (hRaiseF "BadForm" "at" (zCons (eVar 2) zNil)) hNext)
    (hFor (eIt (eCall (g_names_in cs) [] (zCons (eVar 3) zNil))) (tgSet 4)
      (hSeq (hIf (bE (eOp (gInL false) (eVar 4) (eOwn 1))) (hRaiseF "BadForm" "at" (zCons (eVar 2) zNil)) hNext)
    (hApp 1 (eVar 4))))))
    (hSeq (hIf (bOr (bE (eOp gGt (eCr gLen (eOwn 1)) (eC (.int 12)))) (bE (eOp gGt (eCall (g_line_places cs) [] (zCons (eVar 0) zNil)) (eC (.int 200))))) (hRaiseF "BadForm" "at" (zCons (eNeg (eC (.int 1))) zNil)) hNext)
    (hRet (eCr gTuple (eLv (eLc (eIt (eVar 0)) (tgSet 3) bYes (eCall (g_joined_marks cs) [] (zCons (eVar 3) zNil)) [3]))))))))
def b_row_piece (cs errs : List Str) (G : Gs) : FnS := (hSeq (hSet 2 (eCall (g_nothing cs) [] zNil))
    (hSeq (hFor (eIt (eVar 1)) (tgSet 3)
      (hSet 2 (eCall (g_then cs) [] (zCons (eVar 2) (zCons (eCall G [] (zCons (eOp gAdd (eVar 0) (eCr gLen (eOp gIx (eVar 2) (eC (.int 0))))) (zCons (eVar 3) zNil))) zNil)))))
    (hRet (eVar 2))))
def b_item_piece (cs errs : List Str) (G : Gs) : FnS := (hSeq (hIf (bE (eCB (gIsi (.glo "Field") (isiOf cs (.glo "Field"))) (zCons (eVar 1) (zCons (eC (.glo "Field")) zNil)))) (hRet (eCall (g_kind_piece cs) [] (zCons (eVar 0) (zCons (eMeth "Kind" "alternatives" (g_Kind_alternatives cs) [] (eFld ["Field"] "kind" (eVar 1)) zNil) (zCons (eFld ["Field"] "name" (eVar 1)) zNil))))) hNext)
    (hSeq (hIf (bE (eCB (gIsi (.glo "Mark") (isiOf cs (.glo "Mark"))) (zCons (eVar 1) (zCons (eC (.glo "Mark")) zNil)))) (hRet (eCall (g_mark_piece cs) [] (zCons (eVar 0) (zCons (eFld ["Mark"] "text" (eVar 1)) zNil)))) hNext)
    (hSeq (hAsg (eCall G [] (zCons (eVar 0) (zCons (eFld ["Maybe"] "parts" (eVar 1)) zNil))) (tgTup (tgCons (tgSet 2) (tgCons (tgSet 3) (tgCons (tgSet 4) (tgCons (tgSet 5) (tgCons (tgSet 6) (tgCons (tgSet 7) tgNil))))))))
    (hRet (eTup (zCons (eVar 2) (zCons (eVar 3) (zCons (eVar 4) (zCons (eVar 5) (zCons (eVar 6) (zCons (eC (.bl true)) zNil)))))))))))
def b_with_line (cs errs : List Str) : FnS := (hSeq (hSet 2 (eCr gLen (eOp gIx (eVar 0) (eC (.int 0)))))
    (hSeq (hSet 3 (eCall (g_row_piece cs) [] (zCons (eOp gAdd (eVar 2) (eC (.int 1))) (zCons (eVar 1) zNil))))
    (hSeq (hSet 4 (eOp gAdd (eLv (eLc (eIt (eOp gIx (eVar 0) (eC (.int 4)))) (tgSet 5) bYes (eTup (zCons (eVar 5) (zCons (eVar 2) zNil))) [5])) (eLv (eLc (eIt (eOp gIx (eVar 3) (eC (.int 3)))) (tgSet 6) bYes (eTup (zCons (eVar 2) (zCons (eVar 6) zNil))) [6]))))
    (hSeq (hSet 7 (eLv (eList (eOp gIx (eVar 0) (eC (.int 3))))))
    (hSeq (hIf (bE (eOp gIx (eVar 0) (eC (.int 5)))) (hSet 7 (eOp gAdd (eVar 7) (eOp gIx (eVar 3) (eC (.int 3))))) hNext)
    (hSeq (hSet 8 (eLv (eList (eOp gIx (eVar 3) (eC (.int 4))))))
    (hSeq (hIf (bE (eOp gIx (eVar 3) (eC (.int 5)))) (hSet 8 (eOp gAdd (eVar 8) (eOp gIx (eVar 0) (eC (.int 4))))) hNext)
    (hSeq (hSet 9 (eOp gAdd (eOp gAdd (eOp gIx (eVar 0) (eC (.int 0))) (eLv (eLst (zCons (eC (.str "\n")) zNil)))) (eOp gIx (eVar 3) (eC (.int 0)))))
    (hSeq (hSet 10 (eOp gAdd (eOp gAdd (eOp gIx (eVar 0) (eC (.int 1))) (eLv (eLst (zCons (eC (.str "")) zNil)))) (eOp gIx (eVar 3) (eC (.int 1)))))
    (hRet (eTup (zCons (eVar 9) (zCons (eVar 10) (zCons (eOp gAdd (eOp gAdd (eOp gIx (eVar 0) (eC (.int 2))) (eVar 4)) (eOp gIx (eVar 3) (eC (.int 2)))) (zCons (eVar 7) (zCons (eVar 8) (zCons (eAnd (eOp gIx (eVar 0) (eC (.int 5))) (eOp gIx (eVar 3) (eC (.int 5)))) zNil)))))))))))))))))
def b_form_layout (cs errs : List Str) : FnS := (hSeq (hSet 1 (eCall (g_row_piece cs) [] (zCons (eC (.int 0)) (zCons (eOp gIx (eVar 0) (eC (.int 0))) zNil))))
    (hSeq (hFor (eIt (eSl (eVar 0) (oSo (eC (.int 1))) oNo)) (tgSet 2)
      (hSet 1 (eCall (g_with_line cs) [] (zCons (eVar 1) (zCons (eVar 2) zNil)))))
    (hRet (eMake "Layout" (g_Layout_init cs) [] (zCons (eVar 1) zNil)))))
def b_Form_init (cs errs : List Str) : FnS := (hSeq (hFld ["Form"] "lines" 0 (eCall (g_checked_lines cs) [] (zCons (eVar 1) zNil)))
    (hFld ["Form"] "layout" 0 (eCall (g_form_layout cs) [] (zCons (eFldI ["Form"] "lines" 0) zNil))))
end Tw
end
section
set_option maxHeartbeats 1000000
namespace Tw
open PySem PySem.Spec PyProof.Rows L2 Tl
variable (cs errs : List Str)
theorem itD_fld (n : Str) (rows : List Rw) : itD (.fld n rows) = .obj "Field" ["name", "kind"] [.str n, kindD rows] := by rw [itD]
theorem itD_mrk (z : Str) : itD (.mrk z) = .obj "Mark" ["text"] [.str z] := by rw [itD]
theorem itD_grp (ps : List It) : itD (.grp ps) = .obj "Maybe" ["parts"] [.tup (itsD ps)] := by rw [itD]
theorem isi_ob {cs : List Str} (c k : Str) (h : k ∈ cs) : isiOf cs (.glo c) (.ob k) = some (k == c) := by
  show (if _ then _ else _) = _
  rw [if_pos h]
theorem okKs_mem {x : It} : ∀ {l : List It}, okKs l → x ∈ l → okK x
  | a :: r, h, m => by
    rw [okKs] at h
    rcases List.mem_cons.mp m with e | m
    · rw [e]; exact h.1
    · exact okKs_mem h.2 m
theorem okKs_app : ∀ a b : List It, okKs (a ++ b) ↔ okKs a ∧ okKs b
  | [], b => by rw [List.nil_append]; exact ⟨fun h => ⟨by rw [okKs]; trivial, h⟩, fun h => h.2⟩
  | x :: a, b => by rw [List.cons_append, okKs, okKs, okKs_app a b, and_assoc]
theorem rn_pl1 {r : Rn} (h : RnOk r) : 1 ≤ r.pl ∧ r.pl ≤ 40 := by
  obtain ⟨s, l, m⟩ := r
  cases m with
  | none =>
    have h1 : l ≤ 40 := h.l1
    show 1 ≤ (if 1 > l then 1 else l) ∧ (if 1 > l then 1 else l) ≤ 40
    split <;> omega
  | some i => exact ⟨(h.m i rfl).1, (h.m i rfl).2.1⟩
theorem row_pl0 : ∀ r : Rw, (∀ x ∈ r, RnOk x) → (r.length : Int) ≤ rowPl r
  | [], _ => by decide
  | x :: r, h => by
    have h1 := (rn_pl1 (h x List.mem_cons_self)).1
    have h2 := row_pl0 r fun y m => h y (List.mem_cons_of_mem _ m)
    have e : rowPl (x :: r) = x.pl + rowPl r := by unfold rowPl; rw [List.map_cons, List.sum_cons]
    rw [e, List.length_cons]; omega
theorem rows_pl0 : ∀ rows : List Rw, okR rows → 0 ≤ rowsPl rows
  | [], _ => by decide
  | r :: rows, h => by
    have h1 := row_pl0 r (h r List.mem_cons_self)
    have h2 := rows_pl0 rows fun y m => h y (List.mem_cons_of_mem _ m)
    have e : rowsPl (r :: rows) = rowPl r + rowsPl rows := by unfold rowsPl; rw [List.map_cons, List.sum_cons]
    rw [e]; omega
mutual
theorem pl_nn : ∀ x : It, okK x → 0 ≤ x.pl
  | .fld n rows, h => by rw [okK] at h; rw [It.pl]; exact rows_pl0 rows h
  | .mrk z, h => by rw [It.pl]; omega
  | .grp ps, h => by rw [okK] at h; rw [It.pl]; exact plL_nn ps h
theorem plL_nn : ∀ l : List It, okKs l → 0 ≤ plL l
  | [], _ => by rw [plL]; omega
  | a :: r, h => by
    rw [okKs] at h
    rw [plL]
    have := pl_nn a h.1
    have := plL_nn r h.2
    omega
end
theorem mem_pl {x : It} : ∀ {l : List It}, okKs l → x ∈ l → x.pl ≤ plL l
  | a :: r, h, m => by
    rw [okKs] at h
    rw [plL]
    have h1 := pl_nn a h.1
    have h2 := plL_nn r h.2
    rcases List.mem_cons.mp m with e | m
    · rw [e]; omega
    · have := mem_pl h.2 m; omega
section
variable [hF : InE "Field" cs] [hM : InE "Mark" cs] [hG : InE "Maybe" cs]
theorem u_is_item : ∀ as φ ψ, g_is_item cs as φ ψ → as.length = 1 ∧ runF 1 (b_is_item cs errs) as φ ψ := fun as φ ψ h => by
  obtain ⟨x, rfl, h⟩ := h
  cases x with
  | fld n rows =>
    rw [itD_fld]
    refine ⟨rfl, rfl, ?_⟩
    show (match anyIsi cs (.ob "Field") [.glo "Field", .glo "Mark", .glo "Maybe"] with | some v => _ | none => False)
    have e : anyIsi cs (.ob "Field") [.glo "Field", .glo "Mark", .glo "Maybe"] = some true := by
      unfold anyIsi; rw [isi_ob "Field" "Field" hF.h]; rfl
    rw [e]; exact h
  | mrk z =>
    rw [itD_mrk]
    refine ⟨rfl, rfl, ?_⟩
    show (match anyIsi cs (.ob "Mark") [.glo "Field", .glo "Mark", .glo "Maybe"] with | some v => _ | none => False)
    have e : anyIsi cs (.ob "Mark") [.glo "Field", .glo "Mark", .glo "Maybe"] = some true := by
      unfold anyIsi; rw [isi_ob "Field" "Mark" hM.h]; unfold anyIsi; rw [isi_ob "Mark" "Mark" hM.h]; rfl
    rw [e]; exact h
  | grp ps =>
    rw [itD_grp]
    refine ⟨rfl, rfl, ?_⟩
    show (match anyIsi cs (.ob "Maybe") [.glo "Field", .glo "Mark", .glo "Maybe"] with | some v => _ | none => False)
    have e : anyIsi cs (.ob "Maybe") [.glo "Field", .glo "Mark", .glo "Maybe"] = some true := by
      unfold anyIsi; rw [isi_ob "Field" "Maybe" hG.h]; unfold anyIsi; rw [isi_ob "Mark" "Maybe" hG.h]; unfold anyIsi; rw [isi_ob "Maybe" "Maybe" hG.h]; rfl
    rw [e]; exact h
theorem own_fm : ∀ ps : List It, ps.filterMap (fun x => match x with | .fld n _ => some (D.str n) | _ => none) = (ownN ps).map D.str
  | [] => by rw [ownN]; rfl
  | .fld n rows :: r => by rw [ownN, List.map_cons, ← own_fm r]; rfl
  | .mrk z :: r => by rw [ownN, ← own_fm r]; rfl
  | .grp qs :: r => by rw [ownN, ← own_fm r]; rfl
theorem row_it {d : D} {ps : List It} (h : rowAt d ps) (k : List D → Prop) (hk : k (ps.map itD)) : itAny d k := by
  rcases h with rfl | rfl <;> (rw [itsD_map]; exact hk)
theorem u_own_names : ∀ as φ ψ, g_own_names cs as φ ψ → as.length = 1 ∧ runF 2 (b_own_names cs errs) as φ ψ := fun as φ ψ h => by
  obtain ⟨ps, d, rfl, hd, sz, h⟩ := h
  refine ⟨rfl, ?_⟩
  show itAny d _
  refine row_it hd _ ⟨?_, ?_⟩
  · rw [List.length_map]; have := len_sz ps; omega
  refine lc_map itD (fun x => match x with | .fld n _ => some (D.str n) | _ => none) ps _ (fun x _ k hk => ?_) ?_
  · cases x with
    | fld n rows =>
      rw [itD_fld]
      refine ⟨rfl, ?_⟩
      show (match isiOf cs (.glo "Field") (.ob "Field") with | some v => _ | none => False)
      rw [isi_ob "Field" "Field" hF.h]
      exact ⟨List.mem_cons_self, hk⟩
    | mrk z =>
      rw [itD_mrk]
      refine ⟨rfl, ?_⟩
      show (match isiOf cs (.glo "Field") (.ob "Mark") with | some v => _ | none => False)
      rw [isi_ob "Field" "Mark" hM.h]
      exact hk
    | grp qs =>
      rw [itD_grp]
      refine ⟨rfl, ?_⟩
      show (match isiOf cs (.glo "Field") (.ob "Maybe") with | some v => _ | none => False)
      rw [isi_ob "Field" "Maybe" hG.h]
      exact hk
  · rw [own_fm]; exact h
theorem for_row {α : Type} {tgt : TgF} {body : FnS} {P : AP} {ψ : XA} {env : List A} {d : D} {ps : List It} (hd : rowAt d ps) (St : List It → List A → Prop) (h0 : St [] env)
    (step : ∀ pre x suf env (k : List A → Prop), ps = pre ++ x :: suf → St pre env → (∀ env', St (pre ++ [x]) env' → k env') → tgt (itD x) env fun env1 => body env1 { P with nx := k, ct := k, bk := P.nx } ψ)
    (fin : ∀ env, St ps env → P.nx env) : itAny d fun ds => forA tgt body ds env P ψ :=
  row_it hd _ (for_all itD ps St h0 step fin)
theorem u_names_inR (n : Nat) : ∀ as φ ψ, g_names_inR cs (n + 1) as φ ψ → as.length = 1 ∧ runF 3 (b_names_in cs errs (g_names_inR cs n)) as φ ψ := fun as φ ψ h => by
  obtain ⟨ps, d, rfl, hd, dp, sz, h⟩ := h
  refine ⟨rfl, ?_⟩
  show itAny d _
  refine for_row (α := It) hd (fun pre env => ∃ x, env = [.val d, .val (.lst ((nmsL pre).map D.str)), x]) ⟨.no, by rw [nmsL]; rfl⟩ (fun pre x suf env k e hs hk => ?_) (fun env hs => ?_)
  · obtain ⟨x0, rfl⟩ := hs
    have s1 : szL ps = szL pre + (x.sz + szL suf) := by rw [e, szL_app, szL]
    have l1 := nmsL_sz pre
    have l2 := nms_sz x
    have big : 20000 ≤ sizeLine := by decide
    cases x with
    | fld nm rows =>
      rw [itD_fld]
      refine ⟨rfl, ?_⟩
      show (match isiOf cs (.glo "Field") (.ob "Field") with | some v => _ | none => False)
      rw [isi_ob "Field" "Field" hF.h]
      refine ⟨List.mem_cons_self, ?_, hk _ ⟨.val (itD (.fld nm rows)), ?_⟩⟩
      · rw [It.nms, It.sz] at l2; rw [It.sz] at s1; rw [List.length_map]; show _ + 1 ≤ _; omega
      · rw [nmsL_app, nmsL_one, It.nms, List.map_append, itD_fld]; rfl
    | mrk z =>
      rw [itD_mrk]
      refine ⟨rfl, ?_⟩
      show (match isiOf cs (.glo "Field") (.ob "Mark") with | some v => _ | none => False)
      rw [isi_ob "Field" "Mark" hM.h]
      refine ⟨rfl, ?_⟩
      show (match isiOf cs (.glo "Maybe") (.ob "Mark") with | some v => _ | none => False)
      rw [isi_ob "Maybe" "Mark" hM.h]
      exact hk _ ⟨_, by rw [nmsL_app, nmsL_one, It.nms, List.append_nil]; rfl⟩
    | grp qs =>
      rw [itD_grp]
      refine ⟨rfl, ?_⟩
      show (match isiOf cs (.glo "Field") (.ob "Maybe") with | some v => _ | none => False)
      rw [isi_ob "Field" "Maybe" hG.h]
      refine ⟨rfl, ?_⟩
      show (match isiOf cs (.glo "Maybe") (.ob "Maybe") with | some v => _ | none => False)
      rw [isi_ob "Maybe" "Maybe" hG.h]
      refine ⟨List.mem_cons_self, ?_⟩
      have dx : (It.grp qs).dep ≤ depL ps := mem_dep (by rw [e]; simp)
      rw [It.dep] at dx
      rw [It.sz] at s1 l2
      rw [It.nms] at l2
      have sq := nmsL_sz qs
      cases n with
      | zero => omega
      | succ n =>
        refine ⟨qs, _, rfl, .inr rfl, by omega, by omega, ?_, hk _ ⟨.val (itD (.grp qs)), ?_⟩⟩
        · rw [List.length_map, List.length_map]; omega
        · rw [nmsL_app, nmsL_one, It.nms, List.map_append, itD_grp]; rfl
  · obtain ⟨x0, rfl⟩ := hs
    exact h
theorem u_depth_ofR (n : Nat) : ∀ as φ ψ, g_depth_ofR cs (n + 1) as φ ψ → as.length = 1 ∧ runF 3 (b_depth_of cs errs (g_depth_ofR cs n)) as φ ψ := fun as φ ψ h => by
  obtain ⟨ps, d, rfl, hd, dp, sz, h⟩ := h
  refine ⟨rfl, ?_⟩
  show itAny d _
  refine for_row (α := It) hd (fun pre env => ∃ x, env = [.val d, .val (.int (depL pre : Nat)), x]) ⟨.no, by rw [depL]; rfl⟩ (fun pre x suf env k e hs hk => ?_) (fun env hs => ?_)
  · obtain ⟨x0, rfl⟩ := hs
    have s1 : szL ps = szL pre + (x.sz + szL suf) := by rw [e, szL_app, szL]
    cases x with
    | fld nm rows =>
      rw [itD_fld]
      refine ⟨rfl, ?_⟩
      show (match isiOf cs (.glo "Maybe") (.ob "Field") with | some v => _ | none => False)
      rw [isi_ob "Maybe" "Field" hF.h]
      exact hk _ ⟨_, by rw [depL_app, depL_one, It.dep, Nat.max_zero]; rfl⟩
    | mrk z =>
      rw [itD_mrk]
      refine ⟨rfl, ?_⟩
      show (match isiOf cs (.glo "Maybe") (.ob "Mark") with | some v => _ | none => False)
      rw [isi_ob "Maybe" "Mark" hM.h]
      exact hk _ ⟨_, by rw [depL_app, depL_one, It.dep, Nat.max_zero]; rfl⟩
    | grp qs =>
      rw [itD_grp]
      refine ⟨rfl, ?_⟩
      show (match isiOf cs (.glo "Maybe") (.ob "Maybe") with | some v => _ | none => False)
      rw [isi_ob "Maybe" "Maybe" hG.h]
      refine ⟨List.mem_cons_self, ?_⟩
      have dx : (It.grp qs).dep ≤ depL ps := mem_dep (by rw [e]; simp)
      rw [It.dep] at dx
      rw [It.sz] at s1
      cases n with
      | zero => omega
      | succ n =>
        refine ⟨qs, _, rfl, .inr rfl, by omega, by omega, ?_⟩
        show k _
        refine hk _ ⟨.val (itD (.grp qs)), ?_⟩
        rw [depL_app, depL_one, It.dep, itD_grp]
        have e2 : (if (1 : Int) + ((depL qs : Nat) : Int) > ((depL pre : Nat) : Int) then (1 : Int) + ((depL qs : Nat) : Int) else ((depL pre : Nat) : Int)) = ((max (depL pre) (1 + depL qs) : Nat) : Int) := by
          split <;> omega
        rw [← e2]; rfl
  · obtain ⟨x0, rfl⟩ := hs
    exact h
end
theorem u_kind_places : ∀ as φ ψ, g_kind_places cs as φ ψ → as.length = 1 ∧ runF 3 (b_kind_places cs errs) as φ ψ := fun as φ ψ h => by
  obtain ⟨rows, rfl, hr, h⟩ := h
  have l1 := (fits_iff.mp hr.fit).1
  have l2 := (fits_iff.mp hr.fit).2.1
  refine ⟨rfl, rfl, by decide, rows, rfl, ?_⟩
  show (rows.map rowD).length < 1000000 ∧ _
  refine ⟨by rw [List.length_map]; omega, ?_⟩
  refine lc_all rowD (fun r => D.int (rowPl r)) rows _ (fun r mr k hk => ?_) ?_
  · show (r.map Rn.d).length < 1000000 ∧ _
    refine ⟨by rw [List.length_map]; have := l2 r mr; omega, ?_⟩
    refine lc_all Rn.d (fun x => D.int x.pl) r _ (fun x _ k hk => ⟨x, rfl, hk⟩) ?_
    show (match intsD (r.map fun x => D.int x.pl) with | some ns => _ | none => False)
    rw [ints_of]
    exact hk
  · show (match intsD (rows.map fun r => D.int (rowPl r)) with | some ns => _ | none => False)
    rw [ints_of]
    exact h
section
variable [hF : InE "Field" cs] [hM : InE "Mark" cs] [hG : InE "Maybe" cs]
theorem u_count_placesR (n : Nat) : ∀ as φ ψ, g_count_placesR cs (n + 1) as φ ψ → as.length = 1 ∧ runF 3 (b_count_places cs errs (g_count_placesR cs n)) as φ ψ := fun as φ ψ h => by
  obtain ⟨ps, d, rfl, hd, dp, sz, ok, okk, pb, h⟩ := h
  refine ⟨rfl, ?_⟩
  show itAny d _
  refine for_row (α := It) hd (fun pre env => ∃ x, env = [.val d, .val (.int (plL pre)), x]) ⟨.no, by rw [plL]; rfl⟩ (fun pre x suf env k e hs hk => ?_) (fun env hs => ?_)
  · obtain ⟨x0, rfl⟩ := hs
    have s1 : szL ps = szL pre + (x.sz + szL suf) := by rw [e, szL_app, szL]
    have okx : okI x := okL_mem ok (by rw [e]; simp)
    cases x with
    | fld nm rows =>
      rw [okI] at okx
      rw [itD_fld]
      refine ⟨rfl, ?_⟩
      show (match isiOf cs (.glo "Field") (.ob "Field") with | some v => _ | none => False)
      rw [isi_ob "Field" "Field" hF.h]
      refine ⟨List.mem_cons_self, rows, rfl, okx.2.1, hk _ ⟨.val (itD (.fld nm rows)), ?_⟩⟩
      rw [plL_app, plL_one, It.pl, itD_fld]; rfl
    | mrk z =>
      rw [okI] at okx
      rw [itD_mrk]
      refine ⟨rfl, ?_⟩
      show (match isiOf cs (.glo "Field") (.ob "Mark") with | some v => _ | none => False)
      rw [isi_ob "Field" "Mark" hM.h]
      refine ⟨rfl, ?_⟩
      show (match isiOf cs (.glo "Mark") (.ob "Mark") with | some v => _ | none => False)
      rw [isi_ob "Mark" "Mark" hM.h]
      have zl : (It.mrk z).pl ≤ plL ps := mem_pl okk (by rw [e]; simp)
      rw [It.pl] at zl
      have big : 1000000 ≤ sizeLine := by decide
      refine ⟨List.mem_cons_self, by omega, hk _ ⟨.val (itD (.mrk z)), ?_⟩⟩
      rw [plL_app, plL_one, It.pl, itD_mrk]; rfl
    | grp qs =>
      rw [okI] at okx
      rw [itD_grp]
      refine ⟨rfl, ?_⟩
      show (match isiOf cs (.glo "Field") (.ob "Maybe") with | some v => _ | none => False)
      rw [isi_ob "Field" "Maybe" hG.h]
      refine ⟨rfl, ?_⟩
      show (match isiOf cs (.glo "Mark") (.ob "Maybe") with | some v => _ | none => False)
      rw [isi_ob "Mark" "Maybe" hG.h]
      refine ⟨List.mem_cons_self, ?_⟩
      have dx : (It.grp qs).dep ≤ depL ps := mem_dep (by rw [e]; simp)
      rw [It.dep] at dx
      rw [It.sz] at s1
      cases n with
      | zero => omega
      | succ n =>
        have gl : (It.grp qs).pl ≤ plL ps := mem_pl okk (by rw [e]; simp)
        rw [It.pl] at gl
        have kx : okK (.grp qs) := okKs_mem okk (by rw [e]; simp)
        rw [okK] at kx
        refine ⟨qs, _, rfl, .inr rfl, by omega, by omega, okx.1, kx, by omega, hk _ ⟨.val (itD (.grp qs)), ?_⟩⟩
        rw [plL_app, plL_one, It.pl, itD_grp]; rfl
  · obtain ⟨x0, rfl⟩ := hs
    exact h
end
end Tw
end
section
set_option maxHeartbeats 1000000
namespace Tw
open PySem PySem.Spec PyProof.Rows L2 Tl
variable (cs errs : List Str)
theorem T_add (a b : Str) : T (a ++ b) = T a ++ T b := by
  show (a.cps ++ b.cps).toList = _
  rw [Array.toList_append]
theorem len_add (a b : Str) : (a ++ b).length = a.length + b.length := by
  rw [← T_len, ← T_len, ← T_len, T_add, List.length_append]
theorem lower_in {c : Nat} (h : 97 ≤ c ∧ c ≤ 122) : c ∈ T c_LOWER := by
  have g : ∀ i < 26, 97 + i ∈ T c_LOWER := by decide +kernel
  have := g (c - 97) (by omega)
  rw [show 97 + (c - 97) = c by omega] at this
  exact this
theorem u_is_name : ∀ as φ ψ, g_is_name cs as φ ψ → as.length = 1 ∧ runF 2 (b_is_name cs errs) as φ ψ := fun as φ ψ h => by
  obtain ⟨z, rfl, hz, h⟩ := h
  have zs : z.length ≤ sizeLine := Nat.le_trans hz.le (by decide)
  refine ⟨rfl, rfl, zs, ?_⟩
  show if decide ((z.length : Int) < 1) = true then _ else _
  rw [if_neg (by rw [decide_eq_true_eq]; have := hz.ge; omega)]
  refine ⟨zs, ?_⟩
  show if decide (12 < (z.length : Int)) = true then _ else _
  rw [if_neg (by rw [decide_eq_true_eq]; have := hz.le; omega)]
  show forA _ _ (Tl.signs z) _ _ _
  unfold Tl.signs
  refine for_all _ (T z) (fun pre env => ∃ x, env = [.val (.str z), x]) ⟨_, rfl⟩ (fun pre c suf env k e hs hk => ?_) (fun env hs => ?_)
  · obtain ⟨x, rfl⟩ := hs
    have hc : c ∈ T c_LOWER := lower_in (hz.lo c (by rw [e]; simp))
    show if (!decide (c ∈ T c_LOWER)) = true then _ else _
    rw [decide_eq_true hc]
    exact hk _ ⟨_, rfl⟩
  · exact h
theorem filter_some {α β : Type} (f : α → β) (p : α → Bool) : ∀ l : List α, l.filterMap (fun a => if p a = true then some (f a) else none) = (l.filter p).map f
  | [] => rfl
  | a :: l => by
    rw [List.filterMap_cons, List.filter_cons]
    cases q : p a with
    | true => rw [if_pos rfl, if_pos rfl, List.map_cons, filter_some f p l]
    | false => rw [if_neg (fun h => nomatch h), if_neg (fun h => nomatch h), filter_some f p l]
theorem u_Kind_has_empty : ∀ as φ ψ, g_Kind_has_empty cs as φ ψ → as.length = 1 ∧ runF 3 (b_Kind_has_empty cs errs) as φ ψ := fun as φ ψ h => by
  obtain ⟨rows, rfl, hr, h⟩ := h
  have l1 := (fits_iff.mp hr.fit).1
  have l2 := (fits_iff.mp hr.fit).2.1
  refine ⟨rfl, List.mem_cons_self, ?_⟩
  show (rows.map rowD).length < 1000000 ∧ _
  refine ⟨by rw [List.length_map]; omega, ?_⟩
  refine lc_map rowD (fun r => if (r.all fun x => decide (x.l ≤ 0)) = true then some (rowD r) else none) rows _ (fun r mr k hk => ?_) ?_
  · show (r.map Rn.d).length < 1000000 ∧ _
    refine ⟨by rw [List.length_map]; have := l2 r mr; omega, ?_⟩
    refine lc_map Rn.d (fun x => if decide (0 < x.l) = true then some x.d else none) r _ (fun x _ k hk => ?_) ?_
    · show if decide (0 < x.l) = true then _ else _
      split
      · rename_i q; rw [if_pos q] at hk; exact hk
      · rename_i q; rw [if_neg q] at hk; exact hk
    · rw [filter_some]
      have e : decide ((((r.filter fun x => decide (0 < x.l)).map Rn.d).length : Int) = 0) = r.all fun x => decide (x.l ≤ 0) := by
        rw [Bool.eq_iff_iff, decide_eq_true_eq, List.length_map, List.all_eq_true]
        constructor
        · intro hz x hx
          have hz2 : (r.filter fun x => decide (0 < x.l)) = [] := List.eq_nil_of_length_eq_zero (by omega)
          rw [List.filter_eq_nil_iff] at hz2
          have := hz2 x hx
          rw [decide_eq_true_eq] at this ⊢
          omega
        · intro ha
          have : (r.filter fun x => decide (0 < x.l)) = [] := List.filter_eq_nil_iff.mpr fun x hx => by
            have := ha x hx
            rw [decide_eq_true_eq] at this ⊢
            omega
          rw [this]; rfl
      show if decide ((((r.filter fun x => decide (0 < x.l)).map Rn.d).length : Int) = 0) = true then _ else _
      rw [e]
      split
      · rename_i q; rw [if_pos q] at hk; exact hk
      · rename_i q; rw [if_neg q] at hk; exact hk
  · rw [filter_some]
    show φ (.bl (decide (0 < (((rows.filter fun r => r.all fun x => decide (x.l ≤ 0)).map rowD).length : Int))))
    have e : decide (0 < (((rows.filter fun r => r.all fun x => decide (x.l ≤ 0)).map rowD).length : Int)) = hasE rows := by
      rw [Bool.eq_iff_iff, decide_eq_true_eq, List.length_map]
      unfold hasE
      rw [List.any_eq_true]
      constructor
      · intro hp
        have hp2 : 0 < (rows.filter fun r => r.all fun x => decide (x.l ≤ 0)).length := by omega
        obtain ⟨r, hm⟩ := List.exists_mem_of_length_pos hp2
        rw [List.mem_filter] at hm
        exact ⟨r, hm.1, hm.2⟩
      · rintro ⟨r, hm, hp⟩
        have := List.length_pos_of_mem (List.mem_filter.mpr ⟨hm, hp⟩ : r ∈ rows.filter fun r => r.all fun x => decide (x.l ≤ 0))
        omega
    rw [e]; exact h
theorem l_Field_init : ∀ as φ ψ, g_Field_init cs as φ ψ → as.length = 2 := fun as φ ψ h => by
  obtain ⟨n, rows, rfl, h⟩ := h; rfl
theorem u_Field_init [hK : InE "Kind" cs] : ∀ as φ ψ, g_Field_init cs as φ ψ → runM "Field" 2 (b_Field_init cs errs) as φ ψ := fun as φ ψ h => by
  obtain ⟨n, rows, rfl, hn, hr, he, h⟩ := h
  intro p
  refine ⟨n, rfl, hn, rfl, ?_⟩
  show (match isiOf cs (.glo "Kind") (.ob "Kind") with | some v => _ | none => False)
  rw [isi_kind hK.h]
  refine ⟨rfl, rows, rfl, hr, ?_⟩
  rw [he]
  refine ⟨List.mem_cons_self, List.not_mem_nil, by decide, List.mem_cons_self, by decide, by decide, rfl, rfl, ?_⟩
  rw [itD_fld] at h
  exact h
theorem l_Mark_init : ∀ as φ ψ, g_Mark_init cs as φ ψ → as.length = 1 := fun as φ ψ h => by
  obtain ⟨z, rfl, h⟩ := h; rfl
theorem u_Mark_init : ∀ as φ ψ, g_Mark_init cs as φ ψ → runM "Mark" 1 (b_Mark_init cs errs) as φ ψ := fun as φ ψ h => by
  obtain ⟨z, rfl, oz, z1, z2, h⟩ := h
  intro p
  have zs : z.length ≤ sizeLine := Nat.le_trans z2 (by decide)
  refine .inl ⟨z, rfl, oz, zs, ?_⟩
  show if decide ((z.length : Int) < 1) = true then _ else _
  rw [if_neg (by rw [decide_eq_true_eq]; omega)]
  refine ⟨zs, ?_⟩
  show if decide (200 < (z.length : Int)) = true then _ else _
  rw [if_neg (by rw [decide_eq_true_eq]; omega)]
  refine ⟨List.mem_cons_self, List.not_mem_nil, by decide, rfl, rfl, ?_⟩
  rw [itD_mrk] at h
  exact h
theorem joinM_ind {P : List It → List It → Prop} (h0 : P [] []) (hs : ∀ pre acc x, P pre acc → P (pre ++ [x]) (jStep acc x)) (l : List It) : P l (joinM l) := by
  have go : ∀ (l pre acc : List It), P pre acc → P (pre ++ l) (l.foldl jStep acc) := by
    intro l
    induction l with
    | nil => intro pre acc h; rw [List.append_nil]; exact h
    | cons x l ih =>
      intro pre acc h
      have := ih (pre ++ [x]) (jStep acc x) (hs pre acc x h)
      rw [List.append_assoc] at this
      exact this
  exact go l [] [] h0
theorem jStep_cases (acc : List It) (x : It) : jStep acc x = acc ++ [x] ∨ ∃ M a b, acc = M ++ [.mrk a] ∧ x = .mrk b ∧ jStep acc x = M ++ [.mrk (a ++ b)] := by
  unfold jStep
  split
  · rename_i a b h
    refine .inr ⟨acc.dropLast, a, b, ?_, rfl, rfl⟩
    have ne : acc ≠ [] := fun z => by rw [z] at h; cases h
    have e := List.dropLast_concat_getLast ne
    rw [List.getLast?_eq_getLast ne] at h
    have hh := Option.some.inj h
    rw [hh] at e
    exact e.symm
  · exact .inl rfl
structure JOk (pre acc : List It) : Prop where
  pl : plL acc = plL pre
  dep : depL acc = depL pre
  nms : nmsL acc = nmsL pre
  own : ownN acc = ownN pre
  sz : szL acc ≤ szL pre
  ok : okL pre → okL acc
  k : okKs pre → okKs acc
theorem j_ok (l : List It) : JOk l (joinM l) := by
  refine joinM_ind (P := JOk) ⟨rfl, rfl, rfl, rfl, Nat.le_refl _, fun h => h, fun h => h⟩ (fun pre acc x h => ?_) l
  rcases jStep_cases acc x with e | ⟨M, a, b, e1, e2, e⟩
  · rw [e]
    refine ⟨?_, ?_, ?_, ?_, ?_, fun z => ?_, fun z => ?_⟩
    · rw [plL_app, plL_app, h.pl]
    · rw [depL_app, depL_app, h.dep]
    · rw [nmsL_app, nmsL_app, h.nms]
    · rw [ownN_app, ownN_app, h.own]
    · rw [szL_app, szL_app]; have := h.sz; omega
    · rw [okL_app] at z ⊢; exact ⟨h.ok z.1, z.2⟩
    · rw [okKs_app] at z ⊢; exact ⟨h.k z.1, z.2⟩
  · subst e2
    rw [e]
    obtain ⟨p1, p2, p3, p4, p5, p6, p7⟩ := h
    rw [e1] at p1 p2 p3 p4 p5 p6 p7
    rw [plL_app, plL_one, It.pl] at p1
    rw [depL_app, depL_one, It.dep] at p2
    rw [nmsL_app, nmsL_one, It.nms] at p3
    rw [ownN_app] at p4
    rw [szL_app, szL_one, It.sz] at p5
    refine ⟨?_, ?_, ?_, ?_, ?_, fun z => ?_, fun z => ?_⟩
    · rw [plL_app, plL_app, plL_one, plL_one, It.pl, It.pl, len_add]; omega
    · rw [depL_app, depL_app, depL_one, depL_one, It.dep, It.dep]; omega
    · rw [nmsL_app, nmsL_app, nmsL_one, nmsL_one, It.nms, It.nms, ← p3, List.append_nil, List.append_nil]
    · rw [ownN_app, ownN_app, ← p4]
      show ownN M ++ ownN [It.mrk (a ++ b)] = ownN M ++ ownN [It.mrk a] ++ ownN [It.mrk b]
      simp only [ownN, List.append_nil]
    · rw [szL_app, szL_app, szL_one, szL_one, It.sz, It.sz]; omega
    · rw [okL_app, okL_one, okI] at z
      have z1 := p6 z.1
      rw [okL_app, okL_one, okI] at z1
      rw [okL_app, okL_one, okI]
      refine ⟨z1.1, fun c hc => ?_, by rw [len_add]; omega⟩
      rw [T_add] at hc
      rcases List.mem_append.mp hc with m | m
      · exact z1.2.1 c m
      · exact z.2.1 c m
    · rw [okKs_app] at z
      have z1 := p7 z.1
      rw [okKs_app] at z1
      rw [okKs_app]
      refine ⟨z1.1, ?_⟩
      rw [okKs, okK]
      exact ⟨trivial, by rw [okKs]; trivial⟩
theorem cut_last (l : List D) (a : D) : Tl.cutD (l ++ [a]) none (some (-1)) = l := by
  unfold Tl.cutD
  have e1 : HT.sIx (l ++ [a]).length 0 none = 0 := rfl
  have e2 : HT.sIx (l ++ [a]).length (l ++ [a]).length (some (-1)) = l.length := by
    show (if (-1 : Int) < 0 then ((-1 : Int) + ((l ++ [a]).length : Int)).toNat else min (-1 : Int).toNat (l ++ [a]).length) = l.length
    rw [if_pos (by decide), List.length_append, List.length_singleton]
    omega
  rw [e1, e2, List.drop_zero, Nat.sub_zero, List.take_append_of_le_length (Nat.le_refl _), List.take_length]
end Tw
end
section
set_option maxHeartbeats 1000000
namespace Tw
open PySem PySem.Spec PyProof.Rows L2 Tl
variable (cs errs : List Str)
section
variable [hF : InE "Field" cs] [hM : InE "Mark" cs] [hG : InE "Maybe" cs]
theorem snoc_cases {α : Type} (l : List α) : l = [] ∨ ∃ m a, l = m ++ [a] := by
  cases h : l.getLast? with
  | none => exact .inl (List.getLast?_eq_none_iff.mp h)
  | some a =>
    have ne : l ≠ [] := fun z => by rw [z] at h; cases h
    exact .inr ⟨l.dropLast, l.getLast ne, (List.dropLast_concat_getLast ne).symm⟩
theorem itsD_app (a b : List It) : itsD (a ++ b) = itsD a ++ itsD b := by rw [itsD_map, itsD_map, itsD_map, List.map_append]
theorem itsD_one (x : It) : itsD [x] = [itD x] := by rw [itsD_map]; rfl
theorem itsD_len (l : List It) : (itsD l).length = l.length := by rw [itsD_map, List.length_map]
theorem jStep_mm (M : List It) (a b : Str) : jStep (M ++ [.mrk a]) (.mrk b) = M ++ [.mrk (a ++ b)] := by
  unfold jStep
  rw [List.getLast?_concat, List.dropLast_concat]
theorem jStep_nm (M : List It) (x y : It) (h : ∀ a b, ¬ (y = .mrk a ∧ x = .mrk b)) : jStep (M ++ [y]) x = M ++ [y] ++ [x] := by
  unfold jStep
  rw [List.getLast?_concat]
  cases y <;> cases x <;> first | rfl | exact False.elim (h _ _ ⟨rfl, rfl⟩)
theorem jStep_nil (x : It) : jStep [] x = [x] := by cases x <;> rfl
theorem jStep_other (acc : List It) (x : It) (h : ∀ b, x ≠ .mrk b) : jStep acc x = acc ++ [x] := by
  rcases snoc_cases acc with e | ⟨M, y, e⟩
  · rw [e, jStep_nil]; rfl
  · rw [e]; exact jStep_nm M x y fun a b z => h b z.2
theorem u_joined_marks : ∀ as φ ψ, g_joined_marks cs as φ ψ → as.length = 1 ∧ runF 3 (b_joined_marks cs errs) as φ ψ := fun as φ ψ h => by
  obtain ⟨ps, d, rfl, hd, gd, h⟩ := h
  refine ⟨rfl, ?_⟩
  show itAny d _
  refine for_row (α := It) hd (fun pre env => ∃ x, env = [.val d, .val (.lst (itsD (joinM pre))), x]) ⟨.no, rfl⟩ (fun pre x suf env k e hs hk => ?_) (fun env hs => ?_)
  · obtain ⟨x0, rfl⟩ := hs
    have j := j_ok pre
    have okp : okL pre ∧ okI x := by
      have := gd.ok
      rw [e, okL_app, okL] at this
      exact ⟨this.1, this.2.1⟩
    have kp : okKs pre ∧ okK x := by
      have := gd.k
      rw [e, okKs_app, okKs] at this
      exact ⟨this.1, this.2.1⟩
    have ksuf : 0 ≤ plL suf := by
      have := gd.k
      rw [e, okKs_app, okKs] at this
      exact plL_nn _ this.2.2
    have pe : plL ps = plL pre + (x.pl + plL suf) := by rw [e, plL_app, plL]
    have pb := gd.pl
    have se : szL ps = szL pre + (x.sz + szL suf) := by rw [e, szL_app, szL]
    have sb := gd.sz
    have lj : (joinM pre).length ≤ 10000 := by have := len_sz (joinM pre); have := j.sz; omega
    have big : 20000 ≤ sizeLine := by decide
    have app : jStep (joinM pre) x = joinM pre ++ [x] → k [.val d, .val (.lst (itsD (joinM pre) ++ [itD x])), .val (itD x)] := fun e2 => by
      refine hk _ ⟨.val (itD x), ?_⟩
      rw [joinM_snoc, e2, itsD_app, itsD_one]
    have sx := sz_pos x
    have addok : (itsD (joinM pre)).length + [itD x].length ≤ sizeLine := by rw [itsD_len, List.length_singleton]; omega
    cases x with
    | fld nm rows =>
      rw [itD_fld] at app addok ⊢
      refine ⟨rfl, ?_⟩
      show (match isiOf cs (.glo "Mark") (.ob "Field") with | some v => _ | none => False)
      rw [isi_ob "Mark" "Field" hF.h]
      exact ⟨addok, app (jStep_other _ _ fun b z => nomatch z)⟩
    | grp qs =>
      rw [itD_grp] at app addok ⊢
      refine ⟨rfl, ?_⟩
      show (match isiOf cs (.glo "Mark") (.ob "Maybe") with | some v => _ | none => False)
      rw [isi_ob "Mark" "Maybe" hG.h]
      exact ⟨addok, app (jStep_other _ _ fun b z => nomatch z)⟩
    | mrk b =>
      rw [itD_mrk] at app addok ⊢
      refine ⟨rfl, ?_⟩
      show (match isiOf cs (.glo "Mark") (.ob "Mark") with | some v => _ | none => False)
      rw [isi_ob "Mark" "Mark" hM.h]
      show if decide (0 < ((itsD (joinM pre)).length : Int)) = true then _ else _
      rcases snoc_cases (joinM pre) with ej | ⟨M, y, ej⟩
      · rw [ej] at app addok ⊢
        exact ⟨addok, app (jStep_nil _)⟩
      · rw [ej] at app addok ⊢
        rw [if_pos (by rw [decide_eq_true_eq, itsD_len, List.length_append, List.length_singleton]; omega)]
        show (match atI (itsD (M ++ [y])) (-1) with | some d => _ | none => False)
        rw [itsD_app, itsD_one, atI_last]
        cases y with
        | fld nm rows =>
          rw [itD_fld]
          refine ⟨rfl, ?_⟩
          show (match isiOf cs (.glo "Mark") (.ob "Field") with | some v => _ | none => False)
          rw [isi_ob "Mark" "Field" hF.h]
          have a2 := app (jStep_nm _ _ _ fun a b z => nomatch z.1)
          rw [itsD_app, itsD_one, itD_fld] at a2 addok
          exact ⟨addok, a2⟩
        | grp qs =>
          rw [itD_grp]
          refine ⟨rfl, ?_⟩
          show (match isiOf cs (.glo "Mark") (.ob "Maybe") with | some v => _ | none => False)
          rw [isi_ob "Mark" "Maybe" hG.h]
          have a2 := app (jStep_nm _ _ _ fun a b z => nomatch z.1)
          rw [itsD_app, itsD_one, itD_grp] at a2 addok
          exact ⟨addok, a2⟩
        | mrk a =>
          rw [itD_mrk]
          refine ⟨rfl, ?_⟩
          show (match isiOf cs (.glo "Mark") (.ob "Mark") with | some v => _ | none => False)
          rw [isi_ob "Mark" "Mark" hM.h]
          show (match atI (itsD M ++ [D.obj "Mark" ["text"] [.str a]]) (-1) with | some d => _ | none => False)
          rw [atI_last]
          have pj := j.pl
          rw [ej, plL_app, plL_one, It.pl] at pj
          have kj := j.k kp.1
          rw [ej, okKs_app] at kj
          have pM := plL_nn M kj.1
          rw [It.pl] at pe
          have oj := j.ok okp.1
          rw [ej, okL_app, okL_one, okI] at oj
          have ob := okp.2
          rw [okI] at ob
          have ln := len_add a b
          have lM : (itsD M).length + 1 ≤ 10000 := by rw [itsD_len]; rw [ej, List.length_append, List.length_singleton] at lj; exact lj
          refine ⟨List.mem_cons_self, List.mem_cons_self, by omega, a ++ b, rfl, fun c hc => ?_, by omega, by omega, ?_, hk _ ⟨.val (itD (.mrk b)), ?_⟩⟩
          · rw [T_add] at hc
            rcases List.mem_append.mp hc with m | m
            · exact oj.2.1 c m
            · exact ob.1 c m
          · show (Tl.cutD (itsD M ++ [D.obj "Mark" ["text"] [.str a]]) none (some (-1))).length + 1 ≤ sizeLine
            rw [cut_last]; omega
          · rw [joinM_snoc, ej, jStep_mm, itsD_app, itsD_one, itD_mrk]
            show [A.val d, A.val (D.lst (Tl.cutD (itsD M ++ [D.obj "Mark" ["text"] [.str a]]) none (some (-1)) ++ [itD (.mrk (a ++ b))])), _] = _
            rw [cut_last, itD_mrk, itD_mrk]
  · obtain ⟨x0, rfl⟩ := hs
    exact h
theorem l_Maybe_init : ∀ as φ ψ, g_Maybe_init cs as φ ψ → as.length = 1 := fun as φ ψ h => by
  obtain ⟨z, rfl, h⟩ := h; rfl
theorem enum_for {tgt : TgF} {body : FnS} {P : AP} {ψ : XA} {α : Type} (f : α → D) : ∀ (items : List α) (i : Nat) (env : List A) (Sv : Nat → List A → Prop), Sv i env →
    (∀ j x env (k : List A → Prop), x ∈ items → Sv j env → (∀ env', Sv (j + 1) env' → k env') → tgt (.tup [.int (j : Nat), f x]) env fun env1 => body env1 { P with nx := k, ct := k, bk := P.nx } ψ) →
    (∀ j env, Sv j env → P.nx env) → forA tgt body ((items.map f).mapIdx fun j d => .tup [.int ((i + j : Nat) : Int), d]) env P ψ
  | [], i, env, Sv, h0, _, fin => fin i env h0
  | x :: items, i, env, Sv, h0, step, fin => by
    rw [List.map_cons, List.mapIdx_cons]
    refine step i x env _ List.mem_cons_self h0 fun env' h => ?_
    have := enum_for f items (i + 1) env' Sv h (fun j y env k m hs hk => step j y env k (List.mem_cons_of_mem _ m) hs hk) fin
    have e : (List.mapIdx (fun j d => D.tup [.int ((i + 1 + j : Nat) : Int), d]) (items.map f)) = List.mapIdx (fun j d => D.tup [.int ((i + (j + 1) : Nat) : Int), d]) (items.map f) := by
      congr 1
      funext j d
      rw [show i + 1 + j = i + (j + 1) by omega]
    rw [e] at this
    exact this
theorem enum_it {tgt : TgF} {body : FnS} {P : AP} {ψ : XA} {α : Type} (f : α → D) (items : List α) (env : List A) (Sv : Nat → List A → Prop) (h0 : Sv 0 env)
    (step : ∀ j x env (k : List A → Prop), x ∈ items → Sv j env → (∀ env', Sv (j + 1) env' → k env') → tgt (.tup [.int (j : Nat), f x]) env fun env1 => body env1 { P with nx := k, ct := k, bk := P.nx } ψ)
    (fin : ∀ j env, Sv j env → P.nx env) : forA tgt body (enumD (items.map f)) env P ψ := by
  have := enum_for f items 0 env Sv h0 step fin
  unfold enumD
  have e : (List.mapIdx (fun j d => D.tup [.int ((0 + j : Nat) : Int), d]) (items.map f)) = List.mapIdx (fun j d => D.tup [.int ((j : Nat) : Int), d]) (items.map f) := by
    congr 1
    funext j d
    rw [Nat.zero_add]
  rw [e] at this
  exact this
theorem u_Maybe_init : ∀ as φ ψ, g_Maybe_init cs as φ ψ → runM "Maybe" 3 (b_Maybe_init cs errs) as φ ψ := fun as φ ψ h => by
  obtain ⟨ps, rfl, ne, gd, ow, dp, h⟩ := h
  intro p
  refine ⟨rfl, ?_⟩
  show (match anyIsi cs (.ty "list") [.ty "list", .ty "tuple"] with | some v => _ | none => False)
  have e : anyIsi cs (.ty "list") [.ty "list", .ty "tuple"] = some true := rfl
  rw [e]
  show if decide (((itsD ps).length : Int) = 0) = true then _ else _
  have lp := List.length_pos_iff.mpr ne
  rw [if_neg (by rw [decide_eq_true_eq, itsD_len]; omega)]
  show forA _ _ (enumD (itsD ps)) _ _ _
  rw [itsD_map]
  refine enum_it itD ps _ (fun j env => ∃ x y, env = [.ins p "Maybe" [] [], .val (.lst (ps.map itD)), x, y]) ⟨_, _, rfl⟩ (fun j x env k m hs hk => ?_) (fun j env hs => ?_)
  · obtain ⟨x0, y0, rfl⟩ := hs
    exact ⟨rfl, x, rfl, hk _ ⟨_, _, rfl⟩⟩
  · obtain ⟨x0, y0, rfl⟩ := hs
    rw [← itsD_map]
    refine ⟨ps, _, rfl, .inl rfl, gd.sz, ?_⟩
    show if decide ((((ownN ps).map D.str).length : Int) = 0) = true then _ else _
    have lo := List.length_pos_iff.mpr ow
    rw [if_neg (by rw [decide_eq_true_eq, List.length_map]; omega)]
    refine ⟨ps, _, rfl, .inl rfl, (show depL ps ≤ 3 by omega), gd.sz, ?_⟩
    show if decide ((3 : Int) ≤ (depL ps : Nat)) = true then _ else _
    rw [if_neg (by rw [decide_eq_true_eq]; omega)]
    have pb := gd.pl
    refine ⟨ps, _, rfl, .inl rfl, (show depL ps ≤ 3 by omega), gd.sz, gd.ok, gd.k, by omega, ?_⟩
    show if decide ((200 : Int) < plL ps) = true then _ else _
    rw [if_neg (by rw [decide_eq_true_eq]; omega)]
    refine ⟨ps, _, rfl, .inl rfl, gd, List.mem_cons_self, List.not_mem_nil, by decide, rfl, rfl, ?_⟩
    rw [itD_grp] at h
    exact h
theorem u_is_line : ∀ as φ ψ, g_is_line cs as φ ψ → as.length = 1 ∧ runF 2 (b_is_line cs errs) as φ ψ := fun as φ ψ h => by
  obtain ⟨ps, d, rfl, hd, ne, sz, h⟩ := h
  have lp := List.length_pos_iff.mpr ne
  have go : ∀ P : AP, (∀ x, P.nx [.val d, x]) → itAny d fun ds => forA (tgSet 1) (hIf (bNot (bE (eCall (g_is_item cs) [] (zCons (eVar 1) zNil)))) (hRet (eC (.bl false))) hNext) ds [.val d, .no] P (fun er _ => ψ er) := fun P hP => by
    refine for_row (α := It) hd (fun pre env => ∃ x, env = [.val d, x]) ⟨_, rfl⟩ (fun pre x suf env k e hs hk => ?_) (fun env hs => ?_)
    · obtain ⟨x0, rfl⟩ := hs
      exact ⟨x, rfl, hk _ ⟨_, rfl⟩⟩
    · obtain ⟨x0, rfl⟩ := hs
      exact hP x0
  have l0 : ¬ decide (((itsD ps).length : Int) = 0) = true := by rw [decide_eq_true_eq, itsD_len]; omega
  rcases hd with rfl | rfl
  · refine ⟨rfl, rfl, ?_⟩
    show if decide (((itsD ps).length : Int) = 0) = true then _ else _
    rw [if_neg l0]
    exact go _ fun x => h
  · refine ⟨rfl, rfl, ?_⟩
    show if decide (((itsD ps).length : Int) = 0) = true then _ else _
    rw [if_neg l0]
    exact go _ fun x => h
end
end Tw
end
section
set_option maxHeartbeats 1000000
namespace Tw
open PySem PySem.Spec PyProof.Rows L2 Tl
variable (cs errs : List Str)
theorem okS_name {n : Str} (h : NameS n) : okS n := by
  unfold okS PyData.strOk
  rw [Array.all_eq_true']
  intro c hc
  have := h.lo c (Array.mem_toList_iff.mpr hc)
  simp only [decide_eq_true_eq]
  omega
theorem pl_str {n : Str} (h : okS n) : PlD (.str n) := ⟨by rw [plainD]; exact h, by rw [dpD]; omega⟩
theorem pl_strs {ns : List Str} (h : ∀ n ∈ ns, okS n) : PlD (.lst (ns.map D.str)) := by
  have h1 := plain_map (f := D.str) ns fun a m => (pl_str (h a m)).1
  have h2 := dp_map (f := D.str) (n := 0) ns fun a m => by rw [dpD]; exact Nat.le_refl _
  exact ⟨by rw [plainD]; exact h1, by rw [dpD]; omega⟩
theorem eq_str (a b : Str) : eqD (.str a) (.str b) = decide (a = b) := by
  rw [Bool.eq_iff_iff, decide_eq_true_eq, eqD_flat _ _ (by rw [flatD]) (by rw [flatD])]
  exact ⟨fun h => by injection h, fun h => by rw [h]⟩
theorem any_str (n : Str) (ns : List Str) : (ns.map D.str).any (fun z => eqD z (.str n)) = decide (n ∈ ns) := by
  rw [Bool.eq_iff_iff, List.any_eq_true, decide_eq_true_eq]
  constructor
  · rintro ⟨z, m, e⟩
    obtain ⟨a, ha, rfl⟩ := List.mem_map.mp m
    rw [eq_str, decide_eq_true_eq] at e
    rw [← e]; exact ha
  · intro m
    exact ⟨.str n, List.mem_map.mpr ⟨n, m, rfl⟩, by rw [eq_str]; simp⟩
mutual
theorem nms_ok : ∀ x : It, okI x → ∀ n ∈ x.nms, NameS n
  | .fld n rows, h, m, hm => by
    rw [okI] at h
    rw [It.nms, List.mem_singleton] at hm
    rw [hm]; exact h.1
  | .mrk z, h, m, hm => by rw [It.nms] at hm; exact nomatch hm
  | .grp ps, h, m, hm => by
    rw [okI] at h
    rw [It.nms] at hm
    exact nmsL_ok ps h.1 m hm
theorem nmsL_ok : ∀ l : List It, okL l → ∀ n ∈ nmsL l, NameS n
  | [], h, m, hm => by rw [nmsL] at hm; exact nomatch hm
  | a :: r, h, m, hm => by
    rw [okL] at h
    rw [nmsL] at hm
    rcases List.mem_append.mp hm with q | q
    · exact nms_ok a h.1 m q
    · exact nmsL_ok r h.2 m q
end
theorem row_rowE (b : Bool) (l : List It) : rowAt (rowE b l) l := by cases b <;> first | exact .inl rfl | exact .inr rfl
section
variable [hF : InE "Field" cs] [hM : InE "Mark" cs] [hG : InE "Maybe" cs]
theorem u_line_places : ∀ as φ ψ, g_line_places cs as φ ψ → as.length = 1 ∧ runF 2 (b_line_places cs errs) as φ ψ := fun as φ ψ h => by
  obtain ⟨b, ls, rfl, le, gl, h⟩ := h
  have go : ∀ b, lcA (lcBody (tgSet 1) bYes (eCall (g_count_places cs) [] (zCons (eVar 1) zNil)) (blkA [.val (lnsD b ls), .no] [1])) (ls.map (rowE b)) fun l => gSum [.lst l] fun d => gAdd (.int ((((ls.map (rowE b)).length : Nat) : Int) - 1)) d φ := fun b => by
    refine lc_all (rowE b) (fun l => D.int (plL l)) ls _ (fun l ml k hk => ?_) ?_
    · have g := gl l ml
      have := g.1.pl
      exact ⟨l, _, rfl, row_rowE b l, g.2, g.1.sz, g.1.ok, g.1.k, by omega, hk⟩
    · show (match intsD (ls.map fun l => D.int (plL l)) with | some ns => _ | none => False)
      rw [ints_of]
      show φ (.int ((((ls.map (rowE b)).length : Nat) : Int) - 1 + (ls.map plL).sum))
      rw [List.length_map]
      exact h
  cases b
  · exact ⟨rfl, by show (ls.map (rowE false)).length < 1000000; rw [List.length_map]; omega, go false⟩
  · exact ⟨rfl, by show (ls.map (rowE true)).length < 1000000; rw [List.length_map]; omega, go true⟩
theorem enum_st {tgt : TgF} {body : FnS} {P : AP} {ψ : XA} {α : Type} (f : α → D) (Sv : List α → List A → Prop) : ∀ (items done : List α) (env : List A), Sv done env →
    (∀ pre x suf env (k : List A → Prop), done ++ items = pre ++ x :: suf → done.length ≤ pre.length → Sv pre env → (∀ env', Sv (pre ++ [x]) env' → k env') → tgt (.tup [.int (pre.length : Nat), f x]) env fun env1 => body env1 { P with nx := k, ct := k, bk := P.nx } ψ) →
    (∀ env, Sv (done ++ items) env → P.nx env) → forA tgt body ((items.map f).mapIdx fun j d => .tup [.int ((done.length + j : Nat) : Int), d]) env P ψ
  | [], done, env, h0, _, fin => fin env (by rw [List.append_nil]; exact h0)
  | x :: items, done, env, h0, step, fin => by
    rw [List.map_cons, List.mapIdx_cons]
    refine step done x items env _ rfl (Nat.le_refl _) h0 fun env' h => ?_
    have := enum_st (tgt := tgt) (body := body) (P := P) (ψ := ψ) f Sv items (done ++ [x]) env' h (fun pre y suf env k e hl hs hk => step pre y suf env k (by rw [← e, List.append_assoc]; rfl) (by rw [List.length_append] at hl; omega) hs hk) (fun env h => fin env (by rw [List.append_assoc] at h; exact h))
    have e : (List.mapIdx (fun j d => D.tup [.int (((done ++ [x]).length + j : Nat) : Int), d]) (items.map f)) = List.mapIdx (fun j d => D.tup [.int ((done.length + (j + 1) : Nat) : Int), d]) (items.map f) := by
      congr 1
      funext j d
      rw [List.length_append, List.length_singleton, show done.length + 1 + j = done.length + (j + 1) by omega]
    rw [e] at this
    exact this
theorem enum_all {tgt : TgF} {body : FnS} {P : AP} {ψ : XA} {α : Type} (f : α → D) (items : List α) (env : List A) (Sv : List α → List A → Prop) (h0 : Sv [] env)
    (step : ∀ pre x suf env (k : List A → Prop), items = pre ++ x :: suf → Sv pre env → (∀ env', Sv (pre ++ [x]) env' → k env') → tgt (.tup [.int (pre.length : Nat), f x]) env fun env1 => body env1 { P with nx := k, ct := k, bk := P.nx } ψ)
    (fin : ∀ env, Sv items env → P.nx env) : forA tgt body (enumD (items.map f)) env P ψ := by
  have := enum_st (tgt := tgt) (body := body) (P := P) (ψ := ψ) f Sv items [] env h0 (fun pre x suf env k e _ hs hk => step pre x suf env k e hs hk) fin
  unfold enumD
  have e : (List.mapIdx (fun j d => D.tup [.int ((([] : List α).length + j : Nat) : Int), d]) (items.map f)) = List.mapIdx (fun j d => D.tup [.int ((j : Nat) : Int), d]) (items.map f) := by
    congr 1
    funext j d
    rw [List.length_nil, Nat.zero_add]
  rw [e] at this
  exact this
theorem allN_app (a b : List (List It)) : allN (a ++ b) = allN a ++ allN b := by unfold allN; rw [List.flatMap_append]
theorem allN_one (l : List It) : allN [l] = nmsL l := by unfold allN; rw [List.flatMap_singleton]
theorem u_checked_lines : ∀ as φ ψ, g_checked_lines cs as φ ψ → as.length = 1 ∧ runF 5 (b_checked_lines cs errs) as φ ψ := fun as φ ψ h => by
  obtain ⟨b, ls, rfl, gf, h⟩ := h
  cases b
  · have l1 := gf.ge
    have l2 := gf.le
    refine ⟨rfl, rfl, ?_⟩
    show (match anyIsi cs (.ty "list") [.ty "list", .ty "tuple"] with | some v => _ | none => False)
    have e : anyIsi cs (.ty "list") [.ty "list", .ty "tuple"] = some true := rfl
    rw [e]
    show if decide (((ls.map (rowE false)).length : Int) < 1) = true then _ else _
    rw [if_neg (by rw [decide_eq_true_eq, List.length_map]; omega)]
    show if decide ((10 : Int) < ((ls.map (rowE false)).length : Int)) = true then _ else _
    rw [if_neg (by rw [decide_eq_true_eq, List.length_map]; omega)]
    show forA _ _ (enumD (ls.map (rowE false))) _ _ _
    refine enum_all (rowE false) ls _ (fun pre env => ∃ x y z, env = [.val (lnsD false ls), .own ((allN pre).map D.str), x, y, z]) ⟨_, _, _, rfl⟩ (fun pre l suf env k e hs hk => ?_) (fun env hs => ?_)
    · obtain ⟨x0, y0, z0, rfl⟩ := hs
      have ml : l ∈ ls := by rw [e]; simp
      have gl := gf.ok l ml
      refine ⟨rfl, l, _, rfl, .inl rfl, gf.ne l ml, gl.sz, ?_⟩
      refine ⟨l, _, rfl, .inl rfl, gf.dep l ml, gl.sz, ?_⟩
      show forA _ _ ((nmsL l).map D.str) _ _ _
      have an : allN ls = allN pre ++ (nmsL l ++ allN suf) := by rw [e, allN_app]; unfold allN; rw [List.flatMap_cons]
      refine for_all D.str (nmsL l) (fun pr env => ∃ z, env = [.val (lnsD false ls), .own ((allN pre ++ pr).map D.str), .val (.int (pre.length : Nat)), .val (rowE false l), z]) ⟨z0, by rw [List.append_nil]; rfl⟩ (fun pr n su env k2 e2 hs hk2 => ?_) (fun env hs => ?_)
      · obtain ⟨z1, rfl⟩ := hs
        have nn : n ∉ allN pre ++ pr := by
          have nd := gf.nd
          rw [an, e2] at nd
          have : (allN pre ++ pr ++ n :: (su ++ allN suf)).Nodup := by
            have e3 : allN pre ++ (pr ++ n :: su ++ allN suf) = allN pre ++ pr ++ n :: (su ++ allN suf) := by simp [List.append_assoc]
            rw [← e3]; exact nd
          rw [List.nodup_append] at this
          intro m
          exact this.2.2 n m n List.mem_cons_self rfl
        have names : ∀ m ∈ allN pre ++ pr, okS m := fun m hm => by
          have : m ∈ allN ls := by
            rw [an, e2]
            rcases List.mem_append.mp hm with q | q
            · exact List.mem_append_left _ q
            · exact List.mem_append_right _ (List.mem_append_left _ (List.mem_append_left _ q))
          unfold allN at this
          obtain ⟨l', ml', hm'⟩ := List.mem_flatMap.mp this
          exact okS_name (nmsL_ok l' (gf.ok l' ml').ok m hm')
        have on : okS n := okS_name (nmsL_ok l gl.ok n (by rw [e2]; simp))
        refine ⟨pl_str on, pl_strs names, ?_⟩
        show if (((allN pre ++ pr).map D.str).any fun z => eqD z (.str n)) = true then _ else _
        rw [any_str, decide_eq_false nn]
        refine ⟨trivial, ?_, hk2 _ ⟨.val (.str n), ?_⟩⟩
        · rw [List.length_map]
          have fw := gf.few
          rw [an, e2] at fw
          simp only [List.length_append, List.length_cons] at fw ⊢
          omega
        · rw [← List.append_assoc, List.map_append (l₂ := [n])]; rfl
      · obtain ⟨z1, rfl⟩ := hs
        exact hk _ ⟨_, _, _, by rw [allN_app, allN_one]⟩
    · obtain ⟨x0, y0, z0, rfl⟩ := hs
      show if decide ((12 : Int) < (((allN ls).map D.str).length : Int)) = true then _ else _
      have fw := gf.few
      rw [if_neg (by rw [decide_eq_true_eq, List.length_map]; omega)]
      refine ⟨false, ls, rfl, l2, fun l ml => ⟨gf.ok l ml, gf.dep l ml⟩, ?_⟩
      show if decide ((200 : Int) < allP ls) = true then _ else _
      have pb := gf.pl
      rw [if_neg (by rw [decide_eq_true_eq]; omega)]
      show (ls.map (rowE false)).length < 1000000 ∧ _
      refine ⟨by rw [List.length_map]; omega, ?_⟩
      refine lc_all (rowE false) (fun l => rowE true (joinM l)) ls _ (fun l ml k hk => ⟨l, _, rfl, .inl rfl, gf.ok l ml, hk⟩) ?_
      have e2 : lnsD true (ls.map joinM) = .tup (ls.map fun l => rowE true (joinM l)) := by
        show D.tup ((ls.map joinM).map (rowE true)) = _
        rw [List.map_map]; rfl
      rw [e2] at h
      exact h
  · have l1 := gf.ge
    have l2 := gf.le
    refine ⟨rfl, rfl, ?_⟩
    show (match anyIsi cs (.ty "tuple") [.ty "list", .ty "tuple"] with | some v => _ | none => False)
    have e : anyIsi cs (.ty "tuple") [.ty "list", .ty "tuple"] = some true := rfl
    rw [e]
    show if decide (((ls.map (rowE true)).length : Int) < 1) = true then _ else _
    rw [if_neg (by rw [decide_eq_true_eq, List.length_map]; omega)]
    show if decide ((10 : Int) < ((ls.map (rowE true)).length : Int)) = true then _ else _
    rw [if_neg (by rw [decide_eq_true_eq, List.length_map]; omega)]
    show forA _ _ (enumD (ls.map (rowE true))) _ _ _
    refine enum_all (rowE true) ls _ (fun pre env => ∃ x y z, env = [.val (lnsD true ls), .own ((allN pre).map D.str), x, y, z]) ⟨_, _, _, rfl⟩ (fun pre l suf env k e hs hk => ?_) (fun env hs => ?_)
    · obtain ⟨x0, y0, z0, rfl⟩ := hs
      have ml : l ∈ ls := by rw [e]; simp
      have gl := gf.ok l ml
      refine ⟨rfl, l, _, rfl, .inr rfl, gf.ne l ml, gl.sz, ?_⟩
      refine ⟨l, _, rfl, .inr rfl, gf.dep l ml, gl.sz, ?_⟩
      show forA _ _ ((nmsL l).map D.str) _ _ _
      have an : allN ls = allN pre ++ (nmsL l ++ allN suf) := by rw [e, allN_app]; unfold allN; rw [List.flatMap_cons]
      refine for_all D.str (nmsL l) (fun pr env => ∃ z, env = [.val (lnsD true ls), .own ((allN pre ++ pr).map D.str), .val (.int (pre.length : Nat)), .val (rowE true l), z]) ⟨z0, by rw [List.append_nil]; rfl⟩ (fun pr n su env k2 e2 hs hk2 => ?_) (fun env hs => ?_)
      · obtain ⟨z1, rfl⟩ := hs
        have nn : n ∉ allN pre ++ pr := by
          have nd := gf.nd
          rw [an, e2] at nd
          have : (allN pre ++ pr ++ n :: (su ++ allN suf)).Nodup := by
            have e3 : allN pre ++ (pr ++ n :: su ++ allN suf) = allN pre ++ pr ++ n :: (su ++ allN suf) := by simp [List.append_assoc]
            rw [← e3]; exact nd
          rw [List.nodup_append] at this
          intro m
          exact this.2.2 n m n List.mem_cons_self rfl
        have names : ∀ m ∈ allN pre ++ pr, okS m := fun m hm => by
          have : m ∈ allN ls := by
            rw [an, e2]
            rcases List.mem_append.mp hm with q | q
            · exact List.mem_append_left _ q
            · exact List.mem_append_right _ (List.mem_append_left _ (List.mem_append_left _ q))
          unfold allN at this
          obtain ⟨l', ml', hm'⟩ := List.mem_flatMap.mp this
          exact okS_name (nmsL_ok l' (gf.ok l' ml').ok m hm')
        have on : okS n := okS_name (nmsL_ok l gl.ok n (by rw [e2]; simp))
        refine ⟨pl_str on, pl_strs names, ?_⟩
        show if (((allN pre ++ pr).map D.str).any fun z => eqD z (.str n)) = true then _ else _
        rw [any_str, decide_eq_false nn]
        refine ⟨trivial, ?_, hk2 _ ⟨.val (.str n), ?_⟩⟩
        · rw [List.length_map]
          have fw := gf.few
          rw [an, e2] at fw
          simp only [List.length_append, List.length_cons] at fw ⊢
          omega
        · rw [← List.append_assoc, List.map_append (l₂ := [n])]; rfl
      · obtain ⟨z1, rfl⟩ := hs
        exact hk _ ⟨_, _, _, by rw [allN_app, allN_one]⟩
    · obtain ⟨x0, y0, z0, rfl⟩ := hs
      show if decide ((12 : Int) < (((allN ls).map D.str).length : Int)) = true then _ else _
      have fw := gf.few
      rw [if_neg (by rw [decide_eq_true_eq, List.length_map]; omega)]
      refine ⟨true, ls, rfl, l2, fun l ml => ⟨gf.ok l ml, gf.dep l ml⟩, ?_⟩
      show if decide ((200 : Int) < allP ls) = true then _ else _
      have pb := gf.pl
      rw [if_neg (by rw [decide_eq_true_eq]; omega)]
      show (ls.map (rowE true)).length < 1000000 ∧ _
      refine ⟨by rw [List.length_map]; omega, ?_⟩
      refine lc_all (rowE true) (fun l => rowE true (joinM l)) ls _ (fun l ml k hk => ⟨l, _, rfl, .inr rfl, gf.ok l ml, hk⟩) ?_
      have e2 : lnsD true (ls.map joinM) = .tup (ls.map fun l => rowE true (joinM l)) := by
        show D.tup ((ls.map joinM).map (rowE true)) = _
        rw [List.map_map]; rfl
      rw [e2] at h
      exact h
end
end Tw
end
section
set_option maxHeartbeats 1000000
namespace Tw
open PySem PySem.Spec PyProof.Rows L2 Tl
variable (cs errs : List Str)
theorem u_nothing : ∀ as φ ψ, g_nothing cs as φ ψ → as.length = 0 ∧ runF 0 (b_nothing cs errs) as φ ψ := fun as φ ψ h => by
  obtain ⟨rfl, h⟩ := h
  exact ⟨rfl, h⟩
def linksD (fn bg : List Int) : List D := fn.flatMap fun x => bg.map fun y => Tl.pairD (x, y)
theorem links_map (fn bg : List Int) : (fn.flatMap fun x => bg.map fun y => (x, y)).map Tl.pairD = linksD fn bg := by
  unfold linksD
  rw [List.map_flatMap]
  congr 1
  funext x
  rw [List.map_map]; rfl
theorem links_len (fn bg : List Int) : (linksD fn bg).length = fn.length * bg.length := by
  unfold linksD
  induction fn with
  | nil => simp
  | cons x fn ih => rw [List.flatMap_cons, List.length_append, ih, List.length_map, List.length_cons, Nat.add_mul, Nat.one_mul, Nat.add_comm]
theorem mul_le400 {a b c : Nat} (h1 : a ≤ c) (h2 : b ≤ c) (h : c ≤ 400) : a * b ≤ 160000 := by
  have := Nat.mul_le_mul (Nat.le_trans h1 h) (Nat.le_trans h2 h)
  omega
theorem sq_add (a b : Nat) : a * a + b * b + a * b ≤ (a + b) * (a + b) := by
  rw [Nat.add_mul, Nat.mul_add, Nat.mul_add, Nat.mul_comm b a]
  omega
theorem pThen_ok {a b : Pc} (ha : PcOk a) (hb : PcOk b) : PcOk (pThen a b) := by
  obtain ⟨a1, a2, a3, a4⟩ := ha
  obtain ⟨b1, b2, b3, b4⟩ := hb
  refine ⟨?_, ?_, ?_, ?_⟩
  · show (a.nm ++ b.nm).length = (a.sg ++ b.sg).length
    rw [List.length_append, List.length_append]; omega
  · show (if a.bl then a.bg ++ b.bg else a.bg).length ≤ (a.sg ++ b.sg).length
    split <;> simp only [List.length_append] <;> omega
  · show (if b.bl then b.fn ++ a.fn else b.fn).length ≤ (a.sg ++ b.sg).length
    split <;> simp only [List.length_append] <;> omega
  · show (a.ed ++ b.ed ++ (a.fn.flatMap fun x => b.bg.map fun y => (x, y))).length ≤ (a.sg ++ b.sg).length * (a.sg ++ b.sg).length
    have l : (a.fn.flatMap fun x => b.bg.map fun y => (x, y)).length = a.fn.length * b.bg.length := by
      have := congrArg List.length (links_map a.fn b.bg)
      rw [List.length_map, links_len] at this
      exact this
    rw [List.length_append, List.length_append, l, List.length_append]
    have h1 := Nat.mul_le_mul a3 b2
    have h2 := sq_add a.sg.length b.sg.length
    omega
theorem u_then : ∀ as φ ψ, g_then cs as φ ψ → as.length = 2 ∧ runF 7 (b_then cs errs) as φ ψ := fun as φ ψ h => by
  obtain ⟨a, b, rfl, ha, hb, le, h⟩ := h
  obtain ⟨sg, nm, ed, bg, fn, bl⟩ := a
  obtain ⟨sg2, nm2, ed2, bg2, fn2, bl2⟩ := b
  have a1 : nm.length = sg.length := ha.nm
  have a2 : bg.length ≤ sg.length := ha.bg
  have a3 : fn.length ≤ sg.length := ha.fn
  have a4 : ed.length ≤ sg.length * sg.length := ha.ed
  have b1 : nm2.length = sg2.length := hb.nm
  have b2 : bg2.length ≤ sg2.length := hb.bg
  have b3 : fn2.length ≤ sg2.length := hb.fn
  have b4 : ed2.length ≤ sg2.length * sg2.length := hb.ed
  have le' : sg.length + sg2.length ≤ 400 := le
  have m1 := mul_le400 (Nat.le_refl sg.length) (Nat.le_refl _) (by omega : sg.length ≤ 400)
  have m2 := mul_le400 (Nat.le_refl sg2.length) (Nat.le_refl _) (by omega : sg2.length ≤ 400)
  have m3 := mul_le400 (by omega : fn.length ≤ 400) (by omega : bg2.length ≤ 400) (Nat.le_refl 400)
  refine ⟨rfl, ?_⟩
  show lcOut _ (fn.map D.int) [] _
  refine out_map (β := Int) D.int (fun x => bg2.map fun y => Tl.pairD (x, y)) 400 fn [] _ (fun x _ => by rw [List.length_map]; omega) (by rw [List.length_nil]; omega) (fun x _ acc k hl hk => ?_) ?_
  · show lcIn _ (bg2.map D.int) acc k
    exact in_map D.int (fun y => Tl.pairD (x, y)) bg2 acc k (by omega) (fun y _ k hk => hk) hk
  have e : (pThen ⟨sg, nm, ed, bg, fn, bl⟩ ⟨sg2, nm2, ed2, bg2, fn2, bl2⟩).d = .tup [.lst (sg.map D.str ++ sg2.map D.str), .lst (nm.map D.str ++ nm2.map D.str), .lst ((ed.map Tl.pairD ++ ed2.map Tl.pairD) ++ linksD fn bg2), .lst (if bl then bg.map D.int ++ bg2.map D.int else bg.map D.int), .lst (if bl2 then fn2.map D.int ++ fn.map D.int else fn2.map D.int), .bl (bl && bl2)] := by
    show D.tup [.lst ((sg ++ sg2).map D.str), .lst ((nm ++ nm2).map D.str), .lst ((ed ++ ed2 ++ (fn.flatMap fun x => bg2.map fun y => (x, y))).map Tl.pairD), .lst ((if bl then bg ++ bg2 else bg).map D.int), .lst ((if bl2 then fn2 ++ fn else fn2).map D.int), .bl (bl && bl2)] = _
    rw [List.map_append, List.map_append, List.map_append, List.map_append, links_map]
    cases bl <;> cases bl2 <;> simp only [if_true, Bool.false_eq_true, if_false, List.map_append]
  rw [e] at h
  have ll := links_len fn bg2
  have big : 1000000 ≤ sizeLine := by decide
  have c3 : (sg.map D.str).length + (sg2.map D.str).length ≤ sizeLine := by rw [List.length_map, List.length_map]; omega
  have c4 : (nm.map D.str).length + (nm2.map D.str).length ≤ sizeLine := by rw [List.length_map, List.length_map]; omega
  have c5 : (ed.map Tl.pairD).length + (ed2.map Tl.pairD).length ≤ sizeLine := by rw [List.length_map, List.length_map]; omega
  have c6 : (ed.map Tl.pairD ++ ed2.map Tl.pairD).length + (linksD fn bg2).length ≤ sizeLine := by rw [List.length_append, List.length_map, List.length_map, ll]; omega
  have c1 : (bg.map D.int).length + (bg2.map D.int).length ≤ sizeLine := by rw [List.length_map, List.length_map]; omega
  have c2 : (fn2.map D.int).length + (fn.map D.int).length ≤ sizeLine := by rw [List.length_map, List.length_map]; omega
  cases bl <;> cases bl2
  · exact ⟨c3, c4, c5, c6, h⟩
  · exact ⟨c2, c3, c4, c5, c6, h⟩
  · exact ⟨c1, c3, c4, c5, c6, h⟩
  · exact ⟨c1, c2, c3, c4, c5, c6, h⟩
end Tw
end
section
set_option maxHeartbeats 1000000
namespace Tw
open PySem PySem.Spec PyProof.Rows L2 Tl
variable (cs errs : List Str)
theorem rep_one {α : Type} (n : Nat) (a : α) : (List.replicate n [a]).flatten = List.replicate n a := by
  induction n with
  | zero => rfl
  | succ n ih => rw [List.replicate_succ, List.flatten_cons, ih, List.replicate_succ]; rfl
theorem mx_eq (l : Int) : (if (1 : Int) > l then 1 else l) = max l 1 := by split <;> omega
theorem range_D (n : Nat) (f : Nat → D) (lo : Int) : Tl.intsFrom lo n = (List.range n).map fun i => D.int (lo + (i : Nat)) := rfl
theorem run_tail (φ : D → Prop) (ψ : Er → Prop) (st : Int) (r : Rn) (name : Str) (ok : RnOk r) (x1 x8 x9 : A) (h : φ (pRun st r name).d) :
    hSeq (hSet 7 (eOp gAdd (eVar 7) (eLv (eLc (eRg1 (zCons (eOp (gI0 fun i j => .int (i - j)) (eVar 6) (eC (.int 1))) zNil)) (tgSet 8) bYes (eTup (zCons (eOp gAdd (eVar 0) (eVar 8)) (zCons (eOp gAdd (eOp gAdd (eVar 0) (eVar 8)) (eC (.int 1))) zNil))) [8]))))
    (hSeq (hSetO 9 (eLc (eRg2 (zCons (eOp (gI0 fun i j => .int (i - j)) (eCB gMax2 (zCons (eVar 4) (zCons (eC (.int 1)) zNil))) (eC (.int 1))) (zCons (eVar 6) zNil))) (tgSet 8) bYes (eOp gAdd (eVar 0) (eVar 8)) [8]))
    (hSettle 9 (hRet (eTup (zCons (eLv (eRep (eLv (eLst (zCons (eVar 3) zNil))) (eVar 6))) (zCons (eLv (eRep (eLv (eLst (zCons (eVar 2) zNil))) (eVar 6))) (zCons (eVar 7) (zCons (eLv (eLst (zCons (eVar 0) zNil))) (zCons (eVar 9) (zCons (eOp (gEq false) (eVar 4) (eC (.int 0))) zNil))))))))))
    [.val (.int st), x1, .val (.str name), .val (.str r.s), .val (.int r.l), .val (oi r.m), .val (.int r.pl), .val (.lst ((if r.m = none then [(st + (r.plN : Int) - 1, st + (r.plN : Int) - 1)] else []).map Tl.pairD)), x8, x9] { nx := fun _ => φ .non, rt := fun d _ => φ d } (fun er _ => ψ er) := by
  have p1 := (rn_pl1 ok).1
  have p2 := (rn_pl1 ok).2
  have l0 := ok.l0
  have l1 := ok.l1
  have pn : ((r.plN : Nat) : Int) = r.pl := by unfold Rn.plN; omega
  refine ⟨⟨by omega, by omega⟩, ?_⟩
  show (Tl.intsFrom 0 (r.pl - 1).toNat).length < 1000000 ∧ _
  refine ⟨by rw [range_D _ (fun _ => D.non), List.length_map, List.length_range]; omega, ?_⟩
  rw [range_D _ (fun _ => D.non)]
  refine lc_all (fun i : Nat => D.int (0 + (i : Nat))) (fun i : Nat => Tl.pairD (st + (i : Nat), st + (i : Nat) + 1)) (List.range (r.pl - 1).toNat) _ (fun i _ k hk => ?_) ?_
  · rw [Int.zero_add]; exact hk
  have big : 1000000 ≤ sizeLine := by decide
  refine ⟨?_, ?_⟩
  · rw [List.length_map, List.length_map, List.length_range]
    split <;> simp only [List.length_singleton, List.length_nil] <;> omega
  have mx := mx_eq r.l
  refine ⟨⟨?_, ?_, by omega, by omega⟩, ?_⟩
  · show -(2 ^ 62) ≤ (if (1 : Int) > r.l then 1 else r.l) - 1
    rw [mx]; omega
  · show (if (1 : Int) > r.l then 1 else r.l) - 1 < 2 ^ 62
    rw [mx]; omega
  show (Tl.intsFrom ((if (1 : Int) > r.l then 1 else r.l) - 1) (r.pl - ((if (1 : Int) > r.l then 1 else r.l) - 1)).toNat).length < 1000000 ∧ _
  refine ⟨by rw [mx, range_D _ (fun _ => D.non), List.length_map, List.length_range]; omega, ?_⟩
  show lcA _ (Tl.intsFrom ((if (1 : Int) > r.l then 1 else r.l) - 1) (r.pl - ((if (1 : Int) > r.l then 1 else r.l) - 1)).toNat) _
  rw [mx, range_D _ (fun _ => D.non)]
  refine lc_all (fun i : Nat => D.int (max r.l 1 - 1 + (i : Nat))) (fun i : Nat => D.int (st + (max r.l 1 - 1 + (i : Nat)))) (List.range (r.pl - (max r.l 1 - 1)).toNat) _ (fun i _ k hk => ?_) ?_
  · exact hk
  refine ⟨⟨by omega, ?_, by omega⟩, ⟨by omega, ?_, by omega⟩, ?_⟩
  · show 1 * r.pl.toNat ≤ sizeLine; omega
  · show 1 * r.pl.toNat ≤ sizeLine; omega
  have e : (pRun st r name).d = .tup [.lst (List.replicate r.pl.toNat [D.str r.s]).flatten, .lst (List.replicate r.pl.toNat [D.str name]).flatten,
      .lst ((if r.m = none then [(st + (r.plN : Int) - 1, st + (r.plN : Int) - 1)] else []).map Tl.pairD ++ (List.range (r.pl - 1).toNat).map fun i : Nat => Tl.pairD (st + (i : Nat), st + (i : Nat) + 1)), .lst [.int st],
      .lst ((List.range (r.pl - (max r.l 1 - 1)).toNat).map fun i : Nat => D.int (st + (max r.l 1 - 1 + (i : Nat)))), .bl (decide (r.l = 0))] := by
    unfold pRun Pc.d
    rw [rep_one, rep_one, List.map_append, List.map_map, List.map_map]
    have n1 : r.plN - 1 = (r.pl - 1).toNat := by omega
    have n2 : r.plN - ((max r.l 1).toNat - 1) = (r.pl - (max r.l 1 - 1)).toNat := by omega
    rw [n1, n2, List.map_replicate, List.map_replicate]
    rfl
  rw [e] at h
  exact h
theorem u_run_piece : ∀ as φ ψ, g_run_piece cs as φ ψ → as.length = 3 ∧ runF 10 (b_run_piece cs errs) as φ ψ := fun as φ ψ h => by
  obtain ⟨st, r, name, rfl, ok, h⟩ := h
  obtain ⟨s, l, m⟩ := r
  refine ⟨rfl, rfl, ?_⟩
  cases m with
  | none =>
    have t := run_tail φ ψ st ⟨s, l, none⟩ name ok (.val (Rn.d ⟨s, l, none⟩)) .no .no h
    have p1 := (rn_pl1 ok).1
    have pn : ((Rn.plN ⟨s, l, none⟩ : Nat) : Int) = (if 1 > l then 1 else l) := by
      have p : Rn.pl ⟨s, l, none⟩ = (if 1 > l then 1 else l) := rfl
      unfold Rn.plN; rw [← p]; omega
    rw [if_pos rfl, pn] at t
    exact t
  | some i => exact run_tail φ ψ st ⟨s, l, some i⟩ name ok (.val (Rn.d ⟨s, l, some i⟩)) .no .no h
end Tw
end
section
set_option maxHeartbeats 1000000
namespace Tw
open PySem PySem.Spec PyProof.Rows L2 Tl
variable (cs errs : List Str)
theorem pRun_ok {st : Int} {r : Rn} {name : Str} (h : RnOk r) : PcOk (pRun st r name) ∧ (((pRun st r name).sg.length : Nat) : Int) = r.pl := by
  have p1 := (rn_pl1 h).1
  have e : (pRun st r name).sg.length = r.plN := List.length_replicate
  have pn : ((r.plN : Nat) : Int) = r.pl := by unfold Rn.plN; omega
  have l0 := h.l0
  refine ⟨⟨?_, ?_, ?_, ?_⟩, by rw [e]; exact pn⟩
  · rw [e]; exact List.length_replicate
  · rw [e]; show 1 ≤ r.plN; omega
  · rw [e]
    show ((List.range (r.plN - ((max r.l 1).toNat - 1))).map _).length ≤ _
    rw [List.length_map, List.length_range]; omega
  · rw [e]
    show ((if r.m = none then [(st + (r.plN : Int) - 1, st + (r.plN : Int) - 1)] else []) ++ (List.range (r.plN - 1)).map fun i : Nat => (st + (i : Nat), st + (i : Nat) + 1)).length ≤ _
    rw [List.length_append, List.length_map, List.length_range]
    have : r.plN ≤ r.plN * r.plN := Nat.le_mul_of_pos_left _ (by omega)
    split <;> simp only [List.length_singleton, List.length_nil] <;> omega
theorem pThen_len (a b : Pc) : (pThen a b).sg.length = a.sg.length + b.sg.length := List.length_append
theorem pRowGo_snoc (st : Int) (name : Str) : ∀ (row : Rw) (acc : Pc) (r : Rn), pRowGo st name acc (row ++ [r]) = pThen (pRowGo st name acc row) (pRun (st + (pRowGo st name acc row).sg.length) r name)
  | [], acc, r => rfl
  | x :: row, acc, r => by
    show pRowGo st name _ (row ++ [r]) = _
    rw [pRowGo_snoc st name row]; rfl
theorem rowPl_app (a b : Rw) : rowPl (a ++ b) = rowPl a + rowPl b := by unfold rowPl; rw [List.map_append, List.sum_append]
theorem pRowGo_ok (st : Int) (name : Str) : ∀ (row : Rw) (acc : Pc), (∀ x ∈ row, RnOk x) → PcOk acc → PcOk (pRowGo st name acc row) ∧ (((pRowGo st name acc row).sg.length : Nat) : Int) = acc.sg.length + rowPl row
  | [], acc, _, ha => ⟨ha, by show ((acc.sg.length : Nat) : Int) = acc.sg.length + (0 : Int); omega⟩
  | r :: row, acc, h, ha => by
    have h1 := pRun_ok (st := st + acc.sg.length) (name := name) (h r List.mem_cons_self)
    have h2 := pRowGo_ok st name row (pThen acc (pRun (st + acc.sg.length) r name)) (fun x m => h x (List.mem_cons_of_mem _ m)) (pThen_ok ha h1.1)
    refine ⟨h2.1, ?_⟩
    have e : rowPl (r :: row) = r.pl + rowPl row := by unfold rowPl; rw [List.map_cons, List.sum_cons]
    have := h2.2
    rw [pThen_len] at this
    show (((pRowGo st name (pThen acc (pRun (st + acc.sg.length) r name)) row).sg.length : Nat) : Int) = _
    rw [this, e]
    omega
theorem pNil_ok : PcOk pNil := ⟨rfl, Nat.le_refl _, Nat.le_refl _, Nat.le_refl _⟩
theorem pRow_ok {st : Int} {row : Rw} {name : Str} (h : ∀ x ∈ row, RnOk x) : PcOk (pRow st row name) ∧ (((pRow st row name).sg.length : Nat) : Int) = rowPl row := by
  have := pRowGo_ok st name row pNil h pNil_ok
  refine ⟨this.1, ?_⟩
  have h2 := this.2
  show (((pRowGo st name pNil row).sg.length : Nat) : Int) = _
  rw [h2]
  show ((0 : Nat) : Int) + _ = _
  omega
theorem u_row_of_runs : ∀ as φ ψ, g_row_of_runs cs as φ ψ → as.length = 3 ∧ runF 5 (b_row_of_runs cs errs) as φ ψ := fun as φ ψ h => by
  obtain ⟨st, row, name, rfl, ok, pl, h⟩ := h
  refine ⟨rfl, rfl, ?_⟩
  show forA _ _ (row.map Rn.d) _ _ _
  refine for_all Rn.d row (fun pre env => ∃ x, env = [.val (.int st), .val (rowD row), .val (.str name), .val (pRow st pre name).d, x]) ⟨.no, rfl⟩ (fun pre r suf env k e hs hk => ?_) (fun env hs => ?_)
  · obtain ⟨x0, rfl⟩ := hs
    have okr : RnOk r := ok r (by rw [e]; simp)
    have okp : ∀ x ∈ pre, RnOk x := fun x m => ok x (by rw [e]; exact List.mem_append_left _ m)
    have oks : ∀ x ∈ suf, RnOk x := fun x m => ok x (by rw [e]; exact List.mem_append_right _ (List.mem_cons_of_mem _ m))
    have h1 := pRow_ok (st := st) (name := name) okp
    have h2 := pRun_ok (st := st + (pRow st pre name).sg.length) (name := name) okr
    have pe : rowPl row = rowPl pre + (r.pl + rowPl suf) := by
      rw [e, rowPl_app]
      unfold rowPl; rw [List.map_cons, List.sum_cons]
    have ps := row_pl0 suf oks
    refine ⟨st + (pRow st pre name).sg.length, r, name, ?_, okr, pRow st pre name, _, rfl, h1.1, h2.1, by omega, hk _ ⟨.val r.d, ?_⟩⟩
    · show [A.val (.int (st + (((pRow st pre name).sg.map D.str).length : Nat))), A.val r.d, A.val (.str name)] = _
      rw [List.length_map]
    · show _ = [_, _, _, A.val (pRowGo st name pNil (pre ++ [r])).d, _]
      rw [pRowGo_snoc]; rfl
  · obtain ⟨x0, rfl⟩ := hs
    exact h
theorem pAdd_ok {a b : Pc} (ha : PcOk a) (hb : PcOk b) : PcOk (pAdd a b) := by
  obtain ⟨a1, a2, a3, a4⟩ := ha
  obtain ⟨b1, b2, b3, b4⟩ := hb
  refine ⟨?_, ?_, ?_, ?_⟩
  · show (a.nm ++ b.nm).length = (a.sg ++ b.sg).length
    rw [List.length_append, List.length_append]; omega
  · show (a.bg ++ b.bg).length ≤ (a.sg ++ b.sg).length
    rw [List.length_append, List.length_append]; omega
  · show (a.fn ++ b.fn).length ≤ (a.sg ++ b.sg).length
    rw [List.length_append, List.length_append]; omega
  · show (a.ed ++ b.ed).length ≤ (a.sg ++ b.sg).length * (a.sg ++ b.sg).length
    rw [List.length_append, List.length_append]
    have := sq_add a.sg.length b.sg.length
    omega
def pEmp : Pc := ⟨[], [], [], [], [], false⟩
theorem pKindGo_snoc (st : Int) (name : Str) : ∀ (rows : List Rw) (acc : Pc) (r : Rw), pKindGo st name acc (rows ++ [r]) = pAdd (pKindGo st name acc rows) (pRow (st + (pKindGo st name acc rows).sg.length) r name)
  | [], acc, r => rfl
  | x :: rows, acc, r => by
    show pKindGo st name _ (rows ++ [r]) = _
    rw [pKindGo_snoc st name rows]; rfl
theorem rowsPl_app (a b : List Rw) : rowsPl (a ++ b) = rowsPl a + rowsPl b := by unfold rowsPl; rw [List.map_append, List.sum_append]
theorem pKindGo_ok (st : Int) (name : Str) : ∀ (rows : List Rw) (acc : Pc), okR rows → PcOk acc → PcOk (pKindGo st name acc rows) ∧ (((pKindGo st name acc rows).sg.length : Nat) : Int) = acc.sg.length + rowsPl rows
  | [], acc, _, ha => ⟨ha, by show ((acc.sg.length : Nat) : Int) = acc.sg.length + (0 : Int); omega⟩
  | r :: rows, acc, h, ha => by
    have h1 := pRow_ok (st := st + acc.sg.length) (name := name) (h r List.mem_cons_self)
    have h2 := pKindGo_ok st name rows (pAdd acc (pRow (st + acc.sg.length) r name)) (fun x m => h x (List.mem_cons_of_mem _ m)) (pAdd_ok ha h1.1)
    refine ⟨h2.1, ?_⟩
    have e : rowsPl (r :: rows) = rowPl r + rowsPl rows := by unfold rowsPl; rw [List.map_cons, List.sum_cons]
    have := h2.2
    have l : (pAdd acc (pRow (st + acc.sg.length) r name)).sg.length = acc.sg.length + (pRow (st + acc.sg.length) r name).sg.length := List.length_append
    rw [l] at this
    show (((pKindGo st name (pAdd acc (pRow (st + acc.sg.length) r name)) rows).sg.length : Nat) : Int) = _
    rw [this, e]
    omega
theorem pKind_ok {st : Int} {rows : List Rw} {name : Str} (h : okR rows) : PcOk (pKind st rows name) ∧ (((pKind st rows name).sg.length : Nat) : Int) = rowsPl rows := by
  have := pKindGo_ok st name rows pEmp h ⟨rfl, Nat.le_refl _, Nat.le_refl _, Nat.le_refl _⟩
  refine ⟨this.1, ?_⟩
  have h2 := this.2
  show (((pKindGo st name pEmp rows).sg.length : Nat) : Int) = _
  rw [h2]
  show ((0 : Nat) : Int) + _ = _
  omega
theorem u_kind_piece : ∀ as φ ψ, g_kind_piece cs as φ ψ → as.length = 3 ∧ runF 11 (b_kind_piece cs errs) as φ ψ := fun as φ ψ h => by
  obtain ⟨st, rows, name, rfl, ok, pl, h⟩ := h
  refine ⟨rfl, rfl, ?_⟩
  show forA _ _ (rows.map rowD) _ _ _
  refine for_all rowD rows (fun pre env => ∃ x y, env = [.val (.int st), .val (.tup (rows.map rowD)), .val (.str name), .val (.lst ((pKind st pre name).sg.map D.str)), .val (.lst ((pKind st pre name).nm.map D.str)), .val (.lst ((pKind st pre name).ed.map Tl.pairD)), .val (.lst ((pKind st pre name).bg.map D.int)), .val (.lst ((pKind st pre name).fn.map D.int)), .val (.bl (pKind st pre name).bl), x, y]) ⟨.no, .no, rfl⟩ (fun pre r suf env k e hs hk => ?_) (fun env hs => ?_)
  · obtain ⟨x0, y0, rfl⟩ := hs
    have okr : ∀ x ∈ r, RnOk x := ok r (by rw [e]; simp)
    have okp : okR pre := fun x m => ok x (by rw [e]; exact List.mem_append_left _ m)
    have oks : okR suf := fun x m => ok x (by rw [e]; exact List.mem_append_right _ (List.mem_cons_of_mem _ m))
    have h1 := pKind_ok (st := st) (name := name) okp
    have h2 := pRow_ok (st := st + (pKind st pre name).sg.length) (name := name) okr
    have pe : rowsPl rows = rowsPl pre + (rowPl r + rowsPl suf) := by
      rw [e, rowsPl_app]
      unfold rowsPl; rw [List.map_cons, List.sum_cons]
    have ps := rows_pl0 suf oks
    have pp := row_pl0 r okr
    obtain ⟨a1, a2, a3, a4⟩ := h1.1
    obtain ⟨b1, b2, b3, b4⟩ := h2.1
    have la := h1.2
    have lb := h2.2
    have m1 := mul_le400 (Nat.le_refl (pKind st pre name).sg.length) (Nat.le_refl _) (by omega)
    have m2 := mul_le400 (Nat.le_refl (pRow (st + (pKind st pre name).sg.length) r name).sg.length) (Nat.le_refl _) (by omega)
    have big : 1000000 ≤ sizeLine := by decide
    refine ⟨st + (pKind st pre name).sg.length, r, name, ?_, okr, by omega, ?_⟩
    · show [A.val (.int (st + (((pKind st pre name).sg.map D.str).length : Nat))), A.val (rowD r), A.val (.str name)] = _
      rw [List.length_map]
    refine ⟨by rw [List.length_map, List.length_map]; omega, by rw [List.length_map, List.length_map]; omega, by rw [List.length_map, List.length_map]; omega, by rw [List.length_map, List.length_map]; omega, by rw [List.length_map, List.length_map]; omega, ?_⟩
    have en : pKind st (pre ++ [r]) name = pAdd (pKind st pre name) (pRow (st + (pKind st pre name).sg.length) r name) := pKindGo_snoc st name pre _ r
    have fin : k [.val (.int st), .val (.tup (rows.map rowD)), .val (.str name), .val (.lst ((pKind st pre name).sg.map D.str ++ (pRow (st + (pKind st pre name).sg.length) r name).sg.map D.str)), .val (.lst ((pKind st pre name).nm.map D.str ++ (pRow (st + (pKind st pre name).sg.length) r name).nm.map D.str)), .val (.lst ((pKind st pre name).ed.map Tl.pairD ++ (pRow (st + (pKind st pre name).sg.length) r name).ed.map Tl.pairD)), .val (.lst ((pKind st pre name).bg.map D.int ++ (pRow (st + (pKind st pre name).sg.length) r name).bg.map D.int)), .val (.lst ((pKind st pre name).fn.map D.int ++ (pRow (st + (pKind st pre name).sg.length) r name).fn.map D.int)), .val (.bl ((pKind st pre name).bl || (pRow (st + (pKind st pre name).sg.length) r name).bl)), .val (rowD r), .val (pRow (st + (pKind st pre name).sg.length) r name).d] := by
      refine hk _ ⟨.val (rowD r), .val (pRow (st + (pKind st pre name).sg.length) r name).d, ?_⟩
      rw [en]
      unfold pAdd
      simp only [List.map_append]
    show if (pKind st pre name).bl = true then _ else _
    cases q : (pKind st pre name).bl with
    | true => rw [q, Bool.true_or] at fin; exact fin
    | false => rw [q, Bool.false_or] at fin; exact fin
  · obtain ⟨x0, y0, rfl⟩ := hs
    exact h
end Tw
end
section
set_option maxHeartbeats 1000000
namespace Tw
open PySem PySem.Spec PyProof.Rows L2 Tl
variable (cs errs : List Str)
theorem pre_range {n i : Nat} {pre suf : List Nat} (e : List.range n = pre ++ i :: suf) : i = pre.length ∧ pre.length < n := by
  have h1 : (List.range n)[pre.length]? = some i := by rw [e]; simp
  obtain ⟨hl, h2⟩ := List.getElem?_eq_some_iff.mp h1
  rw [List.getElem_range] at h2
  rw [List.length_range] at hl
  exact ⟨h2.symm, hl⟩
theorem pMarkGo_snoc (st : Int) : ∀ (l : List Nat) (acc : Pc) (i : Nat) (c : Nat), pMarkGo st acc i (l ++ [c]) = pThen (pMarkGo st acc i l) (pSign (st + ((i + l.length : Nat) : Int)) (sgn c))
  | [], acc, i, c => rfl
  | x :: l, acc, i, c => by
    show pMarkGo st _ (i + 1) (l ++ [c]) = _
    rw [pMarkGo_snoc st l, List.length_cons, show i + 1 + l.length = i + (l.length + 1) by omega]; rfl
theorem pSign_ok (p : Int) (c : Str) : PcOk (pSign p c) := ⟨rfl, Nat.le_refl _, Nat.le_refl _, Nat.zero_le _⟩
theorem pMarkGo_ok (st : Int) : ∀ (l : List Nat) (acc : Pc) (i : Nat), PcOk acc → PcOk (pMarkGo st acc i l) ∧ (pMarkGo st acc i l).sg.length = acc.sg.length + l.length
  | [], acc, i, h => ⟨h, rfl⟩
  | c :: l, acc, i, h => by
    have h2 := pMarkGo_ok st l (pThen acc (pSign (st + (i : Nat)) (sgn c))) (i + 1) (pThen_ok h (pSign_ok _ _))
    refine ⟨h2.1, ?_⟩
    have := h2.2
    rw [pThen_len] at this
    show (pMarkGo st (pThen acc (pSign (st + (i : Nat)) (sgn c))) (i + 1) l).sg.length = _
    rw [this, List.length_cons]
    show acc.sg.length + 1 + l.length = _
    omega
theorem pMark_ok (st : Int) (z : Str) : PcOk (pMark st z) ∧ (pMark st z).sg.length = z.length := by
  have := pMarkGo_ok st (T z) pNil 0 pNil_ok
  refine ⟨this.1, ?_⟩
  show (pMarkGo st pNil 0 (T z)).sg.length = _
  rw [this.2, T_len]
  show 0 + _ = _
  omega
theorem take_snoc {α : Type} {l : List α} {n : Nat} (h : n < l.length) : l.take (n + 1) = l.take n ++ [l[n]] := by
  rw [List.take_succ, List.getElem?_eq_getElem h]; rfl
theorem u_mark_piece : ∀ as φ ψ, g_mark_piece cs as φ ψ → as.length = 2 ∧ runF 5 (b_mark_piece cs errs) as φ ψ := fun as φ ψ h => by
  obtain ⟨st, z, rfl, zl, h⟩ := h
  have zs : z.length ≤ sizeLine := Nat.le_trans zl (by decide)
  have lt := T_len z
  refine ⟨rfl, rfl, zs, ⟨by omega, by omega⟩, ?_⟩
  show forA _ _ (Tl.intsFrom 0 (z.length : Int).toNat) _ _ _
  rw [Int.toNat_natCast]
  unfold Tl.intsFrom
  refine for_all _ (List.range z.length) (fun pre env => ∃ x y, env = [.val (.int st), .val (.str z), .val (pMarkGo st pNil 0 ((T z).take pre.length)).d, x, y]) ⟨.no, .no, rfl⟩ (fun pre i suf env k e hs hk => ?_) (fun env hs => ?_)
  · obtain ⟨x0, y0, rfl⟩ := hs
    obtain ⟨rfl, hi⟩ := pre_range e
    have hc : pre.length < (T z).length := by omega
    have h1 := pMarkGo_ok st ((T z).take pre.length) pNil 0 pNil_ok
    have l1 : (pMarkGo st pNil 0 ((T z).take pre.length)).sg.length = pre.length := by
      rw [h1.2, List.length_take]
      show 0 + _ = _
      omega
    refine ⟨zs, ?_⟩
    show (match atI (T z) (0 + ((pre.length : Nat) : Int)) with | some c => _ | none => False)
    rw [Int.zero_add, atI_nat (List.getElem?_eq_getElem hc)]
    refine ⟨pMarkGo st pNil 0 ((T z).take pre.length), pSign (st + (pre.length : Nat)) (sgn (T z)[pre.length]), ?_, h1.1, pSign_ok _ _, ?_, hk _ ⟨.val (.int (pre.length : Nat)), .val (.int (st + (pre.length : Nat))), ?_⟩⟩
    · show [A.val _, A.val (D.tup [.lst [.str ⟨#[(T z)[pre.length]]⟩], .lst [.str ""], .lst [], .lst [.int (st + (pre.length : Nat))], .lst [.int (st + (pre.length : Nat))], .bl false])] = _
      rfl
    · rw [l1]; show pre.length + 1 ≤ 400; omega
    · rw [List.length_append, List.length_singleton, take_snoc hc, pMarkGo_snoc, List.length_take, Nat.min_eq_left (by omega), Nat.zero_add]
      rfl
  · obtain ⟨x0, y0, rfl⟩ := hs
    rw [List.length_range, ← lt, List.take_length] at *
    exact h
mutual
theorem pItem_ok : ∀ (x : It) (st : Int), okK x → PcOk (pItem st x) ∧ (((pItem st x).sg.length : Nat) : Int) = x.pl
  | .fld n rows, st, h => by
    rw [okK] at h
    rw [pItem, It.pl]
    exact pKind_ok h
  | .mrk z, st, h => by
    rw [pItem, It.pl]
    have := pMark_ok st z
    exact ⟨this.1, by rw [this.2]⟩
  | .grp ps, st, h => by
    rw [okK] at h
    rw [pItem, It.pl]
    have := pItGo_ok ps st pNil h pNil_ok
    obtain ⟨⟨a1, a2, a3, a4⟩, l⟩ := this
    refine ⟨⟨a1, a2, a3, a4⟩, ?_⟩
    show (((pItGo st pNil ps).sg.length : Nat) : Int) = _
    rw [l]
    show ((0 : Nat) : Int) + _ = _
    omega
theorem pItGo_ok : ∀ (l : List It) (st : Int) (acc : Pc), okKs l → PcOk acc → PcOk (pItGo st acc l) ∧ (((pItGo st acc l).sg.length : Nat) : Int) = acc.sg.length + plL l
  | [], st, acc, _, ha => by rw [pItGo, plL]; exact ⟨ha, by omega⟩
  | x :: r, st, acc, h, ha => by
    rw [okKs] at h
    have h1 := pItem_ok x (st + acc.sg.length) h.1
    have h2 := pItGo_ok r st (pThen acc (pItem (st + acc.sg.length) x)) h.2 (pThen_ok ha h1.1)
    rw [pItGo, plL]
    refine ⟨h2.1, ?_⟩
    have := h2.2
    rw [pThen_len] at this
    rw [this]
    omega
end
theorem pItGo_snoc (st : Int) : ∀ (l : List It) (acc : Pc) (x : It), pItGo st acc (l ++ [x]) = pThen (pItGo st acc l) (pItem (st + (pItGo st acc l).sg.length) x)
  | [], acc, x => by rw [List.nil_append, pItGo, pItGo, pItGo]
  | y :: l, acc, x => by rw [List.cons_append, pItGo, pItGo, pItGo_snoc st l]
theorem pIts_ok {st : Int} {l : List It} (h : okKs l) : PcOk (pIts st l) ∧ (((pIts st l).sg.length : Nat) : Int) = plL l := by
  have := pItGo_ok l st pNil h pNil_ok
  refine ⟨this.1, ?_⟩
  show (((pItGo st pNil l).sg.length : Nat) : Int) = _
  rw [this.2]
  show ((0 : Nat) : Int) + _ = _
  omega
theorem u_row_pieceR (n : Nat) : ∀ as φ ψ, g_row_pieceR cs (n + 1) as φ ψ → as.length = 2 ∧ runF 4 (b_row_piece cs errs (g_item_pieceR cs n)) as φ ψ := fun as φ ψ h => by
  obtain ⟨st, ps, d, rfl, hd, dp, gd, h⟩ := h
  refine ⟨rfl, rfl, ?_⟩
  show itAny d _
  refine for_row (α := It) hd (fun pre env => ∃ x, env = [.val (.int st), .val d, .val (pIts st pre).d, x]) ⟨.no, by unfold pIts; rw [pItGo]; rfl⟩ (fun pre x suf env k e hs hk => ?_) (fun env hs => ?_)
  · obtain ⟨x0, rfl⟩ := hs
    have k0 := gd.k
    rw [e, okKs_app, okKs] at k0
    have o0 := gd.ok
    rw [e, okL_app, okL] at o0
    have pe : plL ps = plL pre + (x.pl + plL suf) := by rw [e, plL_app, plL]
    have se : szL ps = szL pre + (x.sz + szL suf) := by rw [e, szL_app, szL]
    have pb := gd.pl
    have sb := gd.sz
    have n1 := plL_nn pre k0.1
    have n2 := plL_nn suf k0.2.2
    have n3 := pl_nn x k0.2.1
    have h1 := pIts_ok (st := st) k0.1
    have h2 := pItem_ok x (st + (pIts st pre).sg.length) k0.2.1
    have dx : x.dep ≤ n := Nat.le_trans (mem_dep (by rw [e]; simp)) dp
    refine ⟨st + (pIts st pre).sg.length, x, ?_, dx, ⟨o0.2.1, k0.2.1, by omega, by omega⟩, pIts st pre, _, rfl, h1.1, h2.1, by omega, hk _ ⟨.val (itD x), ?_⟩⟩
    · show [A.val (.int (st + (((pIts st pre).sg.map D.str).length : Nat))), A.val (itD x)] = _
      rw [List.length_map]
    · show _ = [_, _, A.val (pItGo st pNil (pre ++ [x])).d, _]
      rw [pItGo_snoc]; rfl
  · obtain ⟨x0, rfl⟩ := hs
    exact h
section
variable [hF : InE "Field" cs] [hM : InE "Mark" cs] [hG : InE "Maybe" cs]
theorem u_item_pieceR (n : Nat) : ∀ as φ ψ, g_item_pieceR cs n as φ ψ → as.length = 2 ∧ runF 8 (b_item_piece cs errs (g_row_pieceR cs n)) as φ ψ := fun as φ ψ h => by
  obtain ⟨st, x, rfl, dp, gd, h⟩ := h
  refine ⟨rfl, ?_⟩
  have pb := gd.pl
  have sb := gd.sz
  have kx := gd.k
  have ox := gd.ok
  cases x with
  | fld nm rows =>
    rw [okK] at kx
    rw [It.pl] at pb
    rw [pItem] at h
    rw [itD_fld]
    refine ⟨rfl, ?_⟩
    show (match isiOf cs (.glo "Field") (.ob "Field") with | some v => _ | none => False)
    rw [isi_ob "Field" "Field" hF.h]
    exact ⟨List.mem_cons_self, rfl, by decide, rows, rfl, List.mem_cons_self, st, rows, nm, rfl, kx, pb, h⟩
  | mrk z =>
    rw [It.pl] at pb
    rw [pItem] at h
    rw [itD_mrk]
    refine ⟨rfl, ?_⟩
    show (match isiOf cs (.glo "Field") (.ob "Mark") with | some v => _ | none => False)
    rw [isi_ob "Field" "Mark" hM.h]
    refine ⟨rfl, ?_⟩
    show (match isiOf cs (.glo "Mark") (.ob "Mark") with | some v => _ | none => False)
    rw [isi_ob "Mark" "Mark" hM.h]
    exact ⟨List.mem_cons_self, st, z, rfl, by omega, h⟩
  | grp ps =>
    rw [okK] at kx
    rw [okI] at ox
    rw [It.pl] at pb
    rw [It.sz] at sb
    rw [It.dep] at dp
    rw [pItem] at h
    rw [itD_grp]
    refine ⟨rfl, ?_⟩
    show (match isiOf cs (.glo "Field") (.ob "Maybe") with | some v => _ | none => False)
    rw [isi_ob "Field" "Maybe" hG.h]
    refine ⟨rfl, ?_⟩
    show (match isiOf cs (.glo "Mark") (.ob "Maybe") with | some v => _ | none => False)
    rw [isi_ob "Mark" "Maybe" hG.h]
    cases n with
    | zero => omega
    | succ n => exact ⟨List.mem_cons_self, st, ps, _, rfl, .inr rfl, by omega, ⟨ox.1, kx, by omega, pb⟩, rfl, h⟩
end
end Tw
end
section
set_option maxHeartbeats 1000000
namespace Tw
open PySem PySem.Spec PyProof.Rows L2 Tl
variable (cs errs : List Str)
theorem sort_one {α : Type} {r : α → α → Prop} (anti : ∀ a b, r a b → r b a → a = b) : ∀ {l m : List α}, l.Perm m → l.Pairwise r → m.Pairwise r → l = m
  | [], m, p, _, _ => (List.perm_nil.mp p.symm).symm
  | a :: l, [], p, _, _ => by have := List.perm_nil.mp p; cases this
  | a :: l, b :: m, p, hl, hm => by
    rw [List.pairwise_cons] at hl hm
    have e : a = b := by
      rcases List.mem_cons.mp (p.mem_iff.mp List.mem_cons_self) with e | ma
      · exact e
      · rcases List.mem_cons.mp (p.mem_iff.mpr (List.mem_cons_self (a := b) (l := m))) with e | mb
        · exact e.symm
        · exact anti a b (hl.1 b mb) (hm.1 a ma)
    subst e
    rw [sort_one anti p.cons_inv hl.2 hm.2]
theorem lex_anti (a b : Int × Int) (h1 : SrtO.lexB b a = false) (h2 : SrtO.lexB a b = false) : a = b := by
  rw [SrtO.lexB_no] at h1 h2
  obtain ⟨a1, a2⟩ := a
  obtain ⟨b1, b2⟩ := b
  simp only at h1 h2
  have e1 : a1 = b1 := by omega
  subst e1
  have e2 : a2 = b2 := by omega
  rw [e2]
theorem srtP_pw (l : List (Int × Int)) : (srtP l).Pairwise fun a b => SrtO.lexB b a = false := by
  have := List.pairwise_mergeSort (le := fun a b : Int × Int => !(SrtO.lexB b a)) (fun a b c h1 h2 => by
    rw [Bool.not_eq_true'] at h1 h2 ⊢
    rw [SrtO.lexB_no] at h1 h2 ⊢
    omega) (fun a b => by
    rw [Bool.or_eq_true, Bool.not_eq_true', Bool.not_eq_true', SrtO.lexB_no, SrtO.lexB_no]
    omega) l
  unfold srtP
  exact this.imp fun {a b} h => by rw [Bool.not_eq_true'] at h; exact h
theorem srtP_is {l m : List (Int × Int)} (p : m.Perm l) (s : m.Pairwise fun a b => SrtO.lexB b a = false) : m = srtP l :=
  sort_one (fun a b h1 h2 => lex_anti a b h1 h2) (p.trans (List.mergeSort_perm l _).symm) s (srtP_pw l)
theorem srtI_is {l m : List Int} (p : m.Perm l) (s : m.Pairwise (· ≤ ·)) : m = srtI l := by
  refine sort_one (r := (· ≤ ·)) (fun a b h1 h2 => by omega) (p.trans (List.mergeSort_perm l _).symm) s ?_
  have := List.pairwise_mergeSort (le := fun a b : Int => decide (a ≤ b)) (fun a b c h1 h2 => by
    rw [decide_eq_true_eq] at h1 h2 ⊢; omega) (fun a b => by
    rw [Bool.or_eq_true, decide_eq_true_eq, decide_eq_true_eq]; omega) l
  unfold srtI
  exact this.imp fun {a b} h => by rw [decide_eq_true_eq] at h; exact h
theorem split3 (p : Int) : ∀ (m : List (Int × Int)), m.Pairwise (fun a b => SrtO.lexB b a = false) → m = (m.filter fun q => decide (q.1 < p)) ++ (m.filter fun q => decide (q.1 = p)) ++ (m.filter fun q => decide (p < q.1))
  | [], _ => rfl
  | x :: m, h => by
    rw [List.pairwise_cons] at h
    have ih := split3 p m h.2
    have ge : ∀ y ∈ m, x.1 ≤ y.1 := fun y hy => by
      have := h.1 y hy
      rw [SrtO.lexB_no] at this
      omega
    rw [List.filter_cons, List.filter_cons, List.filter_cons]
    by_cases h1 : x.1 < p
    · rw [if_pos (by simpa using h1), if_neg (by simp; omega), if_neg (by simp; omega)]
      rw [List.cons_append, List.cons_append, ← ih]
    · have e1 : m.filter (fun q => decide (q.1 < p)) = [] := List.filter_eq_nil_iff.mpr fun y hy => by have := ge y hy; simp; omega
      rw [e1, List.nil_append] at ih
      rw [if_neg (by simpa using h1), e1, List.nil_append]
      by_cases h2 : x.1 = p
      · rw [if_pos (by simpa using h2), if_neg (by simp; omega), List.cons_append, ← ih]
      · have e2 : m.filter (fun q => decide (q.1 = p)) = [] := List.filter_eq_nil_iff.mpr fun y hy => by have := ge y hy; simp; omega
        rw [e2, List.nil_append] at ih
        rw [if_neg (by simpa using h2), if_pos (by simp; omega), e2, List.nil_append, ← ih]
theorem cut_at {l : List D} {a b : Nat} (h1 : a ≤ b) (h2 : b ≤ l.length) : Tl.cutD l (some (a : Int)) (some (b : Int)) = (l.drop a).take (b - a) := by
  unfold Tl.cutD
  rw [HT.sIx_nat, HT.sIx_nat, Nat.min_eq_left h2, Nat.min_eq_left (by omega)]
theorem lt_cnt (m : List (Int × Int)) (p : Int) : (m.filter fun q => decide (q.1 < p + 1)).length = (m.filter fun q => decide (q.1 < p)).length + (m.filter fun q => decide (q.1 = p)).length := by
  induction m with
  | nil => rfl
  | cons x m ih =>
    rw [List.filter_cons, List.filter_cons, List.filter_cons]
    by_cases h1 : x.1 < p
    · rw [if_pos (by simp; omega), if_pos (by simpa using h1), if_neg (by simp; omega), List.length_cons, List.length_cons, ih]; omega
    · by_cases h2 : x.1 = p
      · rw [if_pos (by simp; omega), if_neg (by simpa using h1), if_pos (by simpa using h2), List.length_cons, List.length_cons, ih]; omega
      · rw [if_neg (by simp; omega), if_neg (by simpa using h1), if_neg (by simpa using h2), ih]
theorem u_followers : ∀ as φ ψ, g_followers cs as φ ψ → as.length = 2 ∧ runF 9 (b_followers cs errs) as φ ψ := fun as φ ψ h => by
  obtain ⟨n, ed, rfl, n1, e1, ein, h⟩ := h
  refine ⟨rfl, ?_⟩
  show (match pairsD (ed.map Tl.pairD) with | some l => _ | none => False)
  rw [pairsD_map]
  intro m pm so
  have em := srtP_is pm so
  have ml : m.length ≤ 160000 := by rw [pm.length_eq]; exact e1
  have m0 : ∀ q ∈ m, 0 ≤ q.1 := fun q hq => (ein q (pm.mem_iff.mp hq)).1
  refine ⟨⟨by omega, by omega⟩, ?_⟩
  show forA _ _ (Tl.intsFrom 0 ((n : Nat) : Int).toNat) _ _ _
  rw [Int.toNat_natCast]
  unfold Tl.intsFrom
  refine for_all _ (List.range n) (fun pre env => ∃ x5 x6 x7 x8, env = [.val (.int n), .val (.lst (ed.map Tl.pairD)), .val (.lst (m.map Tl.pairD)), .own ((List.range pre.length).map fun i : Nat => .lst (((m.filter fun q => decide (q.1 = ((i : Nat) : Int))).map (·.2)).map D.int)), .val (.int ((m.filter fun q => decide (q.1 < ((pre.length : Nat) : Int))).length : Nat)), x5, x6, x7, x8]) ⟨.no, .no, .no, .no, ?_⟩ (fun pre i suf env k e hs hk => ?_) (fun env hs => ?_)
  · have z : (m.filter fun q => decide (q.1 < (((([] : List Nat).length) : Nat) : Int))) = [] := List.filter_eq_nil_iff.mpr fun q hq => by have := m0 q hq; simp; omega
    rw [z]; rfl
  · obtain ⟨x5, x6, x7, x8, rfl⟩ := hs
    obtain ⟨rfl, hi⟩ := pre_range e
    rw [Int.zero_add]
    have sp := split3 ((pre.length : Nat) : Int) m so
    have lc := lt_cnt m ((pre.length : Nat) : Int)
    generalize hA : m.filter (fun q => decide (q.1 < ((pre.length : Nat) : Int))) = A0 at *
    generalize hB : m.filter (fun q => decide (q.1 = ((pre.length : Nat) : Int))) = B0 at *
    generalize hC : m.filter (fun q => decide (((pre.length : Nat) : Int) < q.1)) = C0 at *
    have lm : m.length = A0.length + B0.length + C0.length := by rw [sp, List.length_append, List.length_append]
    have inB : ∀ q ∈ B0, q.1 = ((pre.length : Nat) : Int) := fun q hq => by rw [← hB, List.mem_filter] at hq; simpa using hq.2
    have inC : ∀ q ∈ C0, ((pre.length : Nat) : Int) < q.1 := fun q hq => by rw [← hC, List.mem_filter] at hq; simpa using hq.2
    refine while_inv (fun r env => ∃ t : Nat, t + r = B0.length ∧ env = [.val (.int n), .val (.lst (ed.map Tl.pairD)), .val (.lst (m.map Tl.pairD)), .own ((List.range pre.length).map fun i : Nat => .lst (((m.filter fun q => decide (q.1 = ((i : Nat) : Int))).map (·.2)).map D.int)), .val (.int (A0.length : Nat)), .val (.int (pre.length : Nat)), .val (.int ((A0.length + t : Nat) : Int)), x7, x8]) (fun r env k2 hI hk2 => ?_) B0.length _ ⟨0, by omega, rfl⟩
    obtain ⟨t, ht, rfl⟩ := hI
    show if decide (((A0.length + t : Nat) : Int) < ((m.map Tl.pairD).length : Int)) = true then _ else _
    rw [List.length_map]
    have stop : ∀ P : Prop, t = B0.length → P → P := fun P _ h => h
    have done : t = B0.length → ∀ x : Unit, (hSeq (hApp 3 (eLv (eLc (eIt (eSl (eVar 2) (oSo (eVar 4)) (oSo (eVar 6)))) (tgTup (tgCons (tgSet 7) (tgCons (tgSet 8) tgNil))) bYes (eVar 8) [7, 8]))) (hSet 4 (eVar 6))) [.val (.int n), .val (.lst (ed.map Tl.pairD)), .val (.lst (m.map Tl.pairD)), .own ((List.range pre.length).map fun i : Nat => .lst (((m.filter fun q => decide (q.1 = ((i : Nat) : Int))).map (·.2)).map D.int)), .val (.int (A0.length : Nat)), .val (.int (pre.length : Nat)), .val (.int ((A0.length + t : Nat) : Int)), x7, x8] { nx := k, rt := fun d _ => φ d, bk := fun _ => False, ct := k } (fun er _ => ψ er) := by
      intro te _
      refine ⟨trivial, ?_⟩
      show (Tl.cutD (m.map Tl.pairD) (some ((A0.length : Nat) : Int)) (some ((A0.length + t : Nat) : Int))).length < 1000000 ∧ lcA _ (Tl.cutD (m.map Tl.pairD) (some ((A0.length : Nat) : Int)) (some ((A0.length + t : Nat) : Int))) _
      have ec : Tl.cutD (m.map Tl.pairD) (some ((A0.length : Nat) : Int)) (some ((A0.length + t : Nat) : Int)) = B0.map Tl.pairD := by
        rw [cut_at (by omega) (by rw [List.length_map, lm]; omega), ← List.map_drop, ← List.map_take, sp, List.append_assoc, List.drop_append_of_le_length (Nat.le_refl _), List.drop_length, List.nil_append, show A0.length + t - A0.length = B0.length by omega, List.take_append_of_le_length (Nat.le_refl _), List.take_length]
      rw [ec]
      refine ⟨by rw [List.length_map]; omega, ?_⟩
      refine lc_all Tl.pairD (fun q => D.int q.2) B0 _ (fun q _ kk hkk => ⟨rfl, hkk⟩) ?_
      refine ⟨by rw [List.length_map, List.length_range]; omega, hk _ ⟨.val (.int (pre.length : Nat)), .val (.int ((A0.length + t : Nat) : Int)), x7, x8, ?_⟩⟩
      rw [List.length_append, List.length_singleton, List.range_succ, List.map_append]
      have lc2 : (m.filter fun q => decide (q.1 < (((pre.length + 1 : Nat)) : Int))).length = A0.length + t := by
        rw [te, ← lc]
        congr 1
      rw [lc2]
      show [_, _, _, A.own (_ ++ [D.lst (B0.map fun q => D.int q.2)]), _, _, _, _, _] = [_, _, _, A.own (_ ++ [D.lst (((m.filter fun q => decide (q.1 = ((pre.length : Nat) : Int))).map (·.2)).map D.int)]), _, _, _, _, _]
      rw [hB, List.map_map]; rfl
    by_cases hl : t < B0.length
    · rw [if_pos (by rw [decide_eq_true_eq, lm]; omega)]
      have g : (m.map Tl.pairD)[A0.length + t]? = some (Tl.pairD B0[t]) := by
        rw [List.getElem?_map]
        have g2 : m[A0.length + t]? = some B0[t] := by
          rw [sp, List.append_assoc, List.getElem?_append_right (by omega), show A0.length + t - A0.length = t by omega, List.getElem?_append_left hl, List.getElem?_eq_getElem hl]
        rw [g2]; rfl
      show (match atI (m.map Tl.pairD) ((A0.length + t : Nat) : Int) with | some d => _ | none => False)
      rw [atI_nat g]
      show if decide ((B0[t]).1 = ((pre.length : Nat) : Int)) = true then _ else _
      rw [inB _ (List.getElem_mem hl), decide_eq_true rfl]
      refine hk2 _ (r - 1) (by omega) ⟨t + 1, by omega, ?_⟩
      show [_, _, _, _, _, _, A.val (.int (((A0.length + t : Nat) : Int) + 1)), _, _] = _
      rw [show ((A0.length + t : Nat) : Int) + 1 = ((A0.length + (t + 1) : Nat) : Int) by omega]
    · have te : t = B0.length := by omega
      by_cases hc : A0.length + t < m.length
      · rw [if_pos (by rw [decide_eq_true_eq]; omega)]
        have hc0 : 0 < C0.length := by omega
        have g : (m.map Tl.pairD)[A0.length + t]? = some (Tl.pairD C0[0]) := by
          rw [List.getElem?_map]
          have g2 : m[A0.length + t]? = some C0[0] := by
            rw [sp, List.getElem?_append_right (by rw [List.length_append]; omega), List.length_append, show A0.length + t - (A0.length + B0.length) = 0 by omega, List.getElem?_eq_getElem hc0]
          rw [g2]; rfl
        show (match atI (m.map Tl.pairD) ((A0.length + t : Nat) : Int) with | some d => _ | none => False)
        rw [atI_nat g]
        show if decide ((C0[0]).1 = ((pre.length : Nat) : Int)) = true then _ else _
        have := inC _ (List.getElem_mem hc0)
        rw [decide_eq_false (by omega)]
        exact done te ()
      · rw [if_neg (by rw [decide_eq_true_eq]; omega)]
        exact done te ()
  · obtain ⟨x5, x6, x7, x8, rfl⟩ := hs
    have e2 : (folL n ed).map (fun l => D.lst (l.map D.int)) = (List.range n).map fun i : Nat => .lst (((m.filter fun q => decide (q.1 = ((i : Nat) : Int))).map (·.2)).map D.int) := by
      unfold folL
      rw [List.map_map, ← em]; rfl
    rw [e2] at h
    rw [List.length_range]
    exact h
end Tw
end
section
set_option maxHeartbeats 1000000
namespace Tw
open PySem PySem.Spec PyProof.Rows L2 Tl
variable (cs errs : List Str)
theorem u_with_line : ∀ as φ ψ, g_with_line cs as φ ψ → as.length = 2 ∧ runF 11 (b_with_line cs errs) as φ ψ := fun as φ ψ h => by
  obtain ⟨w, l, rfl, hw, dp, gd, le, h⟩ := h
  have hb := pIts_ok (st := ((w.sg.length : Nat) : Int) + 1) gd.k
  have pn := plL_nn l gd.k
  obtain ⟨sg, nm, ed, bg, fn, bl⟩ := w
  have a1 : nm.length = sg.length := hw.nm
  have a2 : bg.length ≤ sg.length := hw.bg
  have a3 : fn.length ≤ sg.length := hw.fn
  have a4 : ed.length ≤ sg.length * sg.length := hw.ed
  have el : (sg.map D.str).length = sg.length := List.length_map _
  refine ⟨rfl, ?_⟩
  refine ⟨(((sg.map D.str).length : Nat) : Int) + 1, l, _, rfl, .inr rfl, dp, gd, ?_⟩
  rw [el]
  generalize hB : pIts (((sg.length : Nat) : Int) + 1) l = B at *
  obtain ⟨sg2, nm2, ed2, bg2, fn2, bl2⟩ := B
  have b1 : nm2.length = sg2.length := hb.1.nm
  have b2 : bg2.length ≤ sg2.length := hb.1.bg
  have b3 : fn2.length ≤ sg2.length := hb.1.fn
  have b4 : ed2.length ≤ sg2.length * sg2.length := hb.1.ed
  have b5 : ((sg2.length : Nat) : Int) = plL l := hb.2
  have le' : ((sg.length : Nat) : Int) + 1 + plL l ≤ 400 := le
  have m1 := mul_le400 (Nat.le_refl sg.length) (Nat.le_refl _) (by omega : sg.length ≤ 400)
  have m2 := mul_le400 (Nat.le_refl sg2.length) (Nat.le_refl _) (by omega : sg2.length ≤ 400)
  have big : 1000000 ≤ sizeLine := by decide
  show (fn.map D.int).length < 1000000 ∧ _
  refine ⟨by rw [List.length_map]; omega, ?_⟩
  refine lc_all D.int (fun x => Tl.pairD (x, ((sg.length : Nat) : Int))) fn _ (fun x _ k hk => ?_) ?_
  · exact hk
  show (bg2.map D.int).length < 1000000 ∧ _
  refine ⟨by rw [List.length_map]; omega, ?_⟩
  refine lc_all D.int (fun y => Tl.pairD (((sg.length : Nat) : Int), y)) bg2 _ (fun x _ k hk => ?_) ?_
  · exact hk
  have e : (pLine ⟨sg, nm, ed, bg, fn, bl⟩ l).d = .tup [.lst ((sg.map D.str ++ [.str "\n"]) ++ sg2.map D.str), .lst ((nm.map D.str ++ [.str ""]) ++ nm2.map D.str), .lst ((ed.map Tl.pairD ++ (fn.map (fun x => Tl.pairD (x, ((sg.length : Nat) : Int))) ++ bg2.map fun y => Tl.pairD (((sg.length : Nat) : Int), y))) ++ ed2.map Tl.pairD), .lst (if bl then bg.map D.int ++ bg2.map D.int else bg.map D.int), .lst (if bl2 then fn2.map D.int ++ fn.map D.int else fn2.map D.int), .bl (bl && bl2)] := by
    unfold pLine
    simp only [hB]
    show D.tup [.lst ((sg ++ [mk [10]] ++ sg2).map D.str), .lst ((nm ++ [SX.S []] ++ nm2).map D.str), .lst ((ed ++ ((fn.map fun x => (x, ((sg.length : Nat) : Int))) ++ bg2.map fun y => (((sg.length : Nat) : Int), y)) ++ ed2).map Tl.pairD), .lst ((if bl then bg ++ bg2 else bg).map D.int), .lst ((if bl2 then fn2 ++ fn else fn2).map D.int), .bl (bl && bl2)] = _
    simp only [List.map_append, List.map_map]
    cases bl <;> cases bl2 <;> simp only [if_true, Bool.false_eq_true, if_false, List.map_append] <;> rfl
  rw [e] at h
  have c0 : (fn.map (fun x => Tl.pairD (x, ((sg.length : Nat) : Int)))).length + (bg2.map fun y => Tl.pairD (((sg.length : Nat) : Int), y)).length ≤ sizeLine := by rw [List.length_map, List.length_map]; omega
  have c1 : (bg.map D.int).length + (bg2.map D.int).length ≤ sizeLine := by rw [List.length_map, List.length_map]; omega
  have c2 : (fn2.map D.int).length + (fn.map D.int).length ≤ sizeLine := by rw [List.length_map, List.length_map]; omega
  have c3 : (sg.map D.str).length + [D.str "\n"].length ≤ sizeLine := by rw [List.length_map, List.length_singleton]; omega
  have c4 : (sg.map D.str ++ [D.str "\n"]).length + (sg2.map D.str).length ≤ sizeLine := by rw [List.length_append, List.length_map, List.length_map, List.length_singleton]; omega
  have c5 : (nm.map D.str).length + [D.str ""].length ≤ sizeLine := by rw [List.length_map, List.length_singleton]; omega
  have c6 : (nm.map D.str ++ [D.str ""]).length + (nm2.map D.str).length ≤ sizeLine := by rw [List.length_append, List.length_map, List.length_map, List.length_singleton]; omega
  have c7 : (ed.map Tl.pairD).length + (fn.map (fun x => Tl.pairD (x, ((sg.length : Nat) : Int))) ++ bg2.map fun y => Tl.pairD (((sg.length : Nat) : Int), y)).length ≤ sizeLine := by rw [List.length_append, List.length_map, List.length_map, List.length_map]; omega
  have c8 : (ed.map Tl.pairD ++ (fn.map (fun x => Tl.pairD (x, ((sg.length : Nat) : Int))) ++ bg2.map fun y => Tl.pairD (((sg.length : Nat) : Int), y))).length + (ed2.map Tl.pairD).length ≤ sizeLine := by rw [List.length_append, List.length_append, List.length_map, List.length_map, List.length_map, List.length_map]; omega
  cases bl <;> cases bl2
  · exact ⟨c0, c3, c4, c5, c6, c7, c8, h⟩
  · exact ⟨c0, c2, c3, c4, c5, c6, c7, c8, h⟩
  · exact ⟨c0, c1, c3, c4, c5, c6, c7, c8, h⟩
  · exact ⟨c0, c1, c2, c3, c4, c5, c6, c7, c8, h⟩
structure PcIn (lo hi : Int) (p : Pc) : Prop where
  ed : ∀ q ∈ p.ed, lo ≤ q.1 ∧ q.1 < hi ∧ lo ≤ q.2 ∧ q.2 < hi
  bg : ∀ x ∈ p.bg, lo ≤ x ∧ x < hi
  fn : ∀ x ∈ p.fn, lo ≤ x ∧ x < hi
theorem pThen_in {lo mid hi : Int} {a b : Pc} (h1 : lo ≤ mid) (h2 : mid ≤ hi) (ha : PcIn lo mid a) (hb : PcIn mid hi b) : PcIn lo hi (pThen a b) := by
  refine ⟨fun q hq => ?_, fun x hx => ?_, fun x hx => ?_⟩
  · have hq' : q ∈ a.ed ++ b.ed ++ (a.fn.flatMap fun x => b.bg.map fun y => (x, y)) := hq
    rcases List.mem_append.mp hq' with m | m
    · rcases List.mem_append.mp m with m | m
      · have := ha.ed q m; omega
      · have := hb.ed q m; omega
    · obtain ⟨x, mx, m⟩ := List.mem_flatMap.mp m
      obtain ⟨y, my, rfl⟩ := List.mem_map.mp m
      have := ha.fn x mx
      have := hb.bg y my
      simp only
      omega
  · have hx' : x ∈ (if a.bl then a.bg ++ b.bg else a.bg) := hx
    split at hx'
    · rcases List.mem_append.mp hx' with m | m
      · have := ha.bg x m; omega
      · have := hb.bg x m; omega
    · have := ha.bg x hx'; omega
  · have hx' : x ∈ (if b.bl then b.fn ++ a.fn else b.fn) := hx
    split at hx'
    · rcases List.mem_append.mp hx' with m | m
      · have := hb.fn x m; omega
      · have := ha.fn x m; omega
    · have := hb.fn x hx'; omega
theorem pNil_in (lo hi : Int) : PcIn lo hi pNil := ⟨(fun q m => nomatch m), (fun q m => nomatch m), (fun q m => nomatch m)⟩
theorem pRun_in {st : Int} {r : Rn} {name : Str} (h : RnOk r) : PcIn st (st + r.pl) (pRun st r name) := by
  have p1 := (rn_pl1 h).1
  have l0 := h.l0
  have pn : ((r.plN : Nat) : Int) = r.pl := by unfold Rn.plN; omega
  refine ⟨fun q hq => ?_, fun x hx => ?_, fun x hx => ?_⟩
  · have hq' : q ∈ (if r.m = none then [(st + (r.plN : Int) - 1, st + (r.plN : Int) - 1)] else []) ++ (List.range (r.plN - 1)).map fun i : Nat => (st + (i : Nat), st + (i : Nat) + 1) := hq
    rcases List.mem_append.mp hq' with m | m
    · split at m
      · rw [List.mem_singleton] at m
        subst m
        simp only
        omega
      · exact nomatch m
    · obtain ⟨i, mi, rfl⟩ := List.mem_map.mp m
      rw [List.mem_range] at mi
      simp only
      omega
  · have hx' : x ∈ [st] := hx
    rw [List.mem_singleton] at hx'
    omega
  · have hx' : x ∈ (List.range (r.plN - ((max r.l 1).toNat - 1))).map fun i : Nat => st + (max r.l 1 - 1 + (i : Nat)) := hx
    obtain ⟨i, mi, rfl⟩ := List.mem_map.mp hx'
    rw [List.mem_range] at mi
    omega
theorem pRowGo_in (lo st : Int) (name : Str) : ∀ (row : Rw) (acc : Pc), (∀ x ∈ row, RnOk x) → PcOk acc → lo ≤ st → PcIn lo (st + acc.sg.length) acc → PcIn lo (st + (pRowGo st name acc row).sg.length) (pRowGo st name acc row)
  | [], acc, _, _, _, h => h
  | r :: row, acc, h, ha, hl, hi => by
    have ok := pRun_ok (st := st + acc.sg.length) (name := name) (h r List.mem_cons_self)
    have p1 := (rn_pl1 (h r List.mem_cons_self)).1
    have i2 := pRun_in (st := st + acc.sg.length) (name := name) (h r List.mem_cons_self)
    refine pRowGo_in lo st name row (pThen acc (pRun (st + acc.sg.length) r name)) (fun x m => h x (List.mem_cons_of_mem _ m)) (pThen_ok ha ok.1) hl ?_
    rw [pThen_len]
    have e : st + ((acc.sg.length + (pRun (st + acc.sg.length) r name).sg.length : Nat) : Int) = st + acc.sg.length + r.pl := by have := ok.2; omega
    rw [e]
    exact pThen_in (by omega) (by omega) hi i2
theorem pRow_in {st : Int} {row : Rw} {name : Str} (h : ∀ x ∈ row, RnOk x) : PcIn st (st + (pRow st row name).sg.length) (pRow st row name) := pRowGo_in st st name row pNil h pNil_ok (by omega) (pNil_in _ _)
theorem PcIn.up {lo hi lo' hi' : Int} {p : Pc} (h : PcIn lo hi p) (h1 : lo' ≤ lo) (h2 : hi ≤ hi') : PcIn lo' hi' p :=
  ⟨fun q m => by have := h.ed q m; omega, fun q m => by have := h.bg q m; omega, fun q m => by have := h.fn q m; omega⟩
theorem pAdd_in {lo hi : Int} {a b : Pc} (ha : PcIn lo hi a) (hb : PcIn lo hi b) : PcIn lo hi (pAdd a b) := by
  refine ⟨fun q hq => ?_, fun x hx => ?_, fun x hx => ?_⟩
  · rcases List.mem_append.mp (show q ∈ a.ed ++ b.ed from hq) with m | m
    · exact ha.ed q m
    · exact hb.ed q m
  · rcases List.mem_append.mp (show x ∈ a.bg ++ b.bg from hx) with m | m
    · exact ha.bg x m
    · exact hb.bg x m
  · rcases List.mem_append.mp (show x ∈ a.fn ++ b.fn from hx) with m | m
    · exact ha.fn x m
    · exact hb.fn x m
theorem pKindGo_in (st : Int) (name : Str) : ∀ (rows : List Rw) (acc : Pc), okR rows → PcIn st (st + acc.sg.length) acc → PcIn st (st + (pKindGo st name acc rows).sg.length) (pKindGo st name acc rows)
  | [], acc, _, h => h
  | r :: rows, acc, h, hi => by
    have i2 := pRow_in (st := st + acc.sg.length) (name := name) (h r List.mem_cons_self)
    refine pKindGo_in st name rows (pAdd acc (pRow (st + acc.sg.length) r name)) (fun x m => h x (List.mem_cons_of_mem _ m)) ?_
    have e : (pAdd acc (pRow (st + acc.sg.length) r name)).sg.length = acc.sg.length + (pRow (st + acc.sg.length) r name).sg.length := List.length_append
    rw [e]
    exact pAdd_in (hi.up (by omega) (by omega)) (i2.up (by omega) (by omega))
theorem pKind_in {st : Int} {rows : List Rw} {name : Str} (h : okR rows) : PcIn st (st + (pKind st rows name).sg.length) (pKind st rows name) := pKindGo_in st name rows pEmp h ⟨(fun q m => nomatch m), (fun q m => nomatch m), (fun q m => nomatch m)⟩
theorem pSign_in (p : Int) (c : Str) : PcIn p (p + 1) (pSign p c) := ⟨(fun q m => nomatch m), fun q m => by have e : q = p := List.mem_singleton.mp m; omega, fun q m => by have e : q = p := List.mem_singleton.mp m; omega⟩
theorem pMarkGo_in (st : Int) : ∀ (l : List Nat) (acc : Pc) (i : Nat), acc.sg.length = i → PcOk acc → PcIn st (st + acc.sg.length) acc → PcIn st (st + (pMarkGo st acc i l).sg.length) (pMarkGo st acc i l)
  | [], acc, i, _, _, h => h
  | c :: l, acc, i, e, ha, hi => by
    refine pMarkGo_in st l (pThen acc (pSign (st + (i : Nat)) (sgn c))) (i + 1) (by rw [pThen_len, e]; rfl) (pThen_ok ha (pSign_ok _ _)) ?_
    have e2 : st + ((pThen acc (pSign (st + (i : Nat)) (sgn c))).sg.length : Nat) = st + (i : Nat) + 1 := by
      rw [pThen_len, e]
      show st + ((i + 1 : Nat) : Int) = _
      omega
    rw [e2]
    rw [e] at hi
    exact pThen_in (by omega) (by omega) hi (pSign_in _ _)
theorem pMark_in (st : Int) (z : Str) : PcIn st (st + (pMark st z).sg.length) (pMark st z) := pMarkGo_in st (T z) pNil 0 rfl pNil_ok (pNil_in _ _)
mutual
theorem pItem_in : ∀ (x : It) (st : Int), okK x → PcIn st (st + (pItem st x).sg.length) (pItem st x)
  | .fld n rows, st, h => by
    rw [okK] at h
    rw [pItem]
    exact pKind_in h
  | .mrk z, st, h => by
    rw [pItem]
    exact pMark_in st z
  | .grp ps, st, h => by
    rw [okK] at h
    rw [pItem]
    have := pItGo_in ps st pNil h pNil_ok (pNil_in _ _)
    exact ⟨this.ed, this.bg, this.fn⟩
theorem pItGo_in : ∀ (l : List It) (st : Int) (acc : Pc), okKs l → PcOk acc → PcIn st (st + acc.sg.length) acc → PcIn st (st + (pItGo st acc l).sg.length) (pItGo st acc l)
  | [], st, acc, _, _, hi => by rw [pItGo]; exact hi
  | x :: r, st, acc, h, ha, hi => by
    rw [okKs] at h
    have ok := pItem_ok x (st + acc.sg.length) h.1
    have i2 := pItem_in x (st + acc.sg.length) h.1
    rw [pItGo]
    refine pItGo_in r st (pThen acc (pItem (st + acc.sg.length) x)) h.2 (pThen_ok ha ok.1) ?_
    rw [pThen_len]
    have e : st + ((acc.sg.length + (pItem (st + acc.sg.length) x).sg.length : Nat) : Int) = st + acc.sg.length + (pItem (st + acc.sg.length) x).sg.length := by omega
    rw [e]
    exact pThen_in (by omega) (by omega) hi i2
end
theorem pIts_in {st : Int} {l : List It} (h : okKs l) : PcIn st (st + (pIts st l).sg.length) (pIts st l) := pItGo_in l st pNil h pNil_ok (pNil_in _ _)
theorem pLine_len (w : Pc) (l : List It) : (pLine w l).sg.length = w.sg.length + 1 + (pIts (((w.sg.length : Nat) : Int) + 1) l).sg.length := by
  show (w.sg ++ [mk [10]] ++ (pIts (((w.sg.length : Nat) : Int) + 1) l).sg).length = _
  rw [List.length_append, List.length_append]; rfl
theorem pLine_in {w : Pc} {l : List It} (h : okKs l) (hw : PcIn 0 w.sg.length w) : PcIn 0 (pLine w l).sg.length (pLine w l) := by
  have i2 := pIts_in (st := ((w.sg.length : Nat) : Int) + 1) h
  rw [pLine_len]
  refine ⟨fun q hq => ?_, fun x hx => ?_, fun x hx => ?_⟩
  · have hq' : q ∈ w.ed ++ ((w.fn.map fun x => (x, ((w.sg.length : Nat) : Int))) ++ (pIts (((w.sg.length : Nat) : Int) + 1) l).bg.map fun y => (((w.sg.length : Nat) : Int), y)) ++ (pIts (((w.sg.length : Nat) : Int) + 1) l).ed := hq
    rcases List.mem_append.mp hq' with m | m
    · rcases List.mem_append.mp m with m | m
      · have := hw.ed q m; omega
      · rcases List.mem_append.mp m with m | m
        · obtain ⟨x, mx, rfl⟩ := List.mem_map.mp m
          have := hw.fn x mx
          first | omega | (dsimp only; omega)
        · obtain ⟨x, mx, rfl⟩ := List.mem_map.mp m
          have := i2.bg x mx
          first | omega | (dsimp only; omega)
    · have := i2.ed q m; omega
  · have hx' : x ∈ (if w.bl then w.bg ++ (pIts (((w.sg.length : Nat) : Int) + 1) l).bg else w.bg) := hx
    split at hx'
    · rcases List.mem_append.mp hx' with m | m
      · have := hw.bg x m; omega
      · have := i2.bg x m; omega
    · have := hw.bg x hx'; omega
  · have hx' : x ∈ (if (pIts (((w.sg.length : Nat) : Int) + 1) l).bl then (pIts (((w.sg.length : Nat) : Int) + 1) l).fn ++ w.fn else (pIts (((w.sg.length : Nat) : Int) + 1) l).fn) := hx
    split at hx'
    · rcases List.mem_append.mp hx' with m | m
      · have := i2.fn x m; omega
      · have := hw.fn x m; omega
    · have := i2.fn x hx'; omega
theorem pLine_ok {w : Pc} {l : List It} (h : okKs l) (hw : PcOk w) : PcOk (pLine w l) := by
  obtain ⟨a1, a2, a3, a4⟩ := hw
  obtain ⟨⟨b1, b2, b3, b4⟩, _⟩ := pIts_ok (st := ((w.sg.length : Nat) : Int) + 1) h
  refine ⟨?_, ?_, ?_, ?_⟩
  · show (w.nm ++ [SX.S []] ++ (pIts (((w.sg.length : Nat) : Int) + 1) l).nm).length = (pLine w l).sg.length
    rw [pLine_len, List.length_append, List.length_append, List.length_singleton]; omega
  · rw [pLine_len]
    show (if w.bl then w.bg ++ (pIts (((w.sg.length : Nat) : Int) + 1) l).bg else w.bg).length ≤ _
    split
    · rw [List.length_append]; omega
    · omega
  · rw [pLine_len]
    show (if (pIts (((w.sg.length : Nat) : Int) + 1) l).bl then (pIts (((w.sg.length : Nat) : Int) + 1) l).fn ++ w.fn else (pIts (((w.sg.length : Nat) : Int) + 1) l).fn).length ≤ _
    split
    · rw [List.length_append]; omega
    · omega
  · rw [pLine_len]
    show (w.ed ++ ((w.fn.map fun x => (x, ((w.sg.length : Nat) : Int))) ++ (pIts (((w.sg.length : Nat) : Int) + 1) l).bg.map fun y => (((w.sg.length : Nat) : Int), y)) ++ (pIts (((w.sg.length : Nat) : Int) + 1) l).ed).length ≤ _
    simp only [List.length_append, List.length_map]
    have h1 := sq_add (w.sg.length + 1) (pIts (((w.sg.length : Nat) : Int) + 1) l).sg.length
    have h2 := sq_add w.sg.length 1
    have h3 : (pIts (((w.sg.length : Nat) : Int) + 1) l).sg.length ≤ (w.sg.length + 1) * (pIts (((w.sg.length : Nat) : Int) + 1) l).sg.length := Nat.le_mul_of_pos_left _ (by omega)
    omega
end Tw
end
section
set_option maxHeartbeats 1000000
namespace Tw
open PySem PySem.Spec PyProof.Rows L2 Tl
variable (cs errs : List Str)
theorem ints_D : ∀ l : List Int, intsD (l.map D.int) = some l
  | [] => rfl
  | i :: l => by
    show (intsD (l.map D.int)).map (i :: ·) = _
    rw [ints_D l]; rfl
theorem l_Layout_init : ∀ as φ ψ, g_Layout_init cs as φ ψ → as.length = 1 := fun as φ ψ h => by
  obtain ⟨z, rfl, h⟩ := h; rfl
theorem u_Layout_init : ∀ as φ ψ, g_Layout_init cs as φ ψ → runM "Layout" 7 (b_Layout_init cs errs) as φ ψ := fun as φ ψ h => by
  obtain ⟨p, rfl, ok, le, ein, h⟩ := h
  intro q
  obtain ⟨sg, nm, ed, bg, fn, bl⟩ := p
  have a4 : ed.length ≤ sg.length * sg.length := ok.ed
  have le' : sg.length ≤ 400 := le
  have m1 := mul_le400 (Nat.le_refl sg.length) (Nat.le_refl _) le'
  have el : (sg.map D.str).length = sg.length := List.length_map _
  refine ⟨rfl, List.mem_cons_self, by decide, by decide, List.mem_cons_self, by decide, by decide, ?_⟩
  refine ⟨(sg.map D.str).length, ed, rfl, by omega, by omega, by rw [el]; exact ein, List.mem_cons_self, by decide, by decide, ?_⟩
  show (match intsD (bg.map D.int) with | some ns => _ | none => False)
  rw [ints_D]
  intro ms pm so
  have e1 := srtI_is pm so
  refine ⟨List.mem_cons_self, by decide, by decide, ?_⟩
  show (match intsD (fn.map D.int) with | some ns => _ | none => False)
  rw [ints_D]
  intro ms2 pm2 so2
  have e2 := srtI_is pm2 so2
  refine ⟨List.mem_cons_self, by decide, by decide, List.mem_cons_self, by decide, by decide, rfl, rfl, ?_⟩
  unfold layD at h
  show φ (.obj "Layout" ["signs_at", "names_at", "follows", "begins", "finishes", "blank"] [.lst (sg.map D.str), .lst (nm.map D.str), .lst ((folL (sg.map D.str).length ed).map fun l => .lst (l.map D.int)), .lst (ms.map D.int), .lst (ms2.map D.int), .bl bl])
  rw [el, e1, e2]
  exact h
theorem pLines_snoc : ∀ (ls : List (List It)) (w : Pc) (l : List It), pLines w (ls ++ [l]) = pLine (pLines w ls) l
  | [], w, l => rfl
  | x :: ls, w, l => by
    show pLines (pLine w x) (ls ++ [l]) = _
    rw [pLines_snoc ls]; rfl
theorem pLines_ok : ∀ (ls : List (List It)) (w : Pc), (∀ l ∈ ls, okKs l) → PcOk w → PcIn 0 w.sg.length w → PcOk (pLines w ls) ∧ PcIn 0 (pLines w ls).sg.length (pLines w ls) ∧ (((pLines w ls).sg.length : Nat) : Int) = w.sg.length + ((ls.length : Nat) : Int) + (ls.map plL).sum
  | [], w, _, h1, h2 => ⟨h1, h2, by show ((w.sg.length : Nat) : Int) = w.sg.length + ((0 : Nat) : Int) + 0; omega⟩
  | l :: ls, w, h, h1, h2 => by
    have k := h l List.mem_cons_self
    have := pLines_ok ls (pLine w l) (fun x m => h x (List.mem_cons_of_mem _ m)) (pLine_ok k h1) (pLine_in k h2)
    refine ⟨this.1, this.2.1, ?_⟩
    have e := this.2.2
    rw [pLine_len] at e
    have e2 := (pIts_ok (st := ((w.sg.length : Nat) : Int) + 1) k).2
    show (((pLines (pLine w l) ls).sg.length : Nat) : Int) = _
    rw [e, List.map_cons, List.sum_cons, List.length_cons]
    omega
theorem plLs_nn : ∀ ls : List (List It), (∀ l ∈ ls, okKs l) → 0 ≤ (ls.map plL).sum
  | [], _ => by decide
  | l :: ls, h => by
    rw [List.map_cons, List.sum_cons]
    have := plL_nn l (h l List.mem_cons_self)
    have := plLs_nn ls fun x m => h x (List.mem_cons_of_mem _ m)
    omega
theorem cut_tail (a : D) (l : List D) : Tl.cutD (a :: l) (some 1) none = l := by
  unfold Tl.cutD
  have e1 : HT.sIx (a :: l).length 0 (some 1) = 1 := by
    have := HT.sIx_nat (a :: l).length 0 1
    rw [List.length_cons, Nat.min_eq_left (by omega)] at this
    exact this
  have e2 : HT.sIx (a :: l).length (a :: l).length none = (a :: l).length := rfl
  rw [e1, e2, List.drop_succ_cons, List.drop_zero, List.length_cons, Nat.add_sub_cancel, List.take_length]
theorem u_form_layout : ∀ as φ ψ, g_form_layout cs as φ ψ → as.length = 1 ∧ runF 3 (b_form_layout cs errs) as φ ψ := fun as φ ψ h => by
  obtain ⟨ls, rfl, gf, h⟩ := h
  cases ls with
  | nil => have := gf.ge; cases this
  | cons l0 ls =>
    have k0 := (gf.ok l0 List.mem_cons_self).k
    have kr : ∀ l ∈ ls, okKs l := fun l m => (gf.ok l (List.mem_cons_of_mem _ m)).k
    have p0 := pIts_ok (st := 0) k0
    have i0 := pIts_in (st := 0) k0
    rw [Int.zero_add] at i0
    have pb : (((l0 :: ls).length : Nat) : Int) - 1 + ((l0 :: ls).map plL).sum ≤ 200 := gf.pl
    rw [List.map_cons, List.sum_cons, List.length_cons] at pb
    have n0 := plL_nn l0 k0
    refine ⟨rfl, ?_⟩
    show (match atI ((l0 :: ls).map (rowE true)) 0 with | some d => _ | none => False)
    have a0 : atI ((l0 :: ls).map (rowE true)) 0 = some (rowE true l0) := atI_nat (j := 0) rfl
    rw [a0]
    refine ⟨0, l0, _, rfl, .inr rfl, gf.dep l0 List.mem_cons_self, gf.ok l0 List.mem_cons_self, ?_⟩
    show forA _ _ (Tl.cutD ((l0 :: ls).map (rowE true)) (some 1) none) _ _ _
    rw [List.map_cons, cut_tail]
    refine for_all (rowE true) ls (fun pre env => ∃ x, env = [.val (lnsD true (l0 :: ls)), .val (pLines (pIts 0 l0) pre).d, x]) ⟨.no, rfl⟩ (fun pre l suf env k e hs hk => ?_) (fun env hs => ?_)
    · obtain ⟨x0, rfl⟩ := hs
      have ml : l ∈ l0 :: ls := List.mem_cons_of_mem _ (by rw [e]; simp)
      have kp : ∀ x ∈ pre, okKs x := fun x m => kr x (by rw [e]; exact List.mem_append_left _ m)
      have ks : ∀ x ∈ suf, okKs x := fun x m => kr x (by rw [e]; exact List.mem_append_right _ (List.mem_cons_of_mem _ m))
      have pp := pLines_ok pre (pIts 0 l0) kp p0.1 i0
      have ns := plLs_nn suf ks
      have es : (ls.map plL).sum = (pre.map plL).sum + (plL l + (suf.map plL).sum) := by rw [e, List.map_append, List.sum_append, List.map_cons, List.sum_cons]
      have el : ls.length = pre.length + (suf.length + 1) := by rw [e, List.length_append, List.length_cons]
      refine ⟨_, l, rfl, pp.1, gf.dep l ml, gf.ok l ml, ?_, hk _ ⟨.val (rowE true l), ?_⟩⟩
      · have := pp.2.2
        omega
      · rw [pLines_snoc]; rfl
    · obtain ⟨x0, rfl⟩ := hs
      have pp := pLines_ok ls (pIts 0 l0) kr p0.1 i0
      have ns := plLs_nn ls kr
      refine ⟨_, rfl, pp.1, ?_, fun q hq => ?_, h⟩
      · have := pp.2.2; omega
      · have := pp.2.1.ed q hq; omega
theorem joinM_ne {l : List It} (h : l ≠ []) : joinM l ≠ [] := by
  rcases snoc_cases l with e | ⟨m, a, e⟩
  · exact absurd e h
  · rw [e, joinM_snoc]
    rcases jStep_cases (joinM m) a with e | ⟨M, x, y, e1, e2, e⟩ <;> rw [e] <;> simp
theorem good_join {l : List It} (h : Good l) : Good (joinM l) := by
  have j := j_ok l
  exact ⟨j.ok h.ok, j.k h.k, Nat.le_trans j.sz h.sz, by rw [j.pl]; exact h.pl⟩
theorem allN_join (ls : List (List It)) : allN (ls.map joinM) = allN ls := by
  unfold allN
  induction ls with
  | nil => rfl
  | cons l ls ih => rw [List.map_cons, List.flatMap_cons, List.flatMap_cons, ih, (j_ok l).nms]
theorem allP_join (ls : List (List It)) : allP (ls.map joinM) = allP ls := by
  unfold allP
  rw [List.length_map, List.map_map]
  congr 2
  induction ls with
  | nil => rfl
  | cons l ls ih => rw [List.map_cons, List.map_cons, ih]; show plL (joinM l) :: _ = _; rw [(j_ok l).pl]
theorem goodF_join {ls : List (List It)} (h : GoodF ls) : GoodF (ls.map joinM) where
  ge := by rw [List.length_map]; exact h.ge
  le := by rw [List.length_map]; exact h.le
  ne := fun l m => by obtain ⟨x, mx, rfl⟩ := List.mem_map.mp m; exact joinM_ne (h.ne x mx)
  ok := fun l m => by obtain ⟨x, mx, rfl⟩ := List.mem_map.mp m; exact good_join (h.ok x mx)
  dep := fun l m => by obtain ⟨x, mx, rfl⟩ := List.mem_map.mp m; rw [(j_ok x).dep]; exact h.dep x mx
  nd := by rw [allN_join]; exact h.nd
  few := by rw [allN_join]; exact h.few
  pl := by rw [allP_join]; exact h.pl
theorem l_Form_init : ∀ as φ ψ, g_Form_init cs as φ ψ → as.length = 1 := fun as φ ψ h => by
  obtain ⟨b, z, rfl, h⟩ := h; rfl
theorem u_Form_init : ∀ as φ ψ, g_Form_init cs as φ ψ → runM "Form" 1 (b_Form_init cs errs) as φ ψ := fun as φ ψ h => by
  obtain ⟨b, ls, rfl, gf, h⟩ := h
  intro q
  exact ⟨b, ls, rfl, gf, List.mem_cons_self, by decide, by decide, List.mem_cons_self, ls.map joinM, rfl, goodF_join gf, List.mem_cons_self, by decide, by decide, rfl, rfl, h⟩
end Tw
end
namespace Tw
open PySem PySem.Spec PyProof.Rows L2 Tl
mutual
def cnv : It → It
  | .fld n rows => .fld n (kept rows)
  | .mrk z => .mrk z
  | .grp ps => .grp (joinM (cnvL ps))
def cnvL : List It → List It
  | [] => []
  | a :: r => cnv a :: cnvL r
end
mutual
def rawI : It → Prop
  | .fld n rows => NameS n ∧ GRows rows
  | .mrk z => Ok z ∧ 1 ≤ z.length ∧ z.length ≤ 3
  | .grp ps => rawL ps ∧ ps ≠ [] ∧ ownN ps ≠ []
def rawL : List It → Prop
  | [] => True
  | a :: r => rawI a ∧ rawL r
end
end Tw
section
set_option maxHeartbeats 1000000
namespace Tw
open PySem PySem.Spec PyProof.Rows L2 Tl
variable (cs errs : List Str)
theorem cnvL_map : ∀ l : List It, cnvL l = l.map cnv
  | [] => by rw [cnvL]; rfl
  | a :: r => by rw [cnvL, cnvL_map r]; rfl
theorem grows_w {rows : List Rw} (h : GRows rows) : ∀ r ∈ rows, GRw r := fun r m => ⟨h.r r m, (h.w r m).1, (h.w r m).2⟩
theorem grows_ne {rows : List Rw} (h : GRows rows) : rows ≠ [] := fun e => by have := h.n.1; rw [e] at this; cases this
theorem kept_ks {rows : List Rw} (h : GRows rows) : Ks (kept rows) := ks_kept (grows_w h) (grows_ne h) h.n.2
theorem grn_ok {x : Rn} (h : GRn x) : RnOk x := ⟨h.l0, by have := h.l1; omega, fun i e => by have := h.m i e; omega⟩
theorem kept_okR {rows : List Rw} (h : GRows rows) : okR (kept rows) := fun r m x mx => grn_ok (h.r r (kept_mem.mp m) x mx)
theorem kept_noE {rows : List Rw} (h : GRows rows) : hasE (kept rows) = false := by
  unfold hasE
  rw [List.any_eq_false]
  intro r m
  obtain ⟨x, mx, hx⟩ := h.e r (kept_mem.mp m)
  rw [Bool.not_eq_true, List.all_eq_false]
  exact ⟨x, mx, by rw [decide_eq_true_eq]; omega⟩
structure Cnv (a b : List It) : Prop where
  dep : depL b = depL a
  nms : nmsL b = nmsL a
  own : ownN b = ownN a
  sz : szL b ≤ szL a
  ok : okL b
  k : okKs b
mutual
theorem cnv_ok : ∀ x : It, rawI x → Cnv [x] [cnv x]
  | .fld n rows, h => by
    rw [rawI] at h
    rw [cnv]
    refine ⟨?_, ?_, ?_, ?_, ?_, ?_⟩
    · rw [depL_one, depL_one, It.dep, It.dep]
    · rw [nmsL_one, nmsL_one, It.nms, It.nms]
    · simp only [ownN]
    · rw [szL_one, szL_one, It.sz, It.sz]; exact Nat.le_refl _
    · rw [okL_one, okI]; exact ⟨h.1, kept_ks h.2, kept_noE h.2⟩
    · rw [okKs, okKs, okK]; exact ⟨kept_okR h.2, trivial⟩
  | .mrk z, h => by
    rw [rawI] at h
    rw [cnv]
    refine ⟨rfl, rfl, rfl, Nat.le_refl _, ?_, ?_⟩
    · rw [okL_one, okI]; exact ⟨h.1, h.2.1⟩
    · rw [okKs, okKs, okK]; exact ⟨trivial, trivial⟩
  | .grp ps, h => by
    rw [rawI] at h
    rw [cnv]
    have c := cnvL_ok ps h.1
    have j := j_ok (cnvL ps)
    refine ⟨?_, ?_, ?_, ?_, ?_, ?_⟩
    · rw [depL_one, depL_one, It.dep, It.dep, j.dep, c.dep]
    · rw [nmsL_one, nmsL_one, It.nms, It.nms, j.nms, c.nms]
    · simp only [ownN]
    · rw [szL_one, szL_one, It.sz, It.sz]; have := j.sz; have := c.sz; omega
    · rw [okL_one, okI]
      refine ⟨j.ok c.ok, ?_, by rw [j.own, c.own]; exact h.2.2⟩
      refine joinM_ne fun e => ?_
      rw [cnvL_map, List.map_eq_nil_iff] at e
      exact h.2.1 e
    · rw [okKs, okKs, okK]; exact ⟨j.k c.k, trivial⟩
theorem cnvL_ok : ∀ l : List It, rawL l → Cnv l (cnvL l)
  | [], _ => by
    rw [cnvL]
    exact ⟨rfl, rfl, rfl, Nat.le_refl _, by rw [okL]; trivial, by rw [okKs]; trivial⟩
  | a :: r, h => by
    rw [rawL] at h
    have c1 := cnv_ok a h.1
    have c2 := cnvL_ok r h.2
    have e : cnvL (a :: r) = [cnv a] ++ cnvL r := by rw [cnvL]; rfl
    have e2 : a :: r = [a] ++ r := rfl
    rw [e, e2]
    refine ⟨?_, ?_, ?_, ?_, ?_, ?_⟩
    · rw [depL_app, depL_app, c1.dep, c2.dep]
    · rw [nmsL_app, nmsL_app, c1.nms, c2.nms]
    · rw [ownN_app, ownN_app, c1.own, c2.own]
    · rw [szL_app, szL_app]; have := c1.sz; have := c2.sz; omega
    · rw [okL_app]; exact ⟨c1.ok, c2.ok⟩
    · rw [okKs_app]; exact ⟨c1.k, c2.k⟩
end
theorem cnvL_good {ps : List It} (h : rawL ps) (sz : szL ps ≤ 10000) (pl : plL (cnvL ps) ≤ 200) : Good (cnvL ps) := by
  have c := cnvL_ok ps h
  exact ⟨c.ok, c.k, Nat.le_trans c.sz sz, pl⟩
end Tw
end
namespace Tw
open PySem PySem.Spec PyProof.Rows L2 Tl
/-- the signs are a word of the run -/
structure FitR (r : Rn) (l : List Nat) : Prop where
  ge : r.l ≤ l.length
  le : ∀ i, r.m = some i → (l.length : Int) ≤ i
  m : ∀ c ∈ l, c ∈ T r.s
def Desc : Rw → List Nat → Prop
  | [], l => l = []
  | r :: rs, l => ∃ a b, l = a ++ b ∧ FitR r a ∧ Desc rs b
def InK (rows : List Rw) (z : Str) : Prop := ∃ row ∈ rows, Desc row (T z)
/-- how many signs a run takes at most, e more than it must if it is endless -/
def wid1 (e : Int) (r : Rn) : Int := match r.m with
  | some i => i
  | none => r.l + e
def widR (e : Int) (row : Rw) : Int := (row.map (wid1 e)).sum
/-- a value -/
structure Val (e : Int) (rows : List Rw) (z : Str) : Prop where
  k : InK rows z
  ok : Ok z
  ge : 1 ≤ z.length
  le : ∃ row ∈ rows, (z.length : Int) ≤ widR e row
end Tw
section
set_option maxHeartbeats 1000000
namespace Tw
open PySem PySem.Spec PyProof.Rows L2 Tl
variable (cs errs : List Str)
theorem wid_nn {e : Int} (e0 : 0 ≤ e) : ∀ {row : Rw}, (∀ x ∈ row, GRn x) → 0 ≤ widR e row ∧ (e ≤ 60 → widR e row ≤ 63 * row.length)
  | [], _ => ⟨Int.le_refl 0, fun _ => Int.le_refl 0⟩
  | x :: row, h => by
    obtain ⟨h1, h2⟩ := wid_nn e0 (row := row) fun y m => h y (List.mem_cons_of_mem _ m)
    have g := h x List.mem_cons_self
    have l0 := g.l0
    have l1 := g.l1
    have e1 : widR e (x :: row) = wid1 e x + widR e row := by unfold widR; rw [List.map_cons, List.sum_cons]
    have w : 0 ≤ wid1 e x ∧ (e ≤ 60 → wid1 e x ≤ 63) := by
      unfold wid1
      cases em : x.m with
      | none => show 0 ≤ x.l + e ∧ (e ≤ 60 → x.l + e ≤ 63); omega
      | some i => have := g.m i em; show 0 ≤ i ∧ (e ≤ 60 → i ≤ 63); omega
    rw [e1, List.length_cons]
    exact ⟨by omega, fun z => by have := h2 z; have := w.2 z; omega⟩
theorem val_len {rows : List Rw} {e : Int} (hg : GRows rows) (e0 : 0 ≤ e) (e1 : e ≤ 60) {row pre : Rw} (m : row ∈ rows) (hp : ∃ suf, row = pre ++ suf) {z : Str} (h : (z.length : Int) ≤ widR e pre) : z.length ≤ 189 := by
  obtain ⟨suf, rfl⟩ := hp
  have := (wid_nn e0 (row := pre) fun x mx => hg.r _ m x (List.mem_append_left _ mx)).2 e1
  have w := (hg.w _ m).2
  rw [List.length_append] at w
  omega
theorem Val.len {rows : List Rw} {e : Int} {z : Str} (h : Val e rows z) (hg : GRows rows) (e0 : 0 ≤ e) (e1 : e ≤ 60) : z.length ≤ 189 := by
  obtain ⟨row, m, l⟩ := h.le
  exact val_len hg e0 e1 m ⟨[], by rw [List.append_nil]⟩ l
end Tw
end
namespace Tw
open PySem PySem.Spec PyProof.Rows L2 Tl
open Classical
/-- owner and character, one for each character -/
abbrev Oc := Str × Nat
end Tw
section
set_option maxHeartbeats 1000000
namespace Tw
open PySem PySem.Spec PyProof.Rows L2 Tl
variable (cs errs : List Str)
theorem cutT {z : Str} {lo hi : Option Int} : T (cutS z lo hi) = ((T z).drop (HT.sIx (T z).length 0 lo)).take (HT.sIx (T z).length (T z).length hi - HT.sIx (T z).length 0 lo) := rfl
end Tw
end
namespace Tw
open PySem PySem.Spec PyProof.Rows L2 Tl
def sigD (z : Str) : D := .obj "Signs" ["held"] [.str z]
def g_Signs_spelled (cs : List Str) : Gs := fun as φ _ => ∃ z, as = [.val (sigD z)] ∧ φ (.str z)
end Tw
section
set_option maxHeartbeats 4000000
namespace Tw
open PySem PySem.Spec PyProof.Rows L2 Tl
def b_Signs_spelled (cs errs : List Str) : FnS := (hRet (eFld ["Signs"] "held" (eVar 0)))
end Tw
end
section
set_option maxHeartbeats 1000000
namespace Tw
open PySem PySem.Spec PyProof.Rows L2 Tl
variable (cs errs : List Str)
theorem u_Signs_spelled : ∀ as φ ψ, g_Signs_spelled cs as φ ψ → as.length = 1 ∧ runF 1 (b_Signs_spelled cs errs) as φ ψ := fun as φ ψ h => by
  obtain ⟨z, rfl, h⟩ := h
  exact ⟨rfl, List.mem_cons_self, h⟩
end Tw
end
namespace Tw
open PySem PySem.Spec PyProof.Rows L2 Tl
/-- their weight -/
def wtO (L : Nat) (os : List (List Oc)) : Nat := (os.map fun o => 8 ^ (L - o.length)).sum
/-- what can be written, all of it -/
structure AllO (L e : Nat) (W : List Oc → Prop) (os : List (List Oc)) : Prop where
  m : ∀ o, o ∈ os ↔ W o ∧ o.length ≤ L
  wt : wtO L os ≤ 2 ^ e * 8 ^ L
  nd : os.Nodup
end Tw
section
set_option maxHeartbeats 1000000
namespace Tw
open PySem PySem.Spec PyProof.Rows L2 Tl
variable (cs errs : List Str)
theorem T_sgn (c : Nat) : T (sgn c) = [c] := rfl
end Tw
end
section
set_option maxHeartbeats 1000000
namespace Tw
open PySem PySem.Spec PyProof.Rows L2 Tl
variable (cs errs : List Str)
theorem wt_cons (L : Nat) (o : List Oc) (os : List (List Oc)) : wtO L (o :: os) = 8 ^ (L - o.length) + wtO L os := by unfold wtO; rw [List.map_cons, List.sum_cons]
theorem wt_len (L : Nat) : ∀ os : List (List Oc), os.length ≤ wtO L os
  | [] => Nat.le_refl _
  | o :: os => by
    have := wt_len L os
    have := Nat.pow_pos (n := L - o.length) (show 0 < 8 by decide)
    rw [wt_cons, List.length_cons]
    omega
theorem AllO.len {L e : Nat} {W : List Oc → Prop} {os : List (List Oc)} (h : AllO L e W os) (e6 : e ≤ 6) (L4 : L ≤ 4) : os.length ≤ 262144 := by
  refine Nat.le_trans (wt_len L os) (Nat.le_trans h.wt ?_)
  have a : 2 ^ e ≤ 2 ^ 6 := Nat.pow_le_pow_right (by decide) e6
  have b : 8 ^ L ≤ 8 ^ 4 := Nat.pow_le_pow_right (by decide) L4
  exact Nat.le_trans (Nat.mul_le_mul a b) (by decide)
theorem AllO.as {L e : Nat} {W V : List Oc → Prop} {os : List (List Oc)} (h : AllO L e W os) (k : ∀ o, W o ↔ V o) : AllO L e V os := ⟨fun o => by rw [h.m o, k o], h.wt, h.nd⟩
end Tw
end
namespace Tl
open PySem PySem.Spec PyProof.Rows L2
end Tl
namespace Tl
open PySem PySem.Spec PyProof.Rows L2
end Tl
namespace Tl
open PySem PySem.Spec PyProof.Rows L2
end Tl
section
set_option maxHeartbeats 2000000
namespace L2
open PySem PySem.Spec PyProof.Rows
end L2
namespace Tl
open PySem PySem.Spec PyProof.Rows L2
end Tl
end
section
set_option maxHeartbeats 4000000
namespace L2
open PySem PySem.Spec PyProof.Rows
/-- an object of the call's own, that nothing tracks -/
structure Hid (X : Cx) (pins : List (Addr × Obj)) (H : Hp) (a : Addr) : Prop where
  h : H a = none
  l : a ≠ X.env.locals
  f : a ∉ X.fs
  z : X.s_0.heap.objs.size ≤ a
  c : ∀ x c, X.env.cells.lookup x = some c → c ≠ a
  p : ∀ p ∈ X.pn ++ pins, p.1 ≠ a
theorem Hid.new {X : Cx} {pins : List (Addr × Obj)} {σ : St} {H : Hp} {s : Shared} (I : Inv X pins σ H s) {a : Addr} (h : s.heap.objs.size ≤ a) : Hid X pins H a where
  h := I.hok.fresh h
  l := fun e => absurd I.lt (by rw [← e]; exact Nat.not_lt_of_le h)
  f := I.nofs h
  z := Nat.le_trans I.sz h
  c := fun x c e z => by
    obtain ⟨v, hv⟩ := I.cell x c e
    obtain ⟨o, ho, _⟩ := hv
    exact absurd (Heap.lt_size ho) (by rw [z]; exact Nat.not_lt_of_le h)
  p := fun q m e => absurd (Heap.lt_size (I.pin q m).1) (by rw [e]; exact Nat.not_lt_of_le h)
theorem Hid.kept {X : Cx} {pins : List (Addr × Obj)} {H : Hp} {a : Addr} (d : Hid X pins H a) {H' : Hp} (h : H' a = none) : Hid X pins H' a := ⟨h, d.l, d.f, d.z, d.c, d.p⟩
theorem Hid.turned {X : Cx} {pins : List (Addr × Obj)} {σ : St} {H : Hp} {s : Shared} {a : Addr} {h' : Heap} {t' : Nat} (d : Hid X pins H a) (I : Inv X pins σ H s) (k : ∀ b o, b ≠ a → s.heap.get? b = some o → h'.get? b = some o) : Inv X pins σ H { s with heap := h', toks := t' } :=
  I.turned k d.h d.l (.inr d.z) d.c d.p
end L2
end
section
set_option maxHeartbeats 4000000
namespace Tl
open PySem PySem.Spec PyProof.Rows L2
end Tl
end
section
set_option maxHeartbeats 4000000
namespace L2
open PySem PySem.Spec PyProof.Rows
def tLockV (te : TE) : TE := fun σ H Q => te σ H fun v H1 => ∃ a u, v = .ref a ∧ H1 a = some u ∧ Mut (some u) ∧ ∀ od, Q v (upd H1 a (.frz od u))
theorem pe_lockV {X : Cx} {e : Expr} {te : TE} (h : PE X e te) : PE X e (tLockV te) := ⟨fun pins s σ H Q I hw => thn (h.run pins s σ H _ I hw) fun v s1 hh => by
  obtain ⟨x, H1, I1, r1, a, u, ex, hu, mu, go⟩ := hh
  obtain ⟨od, I2⟩ := I1.lock hu mu
  exact ⟨x, _, I2, r1, go od⟩⟩
end L2
namespace Tl
open PySem PySem.Spec PyProof.Rows L2
theorem Fin.lay {K : PySem.W.Frag} {F H : Hp} {R : List Res} {p : Addr} {o : HO} (x : Ex F H) (r : ROk K F H R) (h : H p = none) : Fin K F H R F (upd H p o) R where
  ff := Ex.rfl
  fh := x.tr (ex_new h)
  kp := fun a u e _ => by rw [upd_ne (ne_of_none e h)]; exact e
  dm := fun a e => by
    by_cases q : a = p
    · rw [q]; exact h
    · rw [upd_ne q] at e; exact e
  nw := fun a e z => absurd e z
  rk := ⟨fun s hs => (r.ok s hs).stay Ex.rfl fun q m u e => by rw [upd_ne (ne_of_none e h)]; exact e, r.nd, r.off⟩
  rn := fun q m => .inl m
/-- a thing laid ahead, not tracked, then tracked: as if it were laid now -/
theorem Fin.fresh {K : PySem.W.Frag} {F H F1 H1 : Hp} {R R1 : List Res} {p : Addr} {o u : HO} (x : Ex F H) (r : ROk K F H R) (h : H p = none) (f : Fin K F (upd H p o) R F1 H1 R1) (no : ∀ k : List Key, o ≠ .tup (k.map kV) := by intro k z; cases z) : H1 p = some o ∧ F1 p = none ∧ Fin K F H R (upd F1 p u) (upd H1 p u) R1 := by
  have np := r.fresh h
  have g1 : H1 p = some o := f.kp p o upd_same np
  have g2 : F1 p = none := by
    cases e : F1 p with
    | none => rfl
    | some w =>
      rcases f.nw p (x.none h) (by rw [e]; exact fun q => nomatch q) with z | z | ⟨k, z⟩
      · rw [upd_same] at z; cases z
      · exact absurd z np
      · rw [upd_same] at z; exact absurd (Option.some.inj z) (no k)
  have g3 : p ∉ fps R1 := fun m => by
    rcases f.rn p m with z | z
    · exact np z
    · rw [upd_same] at z; cases z
  refine ⟨g1, g2, ⟨f.ff.tr (ex_new g2), fun a w e => ?_, fun a w e n => ?_, fun a e => ?_, fun a e z => ?_, ⟨fun s hs => (f.rk.ok s hs).stay (ex_new g2) fun q m w e => ?_, f.rk.nd, fun q m => ?_⟩, fun q m => ?_⟩⟩
  · by_cases q : a = p
    · rw [q, upd_same] at e ⊢; exact e
    · rw [upd_ne q] at e ⊢; exact f.fh a w e
  · have q := ne_of_none e h
    rw [upd_ne q]
    exact f.kp a w (by rw [upd_ne q]; exact e) n
  · by_cases q : a = p
    · rw [q]; exact h
    · rw [upd_ne q] at e
      have := f.dm a e
      rw [upd_ne q] at this
      exact this
  · by_cases q : a = p
    · rw [q]; exact .inl h
    · rw [upd_ne q] at z
      rcases f.nw a e z with y | y | ⟨k, y⟩
      · rw [upd_ne q] at y; exact .inl y
      · exact .inr (.inl y)
      · rw [upd_ne q] at y; exact .inr (.inr ⟨k, y⟩)
  · have q2 : q ≠ p := fun z => g3 (by rw [← z]; exact List.mem_flatMap.mpr ⟨s, hs, m⟩)
    rw [upd_ne q2]; exact e
  · have q2 : q ≠ p := fun z => g3 (by rw [← z]; exact m)
    rw [upd_ne q2]; exact f.rk.off q m
  · have q2 : q ≠ p := fun z => g3 (by rw [← z]; exact m)
    rcases f.rn q m with y | y
    · exact .inl y
    · rw [upd_ne q2] at y; exact .inr y
section
variable {X : Cx} {W : WX} {ek ev : Expr} {tk tv : TE} {wk wv : WE} {fk fv : FnE D} {pos : Pos} {j : Nat}
def wDsp1 (wk wv : WE) : WE := fun env R Φ Ψ => wk env R (fun o1 R1 => wv env R1 (fun o2 R2 => ∃ d k e, o1 = .val d ∧ keyD d = some k ∧ o2 = .val e ∧ Φ (.val (.dct [k] [e])) R2) Ψ) Ψ
theorem d_dsp1 (hk : DE X W ek tk wk) (hv : DE X W ev tv wv) : DE X W (.Dict [some ek] [ev] pos) (tLockV (tDisp [(tk, tv)])) (wDsp1 wk wv) := by
  refine ⟨pe_lockV (pe_disp (pps_cons hk.p hv.p pps_nil) rfl rfl (fun z => nomatch z) (by show 1 ≤ 15; decide)), fun B env R Φ Ψ acc w σ F H s Q kk => fun p hp => ?_⟩
  have f0 : Fin X.K F H R F (upd H p (.dK [])) R := .lay s.fin.fh s.fin.rk hp
  have s0 : S X.K ⟨F, upd H p (.dK []), R⟩ env R σ F (upd H p (.dK [])) := ⟨.same f0.fh f0.rk, s.en⟩
  have acc0 : Acc X.K ⟨F, upd H p (.dK []), R⟩ W Ψ := acc.base (s.fin.tr f0)
  refine hk.v _ env R _ Ψ acc0 w σ F _ s0 _ fun o1 R1 v1 F1 H1 φ1 s1 x1 e1 => ?_
  refine hv.v _ env R1 _ Ψ acc0 φ1 σ F1 H1 s1 _ fun o2 R2 v2 F2 H2 φ2 s2 x2 e2 => ?_
  obtain ⟨d, k, e, rfl, hkd, rfl, φ⟩ := φ2
  have r1 := en_val (e1.up x2)
  have r2 := en_val e2
  have ev := key_rep hkd r1
  subst ev
  obtain ⟨g1, _, _⟩ := Fin.fresh (u := .dK []) s.fin.fh s.fin.rk hp s2.fin
  refine ⟨g1, [(k, v2)], rfl, by show 1 ≤ 15; decide, p, _, rfl, upd_same, trivial, fun od => ?_⟩
  rw [upd_upd]
  obtain ⟨_, g2, f2⟩ := Fin.fresh (u := .frz od (.dK (mergeK [] [(k, v2)]))) s.fin.fh s.fin.rk hp s2.fin
  have x3 : Ex F2 (upd F2 p (.frz od (.dK (mergeK [] [(k, v2)])))) := ex_new g2
  refine kk _ _ _ _ _ φ (s.go f2) ((x1.tr x2).tr x3) (enVal (mk_dct (vs := [v2]) upd_same rfl (repL_cons (r2.up x3) repL_nil)))
def eDsp1 (fk fv : FnE D) : FnE D := fun env φ ψ => fk env (fun d env1 => fv env1 (fun e env2 => match keyD d with
  | some k => φ (.dct [k] [e]) env2
  | none => False) ψ) ψ
theorem f_dsp1 (hk : FE X W ek tk wk fk) (hv : FE X W ev tv wv fv) : FE X W (.Dict [some ek] [ev] pos) (tLockV (tDisp [(tk, tv)])) (wDsp1 wk wv) (eDsp1 fk fv) := ⟨d_dsp1 hk.d hv.d, fun b R0 ps env cenv R φ ψ Φ Ψ r z x q =>
  hk.t b R0 ps env cenv R _ ψ _ Ψ r z x fun d env1 R1 r1 z1 => hv.t b R0 ps env1 cenv R1 _ ψ _ Ψ r1 z1 x fun e env2 R2 r2 z2 => by
    split at z2
    · rename_i k hkd
      exact ⟨d, k, e, rfl, hkd, rfl, q _ env2 R2 r2 z2⟩
    · exact False.elim z2⟩
end
end Tl
end
namespace Tl
open PySem PySem.Spec PyProof.Rows L2
mutual
def OT.dat : OT → D
  | .d x => x
  | .l _ ts => .lst (OT.dats ts)
  | .t _ ts => .tup (OT.dats ts)
  | .k _ ks ts => .dct ks (OT.dats ts)
  | .m _ _ _ => .non
  | .o _ _ _ _ _ => .non
  | .z _ _ _ => .non
  | .h _ => .non
def OT.dats : List OT → List D
  | [] => []
  | x :: ts => OT.dat x :: OT.dats ts
end
mutual
/-- lists and tuples of data, nothing else -/
def OT.full : OT → Bool
  | .d _ => true
  | .l _ ts => OT.fulls ts
  | .t _ ts => OT.fulls ts
  | .k _ _ _ => false
  | .m _ _ _ => false
  | .o _ _ _ _ _ => false
  | .z _ _ _ => false
  | .h _ => false
def OT.fulls : List OT → Bool
  | [] => true
  | x :: ts => OT.full x && OT.fulls ts
end
section
variable {K : PySem.W.Frag} {F H : Hp} {R A B : List Res} {L : List Addr}
/-- what stands at L is settled -/
def frzT (F H : Hp) (L : List Addr) : Hp := fun a => match F a with
  | some o => some o
  | none => if a ∈ L then H a else none
theorem frzT_up : Ex F (frzT F H L) := fun a o e => by
  show frzT F H L a = some o
  unfold frzT
  rw [e]
theorem frzT_ex (x : Ex F H) : Ex (frzT F H L) H := fun a o e => by
  unfold frzT at e
  split at e
  · rename_i o' q
    cases e
    exact x _ _ q
  · split at e
    · exact e
    · cases e
theorem frzT_at (x : Ex F H) {a : Addr} {o : HO} (m : a ∈ L) (e : H a = some o) : frzT F H L a = some o := by
  unfold frzT
  split
  · rename_i o' q
    rw [← e, x _ _ q]
  · rw [if_pos m, e]
mutual
theorem OTrep (x : Ex F H) : ∀ (t : OT) (v : V), t.full = true → (∀ p ∈ t.fp, p ∈ L) → OT.ok K F H t v → Rep K (frzT F H L) t.dat v
  | .d e, v, _, _, h => by rw [OT.ok] at h; rw [OT.dat]; exact Rep.up frzT_up e v h
  | .l a ts, v, f, m, h => by
    rw [OT.ok] at h
    rw [OT.full] at f
    rw [OT.fp] at m
    obtain ⟨rfl, vs, ha, r⟩ := h
    rw [OT.dat]
    exact mk_lst (frzT_at x (m a List.mem_cons_self) ha) (OTreps x ts vs f (fun p q => m p (List.mem_cons_of_mem _ q)) r)
  | .t a ts, v, f, m, h => by
    rw [OT.ok] at h
    rw [OT.full] at f
    rw [OT.fp] at m
    obtain ⟨rfl, vs, ha, r⟩ := h
    rw [OT.dat]
    exact mk_tup (frzT_at x (m a List.mem_cons_self) ha) (OTreps x ts vs f (fun p q => m p (List.mem_cons_of_mem _ q)) r.1)
  | .k _ _ _, _, f, _, _ => by rw [OT.full] at f; cases f
  | .m _ _ _, _, f, _, _ => by rw [OT.full] at f; cases f
  | .o _ _ _ _ _, _, f, _, _ => by rw [OT.full] at f; cases f
  | .z _ _ _, _, f, _, _ => by rw [OT.full] at f; cases f
  | .h _, _, f, _, _ => by rw [OT.full] at f; cases f
theorem OTreps (x : Ex F H) : ∀ (ts : List OT) (vs : List V), OT.fulls ts = true → (∀ p ∈ OT.fps ts, p ∈ L) → OT.oks K F H ts vs → RepL K (frzT F H L) (OT.dats ts) vs
  | [], vs, _, _, h => by rw [OT.oks] at h; rw [OT.dats]; unfold RepL; exact h
  | t :: ts, vs, f, m, h => by
    rw [OT.oks] at h
    rw [OT.fulls, Bool.and_eq_true] at f
    rw [OT.fps] at m
    obtain ⟨v, us, e, a, b⟩ := h
    rw [OT.dats]
    unfold RepL
    exact ⟨v, us, e, OTrep x t v f.1 (fun p q => m p (List.mem_append_left _ q)) a, OTreps x ts us f.2 (fun p q => m p (List.mem_append_right _ q)) b⟩
end
end
theorem OTroot {K : PySem.W.Frag} {F H : Hp} {t : OT} {v u : V} (h : OT.ok K F H t u) (e : EnOk K F t.en (some v)) : OT.ok K F H t v := by
  cases t with
  | d x =>
    obtain ⟨w, q, r⟩ := e
    cases q
    rw [OT.ok]; exact r
  | l a ts =>
    have e1 : some v = some (V.ref a) := e
    cases e1
    rw [OT.ok] at h ⊢
    exact ⟨rfl, h.2⟩
  | t a ts =>
    have e1 : some v = some (V.ref a) := e
    cases e1
    rw [OT.ok] at h ⊢
    exact ⟨rfl, h.2⟩
  | k a ks ts =>
    have e1 : some v = some (V.ref a) := e
    cases e1
    rw [OT.ok] at h ⊢
    exact ⟨rfl, h.2⟩
  | m a ks ts =>
    have e1 : some v = some (V.ref a) := e
    cases e1
    rw [OT.ok] at h ⊢
    exact ⟨rfl, h.2⟩
  | o a da c ns ts =>
    have e1 : some v = some (V.ref a) := e
    cases e1
    rw [OT.ok] at h ⊢
    exact ⟨rfl, h.2⟩
  | z a ks ds =>
    have e1 : some v = some (V.ref a) := e
    cases e1
    rw [OT.ok] at h ⊢
    exact ⟨rfl, h.2⟩
  | h a =>
    have e1 : some v = some (V.ref a) := e
    cases e1
    rw [OT.ok]
end Tl
namespace Tl
open PySem PySem.Spec PyProof.Rows L2
end Tl
namespace Tl
open PySem PySem.Spec PyProof.Rows L2
section
variable {K : PySem.W.Frag} {B : Bs} {env : List En} {R : List Res} {σ : L2.St} {F H : Hp}
/-- for a while: the tree is settled, nothing else is owned -/
theorem S.look {i : Nat} {t : OT} (s : S K B env R σ F H) (e : env[i]? = some t.en) (m : .tre t ∈ R) (f : t.full = true) : S K ⟨frzT F H t.fp, H, []⟩ (env.set i (.val t.dat)) [] σ (frzT F H t.fp) H := by
  obtain ⟨u, hu⟩ := s.fin.rk.ok _ m
  have x2 : Ex (frzT F H t.fp) H := frzT_ex s.fin.fh
  refine ⟨Fin.same x2 ⟨fun r m => (nomatch m), List.nodup_nil, fun q m => (nomatch m)⟩, ?_⟩
  obtain ⟨o, ho, eo⟩ := s.en.get e
  have en2 := (s.en.up (frzT_up (F := F) (H := H) (L := t.fp))).set i (e := .val t.dat) (o := o) (by
    cases o with
    | none =>
      cases t with
      | d x => obtain ⟨w, q, _⟩ := eo; cases q
      | _ => cases (show none = some _ from eo)
    | some v => exact ⟨v, rfl, OTrep s.fin.fh t v f (fun p m => m) (OTroot hu eo)⟩)
  rw [set_self ho] at en2
  exact en2
end
end Tl
namespace Tl
open PySem PySem.Spec PyProof.Rows L2
end Tl
namespace Tl
open PySem PySem.Spec PyProof.Rows L2
section
variable {X : Cx} {W : WX} {elt tg iter : Expr} {ifs : List Expr} {scope : Scope} {own : List (Str × Nat)} {pos spos : Pos} {wi : TI} {w : WI} {g : TG} {wg : WG} {tt : TT} {wt : WT} {te : TE} {we : WE}
theorem SubR.app {R0 R : List Res} (h : SubR R0 R) (X : List Res) : SubR (X ++ R0) (X ++ R) := by
  obtain ⟨G, p⟩ := h
  refine ⟨G, (p.append_left X).trans ?_⟩
  rw [← List.append_assoc, ← List.append_assoc]
  exact List.Perm.append_right _ List.perm_append_comm
variable {fi : FnE (List D)} {f1 : D → List A → (List A → Prop) → Prop} {ft : FnE Bool} {fx : FnE A} {w1 : WI}
end
end Tl
namespace Tl
open PySem PySem.Spec PyProof.Rows L2
end Tl
namespace Tl
open PySem PySem.Spec PyProof.Rows L2
end Tl
namespace Tl
open PySem PySem.Spec PyProof.Rows L2
end Tl
section
set_option maxHeartbeats 2000000
namespace Tl
open PySem PySem.Spec PyProof.Rows L2
end Tl
end
section
set_option maxHeartbeats 2000000
namespace Tl
open PySem PySem.Spec PyProof.Rows L2
end Tl
end
section
set_option maxHeartbeats 4000000
namespace Tl
open PySem PySem.Spec PyProof.Rows L2
section
variable {K : PySem.W.Frag} {c : Str}
theorem bool_b (C : Addr) : PySem.W.subIn K (.type "bool") (.ref C) = some false := by
  show (fastBuiltinMro "bool").map (·.contains (Value.ref C)) = some false
  have e : fastBuiltinMro "bool" = some [.type "bool", .type "int", .type "object"] := by kernel_rfl
  rw [e]; rfl
end
end Tl
end
section
set_option maxHeartbeats 4000000
namespace Own
open PySem PySem.W PySem.Spec PySem.Calls PyProof.Rows
theorem wpAny_of_eq83 {α : Type} {M : Model} {A : Around} {t : Sem α} {r : α} {Q : α → Shared → Prop} {E : Value → Shared → Prop} {s : Shared} (e : t = pure r) (h : Q r s) : wpAny M A t Q E s := by
  rw [e]; exact wpAny_pure h
theorem ni_int_or (a : Int) (t : Tok) (x C dx : Addr) : Meets (Builtin.«int.__or__» ⟨[.int a t, .ref x], []⟩) (fun _ R s => s.heap.get? x = some (instObj C dx) ∧ R (.ok (.ret Value.notImplemented)) s) :=
  .of_wp fun prog w A R s h => by
    obtain ⟨hp, g, d, tk, os⟩ := s
    obtain ⟨hl, h⟩ := h
    unfold instObj at hl
    wp_walk
    exact ⟨_, rfl, h⟩
theorem ni_int_and (a : Int) (t : Tok) (x C dx : Addr) : Meets (Builtin.«int.__and__» ⟨[.int a t, .ref x], []⟩) (fun _ R s => s.heap.get? x = some (instObj C dx) ∧ R (.ok (.ret Value.notImplemented)) s) :=
  .of_wp fun prog w A R s h => by
    obtain ⟨hp, g, d, tk, os⟩ := s
    obtain ⟨hl, h⟩ := h
    unfold instObj at hl
    wp_walk
    exact ⟨_, rfl, h⟩
theorem ni_int_sub (a : Int) (t : Tok) (x C dx : Addr) : Meets (Builtin.«int.__sub__» ⟨[.int a t, .ref x], []⟩) (fun _ R s => s.heap.get? x = some (instObj C dx) ∧ R (.ok (.ret Value.notImplemented)) s) :=
  .of_wp fun prog w A R s h => by
    obtain ⟨hp, g, d, tk, os⟩ := s
    obtain ⟨hl, h⟩ := h
    unfold instObj at hl
    wp_walk
    exact ⟨_, rfl, h⟩
theorem ni_bool_sub (a : Bool) (x C dx : Addr) : Meets (Builtin.«int.__sub__» ⟨[.bool a, .ref x], []⟩) (fun _ R s => s.heap.get? x = some (instObj C dx) ∧ R (.ok (.ret Value.notImplemented)) s) :=
  .of_wp fun prog w A R s h => by
    obtain ⟨hp, g, d, tk, os⟩ := s
    obtain ⟨hl, h⟩ := h
    unfold instObj at hl
    wp_walk
    exact ⟨_, rfl, h⟩
theorem ni_bool_or (a : Bool) (x C dx : Addr) : Meets (Builtin.«bool.__or__» ⟨[.bool a, .ref x], []⟩) (fun _ R s => s.heap.get? x = some (instObj C dx) ∧ R (.ok (.ret Value.notImplemented)) s) :=
  .of_wp fun prog w A R s h => by
    obtain ⟨hp, g, d, tk, os⟩ := s
    obtain ⟨hl, h⟩ := h
    unfold instObj at hl
    wp_walk
    exact ⟨_, rfl, h⟩
theorem ni_bool_and (a : Bool) (x C dx : Addr) : Meets (Builtin.«bool.__and__» ⟨[.bool a, .ref x], []⟩) (fun _ R s => s.heap.get? x = some (instObj C dx) ∧ R (.ok (.ret Value.notImplemented)) s) :=
  .of_wp fun prog w A R s h => by
    obtain ⟨hp, g, d, tk, os⟩ := s
    obtain ⟨hl, h⟩ := h
    unfold instObj at hl
    wp_walk
    exact ⟨_, rfl, h⟩
theorem sub_dict83 : isSubtype (.type "dict") (.type "dict") = pure true := by rw [isSubtype_type]; kernel_rfl
theorem ni_dict_or (prog : Program) (w : World) (a x : Addr) : MeetsIn prog w (Builtin.«dict.__or__» ⟨[.ref a, .ref x], []⟩) (fun _ R s => Looks (model prog w) s.heap (isInstance (.ref x) (.type "dict")) false ∧ (∃ o es n, s.heap.get? a = some o ∧ o.cls = .type "dict" ∧ o.data = .dict es n) ∧ R (.ok (.ret Value.notImplemented)) s) := fun A R s h => by
  suffices k : wpAny (model prog w) A.in1 (Builtin.«dict.__or__» ⟨[.ref a, .ref x], []⟩) (fun fin s' => ∃ v, fin = .done (.ret v) ∧ R (.ok (.ret v)) s') (fun e s' => R (.error e) s') s from
    wpAny_mono k (fun fin s' h' => by obtain ⟨v, rfl, hv⟩ := h'; exact hv) fun _ _ x => x
  obtain ⟨hp, g, d, tk, os⟩ := s
  obtain ⟨L, ⟨o, es, n, h1, h2, h3⟩, h⟩ := h
  obtain ⟨oc, od, odt⟩ := o
  cases h2
  cases h3
  wp_walk
  refine (wpAny_of_eq83 sub_dict83 ?_ : wpAny (model prog w) A.in1 (isSubtype (.type "dict") (.type "dict")) _ _ _)
  refine L.here ?_
  exact wpAny_bind (wpAny_rule (wpAny_pure ⟨_, rfl, h⟩))
section
variable {prog : Program} {w : World} {h : Heap} {K : Frag} {C f g dx : Addr} {cd : ClassData} {r : List Value} {A : Around} {E : Value → Shared → Prop} {s : Shared} {x : Addr} {od : Option Obj}
/-- v has no part in the operator with an object of class C -/
def OpV (prog : Program) (w : World) (K : Frag) (C : Addr) (nm : String) (x : Addr) (s : Shared) (v : Value) : Prop :=
  (∃ T, s.TypeIs v T ∧ (fillsNumberSlot (.type T) nm = pure false ∨ (fillsNumberSlot (.type T) nm = pure true ∧ subIn K (.ref C) (.type T) = some false ∧ subIn K (.type T) (.ref C) = some false ∧ (∃ o, typeLookup (.type T) (dunderR nm) = pure o) ∧
    ∀ (A : Around) (E : Value → Shared → Prop), wpAny (model prog w) A (tryMethod v (PySem.dunder nm) (.ref x)) (fun o s' => o = none ∧ s' = s) E s))) ∨
  (∃ y oy oe D, v = .ref y ∧ InstAt s.heap y oy D oe ∧ D ≠ C ∧ Looks (model prog w) s.heap (fillsNumberSlot (.ref D) nm) false)
theorem bin_l {nm : String} {v : Value} {Q : Option Value → Shared → Prop} (X : K.In s.heap) (hc : clsIn K C = some cd) (hm : cd.mro = .ref C :: r) (I : InstAt s.heap x (instObj C dx) C od) (op : OpV prog w K C nm x s v)
    (hs : findIn K (.ref C) (PySem.dunder nm) = some (some (.ref f))) (hr : findIn K (.ref C) (dunderR nm) = some (some (.ref g))) (hf : isFn K (.ref f) = true) (hq : wpAny (model prog w) A (call (.ref f) [.ref x, v]) (Back fun v => Q (some v)) E s) : wpAny (model prog w) A (binaryOp1 nm (.ref x) v) Q E s := by
  rcases op with ⟨T, tv, hn | ⟨hfi, s1, s2, ⟨o, L8⟩, _⟩⟩ | ⟨y, oy, oe, D, rfl, J, ne, L⟩
  · exact bin_left X hc hm I tv hn hs hf hq
  · unfold binaryOp1
    refine wpAny_bind (I.type.here (wpAny_bind (wpAny_typeOf tv (wpAny_bind ((looks_fills X hc hm hs).here ?_)))))
    simp only [show (Value.ref C == Value.type T) = false from rfl, Bool.false_eq_true, if_false]
    rw [hfi]
    simp only [pure_bind, Bool.and_self, if_true]
    refine wpAny_bind ((looks_subIn X s2).here ?_)
    simp only [Bool.false_eq_true, if_false, pure_bind, Bool.not_false, Bool.and_self, if_true]
    have L6 : Looks (model prog w) s.heap (numberSlotInPython (.ref C) nm) true := ksp_inPy X hs hr (.inr ⟨_, rfl⟩)
    refine wpAny_bind (L6.here ?_)
    have hpy : numberSlotInPython (.type T) nm = pure false := rfl
    simp only [if_true, hpy, pure_bind, Bool.not_false]
    refine wpAny_bind ?_
    rw [L8]
    refine wpAny_pure ?_
    refine wpAny_bind (try_own X I hs hf (wpAny_mono hq (fun v s' z => ⟨z.1, ?_⟩) fun _ _ z => z))
    exact wpAny_pure z.2
  · unfold binaryOp1
    refine wpAny_bind (I.type.here (wpAny_bind (J.type.here (wpAny_bind ((looks_fills X hc hm hs).here ?_)))))
    have ne2 : (Value.ref C == Value.ref D) = false := beq_eq_false_iff_ne.mpr fun e => ne (Value.ref.inj e).symm
    simp only [ne2, Bool.false_eq_true, if_false]
    refine wpAny_bind (L.here ?_)
    simp only [Bool.and_false, Bool.false_and, Bool.false_eq_true, if_false, pure_bind]
    refine wpAny_bind (try_own X I hs hf (wpAny_mono hq (fun v s' z => ⟨z.1, ?_⟩) fun _ _ z => z))
    exact wpAny_pure z.2
theorem bin_r {nm : String} {v : Value} {Q : Option Value → Shared → Prop} (X : K.In s.heap) (hc : clsIn K C = some cd) (hm : cd.mro = .ref C :: r) (I : InstAt s.heap x (instObj C dx) C od) (op : OpV prog w K C nm x s v)
    (hs : findIn K (.ref C) (PySem.dunder nm) = some (some (.ref g))) (hr : findIn K (.ref C) (dunderR nm) = some (some (.ref f))) (hf : isFn K (.ref f) = true) (hq : wpAny (model prog w) A (call (.ref f) [.ref x, v]) (Back fun v => Q (some v)) E s) : wpAny (model prog w) A (binaryOp1 nm v (.ref x)) Q E s := by
  rcases op with ⟨T, tv, hn | ⟨hfi, s1, s2, _, one⟩⟩ | ⟨y, oy, oe, D, rfl, J, ne, L⟩
  · exact bin_right X hc hm I tv hn hs hr hf hq
  · unfold binaryOp1
    refine wpAny_bind (wpAny_typeOf tv (wpAny_bind (I.type.here ?_)))
    rw [hfi]
    simp only [show (Value.type T == Value.ref C) = false from rfl, pure_bind, Bool.false_eq_true, if_false]
    refine wpAny_bind ((looks_fills X hc hm hs).here ?_)
    simp only [Bool.and_self, if_true]
    refine wpAny_bind ((looks_subIn X s1).here ?_)
    have hpy : numberSlotInPython (.type T) nm = pure false := rfl
    simp only [Bool.false_eq_true, if_false, pure_bind, Bool.not_false, Bool.and_self, if_true, hpy]
    refine wpAny_bind (wpAny_mono (one A E) (fun o s' z => ?_) fun _ _ z => z)
    obtain ⟨rfl, rfl⟩ := z
    refine wpAny_bind (try_own X I hr hf (wpAny_mono hq (fun v s' z => ⟨z.1, ?_⟩) fun _ _ z => z))
    exact wpAny_bind (wpAny_rule (wpAny_pure z.2))
  · unfold binaryOp1
    refine wpAny_bind (J.type.here (wpAny_bind (I.type.here ?_)))
    have ne2 : (Value.ref D == Value.ref C) = false := beq_eq_false_iff_ne.mpr fun e => ne (Value.ref.inj e)
    refine wpAny_bind (L.here ?_)
    simp only [ne2, Bool.false_eq_true, if_false]
    refine wpAny_bind ((looks_fills X hc hm hs).here ?_)
    simp only [Bool.and_true, Bool.false_and, Bool.false_eq_true, if_false, pure_bind, Bool.not_false, if_true]
    refine wpAny_bind (try_own X I hr hf (wpAny_mono hq (fun v s' z => ⟨z.1, ?_⟩) fun _ _ z => z))
    exact wpAny_bind (wpAny_rule (wpAny_pure z.2))
end
end Own
end
section
set_option maxHeartbeats 4000000
namespace Own
open PySem PySem.W PySem.Spec PySem.Calls PyProof.Rows
theorem nf_non_or : fillsNumberSlot (.type "NoneType") "or" = pure false := by unfold fillsNumberSlot; simp only [typeLookup_type, builtinLookup_eq_fast]; kernel_rfl
theorem nf_non_and : fillsNumberSlot (.type "NoneType") "and" = pure false := by unfold fillsNumberSlot; simp only [typeLookup_type, builtinLookup_eq_fast]; kernel_rfl
theorem nf_non_sub : fillsNumberSlot (.type "NoneType") "sub" = pure false := by unfold fillsNumberSlot; simp only [typeLookup_type, builtinLookup_eq_fast]; kernel_rfl
theorem nf_list_or : fillsNumberSlot (.type "list") "or" = pure false := by unfold fillsNumberSlot; simp only [typeLookup_type, builtinLookup_eq_fast]; kernel_rfl
theorem nf_list_and : fillsNumberSlot (.type "list") "and" = pure false := by unfold fillsNumberSlot; simp only [typeLookup_type, builtinLookup_eq_fast]; kernel_rfl
theorem nf_list_sub : fillsNumberSlot (.type "list") "sub" = pure false := by unfold fillsNumberSlot; simp only [typeLookup_type, builtinLookup_eq_fast]; kernel_rfl
theorem nf_tup_or : fillsNumberSlot (.type "tuple") "or" = pure false := by unfold fillsNumberSlot; simp only [typeLookup_type, builtinLookup_eq_fast]; kernel_rfl
theorem nf_tup_and : fillsNumberSlot (.type "tuple") "and" = pure false := by unfold fillsNumberSlot; simp only [typeLookup_type, builtinLookup_eq_fast]; kernel_rfl
theorem nf_tup_sub : fillsNumberSlot (.type "tuple") "sub" = pure false := by unfold fillsNumberSlot; simp only [typeLookup_type, builtinLookup_eq_fast]; kernel_rfl
theorem nf_dict_and : fillsNumberSlot (.type "dict") "and" = pure false := by unfold fillsNumberSlot; simp only [typeLookup_type, builtinLookup_eq_fast]; kernel_rfl
theorem nf_dict_sub : fillsNumberSlot (.type "dict") "sub" = pure false := by unfold fillsNumberSlot; simp only [typeLookup_type, builtinLookup_eq_fast]; kernel_rfl
theorem ob_or : typeLookup (.type "object") (PySem.dunder "or") = pure none ∧ typeLookup (.type "object") (dunderR "or") = pure none := ⟨by rw [typeLookup_type, builtinLookup_eq_fast]; kernel_rfl, by rw [typeLookup_type, builtinLookup_eq_fast]; kernel_rfl⟩
theorem ob_and : typeLookup (.type "object") (PySem.dunder "and") = pure none ∧ typeLookup (.type "object") (dunderR "and") = pure none := ⟨by rw [typeLookup_type, builtinLookup_eq_fast]; kernel_rfl, by rw [typeLookup_type, builtinLookup_eq_fast]; kernel_rfl⟩
theorem ob_sub : typeLookup (.type "object") (PySem.dunder "sub") = pure none ∧ typeLookup (.type "object") (dunderR "sub") = pure none := ⟨by rw [typeLookup_type, builtinLookup_eq_fast]; kernel_rfl, by rw [typeLookup_type, builtinLookup_eq_fast]; kernel_rfl⟩
/-- an own class without the operator -/
structure NoFill (K : Frag) (D : Addr) (nm : String) : Prop where
  ex : ∃ cd, clsIn K D = some cd ∧ cd.mro = [.ref D, .type "object"]
  l : findIn K (.ref D) (PySem.dunder nm) = some none
  r : findIn K (.ref D) (dunderR nm) = some none
section
variable {prog : Program} {w : World} {K : Frag} {C D : Addr} {nm : String} {x : Addr} {dx : Addr} {od : Option Obj} {s : Shared} {M : Model} {h : Heap}
theorem looks_noFill (X : K.In h) (n : NoFill K D nm) (ho : typeLookup (.type "object") (PySem.dunder nm) = pure none ∧ typeLookup (.type "object") (dunderR nm) = pure none) : Looks M h (fillsNumberSlot (.ref D) nm) false := by
  intro A Q E s k q
  obtain ⟨cd, hc, hm⟩ := n.ex
  have lm : Looks M h (mroOf (.ref D)) cd.mro := (looks_clsIn X hc).andThen .now
  have l1 := looks_findIn (M := M) X n.l
  have l2 := looks_findIn (M := M) X n.r
  unfold fillsNumberSlot
  refine wpAny_bind (lm A _ E s k ?_)
  rw [hm]
  simp only [List.anyM_cons, List.anyM_nil]
  refine wpAny_bind (wpAny_bind (wpAny_bind (l1 A _ E s k (wpAny_pure ?_))))
  simp only [Bool.false_eq_true, if_false]
  refine wpAny_bind (wpAny_bind (l2 A _ E s k (wpAny_pure ?_)))
  simp only [Bool.false_eq_true, if_false]
  refine wpAny_pure ?_
  simp only [Bool.false_eq_true, if_false]
  refine wpAny_bind ?_
  rw [ho.1]
  refine wpAny_bind (wpAny_pure ?_)
  rw [ho.2]
  refine wpAny_bind (wpAny_pure (wpAny_pure ?_))
  exact wpAny_pure q
end
section
variable {prog : Program} {w : World} {A : Around} {E : Value → Shared → Prop} {s : Shared} {x C dx : Addr}
theorem try_of {v : Value} {T : String} {nm : Str} {id : String} (tv : s.TypeIs v T) (sl : Slot T nm id) (c : wpAny (model prog w) A (call (.builtin id) [v, .ref x]) (fun v s' => v = Value.notImplemented ∧ s' = s) E s) : wpAny (model prog w) A (tryMethod v nm (.ref x)) (fun o s' => o = none ∧ s' = s) E s := by
  unfold tryMethod
  refine wpAny_bind (wpAny_callSpecial?_slot tv sl (wpAny_mono c (fun v s' z => ?_) fun _ _ z => z))
  obtain ⟨rfl, rfl⟩ := z
  exact wpAny_pure ⟨rfl, rfl⟩
theorem call_int_or {i : Int} {t : Tok} (h : s.heap.get? x = some (instObj C dx)) : wpAny (model prog w) A (call (.builtin "int.__or__") [.int i t, .ref x]) (fun v s' => v = Value.notImplemented ∧ s' = s) E s :=
  call_meets (S := fun _ R s => s.heap.get? x = some (instObj C dx) ∧ R (.ok (.ret Value.notImplemented)) s) F.slot_int_or (typeIs_int s i t) F.entry_int_or (F.args_int_or_2 _ _) (ni_int_or i t x C dx) ⟨h, rfl, rfl⟩
theorem try_int_or {i : Int} {t : Tok} {m : Str} (e : m = PySem.dunder "or") (h : s.heap.get? x = some (instObj C dx)) : wpAny (model prog w) A (tryMethod (.int i t) m (.ref x)) (fun o s' => o = none ∧ s' = s) E s := try_of (id := "int.__or__") (typeIs_int s i t) (by rw [e]; exact F.slot_int_or) (call_int_or h)
theorem call_int_and {i : Int} {t : Tok} (h : s.heap.get? x = some (instObj C dx)) : wpAny (model prog w) A (call (.builtin "int.__and__") [.int i t, .ref x]) (fun v s' => v = Value.notImplemented ∧ s' = s) E s :=
  call_meets (S := fun _ R s => s.heap.get? x = some (instObj C dx) ∧ R (.ok (.ret Value.notImplemented)) s) F.slot_int_and (typeIs_int s i t) F.entry_int_and (F.args_int_and_2 _ _) (ni_int_and i t x C dx) ⟨h, rfl, rfl⟩
theorem try_int_and {i : Int} {t : Tok} {m : Str} (e : m = PySem.dunder "and") (h : s.heap.get? x = some (instObj C dx)) : wpAny (model prog w) A (tryMethod (.int i t) m (.ref x)) (fun o s' => o = none ∧ s' = s) E s := try_of (id := "int.__and__") (typeIs_int s i t) (by rw [e]; exact F.slot_int_and) (call_int_and h)
theorem call_int_sub {i : Int} {t : Tok} (h : s.heap.get? x = some (instObj C dx)) : wpAny (model prog w) A (call (.builtin "int.__sub__") [.int i t, .ref x]) (fun v s' => v = Value.notImplemented ∧ s' = s) E s :=
  call_meets (S := fun _ R s => s.heap.get? x = some (instObj C dx) ∧ R (.ok (.ret Value.notImplemented)) s) F.slot_int_sub (typeIs_int s i t) F.entry_int_sub (F.args_int_sub_2 _ _) (ni_int_sub i t x C dx) ⟨h, rfl, rfl⟩
theorem try_int_sub {i : Int} {t : Tok} {m : Str} (e : m = PySem.dunder "sub") (h : s.heap.get? x = some (instObj C dx)) : wpAny (model prog w) A (tryMethod (.int i t) m (.ref x)) (fun o s' => o = none ∧ s' = s) E s := try_of (id := "int.__sub__") (typeIs_int s i t) (by rw [e]; exact F.slot_int_sub) (call_int_sub h)
theorem call_bool_or {i : Bool} (h : s.heap.get? x = some (instObj C dx)) : wpAny (model prog w) A (call (.builtin "bool.__or__") [.bool i, .ref x]) (fun v s' => v = Value.notImplemented ∧ s' = s) E s :=
  call_meets (S := fun _ R s => s.heap.get? x = some (instObj C dx) ∧ R (.ok (.ret Value.notImplemented)) s) F.slot_bool_or (typeIs_bool' s i) F.entry_bool_or (F.args_bool_or_2 _ _) (ni_bool_or i x C dx) ⟨h, rfl, rfl⟩
theorem try_bool_or {i : Bool} {m : Str} (e : m = PySem.dunder "or") (h : s.heap.get? x = some (instObj C dx)) : wpAny (model prog w) A (tryMethod (.bool i) m (.ref x)) (fun o s' => o = none ∧ s' = s) E s := try_of (id := "bool.__or__") (typeIs_bool' s i) (by rw [e]; exact F.slot_bool_or) (call_bool_or h)
theorem call_bool_and {i : Bool} (h : s.heap.get? x = some (instObj C dx)) : wpAny (model prog w) A (call (.builtin "bool.__and__") [.bool i, .ref x]) (fun v s' => v = Value.notImplemented ∧ s' = s) E s :=
  call_meets (S := fun _ R s => s.heap.get? x = some (instObj C dx) ∧ R (.ok (.ret Value.notImplemented)) s) F.slot_bool_and (typeIs_bool' s i) F.entry_bool_and (F.args_bool_and_2 _ _) (ni_bool_and i x C dx) ⟨h, rfl, rfl⟩
theorem try_bool_and {i : Bool} {m : Str} (e : m = PySem.dunder "and") (h : s.heap.get? x = some (instObj C dx)) : wpAny (model prog w) A (tryMethod (.bool i) m (.ref x)) (fun o s' => o = none ∧ s' = s) E s := try_of (id := "bool.__and__") (typeIs_bool' s i) (by rw [e]; exact F.slot_bool_and) (call_bool_and h)
theorem call_bool_sub {i : Bool} (h : s.heap.get? x = some (instObj C dx)) : wpAny (model prog w) A (call (.builtin "int.__sub__") [.bool i, .ref x]) (fun v s' => v = Value.notImplemented ∧ s' = s) E s :=
  call_meets (S := fun _ R s => s.heap.get? x = some (instObj C dx) ∧ R (.ok (.ret Value.notImplemented)) s) F.slot_bool_sub (typeIs_bool' s i) F.entry_int_sub (F.args_int_sub_2 _ _) (ni_bool_sub i x C dx) ⟨h, rfl, rfl⟩
theorem try_bool_sub {i : Bool} {m : Str} (e : m = PySem.dunder "sub") (h : s.heap.get? x = some (instObj C dx)) : wpAny (model prog w) A (tryMethod (.bool i) m (.ref x)) (fun o s' => o = none ∧ s' = s) E s := try_of (id := "int.__sub__") (typeIs_bool' s i) (by rw [e]; exact F.slot_bool_sub) (call_bool_sub h)
theorem call_dict_or {a : Addr} (L : Looks (model prog w) s.heap (isInstance (.ref x) (.type "dict")) false) (h : ∃ o es n, s.heap.get? a = some o ∧ o.cls = .type "dict" ∧ o.data = .dict es n) : wpAny (model prog w) A (call (.builtin "dict.__or__") [.ref a, .ref x]) (fun v s' => v = Value.notImplemented ∧ s' = s) E s := by
  have tv : s.TypeIs (.ref a) "dict" := by obtain ⟨o, es, n, h1, h2, _⟩ := h; exact ⟨o, h1, h2⟩
  exact call_meetsIn F.slot_dict_or tv F.entry_dict_or (F.args_dict_or_2 _ _) (ni_dict_or prog w a x) ⟨L, h, rfl, rfl⟩
theorem try_dict_or {a : Addr} {m : Str} (e : m = PySem.dunder "or") (L : Looks (model prog w) s.heap (isInstance (.ref x) (.type "dict")) false) (h : ∃ o es n, s.heap.get? a = some o ∧ o.cls = .type "dict" ∧ o.data = .dict es n) : wpAny (model prog w) A (tryMethod (.ref a) m (.ref x)) (fun o s' => o = none ∧ s' = s) E s := by
  have tv : s.TypeIs (.ref a) "dict" := by obtain ⟨o, es, n, h1, h2, _⟩ := h; exact ⟨o, h1, h2⟩
  exact try_of (id := "dict.__or__") tv (by rw [e]; exact F.slot_dict_or) (call_dict_or L h)
end
/-- how ints, truth values and dicts decline -/
structure OpF (nm : String) : Prop where
  non : fillsNumberSlot (.type "NoneType") nm = pure false
  str : fillsNumberSlot (.type "str") nm = pure false
  lst : fillsNumberSlot (.type "list") nm = pure false
  tup : fillsNumberSlot (.type "tuple") nm = pure false
  int : fillsNumberSlot (.type "int") nm = pure true ∧ (∃ o, typeLookup (.type "int") (dunderR nm) = pure o) ∧ ∀ (prog : Program) (w : World) (A : Around) (E : Value → Shared → Prop) (s : Shared) (i : Int) (t : Tok) (x C dx : Addr) (m : Str), m = PySem.dunder nm → s.heap.get? x = some (instObj C dx) → wpAny (model prog w) A (tryMethod (.int i t) m (.ref x)) (fun o s' => o = none ∧ s' = s) E s
  bool : fillsNumberSlot (.type "bool") nm = pure true ∧ (∃ o, typeLookup (.type "bool") (dunderR nm) = pure o) ∧ ∀ (prog : Program) (w : World) (A : Around) (E : Value → Shared → Prop) (s : Shared) (i : Bool) (x C dx : Addr) (m : Str), m = PySem.dunder nm → s.heap.get? x = some (instObj C dx) → wpAny (model prog w) A (tryMethod (.bool i) m (.ref x)) (fun o s' => o = none ∧ s' = s) E s
  dict : fillsNumberSlot (.type "dict") nm = pure false ∨ (fillsNumberSlot (.type "dict") nm = pure true ∧ (∃ o, typeLookup (.type "dict") (dunderR nm) = pure o) ∧ ∀ (prog : Program) (w : World) (A : Around) (E : Value → Shared → Prop) (s : Shared) (a x : Addr) (m : Str), m = PySem.dunder nm → Looks (model prog w) s.heap (isInstance (.ref x) (.type "dict")) false → (∃ o es n, s.heap.get? a = some o ∧ o.cls = .type "dict" ∧ o.data = .dict es n) → wpAny (model prog w) A (tryMethod (.ref a) m (.ref x)) (fun o s' => o = none ∧ s' = s) E s)
  obj : typeLookup (.type "object") (PySem.dunder nm) = pure none ∧ typeLookup (.type "object") (dunderR nm) = pure none
theorem opF_or : OpF "or" := ⟨nf_non_or, or_str, nf_list_or, nf_tup_or, ⟨F.fills_int_or, ⟨_, F.slot_int_ror.lookup⟩, fun prog w A E s i t x C dx m e h => try_int_or e h⟩, ⟨F.fills_bool_or, ⟨_, F.slot_bool_ror.lookup⟩, fun prog w A E s i x C dx m e h => try_bool_or e h⟩, .inr ⟨F.fills_dict_or, ⟨_, F.slot_dict_ror.lookup⟩, fun prog w A E s a x m e L h => try_dict_or e L h⟩, ob_or⟩
theorem opF_and : OpF "and" := ⟨nf_non_and, and_str, nf_list_and, nf_tup_and, ⟨F.fills_int_and, ⟨_, F.slot_int_rand.lookup⟩, fun prog w A E s i t x C dx m e h => try_int_and e h⟩, ⟨F.fills_bool_and, ⟨_, F.slot_bool_rand.lookup⟩, fun prog w A E s i x C dx m e h => try_bool_and e h⟩, .inl nf_dict_and, ob_and⟩
theorem opF_sub : OpF "sub" := ⟨nf_non_sub, sub_str, nf_list_sub, nf_tup_sub, ⟨F.fills_int_sub, ⟨_, F.slot_int_rsub.lookup⟩, fun prog w A E s i t x C dx m e h => try_int_sub e h⟩, ⟨F.fills_bool_sub, ⟨_, F.slot_bool_rsub.lookup⟩, fun prog w A E s i x C dx m e h => try_bool_sub e h⟩, .inl nf_dict_sub, ob_sub⟩
end Own
end
section
set_option maxHeartbeats 4000000
namespace Tl
open PySem PySem.Spec PyProof.Rows L2
/-- a class of the program without | & -, and none within the other -/
structure NopK (K : PySem.W.Frag) (c c2 : Str) : Prop where
  ne : He.ga K c2 ≠ He.ga K c
  or : Own.NoFill K (He.ga K c2) "or"
  and : Own.NoFill K (He.ga K c2) "and"
  sub : Own.NoFill K (He.ga K c2) "sub"
/-- the operators that are meant -/
def OpN : Operator → Prop
  | .BitOr => True
  | .BitAnd => True
  | .Sub => True
  | _ => False
theorem opN_F {op : Operator} (h : OpN op) : Own.OpF op.info.2 := by
  cases op <;> first | exact False.elim h | exact Own.opF_or | exact Own.opF_and | exact Own.opF_sub
theorem NopK.no {K : PySem.W.Frag} {c c2 : Str} (n : NopK K c c2) {op : Operator} (h : OpN op) : Own.NoFill K (He.ga K c2) op.info.2 := by
  cases op <;> first | exact False.elim h | exact n.or | exact n.and | exact n.sub
def OddB (K : PySem.W.Frag) (c2s : List Str) (H : Hp) (y : V) : Prop := y = .non ∨ (∃ b, y = .bl b) ∨ (∃ i, y = .int i) ∨ (∃ z, y = .str z) ∨ (∃ a xs, y = .ref a ∧ H a = some (.lst xs)) ∨ (∃ a xs, y = .ref a ∧ Rd H a (.tup xs)) ∨ (∃ a o kvs, y = .ref a ∧ H a = some (.frz o (.dK kvs))) ∨ ∃ a c2 dx gs, y = .ref a ∧ c2 ∈ c2s ∧ H a = some (.ins (He.ga K c2) dx gs)
def okB (c2s : List Str) : D → Bool
  | .non => true
  | .bl _ => true
  | .int _ => true
  | .str _ => true
  | .lst _ => true
  | .tup _ => true
  | .dct _ _ => true
  | .obj c _ _ => c2s.contains c
  | _ => false
theorem oddB_of {K : PySem.W.Frag} {c2s : List Str} {F H : Hp} (x : Ex F H) {d : D} {v : V} (h : okB c2s d = true) (r : Rep K F d v) : OddB K c2s H v := by
  cases d <;> first | (cases h; done) | skip
  · exact .inl (of_non r)
  · exact .inr (.inl ⟨_, of_bl r⟩)
  · exact .inr (.inr (.inl ⟨_, of_int r⟩))
  · exact .inr (.inr (.inr (.inl ⟨_, of_str r⟩)))
  · obtain ⟨p, vs, rfl, fp, _⟩ := of_tup r
    exact .inr (.inr (.inr (.inr (.inr (.inl ⟨p, vs, rfl, Rd.of (x _ _ fp)⟩)))))
  · obtain ⟨p, vs, rfl, fp, _⟩ := of_lst r
    exact .inr (.inr (.inr (.inr (.inl ⟨p, vs, rfl, x _ _ fp⟩))))
  · obtain ⟨p, dx, vs, rfl, fp, _⟩ := of_obj r
    exact .inr (.inr (.inr (.inr (.inr (.inr (.inr ⟨p, _, dx, _, rfl, List.contains_iff_mem.mp h, x _ _ fp⟩))))))
  · obtain ⟨p, vs, rfl, ⟨o, fp⟩, _⟩ := of_dct r
    exact .inr (.inr (.inr (.inr (.inr (.inr (.inl ⟨p, o, _, rfl, x _ _ fp⟩))))))
section
variable {K : PySem.W.Frag} {c : Str}
theorem Top1.not_a (tp : Top1 K c) {T : String} (h : T ≠ "object") : PySem.W.subIn K (.ref (He.ga K c)) (.type T) = some false := by
  obtain ⟨cd, h1, h2⟩ := tp.ex
  show PySem.W.mroIn K (He.ga K c) (.type T) = some false
  unfold PySem.W.mroIn
  rw [h1]
  show (if cd.mro.isEmpty = true then none else some (cd.mro.contains (Value.type T))) = some false
  rw [h2]
  have e1 : ((Value.ref (He.ga K c) == Value.type T) = false) := rfl
  have e2 : (Value.type T == Value.type "object") = false := beq_eq_false_iff_ne.mpr fun e => h (Value.type.inj e)
  have e3 : (Value.type T == Value.ref (He.ga K c)) = false := rfl
  show some (List.elem (Value.type T) [Value.ref (He.ga K c), Value.type "object"]) = some false
  rw [List.elem, e3, List.elem, e2]; rfl
theorem no_own {T : String} {ms : List Value} (e : fastBuiltinMro T = some ms) (h : ∀ m ∈ ms, ∃ U, m = .type U) (C : Addr) : PySem.W.subIn K (.type T) (.ref C) = some false := by
  show (fastBuiltinMro T).map (·.contains (Value.ref C)) = some false
  rw [e]
  show some (ms.contains (Value.ref C)) = some false
  have : ms.contains (Value.ref C) = false := by
    rw [Bool.eq_false_iff]
    intro z
    obtain ⟨U, q⟩ := h _ (List.contains_iff_mem.mp z)
    cases q
  rw [this]
theorem int_b85 (C : Addr) : PySem.W.subIn K (.type "int") (.ref C) = some false := by
  have e : fastBuiltinMro "int" = some [.type "int", .type "object"] := by kernel_rfl
  exact no_own e (fun m q => by simp at q; rcases q with rfl | rfl <;> exact ⟨_, rfl⟩) C
theorem dict_b85 (C : Addr) : PySem.W.subIn K (.type "dict") (.ref C) = some false := by
  have e : fastBuiltinMro "dict" = some [.type "dict", .type "object"] := by kernel_rfl
  exact no_own e (fun m q => by simp at q; rcases q with rfl | rfl <;> exact ⟨_, rfl⟩) C
end
section
variable {X : Cx} {pins : List (Addr × Obj)} {σ : L2.St} {H : Hp} {s : Shared} {p dx : Addr} {gs : List (Str × V)} {c : Str} {c2s : List Str} {op : Operator} {y : V} {u : Value}
/-- such a value has no part in the operator -/
theorem opV_of (I : Inv X pins σ H s) (tp : Top1 X.K c) (np : ∀ c2 ∈ c2s, NopK X.K c c2) (ho : OpN op) (hp : H p = some (.ins (He.ga X.K c) dx gs)) (od : OddB X.K c2s H y) (r : RelV y u) : Own.OpV X.prog X.w X.K (He.ga X.K c) op.info.2 p s u := by
  have F := opN_F ho
  obtain ⟨od1, J⟩ := inst_of I hp
  rcases od with rfl | ⟨b, rfl⟩ | ⟨i, rfl⟩ | ⟨z, rfl⟩ | ⟨a, xs, rfl, hl⟩ | ⟨a, xs, rfl, hl⟩ | ⟨a, o, kvs, rfl, hl⟩ | ⟨a, c2, d2, g2, rfl, mc, hl⟩
  · obtain rfl : u = Value.none := r
    exact .inl ⟨"NoneType", rfl, .inl F.non⟩
  · obtain rfl : u = Value.bool b := r
    exact .inl ⟨"bool", typeIs_bool' s b, .inr ⟨F.bool.1, tp.not_a (by decide), bool_b _, F.bool.2.1, fun A E => F.bool.2.2 _ _ A E s b p _ dx _ rfl J.at_⟩⟩
  · obtain ⟨t, rfl⟩ := r
    exact .inl ⟨"int", typeIs_int s i t, .inr ⟨F.int.1, tp.not_a (by decide), int_b85 _, F.int.2.1, fun A E => F.int.2.2 _ _ A E s i t p _ dx _ rfl J.at_⟩⟩
  · obtain ⟨t, rfl⟩ := r
    exact .inl ⟨"str", typeIs_str s z t, .inl F.str⟩
  · obtain rfl : u = Value.ref a := r
    obtain ⟨_, its, n, q, l1, e1⟩ := I.lstM hl
    exact .inl ⟨"list", ⟨_, e1, rfl⟩, .inl F.lst⟩
  · obtain rfl : u = Value.ref a := r
    obtain ⟨its, _, ⟨o, h1, h2, _⟩, _⟩ := I.tuple (.inl hl)
    exact .inl ⟨"tuple", ⟨o, h1, h2⟩, .inl F.tup⟩
  · obtain rfl : u = Value.ref a := r
    obtain ⟨_, h1, ⟨h2, _, _⟩, es, ep, _, h3, _⟩ := I.frzK hl
    refine .inl ⟨"dict", ⟨o, h1, h2⟩, ?_⟩
    rcases F.dict with f | ⟨f1, f2, f3⟩
    · exact .inl f
    · exact .inr ⟨f1, tp.not_a (by decide), dict_b85 _, f2, fun A E => f3 _ _ A E s a p _ rfl (J.type.andThen (PySem.W.looks_subIn I.kIn (tp.not_a (by decide)))) ⟨o, es, ep, h1, h2, h3⟩⟩
  · obtain rfl : u = Value.ref a := r
    obtain ⟨od2, J2⟩ := inst_of I hl
    exact .inr ⟨a, _, _, _, rfl, J2, (np c2 mc).ne, Own.looks_noFill I.kIn ((np c2 mc).no ho) F.obj⟩
end
end Tl
end
section
set_option maxHeartbeats 4000000
namespace Tl
open PySem PySem.Spec PyProof.Rows L2
section
variable {X : Cx} {W : WX} {P : Program} {w : World} {K : PySem.W.Frag} {mg : Str → Option Value} {base : Heap} {c m mr : Str} {c2s : List Str} {k j : Nat} {fs fr : Tl.FS} {G Gr : Gs} {a b : Expr} {ta tb : TE} {wa wb : WE} {fa fb : FnE D} {pos : Pos} {op : Operator}
def tOwnB (K : PySem.W.Frag) (c : Str) (c2s : List Str) (sp spr : Sp) (E : L2.St → XK) (ta tb : TE) : TE := fun σ H Q => ta σ H fun x H1 => tb σ H1 fun y H2 =>
  (∃ p dx gs, x = .ref p ∧ H2 p = some (.ins (He.ga K c) dx gs) ∧ OddB K c2s H2 y ∧ sp [x, y] H2 Q (E σ)) ∨ (∃ p dx gs, y = .ref p ∧ H2 p = some (.ins (He.ga K c) dx gs) ∧ OddB K c2s H2 x ∧ spr [y, x] H2 Q (E σ))
def wOwnB (c : Str) (c2s : List Str) (fs fr : Tl.FS) (wa wb : WE) : WE := fun env R Φ Ψ => wa env R (fun x R1 => wb env R1 (fun y R2 =>
  (∃ n1 d1 d, x = .val (.obj c n1 d1) ∧ y = .val d ∧ okB c2s d = true ∧ fs [.val (.obj c n1 d1), .val d] R2 Φ fun er R3 => Ψ er env R3) ∨
  (∃ n1 d1 d, y = .val (.obj c n1 d1) ∧ x = .val d ∧ okB c2s d = true ∧ fr [.val (.obj c n1 d1), .val d] R2 Φ fun er R3 => Ψ er env R3)) Ψ) Ψ
theorem d_ownB (ho : OpN op) (em : PySem.dunder op.info.2 = m) (er : dunderR op.info.2 = mr) (mo : Mono fs) (mo2 : Mono fr) (tp : Top1 X.K c) (np : ∀ c2 ∈ c2s, NopK X.K c c2) (cl : Mx X.prog X.w X.K X.mg X.base k c m fs []) (cr : Mx X.prog X.w X.K X.mg X.base k c mr fr []) (hr : Room j X.A) (hk : k ≤ j) (tk : Tk X W) (ha : DE X W a ta wa) (hb : DE X W b tb wb) :
    DE X W (.BinOp a op b pos) (tOwnB X.K c c2s (spOf X.K fs) (spOf X.K fr) (L2.WE W) ta tb) (wOwnB c c2s fs fr wa wb) := by
  obtain ⟨cd, hc, hm0⟩ := tp.ex
  obtain ⟨f, fd, ps, ds, _, hmf, F, bd, vd⟩ := cl.ex
  obtain ⟨g, gd, qs, es, _, hmg, G, bg, vg⟩ := cr.ex
  cases vd
  cases vg
  have hs : PySem.W.findIn X.K (.ref (He.ga X.K c)) (PySem.dunder op.info.2) = some (some (.ref f)) := by rw [em]; exact hmf.at_
  have hs2 : PySem.W.findIn X.K (.ref (He.ga X.K c)) (dunderR op.info.2) = some (some (.ref g)) := by rw [er]; exact hmg.at_
  refine ⟨⟨fun pins s σ H Q I h => wpAny_BinOp (binT ha.p hb.p I h fun v u s2 x y H2 I2 rx ry q => ?_)⟩, fun B env R Φ Ψ acc w σ F0 H s Q q => ha.v B env R _ Ψ acc w σ F0 H s _ fun x R1 v F1 H1 φ1 s1 x1 e1 => hb.v B env R1 _ Ψ acc φ1 σ F1 H1 s1 _ fun y R2 u F2 H2 φ2 s2 x2 e2 => ?_⟩
  · rcases q with ⟨p, dx, gs, rfl, hp, od, q⟩ | ⟨p, dx, gs, rfl, hp, od, q⟩
    · obtain rfl : v = Value.ref p := rx
      obtain ⟨od2, J⟩ := inst_of I2 hp
      have call : wpAny (model X.prog X.w) X.A (call (.ref f) [.ref p, u]) (Own.Back fun v s' => ∃ z, some v = some z ∧ EP X pins σ Q z s') X.xe s2 := wpAny_mono (run_at (us := [.ref p, u]) (vs := [.ref p, y]) F (hr.mono hk) I2.env0 bd tk I2 (.cons rfl (.cons ry .nil)) q) (fun _ _ z => ⟨(ep_back z).1, _, rfl, z⟩) fun _ _ z => z
      exact Own.bin_of (Own.bin_l I2.kIn hc hm0 J (opV_of I2 tp np ho hp od ry) hs hs2 hmf.fn call)
    · obtain rfl : u = Value.ref p := ry
      obtain ⟨od2, J⟩ := inst_of I2 hp
      have call : wpAny (model X.prog X.w) X.A (call (.ref g) [.ref p, v]) (Own.Back fun v s' => ∃ z, some v = some z ∧ EP X pins σ Q z s') X.xe s2 := wpAny_mono (run_at (us := [.ref p, v]) (vs := [.ref p, x]) G (hr.mono hk) I2.env0 bg tk I2 (.cons rfl (.cons rx .nil)) q) (fun _ _ z => ⟨(ep_back z).1, _, rfl, z⟩) fun _ _ z => z
      exact Own.bin_of (Own.bin_r I2.kIn hc hm0 J (opV_of I2 tp np ho hp od rx) hs hs2 hmg.fn call)
  · rcases φ2 with ⟨n1, d1, d, rfl, rfl, ok, φ2⟩ | ⟨n1, d1, d, rfl, rfl, ok, φ2⟩
    · obtain ⟨p, dx, vs, rfl, fp, _⟩ := of_obj (en_val e1)
      refine .inl ⟨p, dx, _, rfl, s2.fin.fh _ _ (x2 _ _ fp), oddB_of s2.fin.fh ok (en_val e2), ?_⟩
      exact call_go acc s2 (ens2 (e1.up x2) e2) φ2 mo fun o R3 z F3 H3 φ3 s3 x3 e3 => q o R3 z F3 H3 φ3 s3 ((x1.tr x2).tr x3) e3
    · obtain ⟨p, dx, vs, rfl, fp, _⟩ := of_obj (en_val e2)
      refine .inr ⟨p, dx, _, rfl, s2.fin.fh _ _ fp, oddB_of s2.fin.fh ok (en_val (e1.up x2)), ?_⟩
      exact call_go acc s2 (ens2 e2 (e1.up x2)) φ2 mo2 fun o R3 z F3 H3 φ3 s3 x3 e3 => q o R3 z F3 H3 φ3 s3 ((x1.tr x2).tr x3) e3
/-- which way round, is told by what the values are -/
def eOwnB (c : Str) (c2s : List Str) (G Gr : Gs) (fa fb : FnE D) : FnE D := fun env φ ψ => fa env (fun x env1 => fb env1 (fun y env2 =>
  (∃ n1 d1, x = .obj c n1 d1 ∧ okB c2s y = true ∧ G [.val x, .val y] (fun d => φ d env2) (fun er => ψ er env2)) ∨
  (∃ n1 d1, y = .obj c n1 d1 ∧ okB c2s x = true ∧ Gr [.val y, .val x] (fun d => φ d env2) (fun er => ψ er env2))) ψ) ψ
theorem f_ownB (tp : Top1 K c) (np : ∀ c2 ∈ c2s, NopK K c c2) (cl : Mx P w K mg base k c m (fsA G) []) (cr : Mx P w K mg base k c mr (fsA Gr) []) (hr : Room j X.A) (hk : k ≤ j) (tk : Tk X W) (ha : FE X W a ta wa fa) (hb : FE X W b tb wb fb) (ho : OpN op := by trivial) (em : PySem.dunder op.info.2 = m := by decide) (er : dunderR op.info.2 = mr := by decide) (hX : Of X P w K mg base := by exact ⟨rfl, rfl, rfl, rfl, rfl⟩) :
    FE X W (.BinOp a op b pos) (tOwnB K c c2s (spOf K (fsA G)) (spOf K (fsA Gr)) (L2.WE W) ta tb) (wOwnB c c2s (fsA G) (fsA Gr) wa wb) (eOwnB c c2s G Gr fa fb) := by
  obtain ⟨rfl, rfl, rfl, rfl, rfl⟩ := hX
  refine ⟨d_ownB ho em er (mono_a G) (mono_a Gr) tp np cl cr hr hk tk ha.d hb.d, fun b R0 ps env cenv R φ ψ Φ Ψ r z x q => ha.t b R0 ps env cenv R _ ψ _ Ψ r z x fun d1 env1 R1 r1 z1 => hb.t b R0 ps env1 cenv R1 _ ψ _ Ψ r1 z1 x fun d2 env2 R2 r2 z2 => ?_⟩
  rcases z2 with ⟨n1, e1, rfl, e2, z2⟩ | ⟨n1, e1, rfl, e2, z2⟩
  · exact .inl ⟨_, _, _, rfl, rfl, e2, b, _, _, _, rfl, two_arg, fun mm => no_bag2 mm, z2, fun d hd => q d env2 R2 r2 hd, fun er he => x er env2 R2 r2 he⟩
  · exact .inr ⟨_, _, _, rfl, rfl, e2, b, _, _, _, rfl, two_arg, fun mm => no_bag2 mm, z2, fun d hd => q d env2 R2 r2 hd, fun er he => x er env2 R2 r2 he⟩
end
end Tl
end
section
set_option maxHeartbeats 4000000
namespace Tl
open PySem PySem.Spec PyProof.Rows L2
section
variable {X : Cx} {W : WX} {P : Program} {w : World} {K : PySem.W.Frag} {mg : Str → Option Value} {base : Heap} {c m mr : Str} {c2s : List Str} {k j : Nat} {fs fr : Tl.FS} {G Gr : Gs} {e : Expr} {te : TE} {we : WE} {fe : FnE D} {pos pos' : Pos} {op : Operator}
def tAugE (i : Nat) (te : TE) (ti : L2.St → TIp) : TS := fun D σ H => ∃ x, σ[i]? = some (some x) ∧ te σ H fun y H1 => ti σ x y H1 fun z H2 => D.nx (σ.set i (some z)) H2
theorem ps_augE {i : Nat} {x : Str} {ti : L2.St → TIp} (hN : X.N.Nodup) (hi : X.N[i]? = some x) (hx : Loc X.env.scope x) (he : PE X e te)
    (ho : ∀ (pins : List (Addr × Obj)) (s : Shared) (σ : L2.St) (H : Hp) (x y : V) (v u : Value) (Q : VK), Inv X pins σ H s → RelV x v → RelV y u → ti σ x y H Q → wpAny (model X.prog X.w) X.A (inplaceOp op v u) (EP X pins σ Q) X.xe s)
    (hf : X.fn x = true ∨ X.env.scope.names.lookup x = some .local) : PS X (.AugAssign (.Name x pos') op e pos) (tAugE i te ti) := by
  refine ⟨fun pins s σ H D I h => ?_⟩
  obtain ⟨v, e1, h⟩ := h
  obtain ⟨m, hn, hl⟩ := I.loc
  have vis : Vis X.env.scope x := by rcases hx with k | k; exact .inl k; exact .inr (.inl k)
  obtain ⟨u, r, l⟩ := hl i x v hi e1 vis
  refine wpAny_AugAssign_Name ?_
  have go : wpAny (model X.prog X.w) X.A (eval e X.env) (fun w s₂ => wpAny (model X.prog X.w) X.A (inplaceOp op u w) (fun r s₃ => wpAny (model X.prog X.w) X.A (storeName X.env x r) (fun _ => SP X pins D .next) X.xe s₃) X.xe s₂) X.xe s := by
    refine thn (he.run pins s σ H _ I h) fun w s1 ⟨y, H1, I1, r1, q1⟩ => ?_
    refine thn (ho pins s1 σ H1 v y u w _ I1 r r1 q1) fun z s2 ⟨zv, H2, I2, r2, q2⟩ => ?_
    exact store_ok I2 hN hi hx r2 (fun s3 I3 => ⟨_, H2, I3, q2⟩) hf
  rcases l with ⟨hk, hm⟩ | ⟨hk, c, hc, hcell⟩
  · exact wpAny_loadName_local I.ok.kind hk hn hm go
  · rcases hk with hk | hk
    · exact wpAny_loadName_cell I.ok.kind hk hc hcell go
    · rcases hx with k | k
      · have : X.env.scope.names.lookup x = some .free := hk
        rw [k] at this; cases this
      · have : X.env.scope.names.lookup x = some .free := hk
        rw [k] at this; cases this
def tIpB (K : PySem.W.Frag) (c : Str) (c2s : List Str) (sp : Sp) (E : L2.St → XK) : L2.St → TIp := fun σ x y H Q => ∃ p dx gs, x = .ref p ∧ H p = some (.ins (He.ga K c) dx gs) ∧ OddB K c2s H y ∧ sp [x, y] H Q (E σ)
def sAugB (c : Str) (c2s : List Str) (fs : Tl.FS) (i : Nat) (we : WE) : WS := fun env R P Ψ => ∃ n1 d1, env[i]? = some (.val (.obj c n1 d1)) ∧ we env R (fun y R1 => ∃ d, y = .val d ∧ okB c2s d = true ∧ fs [.val (.obj c n1 d1), .val d] R1 (fun o R2 => P.nx (env.set i o) R2) fun er R2 => Ψ er env R2) Ψ
/-- the class has no such method of its own -/
structure NiK (K : PySem.W.Frag) (c nm : Str) : Prop where
  no : PySem.W.findIn K (.ref (He.ga K c)) nm = some none
theorem s_augB {i : Nat} {x : Str} (hN : X.N.Nodup) (ho : OpN op) (em : PySem.dunder op.info.2 = m) (er : dunderR op.info.2 = mr) (mo : Mono fs) (tp : Top1 X.K c) (np : ∀ c2 ∈ c2s, NopK X.K c c2) (cl : Mx X.prog X.w X.K X.mg X.base k c m fs []) (cr : Mx X.prog X.w X.K X.mg X.base k c mr fr []) (hr : Room j X.A) (hk : k ≤ j) (tk : Tk X W) (he : DE X W e te we)
    (hin : NiK X.K c (dunderI op.info.2)) (hob : typeLookup (.type "object") (dunderI op.info.2) = pure none)
    (hi : X.N[i]? = some x) (hx : Loc X.env.scope x) (hf : X.fn x = true ∨ X.env.scope.names.lookup x = some .local) :
    DS X W (.AugAssign (.Name x pos') op e pos) (tAugE i te (tIpB X.K c c2s (spOf X.K fs) (L2.WE W))) (sAugB c c2s fs i we) := by
  obtain ⟨cd, hc, hm0⟩ := tp.ex
  obtain ⟨f, fd, ps, ds, _, hmf, F, bd, vd⟩ := cl.ex
  obtain ⟨g, gd, qs, es, _, hmg, G, bg, vg⟩ := cr.ex
  cases vd
  cases vg
  have hs : PySem.W.findIn X.K (.ref (He.ga X.K c)) (PySem.dunder op.info.2) = some (some (.ref f)) := by rw [em]; exact hmf.at_
  have hs2 : PySem.W.findIn X.K (.ref (He.ga X.K c)) (dunderR op.info.2) = some (some (.ref g)) := by rw [er]; exact hmg.at_
  refine ⟨ps_augE (i := i) hN hi hx he.p (fun pins s σ H x y v u Q I rx ry h => ?_) hf, fun B env R P Ψ acc w σ F1 H E s kk => ?_⟩
  · obtain ⟨p, dx, gs, rfl, hp, od, q⟩ := h
    obtain rfl : v = Value.ref p := rx
    obtain ⟨od2, J⟩ := inst_of I hp
    have call : wpAny (model X.prog X.w) X.A (call (.ref f) [.ref p, u]) (Own.Back fun v s' => ∃ z, some v = some z ∧ EP X pins σ Q z s') X.xe s := wpAny_mono (run_at (us := [.ref p, u]) (vs := [.ref p, y]) F (hr.mono hk) I.env0 bd tk I (.cons rfl (.cons ry .nil)) q) (fun _ _ z => ⟨(ep_back z).1, _, rfl, z⟩) fun _ _ z => z
    exact Own.aug_own I.kIn J (Own.no_inplace I.kIn hc hm0 hin.no hob) (Own.bin_l I.kIn hc hm0 J (opV_of I tp np ho hp od ry) hs hs2 hmf.fn call)
  · obtain ⟨n1, d1, gx, w⟩ := w
    obtain ⟨o, zo, v, rfl, r1⟩ := s.en.get gx
    refine ⟨v, zo, he.v B env R _ Ψ acc w σ F1 H s _ fun y R1 u F2 H2 φ s2 x2 e2 => ?_⟩
    obtain ⟨d, rfl, ok, φ⟩ := φ
    obtain ⟨p, dx, vs, rfl, fa, _⟩ := of_obj (Rep.up x2 _ _ r1)
    have e1 : EnOk X.K F2 (.val (.obj c n1 d1)) (some (.ref p)) := enVal (Rep.up x2 _ _ r1)
    exact ⟨p, dx, _, rfl, s2.fin.fh _ _ fa, oddB_of s2.fin.fh ok (en_val e2), call_go acc s2 (ens2 e1 e2) φ mo fun o R' z F' H' φ3 s3 x3 e3 => kk.nx _ R' _ F' H' φ3 (s3.set i e3)⟩
def hAugB (c : Str) (c2s : List Str) (G : Gs) (i : Nat) (fe : FnE D) : FnS := fun env P ψ => match env[i]? with
  | some (.val (.obj c1 n1 d1)) => c1 = c ∧ fe env (fun y env' => okB c2s y = true ∧ G [.val (.obj c1 n1 d1), .val y] (fun z => P.nx (env'.set i (.val z))) (fun er => ψ er env')) ψ
  | _ => False
theorem fs_augB {i : Nat} {x : Str} (hN : X.N.Nodup) (tp : Top1 K c) (np : ∀ c2 ∈ c2s, NopK K c c2) (cl : Mx P w K mg base k c m (fsA G) []) (cr : Mx P w K mg base k c mr (fsA Gr) []) (hr : Room j X.A) (hk : k ≤ j) (tk : Tk X W) (h : FE X W e te we fe) (hin : NiK K c (dunderI op.info.2)) (hob : typeLookup (.type "object") (dunderI op.info.2) = pure none)
    (ho : OpN op := by trivial) (em : PySem.dunder op.info.2 = m := by decide) (er : dunderR op.info.2 = mr := by decide) (hi : X.N[i]? = some x := by rfl) (hx : Loc X.env.scope x := by first | exact Or.inl rfl | exact Or.inr rfl) (hf : X.fn x = true ∨ X.env.scope.names.lookup x = some .local := by first | exact .inl rfl | exact .inr rfl | assumption) (hX : Of X P w K mg base := by exact ⟨rfl, rfl, rfl, rfl, rfl⟩) :
    FS' X W (.AugAssign (.Name x pos') op e pos) (tAugE i te (tIpB K c c2s (spOf K (fsA G)) (L2.WE W))) (sAugB c c2s (fsA G) i we) (hAugB c c2s G i fe) := by
  obtain ⟨rfl, rfl, rfl, rfl, rfl⟩ := hX
  refine ⟨s_augB hN ho em er (mono_a G) tp np cl cr hr hk tk h.d hin hob hi hx hf, fun b R0 ps env cenv R P ψ P' Ψ r z x k => ?_⟩
  unfold hAugB at z
  split at z
  · rename_i c1 n1 d1 e0
    obtain ⟨rfl, z⟩ := z
    refine ⟨n1, d1, r.get e0, h.t b R0 ps env cenv R _ ψ _ Ψ r z (x.at_ ps cenv) fun d env' R' r' z' => ?_⟩
    obtain ⟨ok, z'⟩ := z'
    exact ⟨d, rfl, ok, b, _, _, _, rfl, two_arg, fun mm => no_bag2 mm, z', fun d hd => k.nx ps _ _ R' (r'.setV i _) hd, fun er he => (x.at_ ps cenv) er env' R' r' he⟩
  · exact False.elim z
end
end Tl
end
section
set_option maxHeartbeats 4000000
namespace Tl
open PySem PySem.Spec PyProof.Rows L2
section
variable {X : Cx} {W : WX} {o e : Expr} {to te : TE} {wo we : WE} {fo fe : FnE D} {apos pos : Pos}
def rSIdx : V → List V → Hp → VK → Prop := fun x xs H Q => ∃ a b i rest, x = .str a ∧ xs = [.str b] ∧ Builtin.Str.occurrences a b 0 a.length 1 = i :: rest ∧ Q (.int (i : Nat)) H
def wSIdx (wo we : WE) : WE := fun env R Φ Ψ => wo env R (fun x R1 => ∃ a, x = .val (.str a) ∧ we env R1 (fun y R2 => ∃ b i rest, y = .val (.str b) ∧ Builtin.Str.occurrences a b 0 a.length 1 = i :: rest ∧ Φ (.val (.int (i : Nat))) R2) Ψ) Ψ
theorem d_sidx (ho : DE X W o to wo) (he : DE X W e te we) (hs : starEach [e] X.env = [(false, eval e X.env)] := by rfl) (hbase : attributeBase o "index" X.env (eval o X.env) = eval o X.env := by rfl) (hline : (apos.endLine == pos.line) = true := by rfl) :
    DE X W (.Call (.Attribute o "index" apos) [e] [] pos) (tM1 rSIdx to te) (wSIdx wo we) :=
  ⟨pe_m1 PySem.F.slot_str_index PySem.F.type_str_index mt_sindex ho.p he.p hs hbase hline, fun B env R Φ Ψ acc w σ F H s Q q => ho.v B env R _ Ψ acc w σ F H s _ fun x R1 v F1 H1 φ s1 x1 e1 => by
    obtain ⟨a, rfl, φ⟩ := φ
    rw [of_str (en_val e1)]
    refine ⟨⟨a, rfl⟩, he.v B env R1 _ Ψ acc φ σ F1 H1 s1 _ fun y R2 u F2 H2 φ2 s2 x2 e2 => ?_⟩
    obtain ⟨b, i, rest, rfl, h, φ2⟩ := φ2
    rw [of_str (en_val e2)]
    exact ⟨a, b, i, rest, rfl, rfl, h, q _ R2 _ F2 H2 φ2 s2 (x1.tr x2) (enVal (rep_int _))⟩⟩
def eSIdx (fo fe : FnE D) : FnE D := fun env φ ψ => fo env (fun x env1 => match x with
  | .str a => fe env1 (fun y env2 => ∃ b i rest, y = .str b ∧ Builtin.Str.occurrences a b 0 a.length 1 = i :: rest ∧ φ (.int (i : Nat)) env2) ψ
  | _ => False) ψ
theorem f_sidx (ho : FE X W o to wo fo) (he : FE X W e te we fe) (hs : starEach [e] X.env = [(false, eval e X.env)] := by rfl) (hbase : attributeBase o "index" X.env (eval o X.env) = eval o X.env := by rfl) (hline : (apos.endLine == pos.line) = true := by rfl) :
    FE X W (.Call (.Attribute o "index" apos) [e] [] pos) (tM1 rSIdx to te) (wSIdx wo we) (eSIdx fo fe) :=
  ⟨d_sidx ho.d he.d hs hbase hline, fun b R0 ps env cenv R φ ψ Φ Ψ r z x q =>
  ho.t b R0 ps env cenv R _ ψ _ Ψ r z x fun d1 env1 R1 r1 z1 => by
    cases d1 with
    | str a =>
      refine ⟨a, rfl, he.t b R0 ps env1 cenv R1 _ ψ _ Ψ r1 z1 x fun d2 env2 R2 r2 z2 => ?_⟩
      obtain ⟨b2, i, rest, rfl, h, z2⟩ := z2
      exact ⟨b2, i, rest, rfl, h, q _ env2 R2 r2 z2⟩
    | _ => exact False.elim z1⟩
end
end Tl
end
section
set_option maxHeartbeats 4000000
namespace Tl
open PySem PySem.Spec PyProof.Rows L2
theorem nfB_ok {K : PySem.W.Frag} {c : Str} {nm : String} (t : Top1 K c) (h : nfB K (He.ga K c) nm = true) : Own.NoFill K (He.ga K c) nm := by
  obtain ⟨h1, h2⟩ := Bool.and_eq_true_iff.mp h
  exact ⟨t.ex, He.eqO_ok h1, He.eqO_ok h2⟩
theorem npB_ok {K : PySem.W.Frag} {c c2 : Str} (h : npB K c c2 = true) : NopK K c c2 := by
  unfold npB at h
  obtain ⟨h1, h⟩ := Bool.and_eq_true_iff.mp h
  obtain ⟨h2, h⟩ := Bool.and_eq_true_iff.mp h
  obtain ⟨h3, h⟩ := Bool.and_eq_true_iff.mp h
  obtain ⟨h4, h5⟩ := Bool.and_eq_true_iff.mp h
  have t := topB_ok h2
  refine ⟨fun e => ?_, nfB_ok t h3, nfB_ok t h4, nfB_ok t h5⟩
  rw [decide_eq_true e] at h1
  cases h1
theorem niB_ok {K : PySem.W.Frag} {c nm : Str} (h : niB K c nm = true) : NiK K c nm := ⟨He.eqO_ok h⟩
end Tl
end
section
set_option maxHeartbeats 4000000
namespace Tl
open PySem PySem.Spec PyProof.Rows L2
/-- another class, right under object -/
structure NeK (K : PySem.W.Frag) (c c2 : Str) : Prop where
  ne : He.ga K c2 ≠ He.ga K c
  top : Top1 K c2
theorem neB_ok {K : PySem.W.Frag} {c c2 : Str} (h : neB K c c2 = true) : NeK K c c2 := by
  obtain ⟨h1, h2⟩ := Bool.and_eq_true_iff.mp h
  refine ⟨fun e => ?_, topB_ok h2⟩
  rw [decide_eq_true e] at h1
  cases h1
theorem NeK.sub {K : PySem.W.Frag} {c c2 : Str} (n : NeK K c c2) : PySem.W.subIn K (.ref (He.ga K c2)) (.ref (He.ga K c)) = some false := by
  obtain ⟨cd, h1, h2⟩ := n.top.ex
  show PySem.W.mroIn K (He.ga K c2) (.ref (He.ga K c)) = some false
  unfold PySem.W.mroIn
  rw [h1]
  show (if cd.mro.isEmpty = true then none else some (cd.mro.contains (Value.ref (He.ga K c)))) = some false
  rw [h2]
  have e1 : (Value.ref (He.ga K c) == Value.ref (He.ga K c2)) = false := beq_eq_false_iff_ne.mpr fun e => n.ne (Value.ref.inj e).symm
  have e2 : (Value.ref (He.ga K c) == Value.type "object") = false := rfl
  show some (List.elem (Value.ref (He.ga K c)) [Value.ref (He.ga K c2), Value.type "object"]) = some false
  rw [List.elem, e1, List.elem, e2]; rfl
section
variable {X : Cx} {W : WX} {P : Program} {w : World} {K : PySem.W.Frag} {mg : Str → Option Value} {base : Heap} {c m : Str} {c2s : List Str} {k j : Nat} {fs : Tl.FS} {G : Gs}
def rEqB (K : PySem.W.Frag) (c : Str) (c2s : List Str) (fs : Tl.FS) : R2 := fun x y H Q => ∃ p dx gs, x = .ref p ∧ H p = some (.ins (He.ga K c) dx gs) ∧ ((∃ q dy hs, y = .ref q ∧ H q = some (.ins (He.ga K c) dy hs)) ∨ (∃ q c2 dy hs, y = .ref q ∧ c2 ∈ c2s ∧ H q = some (.ins (He.ga K c2) dy hs)) ∨ ∃ T ∈ tyKeys, TyB K H y T) ∧ spOf K fs [.ref p, y] H Q E0
def okEB (c : Str) (c2s : List Str) : D → Prop := fun d => match d with
  | .obj c2 _ _ => c2 = c ∨ c2 ∈ c2s
  | d => plainK d = true
def kEqB (c : Str) (c2s : List Str) (fs : Tl.FS) : KO := fun x y R Φ => match x, y with
  | .val (.obj c1 n1 d1), .val d => c1 = c ∧ okEB c c2s d ∧ fs [.val (.obj c1 n1 d1), .val d] R Φ fun _ _ => False
  | _, _ => False
theorem o_eqB (mo : Mono fs) (so : SubOwn X.K c) (np : ∀ c2 ∈ c2s, NeK X.K c c2) (cc : Mx X.prog X.w X.K X.mg X.base k c "__eq__" fs []) (hr : Room j X.A) (hk : k ≤ j) : DOp X (compareOp .Eq) (rEqB X.K c c2s fs) (kEqB c c2s fs) := by
  obtain ⟨f, fd, ps, ds, _, hmf, F, bd, vd⟩ := cc.ex
  cases vd
  refine ⟨fun pins s σ H x y v u Q I rx ry h => ?_, fun B env R σ F1 H x y v u Φ Q s ex ey φ q => ?_⟩
  · obtain ⟨p, dx, gs, rfl, hp, hy, h⟩ := h
    obtain rfl : v = Value.ref p := rx
    obtain ⟨od, J⟩ := inst_of I hp
    have call : wpAny (model X.prog X.w) X.A (call (.ref f) [.ref p, u]) (Own.Back (EP X pins σ Q)) X.xe s := wpAny_mono (run_at0 (us := [.ref p, u]) (vs := [.ref p, y]) F (hr.mono hk) I.env0 bd I (.cons rfl (.cons ry .nil)) h) (fun _ _ z => ep_back z) fun _ _ z => z
    rcases hy with ⟨q, dy, hs, rfl, hq⟩ | ⟨q, c2, dy, hs, rfl, mc, hq⟩ | ⟨T, hT, ty⟩
    · obtain rfl : u = Value.ref q := ry
      obtain ⟨oe, J2⟩ := inst_of I hq
      show wpAny _ _ (richCompare .Eq (.ref p) (.ref q)) _ _ _
      exact Own.cmp_own hr.units0 I.kIn J J2.type (.inl rfl) hmf.at_ hmf.fn call
    · obtain rfl : u = Value.ref q := ry
      obtain ⟨oe, J2⟩ := inst_of I hq
      show wpAny _ _ (richCompare .Eq (.ref p) (.ref q)) _ _ _
      exact Own.cmp_own hr.units0 I.kIn J J2.type (.inr (np c2 mc).sub) hmf.at_ hmf.fn call
    · show wpAny _ _ (richCompare .Eq (.ref p) u) _ _ _
      exact Own.cmp_ownT hr.units0 I.kIn J (ty.is I ry) (so.t T hT) hmf.at_ hmf.fn call
  · unfold kEqB at φ
    split at φ
    · rename_i c1 n1 d1 d
      obtain ⟨rfl, hd, φ⟩ := φ
      obtain ⟨p, dx, vs, rfl, fa, _⟩ := of_obj (en_val ex)
      refine ⟨p, dx, _, rfl, s.fin.fh _ _ fa, ?_, call_go0 s (ens2 ex ey) φ mo q⟩
      unfold okEB at hd
      split at hd
      · obtain ⟨p2, dx2, vs2, rfl, fa2, _⟩ := of_obj (en_val ey)
        rcases hd with rfl | hd
        · exact .inl ⟨p2, dx2, _, rfl, s.fin.fh _ _ fa2⟩
        · exact .inr (.inl ⟨p2, _, dx2, _, rfl, hd, s.fin.fh _ _ fa2⟩)
      · exact .inr (.inr (tyb_of s.fin.fh hd (en_val ey)))
    · exact False.elim φ
def gEqB (c : Str) (c2s : List Str) (G : Gs) : G2 := fun x y φ => match x with
  | .obj c1 n1 d1 => c1 = c ∧ okEB c c2s y ∧ G [.val (.obj c1 n1 d1), .val y] φ fun _ => False
  | _ => False
theorem p_eqB (so : SubOwn K c) (np : ∀ c2 ∈ c2s, NeK K c c2) (cc : Mx P w K mg base k c "__eq__" (fsA G) []) (hr : Room j X.A) (hk : k ≤ j) (hX : Of X P w K mg base := by exact ⟨rfl, rfl, rfl, rfl, rfl⟩) : OC X .Eq (rEqB K c c2s (fsA G)) (kEqB c c2s (fsA G)) (gEqB c c2s G) := by
  obtain ⟨rfl, rfl, rfl, rfl, rfl⟩ := hX
  refine ⟨o_eqB (mono_a G) so np cc hr hk, fun x y R φ Φ z q => ?_⟩
  unfold gEqB at z
  split at z
  · obtain ⟨e1, e2, z⟩ := z
    exact ⟨e1, e2, 0, _, _, _, rfl, two_arg, fun mm => no_bag2 mm, z, fun d hd => q d hd, fun er he => he⟩
  · exact False.elim z
end
end Tl
end
section
set_option maxHeartbeats 4000000
namespace Tl
open PySem PySem.Spec PyProof.Rows L2
end Tl
end
section
set_option maxHeartbeats 4000000
namespace Tl
open PySem PySem.Spec PyProof.Rows L2
section
variable {X : Cx} {W : WX} {P : Program} {w : World} {K : PySem.W.Frag} {mg : Str → Option Value} {base : Heap} {c m : Str} {k j : Nat} {G : Gs} {dv : List D} {p apos pos : Pos}
theorem pe_stat0 {sp : Sp} {dvs : List V} {ds : List Value} {E : L2.St → XK} {f p0 : Addr} {fd : FuncData} {ps : List Str} {pl : Sem Bool} (k0 : SMet X.K (He.ga X.K c) m p0 f) (F : FnOk X.prog X.w X.K X.mg X.base (L2.CX X.prog X.w) k f fd ps sp) (hr : Room k X.A) (hm : X.mg c = some (.ref (He.ga X.K c))) (hg : Gl X c) (hk : PySem.W.keepIn X.K (.ref f) = true) (hb : Binds X.K fd ps ds) (hd : Vals dvs ds) (hx : ∀ σ, PassesAt (L2.CX X.prog X.w) X σ (E σ))
    (hdb : (c == ("__debug__" : Str)) = false := by decide)
    (ht : eval (.Call (.Attribute (.Name c p) m apos) [] [] pos) X.env = (eval (.Name c p) X.env >>= fun ov => standAt apos.atName >>= fun _ => holding [ov] (getMethod ov m pl) >>= fun q => callWith pos q.1 q.2 (backTo pos (starEach [] X.env)) (backToKw pos (keywordEach [] X.env))) := by rfl) :
    PE X (.Call (.Attribute (.Name c p) m apos) [] [] pos) (tCallSD sp dvs E tNil) := by
  refine ⟨fun pins s σ H Q I h => ?_⟩
  refine PySem.W.methodCall_KW (pl := pl) (thn ((pe_glob (v := .ref (He.ga X.K c)) hg hm rfl hdb).run pins s σ H (fun x H1 => x = .ref (He.ga X.K c) ∧ tNil σ H1 fun vs H2 => sp (vs ++ dvs) H2 Q (E σ)) I ⟨rfl, h⟩) fun u s1 ⟨x, H1, I1, rx, ex, q⟩ => ?_) ht
  subst ex
  obtain rfl : u = Value.ref (He.ga X.K c) := rx
  refine getsm_ok I1 k0 ?_
  have I2 := I1.tok (s1.toks + 1)
  exact PySem.W.callWith_K0 (first := []) I2.kIn hk (run_fnSD (us := []) (vs := []) F hr hb hd (hx σ) I2 .nil q)
theorem f_stat0 {pl : Sem Bool} (cc : Sx P w K mg base k c m (fsA G) dv) (hr : Room j X.A) (hk : k ≤ j) (tk : Tk X W) (hX : Of X P w K mg base := by exact ⟨rfl, rfl, rfl, rfl, rfl⟩) (hg : Gl X c := by rfl) (hdb : (c == ("__debug__" : Str)) = false := by decide)
    (ht : eval (.Call (.Attribute (.Name c p) m apos) [] [] pos) X.env = (eval (.Name c p) X.env >>= fun ov => standAt apos.atName >>= fun _ => holding [ov] (getMethod ov m pl) >>= fun q => callWith pos q.1 q.2 (backTo pos (starEach [] X.env)) (backToKw pos (keywordEach [] X.env))) := by rfl) :
    FE X W (.Call (.Attribute (.Name c p) m apos) [] [] pos) (tCallSD (spOf K (fsA G)) (dv.map lit) (L2.WE W) tNil) (wCall (fsA G) dv aNil) (eCall G dv zNil) := by
  obtain ⟨rfl, rfl, rfl, rfl, rfl⟩ := hX
  obtain ⟨f, p0, fd, ps, ds, k0, kp, F, hm, b, d⟩ := cc.ex
  exact ⟨⟨pe_stat0 k0 F (hr.mono hk) hm hg kp b d (fun σ => passAt tk.takes σ) hdb ht, call_ev (mono_a G) cc.lit (a_nil (X := X) (W := W)).v⟩, det_call (z_nil (X := X) (W := W)).t⟩
end
end Tl
end
section
set_option maxHeartbeats 2000000
namespace Tl
open PySem PySem.Spec PyProof.Rows L2
end Tl
end
section
set_option maxHeartbeats 2000000
namespace Tl
open PySem PySem.Spec PyProof.Rows L2
structure XiK (K : PySem.W.Frag) (c t : Str) : Prop where
  e : ExcC K (He.ga K c)
  ve : t = "ValueError" → PySem.W.kitOne K (.ref (He.ga K c)) (.type "ValueError") = some true
  g : t ≠ "ValueError" → PySem.W.kitOne K (.ref (He.ga K c)) (.ref (He.ga K t)) = some true
theorem xiB_ok {K : PySem.W.Frag} {c t : Str} (h : xiB K c t = true) : XiK K c t := by
  obtain ⟨h1, h2⟩ := Bool.and_eq_true_iff.mp h
  have h2 := of_decide_eq_true h2
  refine ⟨(excB_ok h1).1, fun e => ?_, fun e => ?_⟩
  · rw [if_pos e] at h2; exact h2
  · rw [if_neg e] at h2; exact h2
section
variable {X : Cx} {a : Addr} {oe : Obj} {cls : Value} {d : Option Addr} {pn : List (Addr × Obj)} {W : WX} {pos p : Pos} {K : PySem.W.Frag} {er : Er} {e2 : Expr} {t2 : TE}
def eIsP (a : Addr) (d : Option Addr) (i : Nat) : FnE D := fun env φ _ => match (env[i]? : Option A) with
  | some (.err q dd (.plain _)) => q = a ∧ dd = d ∧ d = none ∧ φ (.bl true) env
  | _ => False
theorem f_isX {y : Str} {c : D} {v : V} {u : Value} (i : Nat) {x : Str} {q : Pos} (C : ExcC K (He.ga K y)) (hk : PySem.W.kitOne K (.ref (He.ga K y)) u = some true) (hv : clV K c = some (v, u)) (hc : ErCls K cls d er) (hq : er.c = y) (hz : Zc cls d oe) (hf : ∃ vs, oe.data = .fields vs)
    (hmg : X.mg "isinstance" = none) (h2 : FE (X.suite a ((a, oe) :: pn)) W e2 t2 (wC c) (eC c)) (hX : X.K = K := by rfl) (hgl : Gl (X.suite a ((a, oe) :: pn)) "isinstance" := by rfl) (hN : X.N[i]? = some x := by rfl) (hvi : Vis X.env.scope x := by first | exact Or.inl rfl | exact Or.inr (Or.inl rfl) | exact Or.inr (Or.inr rfl)) (hd : (x == ("__debug__" : Str)) = false := by decide)
    (hcd : (x == ("__classdict__" : Str)) = false := by decide) (he1 : starEach [.Name x q, e2] X.env = (false, eval (.Name x q) X.env) :: starEach [e2] X.env := by rfl) (he2 : starEach [e2] X.env = (false, eval e2 X.env) :: starEach [] X.env := by rfl) (hpl : (backTo pos (starEach [e2] X.env)).any (·.1) = false := by rfl) :
    FE (X.suite a ((a, oe) :: pn)) W (.Call (.Name "isinstance" p) [.Name x q, e2] [] pos) (tCB (rIsX X.K (He.ga X.K y) a d) (tCons (tVar i) (tCons t2 tNil))) (wCB (aCons (wVar i) (aCons (wC c) aNil)) (kIsX a d c true)) (eIsP a d i) := by
  subst hX hq
  have hcl : cls = .ref (He.ga X.K er.c) := by
    cases er with
    | plain _ => exact hc.1
    | fld _ _ _ => exact hc.1
  refine ⟨d_callB (X := X.suite a ((a, oe) :: pn)) (c_isX (X := X) (y := er.c) C hcl hz hf hv hk) hmg boot_isinstance (a_cons (Tl.dv (X := X.suite a ((a, oe) :: pn)) i hN hvi hd hcd) (a_cons h2.d a_nil he2) he1) hgl (by decide) (by decide) he1 hpl, fun b R0 ps env cenv R φ ψ Φ Ψ r z xx k => ?_⟩
  unfold eIsP at z
  split at z
  · rename_i q0 dd c0 e0
    obtain ⟨rfl, rfl, rfl, z⟩ := z
    have ge := r.get e0
    unfold wCB aCons wVar
    rw [ge]
    exact ⟨rfl, rfl, trivial, k (.bl true) env R r z⟩
  · exact False.elim z
end
end Tl
end
namespace Tw
open PySem PySem.Spec PyProof.Rows L2 Tl
theorem T_inj {a b : Str} (h : T a = T b) : a = b := by
  rw [← mk_T a, ← mk_T b, h]
def g_law_alphabet (cs : List Str) : Gs := fun as φ _ => as = [] ∧ φ (.str AL)
end Tw
namespace Tw
open PySem PySem.Spec PyProof.Rows L2 Tl
/-- the signs that an argument holds -/
inductive Hs : D → Option Str → Prop
  | sig (p : Nat → Bool) : Hs (sigD (of p)) (some (of p))
  | str (z : Str) (h : Ok z) : Hs (.str z) (some (of (pOf z)))
  | odd (d : D) (h1 : ∀ c ns ds, d = .obj c ns ds → c ≠ "Signs") (h2 : ∀ z, d = .str z → ¬ Ok z) : Hs d none
def g_held_signsN (cs : List Str) : Gs := fun as φ ψ => ∃ d o, as = [.val d] ∧ KnD cs d ∧ Hs d o ∧ match o with
  | some s => φ (.str s)
  | none => ψ (.plain "BadSigns")
abbrev c2L : List Str := ["Field", "Mark", "Maybe", "Form"]
/-- no signs, and not within the operators -/
def OdB (cs : List Str) (d : D) : Prop := KnD cs d ∧ Hs d none ∧ okB c2L d = true
def g_Signs_initX (cs : List Str) : Gs := fun as φ ψ => ∃ d, as = [.val d] ∧ KnD cs d ∧ ((∃ z, d = .str z ∧ Ok z ∧ φ (sigD (of (pOf z)))) ∨ ((∀ z, d = .str z → ¬ Ok z) ∧ ψ (.plain "BadSigns")))
def g_raises (cs : List Str) : Gs := fun as _ ψ => ∃ z d, as = [.val (sigD z), .val d] ∧ KnD cs d ∧ Hs d none ∧ ψ (.plain "BadSigns")
def g_Signs_or (cs : List Str) : Gs := g_raises cs
def g_Signs_ror (cs : List Str) : Gs := g_raises cs
def g_Signs_and (cs : List Str) : Gs := g_raises cs
def g_Signs_rand (cs : List Str) : Gs := g_raises cs
def g_Signs_sub (cs : List Str) : Gs := fun as φ ψ => g_raises cs as φ ψ ∨ ∃ p : Nat → Bool, as = [.val (sigD (of p)), .val (sigD (of p))] ∧ φ (sigD "")
def g_Signs_rsub (cs : List Str) : Gs := g_raises cs
def g_Signs_within (cs : List Str) : Gs := g_raises cs
def g_Signs_least (cs : List Str) : Gs := fun as _ ψ => as = [.val (sigD "")] ∧ ψ (.plain "BadSigns")
/-- no span -/
def SpBad (cs : List Str) (d1 d2 : D) : Prop := KnD cs d1 ∧ KnD cs d2 ∧ ((∀ z, d1 = .str z → ¬ Ok z) ∨ (∀ z, d2 = .str z → ¬ Ok z) ∨ ∃ z w, d1 = .str z ∧ d2 = .str w ∧ z.length ≤ 1000 ∧ w.length ≤ 1000 ∧ (z.length ≠ 1 ∨ w.length ≠ 1 ∨ (w.cps.toList < z.cps.toList)))
/-- the signs from one to another -/
def alS (i j : Nat) : Str := mk (((T AL).drop i).take (j + 1 - i))
def alC (i : Nat) : Str := sgn ((T AL).getD i 0)
def g_Signs_span (cs : List Str) : Gs := fun as φ ψ => (∃ d1 d2, as = [.val d1, .val d2] ∧ SpBad cs d1 d2 ∧ ψ (.plain "BadSigns")) ∨ ∃ i j : Nat, as = [.val (.str (alC i)), .val (.str (alC j))] ∧ i ≤ j ∧ j < 94 ∧ φ (sigD (alS i j))
def OpOk (cs : List Str) (a b : D) : Prop := (∃ z, a = sigD z ∧ OdB cs b) ∨ ∃ z, b = sigD z ∧ OdB cs a
def g_two (ok : D → D → Prop) : Gs := fun as _ ψ => ∃ a b, as = [.val a, .val b] ∧ ok a b ∧ ψ (.plain "BadSigns")
def g_law_or (cs : List Str) : Gs := g_two (OpOk cs)
def g_law_and (cs : List Str) : Gs := g_two (OpOk cs)
def g_law_less (cs : List Str) : Gs := g_two (OpOk cs)
def g_law_or_in_place (cs : List Str) : Gs := g_two fun a b => ∃ z, a = sigD z ∧ OdB cs b
def g_law_new (cs : List Str) : Gs := g_two fun a b => KnD cs a ∧ KnD cs b ∧ ∀ z, b = .str z → ¬ Ok z
def g_law_inside (cs : List Str) : Gs := g_two fun a b => ∃ z, a = sigD z ∧ KnD cs b ∧ Hs b none
def g_law_span_of (cs : List Str) : Gs := g_two (SpBad cs)
def g_law_least_of (cs : List Str) : Gs := g_two fun a b => a = sigD "" ∧ b = .non
def refL (cs : List Str) : Str → Option Gs := fun x => if x = "_law_or" then some (g_law_or cs) else if x = "_law_and" then some (g_law_and cs) else if x = "_law_less" then some (g_law_less cs) else if x = "_law_or_in_place" then some (g_law_or_in_place cs) else if x = "_law_new" then some (g_law_new cs) else if x = "_law_inside" then some (g_law_inside cs) else if x = "_law_span_of" then some (g_law_span_of cs) else if x = "_law_least_of" then some (g_law_least_of cs) else none
def g_law_refused (cs : List Str) : Gs := fun as φ _ => ∃ (x : Str) (G : Gs) (a b : D), as = [.val (.glo x), .val a, .val b] ∧ refL cs x = some G ∧ (∀ (φ : D → Prop) (ψ : Er → Prop), ψ (.plain "BadSigns") → G [.val a, .val b] φ ψ) ∧ φ (.bl true)
def g_law_all_refused (cs : List Str) : Gs := fun as φ _ => ∃ z d, as = [.val (sigD z), .val d] ∧ KnD cs (sigD z) ∧ OdB cs d ∧ φ (.bl true)
def badL (x z : Str) : List D := [.str x, .int 0, .int 1, .int (-7), .bl true, .bl false, .non, .lst [], .lst [.str z], .tup [.str z], .dct [.inr z] [.str z]]
def g_law_bad (cs : List Str) : Gs := fun as φ _ => ∃ z : Str, as = [.bag, .val (.str z)] ∧ z.length ≤ 7 ∧ ∀ x : Str, ¬ Ok x → x.length = z.length + 1 → φ (.lst (badL x z))
def g_law_span (cs : List Str) : Gs := fun as φ _ => ∃ i j : Nat, as = [.val (.int (i : Nat)), .val (.int (j : Nat))] ∧ i < 94 ∧ j < 94 ∧ φ (.bl true)
def g_Signs_letters (cs : List Str) : Gs := fun as φ _ => as = [] ∧ φ (sigD "abcdefghijklmnopqrstuvwxyz")
def g_Signs_digits (cs : List Str) : Gs := fun as φ _ => as = [] ∧ φ (sigD "0123456789")
def g_Signs_capitals (cs : List Str) : Gs := fun as φ _ => as = [] ∧ φ (sigD "ABCDEFGHIJKLMNOPQRSTUVWXYZ")
def g_Signs_eq (cs : List Str) : Gs := fun as φ _ => ∃ z d, as = [.val (sigD z), .val d] ∧ ((∃ w, d = sigD w ∧ φ (.bl (decide (z = w)))) ∨ (KnD cs d ∧ (∀ c ns ds, d = .obj c ns ds → c ≠ "Signs") ∧ φ (.bl false)))
def g_Signs_containsO (cs : List Str) : Gs := fun as φ _ => ∃ z d, as = [.val (sigD z), .val d] ∧ KnD cs d ∧ (((∀ x, d = .str x → x.length ≠ 1 ∧ x.length ≤ 1000) ∧ φ (.bl false)) ∨ ∃ c, d = .str (sgn c) ∧ φ (.bl (decide (c ∈ T z))))
end Tw
section
set_option maxHeartbeats 4000000
namespace Tw
open PySem PySem.Spec PyProof.Rows L2 Tl
def b_Signs_least (cs errs : List Str) : FnS := (hSeq (hIf (bE (eOp (gEq false) (eCr gLen (eFld ["Signs"] "held" (eVar 0))) (eC (.int 0)))) (hRaise0 "BadSigns") hNext)
    (hRet (eOp gIx (eFld ["Signs"] "held" (eVar 0)) (eC (.int 0)))))
def b_Signs_eq (cs errs : List Str) : FnS := (hRet (eAnd (eCB (gIsi (.glo "Signs") (isiOf cs (.glo "Signs"))) (zCons (eVar 1) (zCons (eC (.glo "Signs")) zNil))) (eOp (gEq false) (eFld ["Signs"] "held" (eVar 0)) (eFld ["Signs"] "held" (eVar 1)))))
def b_Signs_containsO (cs errs : List Str) : FnS := (hRet (eAnd (eCB (gIsi (.ty "str") (isiOf cs (.ty "str"))) (zCons (eVar 1) (zCons (eC (.ty "str")) zNil))) (eAnd (eOp (gEq false) (eCr gLen (eVar 1)) (eC (.int 1))) (eOp (gInS false) (eVar 1) (eFld ["Signs"] "held" (eVar 0))))))
def b_Signs_initX (cs errs : List Str) : FnS := (hSeq (hIf (bNot (bE (eCall (g_is_signs cs) [] (zCons (eVar 1) zNil)))) (hRaise0 "BadSigns") hNext)
    (hFld ["Signs"] "held" 0 (eCall (g_in_order cs) [] (zCons (eVar 1) zNil))))
def b_law_least_of (cs errs : List Str) : FnS := (hRet (eMeth "Signs" "least" (g_Signs_least cs) [] (eVar 0) zNil))
def b_law_bad (cs errs : List Str) : FnS := (hSeq (hSet 2 (eCall (g_law_draw cs) [] (zBag 0 (zCons (eOp gAdd (eCr gLen (eVar 1)) (eC (.int 1))) zNil))))
    (hSeq (hSet 3 (eOp gIx (eLv (eLst (zCons (eC (.str "\n")) (zCons (eC (.str "\t")) zNil)))) (eCall (g_law_draw cs) [] (zBag 0 (zCons (eC (.int 2)) zNil)))))
    (hRet (eLv (eLst (zCons (eOp gAdd (eOp gAdd (eSl (eVar 1) oNo (oSo (eVar 2))) (eVar 3)) (eSl (eVar 1) (oSo (eVar 2)) oNo)) (zCons (eC (.int 0)) (zCons (eC (.int 1)) (zCons (eNeg (eC (.int 7))) (zCons (eC (.bl true)) (zCons (eC (.bl false)) (zCons (eC .non) (zCons (eLv (eLst zNil)) (zCons (eLv (eLst (zCons (eVar 1) zNil))) (zCons (eTup (zCons (eVar 1) zNil)) (zCons (eDsp1 (eVar 1) (eVar 1)) zNil))))))))))))))))
def b_Signs_within (cs errs : List Str) : FnS := (hSeq (hSet 2 (eCall (g_held_signsN cs) [] (zCons (eVar 1) zNil)))
    (hSeq (hFor (eIt (eFld ["Signs"] "held" (eVar 0))) (tgSet 3)
      (hIf (bE (eOp (gInS true) (eVar 3) (eVar 2))) (hRet (eC (.bl false))) hNext))
    (hRet (eC (.bl true)))))
def b_Signs_span (cs errs : List Str) : FnS := (hSeq (hIf (bOr (bNot (bE (eCall (g_is_signs cs) [] (zCons (eVar 0) zNil)))) (bOr (bNot (bE (eCall (g_is_signs cs) [] (zCons (eVar 1) zNil)))) (bOr (bE (eOp (gEq true) (eCr gLen (eVar 0)) (eC (.int 1)))) (bOr (bE (eOp (gEq true) (eCr gLen (eVar 1)) (eC (.int 1)))) (bE (eOp gGt (eVar 0) (eVar 1))))))) (hRaise0 "BadSigns") hNext)
    (hRet (eMake "Signs" (g_Signs_initX cs) [] (zCons (eSl (eC (.str c_ALPHABET)) (oSo (eSIdx (eC (.str c_ALPHABET)) (eVar 0))) (oSo (eOp gAdd (eSIdx (eC (.str c_ALPHABET)) (eVar 1)) (eC (.int 1))))) zNil))))
def b_Signs_ror (cs errs : List Str) : FnS := (hRet (eMake "Signs" (g_Signs_initX cs) [] (zCons (eOp gAdd (eCall (g_held_signsN cs) [] (zCons (eVar 1) zNil)) (eFld ["Signs"] "held" (eVar 0))) zNil)))
def b_Signs_or (cs errs : List Str) : FnS := (hRet (eMake "Signs" (g_Signs_initX cs) [] (zCons (eOp gAdd (eFld ["Signs"] "held" (eVar 0)) (eCall (g_held_signsN cs) [] (zCons (eVar 1) zNil))) zNil)))
def b_law_new (cs errs : List Str) : FnS := (hRet (eMake "Signs" (g_Signs_initX cs) [] (zCons (eVar 1) zNil)))
def b_Signs_sub (cs errs : List Str) : FnS := (hSeq (hSet 2 (eCall (g_held_signsN cs) [] (zCons (eVar 1) zNil)))
    (hRet (eMake "Signs" (g_Signs_initX cs) [] (zCons (eJoin (eC (.str "")) (eLv (eLc (eIt (eFld ["Signs"] "held" (eVar 0))) (tgSet 3) (bE (eOp (gInS true) (eVar 3) (eVar 2))) (eVar 3) [3]))) zNil))))
def b_Signs_rsub (cs errs : List Str) : FnS := (hSeq (hSet 2 (eCall (g_held_signsN cs) [] (zCons (eVar 1) zNil)))
    (hRet (eMake "Signs" (g_Signs_initX cs) [] (zCons (eJoin (eC (.str "")) (eLv (eLc (eIt (eVar 2)) (tgSet 3) (bE (eOp (gInS true) (eVar 3) (eFld ["Signs"] "held" (eVar 0)))) (eVar 3) [3]))) zNil))))
def b_law_inside (cs errs : List Str) : FnS := (hRet (eMeth "Signs" "within" (g_Signs_within cs) [] (eVar 0) (zCons (eVar 1) zNil)))
def b_Signs_rand (cs errs : List Str) : FnS := (hSeq (hSet 2 (eCall (g_held_signsN cs) [] (zCons (eVar 1) zNil)))
    (hRet (eMake "Signs" (g_Signs_initX cs) [] (zCons (eJoin (eC (.str "")) (eLv (eLc (eIt (eFld ["Signs"] "held" (eVar 0))) (tgSet 3) (bE (eOp (gInS false) (eVar 3) (eVar 2))) (eVar 3) [3]))) zNil))))
def b_Signs_and (cs errs : List Str) : FnS := (hSeq (hSet 2 (eCall (g_held_signsN cs) [] (zCons (eVar 1) zNil)))
    (hRet (eMake "Signs" (g_Signs_initX cs) [] (zCons (eJoin (eC (.str "")) (eLv (eLc (eIt (eFld ["Signs"] "held" (eVar 0))) (tgSet 3) (bE (eOp (gInS false) (eVar 3) (eVar 2))) (eVar 3) [3]))) zNil))))
def b_Signs_letters (cs errs : List Str) : FnS := (hRet (eMake "Signs" (g_Signs_initX cs) [] (zCons (eC (.str c_LOWER)) zNil)))
def b_Signs_digits (cs errs : List Str) : FnS := (hRet (eMake "Signs" (g_Signs_initX cs) [] (zCons (eC (.str c_FIGURES)) zNil)))
def b_Signs_capitals (cs errs : List Str) : FnS := (hRet (eMake "Signs" (g_Signs_initX cs) [] (zCons (eC (.str c_UPPER)) zNil)))
def b_law_span_of (cs errs : List Str) : FnS := (hRet (eCall (g_Signs_span cs) [] (zCons (eVar 0) (zCons (eVar 1) zNil))))
def b_law_or_in_place (cs errs : List Str) : FnS := (hSeq (hSet 2 (eVar 0))
    (hSeq (hAugB "Signs" ["Field", "Mark", "Maybe", "Form"] (g_Signs_or cs) 2 (eVar 1))
    (hRet (eVar 2))))
def b_law_or (cs errs : List Str) : FnS := (hRet (eOwnB "Signs" ["Field", "Mark", "Maybe", "Form"] (g_Signs_or cs) (g_Signs_ror cs) (eVar 0) (eVar 1)))
def b_law_less (cs errs : List Str) : FnS := (hRet (eOwnB "Signs" ["Field", "Mark", "Maybe", "Form"] (g_Signs_sub cs) (g_Signs_rsub cs) (eVar 0) (eVar 1)))
def b_law_and (cs errs : List Str) : FnS := (hRet (eOwnB "Signs" ["Field", "Mark", "Maybe", "Form"] (g_Signs_and cs) (g_Signs_rand cs) (eVar 0) (eVar 1)))
def tab_law_refused (cs : List Str) : Str → Option Gs := fun x => if x = "_law_or" then some (g_law_or cs) else if x = "_law_and" then some (g_law_and cs) else if x = "_law_less" then some (g_law_less cs) else if x = "_law_or_in_place" then some (g_law_or_in_place cs) else if x = "_law_new" then some (g_law_new cs) else if x = "_law_inside" then some (g_law_inside cs) else if x = "_law_span_of" then some (g_law_span_of cs) else if x = "_law_least_of" then some (g_law_least_of cs) else none
def b_law_refused (cs errs : List Str) : FnS := (hSeq (hTryB (hDrop (eCallT (tab_law_refused cs) 0 (zCons (eVar 1) (zCons (eVar 2) zNil)))) [⟨(emC errs "BadText"), none, fun _ _ _ => (hRet (eC (.bl false)))⟩, ⟨(emC errs "BadKind"), none, fun _ _ _ => (hRet (eC (.bl false)))⟩, ⟨(emC errs "BadSigns"), some 3, fun er a d => (hRet (eAnd (eIsP a d 3) (eIsP a d 3)))⟩])
    (hRet (eC (.bl false))))
def b_law_span (cs errs : List Str) : FnS := (hSeq (hSet 2 (eCall (g_law_alphabet cs) [] zNil))
    (hSeq (hSet 3 (eCB gMin2 (zCons (eVar 0) (zCons (eVar 1) zNil))))
    (hSeq (hSet 4 (eCB gMax2 (zCons (eVar 0) (zCons (eVar 1) zNil))))
    (hSeq (hSet 5 (eCall (g_Signs_span cs) [] (zCons (eOp gIx (eVar 2) (eVar 3)) (zCons (eOp gIx (eVar 2) (eVar 4)) zNil))))
    (hSeq (hIf (bOr (bNot (bE (eCB (gIsi (.glo "Signs") (isiOf cs (.glo "Signs"))) (zCons (eVar 5) (zCons (eC (.glo "Signs")) zNil))))) (bE (eOp (gEq true) (eMeth "Signs" "spelled" (g_Signs_spelled cs) [] (eVar 5) zNil) (eSl (eVar 2) (oSo (eVar 3)) (oSo (eOp gAdd (eVar 4) (eC (.int 1)))))))) (hRet (eC (.bl false))) hNext)
    (hSeq (hIf (bAnd (bE (eOp (gEq true) (eVar 0) (eVar 1))) (bNot (bE (eCall (g_law_refused cs) [] (zCons (eC (.glo "_law_span_of")) (zCons (eOp gIx (eVar 2) (eVar 4)) (zCons (eOp gIx (eVar 2) (eVar 3)) zNil))))))) (hRet (eC (.bl false))) hNext)
    (hSeq (hFor (eIt (eLv (eLst (zCons (eC (.str "")) (zCons (eOp gMul (eOp gIx (eVar 2) (eVar 3)) (eC (.int 2))) (zCons (eC (.str "\n")) (zCons (eC (.int 5)) (zCons (eC .non) (zCons (eC (.bl true)) (zCons (eLv (eLst (zCons (eOp gIx (eVar 2) (eVar 3)) zNil))) zNil)))))))))) (tgSet 6)
      (hSeq (hIf (bNot (bE (eCall (g_law_refused cs) [] (zCons (eC (.glo "_law_span_of")) (zCons (eVar 6) (zCons (eOp gIx (eVar 2) (eVar 4)) zNil)))))) (hRet (eC (.bl false))) hNext)
    (hIf (bNot (bE (eCall (g_law_refused cs) [] (zCons (eC (.glo "_law_span_of")) (zCons (eOp gIx (eVar 2) (eVar 3)) (zCons (eVar 6) zNil)))))) (hRet (eC (.bl false))) hNext)))
    (hRet (eC (.bl true))))))))))
def b_law_all_refused (cs errs : List Str) : FnS := (hSeq (hFor (eIt (eLv (eLst (zCons (eC (.glo "_law_or")) (zCons (eC (.glo "_law_and")) (zCons (eC (.glo "_law_less")) zNil)))))) (tgSet 2)
      (hIf (bOr (bNot (bE (eCall (g_law_refused cs) [] (zCons (eVar 2) (zCons (eVar 0) (zCons (eVar 1) zNil)))))) (bNot (bE (eCall (g_law_refused cs) [] (zCons (eVar 2) (zCons (eVar 1) (zCons (eVar 0) zNil))))))) (hRet (eC (.bl false))) hNext))
    (hSeq (hFor (eIt (eLv (eLst (zCons (eC (.glo "_law_or_in_place")) (zCons (eC (.glo "_law_new")) (zCons (eC (.glo "_law_inside")) zNil)))))) (tgSet 2)
      (hIf (bNot (bE (eCall (g_law_refused cs) [] (zCons (eVar 2) (zCons (eVar 0) (zCons (eVar 1) zNil)))))) (hRet (eC (.bl false))) hNext))
    (hRet (eC (.bl true)))))
def b_law_1 (cs errs : List Str) : FnS := (hRet (eAnd (eOp (gEq false) (eMeth "Signs" "spelled" (g_Signs_spelled cs) [] (eVar 3) zNil) (eJoin (eC (.str "")) (eLv (eSortS (eLv (eListS (eVar 2))))))) (eAnd (eOp (gEqB "Signs" ["Field", "Mark", "Maybe", "Form", "Kind"] (g_Signs_eq cs)) (eVar 3) (eMake "Signs" (g_Signs_initX cs) [] (zCons (eVar 2) zNil))) (eNot (eOp (gEqB "Signs" ["Field", "Mark", "Maybe", "Form", "Kind"] (g_Signs_eq cs)) (eVar 3) (eVar 2))))))
def b_law_2 (cs errs : List Str) : FnS := (hSeq (hFor (eIt (eLv (eLst (zCons (eMake "Signs" (g_Signs_initX cs) [.str ""] zNil) (zCons (eOwnS "Signs" (g_Signs_sub cs) (eVar 3) (eVar 3)) zNil))))) (tgSet 7)
      (hIf (bNot (bE (eCall (g_law_refused cs) [] (zCons (eC (.glo "_law_least_of")) (zCons (eVar 7) (zCons (eC .non) zNil)))))) (hRet (eC (.bl false))) hNext))
    (b_law_1 cs errs))
def b_law_3 (cs errs : List Str) : FnS := (hSeq (hIf (bE (eOp (gEq true) (eMeth "Signs" "spelled" (g_Signs_spelled cs) [] (eCall (g_Signs_capitals cs) [] zNil) zNil) (eC (.str "ABCDEFGHIJKLMNOPQRSTUVWXYZ")))) (hRet (eC (.bl false))) hNext)
    (b_law_2 cs errs))
def b_law_4 (cs errs : List Str) : FnS := (hSeq (hIf (bOr (bE (eOp (gEq true) (eMeth "Signs" "spelled" (g_Signs_spelled cs) [] (eCall (g_Signs_letters cs) [] zNil) zNil) (eC (.str "abcdefghijklmnopqrstuvwxyz")))) (bE (eOp (gEq true) (eMeth "Signs" "spelled" (g_Signs_spelled cs) [] (eCall (g_Signs_digits cs) [] zNil) zNil) (eC (.str "0123456789"))))) (hRet (eC (.bl false))) hNext)
    (b_law_3 cs errs))
def b_law_5 (cs errs : List Str) : FnS := (hSeq (hIf (bNot (bE (eCall (g_law_span cs) [] (zCons (eCall (g_law_draw cs) [] (zBag 1 (zCons (eC (.int 94)) zNil))) (zCons (eCall (g_law_draw cs) [] (zBag 1 (zCons (eC (.int 94)) zNil))) zNil))))) (hRet (eC (.bl false))) hNext)
    (b_law_4 cs errs))
def b_law_6 (cs errs : List Str) : FnS := (hSeq (hFor (eIt (eVar 2)) (tgSet 6)
      (hIf (bOr (bE (eOp (gInA "Signs" (g_Signs_containsO cs) true) (eVar 6) (eVar 3))) (bOr (bE (eOp (gInA "Signs" (g_Signs_containsO cs) false) (eOp gAdd (eVar 6) (eVar 6)) (eVar 3))) (bE (eOp (gInA "Signs" (g_Signs_containsO cs) false) (eC (.str "")) (eVar 3))))) (hRet (eC (.bl false))) hNext))
    (b_law_5 cs errs))
def b_law_7 (cs errs : List Str) : FnS := (hSeq (hIf (bOr (bE (eOp (gInA "Signs" (g_Signs_containsO cs) false) (eCall (g_Kind_run cs) [.int 1, .int 1] (zCons (eC (.str "a")) zNil)) (eVar 3))) (bOr (bE (eOp (gEqB "Signs" ["Field", "Mark", "Maybe", "Form", "Kind"] (g_Signs_eq cs)) (eVar 3) (eCall (g_Kind_run cs) [.int 1, .int 1] (zCons (eC (.str "a")) zNil)))) (bNot (bE (eCall (g_law_refused cs) [] (zCons (eC (.glo "_law_inside")) (zCons (eVar 3) (zCons (eCall (g_Kind_run cs) [.int 1, .int 1] (zCons (eC (.str "a")) zNil)) zNil)))))))) (hRet (eC (.bl false))) hNext)
    (b_law_6 cs errs))
def b_law_8 (cs errs : List Str) : FnS := (hSeq (hFor (eIt (eLv (eLst (zCons (eVar 5) (zCons (eMake "Mark" (g_Mark_init cs) [] (zCons (eC (.str "a")) zNil)) (zCons (eMake "Maybe" (g_Maybe_init cs) [] (zCons (eLv (eLst (zCons (eVar 5) zNil))) zNil)) (zCons (eMake "Form" (g_Form_init cs) [] (zCons (eLv (eLst (zCons (eLv (eLst (zCons (eVar 5) zNil))) zNil))) zNil)) zNil))))))) (tgSet 4)
      (hIf (bOr (bNot (bE (eCall (g_law_all_refused cs) [] (zCons (eVar 3) (zCons (eVar 4) zNil))))) (bOr (bE (eOp (gInA "Signs" (g_Signs_containsO cs) false) (eVar 4) (eVar 3))) (bE (eOp (gEqB "Signs" ["Field", "Mark", "Maybe", "Form", "Kind"] (g_Signs_eq cs)) (eVar 3) (eVar 4))))) (hRet (eC (.bl false))) hNext))
    (b_law_7 cs errs))
def b_law_9 (cs errs : List Str) : FnS := (hSeq (hSet 5 (eMake "Field" (g_Field_init cs) [] (zCons (eC (.str "a")) (zCons (eCall (g_Kind_run cs) [.int 1, .int 1] (zCons (eC (.str "a")) zNil)) zNil))))
    (b_law_8 cs errs))
def b_law_10 (cs errs : List Str) : FnS := (hSeq (hFor (eIt (eCall (g_law_bad cs) [] (zBag 1 (zCons (eVar 2) zNil)))) (tgSet 4)
      (hIf (bOr (bNot (bE (eCall (g_law_all_refused cs) [] (zCons (eVar 3) (zCons (eVar 4) zNil))))) (bE (eOp (gInA "Signs" (g_Signs_containsO cs) false) (eVar 4) (eVar 3)))) (hRet (eC (.bl false))) hNext))
    (b_law_9 cs errs))
def b_law_11 (cs errs : List Str) : FnS := (hSeq (hSet 3 (eMake "Signs" (g_Signs_initX cs) [] (zCons (eVar 2) zNil)))
    (b_law_10 cs errs))
def b_law (cs errs : List Str) : FnS := (hSeq (hSet 2 (eJoin (eC (.str "")) (eCall (g_law_letters cs) [] (zBag 1 (zCons (eCall (g_law_draw cs) [] (zBag 1 (zCons (eC (.int 8)) zNil))) zNil)))))
    (b_law_11 cs errs))
end Tw
end
section
set_option maxHeartbeats 1000000
namespace Tw
open PySem PySem.Spec PyProof.Rows L2 Tl
variable (cs errs : List Str)
def isObj (c : Str) : D → Bool
  | .obj c' _ _ => c' == c
  | _ => false
theorem kn_sig {d : D} (h : KnD cs d) : ∃ k, kiOf d = some k ∧ isiOf cs (.glo "Signs") k = some (isObj "Signs" d) := by
  cases d with
  | glo _ => exact False.elim h
  | ty _ => exact False.elim h
  | obj c _ _ => exact ⟨_, rfl, if_pos h⟩
  | _ => exact ⟨_, rfl, rfl⟩
theorem u_held_signsN [hS : InE "Signs" cs] : ∀ as φ ψ, g_held_signsN cs as φ ψ → as.length = 1 ∧ runF 1 (b_held_signs cs errs) as φ ψ := fun as φ ψ h => by
  obtain ⟨d, o, rfl, kn, hs, h⟩ := h
  refine ⟨rfl, rfl, ?_⟩
  obtain ⟨ki, e1, e2⟩ := kn_sig cs kn
  rw [e1]
  dsimp only
  rw [e2]
  cases hs with
  | sig p => exact ⟨List.mem_cons_self, h⟩
  | str z oz => exact .inl ⟨z, rfl, oz, z, rfl, h⟩
  | odd d h1 h2 =>
    have e : isObj "Signs" d = false := by
      cases d with
      | obj c ns ds => exact beq_false_of_ne (h1 c ns ds rfl)
      | _ => rfl
    show if isObj "Signs" d = true then _ else _
    rw [e]
    exact .inr ⟨d, rfl, kn, h2, h⟩
theorem l_Signs_initX : ∀ as φ ψ, g_Signs_initX cs as φ ψ → as.length = 1 := fun as φ ψ h => by
  obtain ⟨d, rfl, _⟩ := h
  rfl
theorem u_Signs_initX : ∀ as φ ψ, g_Signs_initX cs as φ ψ → runM "Signs" 1 (b_Signs_initX cs errs) as φ ψ := fun as φ ψ h => by
  obtain ⟨d, rfl, kn, h⟩ := h
  intro p
  rcases h with ⟨z, rfl, oz, h⟩ | ⟨no, h⟩
  · refine .inl ⟨z, rfl, oz, z, rfl, ?_⟩
    exact ⟨List.mem_cons_self, List.not_mem_nil, by decide, rfl, rfl, h⟩
  · exact .inr ⟨d, rfl, kn, no, ⟨rfl, rfl, trivial⟩, h⟩
def isStD : D → Bool
  | .str _ => true
  | _ => false
theorem kn_strO {cs : List Str} {d : D} (h : KnD cs d) : ∃ k, kiOf d = some k ∧ isiOf cs (.ty "str") k = some (isStD d) := by
  cases d with
  | glo _ => exact False.elim h
  | ty _ => exact False.elim h
  | obj c _ _ => exact ⟨_, rfl, if_pos h⟩
  | _ => exact ⟨_, rfl, rfl⟩
theorem u_Signs_containsO : ∀ as φ ψ, g_Signs_containsO cs as φ ψ → as.length = 2 ∧ runF 2 (b_Signs_containsO cs errs) as φ ψ := fun as φ ψ h => by
  obtain ⟨z, d, rfl, kn, h⟩ := h
  obtain ⟨ki, e1, e2⟩ := kn_strO kn
  have big : 1000 ≤ sizeLine := by decide
  refine ⟨rfl, rfl, ?_⟩
  rw [e1]
  dsimp only
  rw [e2]
  rcases h with ⟨no, h⟩ | ⟨c, rfl, h⟩
  · cases d with
    | str x =>
      obtain ⟨n1, n2⟩ := no x rfl
      refine ⟨by omega, ?_⟩
      show if decide (((x.length : Nat) : Int) = 1) = true then _ else _
      rw [if_neg (by rw [decide_eq_true_eq]; omega)]
      exact h
    | _ => exact h
  · refine ⟨by show (1 : Nat) ≤ sizeLine; decide, ?_⟩
    exact ⟨List.mem_cons_self, h⟩
theorem u_Signs_least : ∀ as φ ψ, g_Signs_least cs as φ ψ → as.length = 1 ∧ runF 1 (b_Signs_least cs errs) as φ ψ := fun as φ ψ h => by
  obtain ⟨rfl, h⟩ := h
  exact ⟨rfl, List.mem_cons_self, by decide, h⟩
theorem u_Signs_within : ∀ as φ ψ, g_Signs_within cs as φ ψ → as.length = 2 ∧ runF 4 (b_Signs_within cs errs) as φ ψ := fun as φ ψ h => by
  obtain ⟨z, d, rfl, kn, hs, h⟩ := h
  exact ⟨rfl, d, none, rfl, kn, hs, h⟩
theorem u_Signs_or : ∀ as φ ψ, g_Signs_or cs as φ ψ → as.length = 2 ∧ runF 2 (b_Signs_or cs errs) as φ ψ := fun as φ ψ h => by
  obtain ⟨z, d, rfl, kn, hs, h⟩ := h
  exact ⟨rfl, List.mem_cons_self, d, none, rfl, kn, hs, h⟩
theorem u_Signs_ror : ∀ as φ ψ, g_Signs_ror cs as φ ψ → as.length = 2 ∧ runF 2 (b_Signs_ror cs errs) as φ ψ := fun as φ ψ h => by
  obtain ⟨z, d, rfl, kn, hs, h⟩ := h
  exact ⟨rfl, d, none, rfl, kn, hs, h⟩
theorem u_Signs_and : ∀ as φ ψ, g_Signs_and cs as φ ψ → as.length = 2 ∧ runF 4 (b_Signs_and cs errs) as φ ψ := fun as φ ψ h => by
  obtain ⟨z, d, rfl, kn, hs, h⟩ := h
  exact ⟨rfl, d, none, rfl, kn, hs, h⟩
theorem u_Signs_rand : ∀ as φ ψ, g_Signs_rand cs as φ ψ → as.length = 2 ∧ runF 4 (b_Signs_rand cs errs) as φ ψ := fun as φ ψ h => by
  obtain ⟨z, d, rfl, kn, hs, h⟩ := h
  exact ⟨rfl, d, none, rfl, kn, hs, h⟩
theorem u_Signs_rsub : ∀ as φ ψ, g_Signs_rsub cs as φ ψ → as.length = 2 ∧ runF 4 (b_Signs_rsub cs errs) as φ ψ := fun as φ ψ h => by
  obtain ⟨z, d, rfl, kn, hs, h⟩ := h
  exact ⟨rfl, d, none, rfl, kn, hs, h⟩
theorem u_law_or : ∀ as φ ψ, g_law_or cs as φ ψ → as.length = 2 ∧ runF 2 (b_law_or cs errs) as φ ψ := fun as φ ψ h => by
  obtain ⟨a, b, rfl, ok, h⟩ := h
  rcases ok with ⟨z, rfl, kn, hs, o⟩ | ⟨z, rfl, kn, hs, o⟩
  · exact ⟨rfl, .inl ⟨_, _, rfl, o, z, b, rfl, kn, hs, h⟩⟩
  · exact ⟨rfl, .inr ⟨_, _, rfl, o, z, a, rfl, kn, hs, h⟩⟩
theorem u_law_and : ∀ as φ ψ, g_law_and cs as φ ψ → as.length = 2 ∧ runF 2 (b_law_and cs errs) as φ ψ := fun as φ ψ h => by
  obtain ⟨a, b, rfl, ok, h⟩ := h
  rcases ok with ⟨z, rfl, kn, hs, o⟩ | ⟨z, rfl, kn, hs, o⟩
  · exact ⟨rfl, .inl ⟨_, _, rfl, o, z, b, rfl, kn, hs, h⟩⟩
  · exact ⟨rfl, .inr ⟨_, _, rfl, o, z, a, rfl, kn, hs, h⟩⟩
theorem u_law_less : ∀ as φ ψ, g_law_less cs as φ ψ → as.length = 2 ∧ runF 2 (b_law_less cs errs) as φ ψ := fun as φ ψ h => by
  obtain ⟨a, b, rfl, ok, h⟩ := h
  rcases ok with ⟨z, rfl, kn, hs, o⟩ | ⟨z, rfl, kn, hs, o⟩
  · exact ⟨rfl, .inl ⟨_, _, rfl, o, .inl ⟨z, b, rfl, kn, hs, h⟩⟩⟩
  · exact ⟨rfl, .inr ⟨_, _, rfl, o, z, a, rfl, kn, hs, h⟩⟩
theorem u_law_or_in_place : ∀ as φ ψ, g_law_or_in_place cs as φ ψ → as.length = 2 ∧ runF 3 (b_law_or_in_place cs errs) as φ ψ := fun as φ ψ h => by
  obtain ⟨a, b, rfl, ⟨z, rfl, kn, hs, o⟩, h⟩ := h
  exact ⟨rfl, rfl, o, z, b, rfl, kn, hs, h⟩
theorem u_law_new : ∀ as φ ψ, g_law_new cs as φ ψ → as.length = 2 ∧ runF 2 (b_law_new cs errs) as φ ψ := fun as φ ψ h => by
  obtain ⟨a, b, rfl, ⟨_, kn, no⟩, h⟩ := h
  exact ⟨rfl, b, rfl, kn, .inr ⟨no, h⟩⟩
theorem u_law_inside : ∀ as φ ψ, g_law_inside cs as φ ψ → as.length = 2 ∧ runF 2 (b_law_inside cs errs) as φ ψ := fun as φ ψ h => by
  obtain ⟨a, b, rfl, ⟨z, rfl, kn, hs⟩, h⟩ := h
  exact ⟨rfl, rfl, by decide, z, b, rfl, kn, hs, h⟩
theorem u_law_span_of : ∀ as φ ψ, g_law_span_of cs as φ ψ → as.length = 2 ∧ runF 2 (b_law_span_of cs errs) as φ ψ := fun as φ ψ h => by
  obtain ⟨a, b, rfl, ok, h⟩ := h
  exact ⟨rfl, .inl ⟨a, b, rfl, ok, h⟩⟩
theorem u_law_least_of : ∀ as φ ψ, g_law_least_of cs as φ ψ → as.length = 2 ∧ runF 2 (b_law_least_of cs errs) as φ ψ := fun as φ ψ h => by
  obtain ⟨a, b, rfl, ⟨rfl, rfl⟩, h⟩ := h
  exact ⟨rfl, rfl, by decide, rfl, h⟩
theorem u_Signs_letters : ∀ as φ ψ, g_Signs_letters cs as φ ψ → as.length = 0 ∧ runF 0 (b_Signs_letters cs errs) as φ ψ := fun as φ ψ h => by
  obtain ⟨rfl, h⟩ := h
  refine ⟨rfl, _, rfl, trivial, .inl ⟨_, rfl, by unfold Ok; decide +kernel, ?_⟩⟩
  have e : of (pOf c_LOWER) = ("abcdefghijklmnopqrstuvwxyz" : Str) := by decide +kernel
  rw [e]; exact h
theorem u_Signs_digits : ∀ as φ ψ, g_Signs_digits cs as φ ψ → as.length = 0 ∧ runF 0 (b_Signs_digits cs errs) as φ ψ := fun as φ ψ h => by
  obtain ⟨rfl, h⟩ := h
  refine ⟨rfl, _, rfl, trivial, .inl ⟨_, rfl, by unfold Ok; decide +kernel, ?_⟩⟩
  have e : of (pOf c_FIGURES) = ("0123456789" : Str) := by decide +kernel
  rw [e]; exact h
theorem u_Signs_capitals : ∀ as φ ψ, g_Signs_capitals cs as φ ψ → as.length = 0 ∧ runF 0 (b_Signs_capitals cs errs) as φ ψ := fun as φ ψ h => by
  obtain ⟨rfl, h⟩ := h
  refine ⟨rfl, _, rfl, trivial, .inl ⟨_, rfl, by unfold Ok; decide +kernel, ?_⟩⟩
  have e : of (pOf c_UPPER) = ("ABCDEFGHIJKLMNOPQRSTUVWXYZ" : Str) := by decide +kernel
  rw [e]; exact h
end Tw
end
section
set_option maxHeartbeats 1000000
namespace Tw
open PySem PySem.Spec PyProof.Rows L2 Tl
variable (cs errs : List Str)
theorem emC_at2 {c y : Str} (h : InE y errs) : emC errs c y = some (decide (y = c)) := by unfold emC; rw [if_pos h.h]
theorem u_law_refused [h1 : InE "BadSigns" errs] : ∀ as φ ψ, g_law_refused cs as φ ψ → as.length = 3 ∧ runF 4 (b_law_refused cs errs) as φ ψ := fun as φ ψ h => by
  obtain ⟨x, G, a, b, rfl, e, hg, h⟩ := h
  refine ⟨rfl, ?_⟩
  have e2 : tab_law_refused cs x = some G := e
  show (match tab_law_refused cs x with | some G => _ | none => False)
  rw [e2]
  refine hg _ _ ?_
  show (match emC errs "BadText" "BadSigns" with | some true => _ | some false => _ | none => _)
  rw [emC_at2 errs h1]
  show (match emC errs "BadKind" "BadSigns" with | some true => _ | some false => _ | none => _)
  rw [emC_at2 errs h1]
  show (match emC errs "BadSigns" "BadSigns" with | some true => _ | some false => _ | none => _)
  rw [emC_at2 errs h1]
  exact fun a => ⟨rfl, rfl, rfl, rfl, rfl, rfl, h⟩
section
variable {cs}
theorem ref_op {z : Str} {d : D} {x : Str} (o : OdB cs d) (hx : x = "_law_or" ∨ x = "_law_and" ∨ x = "_law_less") : (∃ G, refL cs x = some G ∧ ∀ (φ : D → Prop) (ψ : Er → Prop), ψ (.plain "BadSigns") → G [.val (sigD z), .val d] φ ψ) ∧ ∃ G, refL cs x = some G ∧ ∀ (φ : D → Prop) (ψ : Er → Prop), ψ (.plain "BadSigns") → G [.val d, .val (sigD z)] φ ψ := by
  rcases hx with rfl | rfl | rfl
  · exact ⟨⟨_, rfl, fun φ ψ h => ⟨_, _, rfl, .inl ⟨z, rfl, o⟩, h⟩⟩, _, rfl, fun φ ψ h => ⟨_, _, rfl, .inr ⟨z, rfl, o⟩, h⟩⟩
  · exact ⟨⟨_, rfl, fun φ ψ h => ⟨_, _, rfl, .inl ⟨z, rfl, o⟩, h⟩⟩, _, rfl, fun φ ψ h => ⟨_, _, rfl, .inr ⟨z, rfl, o⟩, h⟩⟩
  · exact ⟨⟨_, rfl, fun φ ψ h => ⟨_, _, rfl, .inl ⟨z, rfl, o⟩, h⟩⟩, _, rfl, fun φ ψ h => ⟨_, _, rfl, .inr ⟨z, rfl, o⟩, h⟩⟩
theorem hs_no {d : D} (h : Hs d none) : ∀ z, d = .str z → ¬ Ok z := by
  cases h with
  | odd _ h1 h2 => exact h2
theorem ref_one {z : Str} {d : D} {x : Str} (kn : KnD cs (sigD z)) (o : OdB cs d) (hx : x = "_law_or_in_place" ∨ x = "_law_new" ∨ x = "_law_inside") : ∃ G, refL cs x = some G ∧ ∀ (φ : D → Prop) (ψ : Er → Prop), ψ (.plain "BadSigns") → G [.val (sigD z), .val d] φ ψ := by
  rcases hx with rfl | rfl | rfl
  · exact ⟨_, rfl, fun φ ψ h => ⟨_, _, rfl, ⟨z, rfl, o⟩, h⟩⟩
  · exact ⟨_, rfl, fun φ ψ h => ⟨_, _, rfl, ⟨kn, o.1, hs_no o.2.1⟩, h⟩⟩
  · exact ⟨_, rfl, fun φ ψ h => ⟨_, _, rfl, ⟨z, rfl, o.1, o.2.1⟩, h⟩⟩
end
theorem for_lit2 {α : Type} {tgt : TgF} {body : FnS} {P : AP} {ψ : XA} {env : List A} {L : List D} (f : α → D) (items : List α) (eL : L = items.map f) (St : List α → List A → Prop) (h0 : St [] env)
    (step : ∀ pre a suf env (k : List A → Prop), items = pre ++ a :: suf → St pre env → (∀ env', St (pre ++ [a]) env' → k env') → tgt (f a) env fun env1 => body env1 { P with nx := k, ct := k, bk := P.nx } ψ)
    (fin : ∀ env, St items env → P.nx env) : forA tgt body L env P ψ := by
  subst eL
  exact for_all f items St h0 step fin
theorem u_law_all_refused : ∀ as φ ψ, g_law_all_refused cs as φ ψ → as.length = 2 ∧ runF 3 (b_law_all_refused cs errs) as φ ψ := fun as φ ψ h => by
  obtain ⟨z, d, rfl, kn, o, h⟩ := h
  refine ⟨rfl, ?_⟩
  refine for_lit2 D.glo ["_law_or", "_law_and", "_law_less"] rfl (fun pre env => ∃ x2, env = [.val (sigD z), .val d, x2]) ⟨.no, rfl⟩ (fun pre x suf env κ e hs hk => ?_) (fun env hs => ?_)
  · obtain ⟨x2, rfl⟩ := hs
    have hx : x = "_law_or" ∨ x = "_law_and" ∨ x = "_law_less" := by
      have : x ∈ (["_law_or", "_law_and", "_law_less"] : List Str) := by rw [e]; simp
      simpa using this
    obtain ⟨⟨G, e1, g1⟩, G2, e2, g2⟩ := ref_op (z := z) o hx
    refine ⟨x, G, _, _, rfl, e1, g1, ?_⟩
    refine ⟨x, G2, _, _, rfl, e2, g2, ?_⟩
    exact hk _ ⟨_, rfl⟩
  · obtain ⟨x2, rfl⟩ := hs
    refine for_lit2 D.glo ["_law_or_in_place", "_law_new", "_law_inside"] rfl (fun pre env => ∃ x2, env = [.val (sigD z), .val d, x2]) ⟨x2, rfl⟩ (fun pre x suf env κ e hs hk => ?_) (fun env hs => ?_)
    · obtain ⟨x2, rfl⟩ := hs
      have hx : x = "_law_or_in_place" ∨ x = "_law_new" ∨ x = "_law_inside" := by
        have : x ∈ (["_law_or_in_place", "_law_new", "_law_inside"] : List Str) := by rw [e]; simp
        simpa using this
      obtain ⟨G, e1, g1⟩ := ref_one kn o hx
      refine ⟨x, G, _, _, rfl, e1, g1, ?_⟩
      exact hk _ ⟨_, rfl⟩
    · obtain ⟨x2, rfl⟩ := hs
      exact h
theorem u_Signs_eq [hS : InE "Signs" cs] : ∀ as φ ψ, g_Signs_eq cs as φ ψ → as.length = 2 ∧ runF 2 (b_Signs_eq cs errs) as φ ψ := fun as φ ψ h => by
  obtain ⟨z, d, rfl, h⟩ := h
  refine ⟨rfl, rfl, ?_⟩
  rcases h with ⟨w, rfl, h⟩ | ⟨kn, no, h⟩
  · obtain ⟨ki, e1, e2⟩ := kn_sig cs (d := sigD w) hS.h
    rw [e1]
    dsimp only
    rw [e2]
    exact ⟨List.mem_cons_self, List.mem_cons_self, h⟩
  · obtain ⟨ki, e1, e2⟩ := kn_sig cs kn
    rw [e1]
    dsimp only
    rw [e2]
    have e : isObj "Signs" d = false := by
      cases d with
      | obj c ns ds => exact beq_false_of_ne (no c ns ds rfl)
      | _ => rfl
    show if isObj "Signs" d = true then _ else _
    rw [e]
    exact h
end Tw
end
section
set_option maxHeartbeats 1000000
namespace Tw
open PySem PySem.Spec PyProof.Rows L2 Tl
variable (cs errs : List Str)
theorem u_Signs_sub [hS : InE "Signs" cs] : ∀ as φ ψ, g_Signs_sub cs as φ ψ → as.length = 2 ∧ runF 4 (b_Signs_sub cs errs) as φ ψ := fun as φ ψ h => by
  rcases h with ⟨z, d, rfl, kn, hs, h⟩ | ⟨p, rfl, h⟩
  · exact ⟨rfl, d, none, rfl, kn, hs, h⟩
  refine ⟨rfl, _, some (of p), rfl, hS.h, .sig p, ?_⟩
  have l94 := of_le p
  refine ⟨trivial, List.mem_cons_self, ?_, ?_⟩
  · show (Tl.signs (of p)).length < 1000000
    rw [signs_len]
    rw [T_len] at l94
    have l94 : (of p).cps.size ≤ 94 := l94
    omega
  show lcA _ (Tl.signs (of p)) _
  unfold Tl.signs
  refine lc_map _ (fun c => none) (T (of p)) _ (fun c hc k hk => ?_) ?_
  · show if (!decide (c ∈ T (of p))) = true then _ else _
    rw [if_neg (by rw [decide_eq_true hc]; decide)]
    exact hk
  · have e : (T (of p)).filterMap (fun c => (none : Option D)) = [] := by simp
    show (match strsD ((T (of p)).filterMap fun c => (none : Option D)) with | some ys => _ ∧ _ | none => False)
    rw [e]
    refine ⟨by decide, ?_⟩
    refine ⟨_, rfl, trivial, .inl ⟨_, rfl, by unfold Ok; decide +kernel, ?_⟩⟩
    have e2 : of (pOf (Txt.join (Str.ofString "") [])) = ("" : Str) := by decide +kernel
    rw [e2]
    exact h
theorem al_pw : (T AL).Pairwise (· < ·) := by decide +kernel
theorem occ_al : ((List.range 94).all fun i => decide ((Builtin.Str.occurrences AL (alC i) 0 AL.length 1).head? = some i)) = true := by decide +kernel
theorem occ_at {i : Nat} (h : i < 94) : ∃ rest, Builtin.Str.occurrences AL (alC i) 0 AL.length 1 = i :: rest := by
  have := List.all_eq_true.mp occ_al i (List.mem_range.mpr h)
  rw [decide_eq_true_eq] at this
  cases q : Builtin.Str.occurrences AL (alC i) 0 AL.length 1 with
  | nil => rw [q] at this; exact nomatch this
  | cons a r => rw [q] at this; exact ⟨r, by rw [Option.some.inj this]⟩
theorem filter_sub {α : Type} [DecidableEq α] {s l : List α} (h : s.Sublist l) (nd : l.Nodup) : l.filter (fun x => decide (x ∈ s)) = s := by
  induction h with
  | slnil => rfl
  | @cons s l a h ih =>
    obtain ⟨na, nd⟩ := List.nodup_cons.mp nd
    rw [List.filter_cons, if_neg (by rw [decide_eq_true_eq]; exact fun m => na (h.subset m)), ih nd]
  | @cons_cons s l a h ih =>
    obtain ⟨na, nd⟩ := List.nodup_cons.mp nd
    rw [List.filter_cons, if_pos (decide_eq_true List.mem_cons_self)]
    have : l.filter (fun x => decide (x ∈ a :: s)) = l.filter fun x => decide (x ∈ s) := List.filter_congr fun x m => by
      rw [Bool.eq_iff_iff, decide_eq_true_eq, decide_eq_true_eq, List.mem_cons]
      exact ⟨fun z => z.resolve_left fun e => na (by rw [← e]; exact m), .inr⟩
    rw [this, ih nd]
theorem al_nd : (T AL).Nodup := List.nodup_iff_pairwise_ne.mpr (al_pw.imp fun h e => by omega)
theorem al_94 : (T AL).length = 94 := by decide +kernel
theorem alS_T (i j : Nat) : T (alS i j) = ((T AL).drop i).take (j + 1 - i) := T_mk _
theorem alS_ok (i j : Nat) : Ok (alS i j) := fun c m => by
  rw [alS_T] at m
  exact List.mem_of_mem_drop (List.mem_of_mem_take m)
theorem alS_of (i j : Nat) : of (pOf (alS i j)) = alS i j := by
  refine T_inj ?_
  rw [T_of, alS_T]
  have := filter_sub (s := ((T AL).drop i).take (j + 1 - i)) (l := T AL) ((List.take_sublist _ _).trans (List.drop_sublist _ _)) al_nd
  unfold pOf
  rw [alS_T]
  exact this
theorem alC_T (i : Nat) : T (alC i) = [(T AL).getD i 0] := T_sgn _
theorem alC_ok {i : Nat} (h : i < 94) : Ok (alC i) := fun c m => by
  rw [alC_T, List.mem_singleton] at m
  rw [m, List.getD_eq_getElem?_getD, List.getElem?_eq_getElem (by rw [al_94]; exact h)]
  exact List.getElem_mem _
theorem alC_len (i : Nat) : (alC i).length = 1 := by rw [← T_len, alC_T]; rfl
theorem alC_lt {i j : Nat} (h : i ≤ j) (hj : j < 94) : ¬ ((alC j).cps.toList < (alC i).cps.toList) := by
  show ¬ (T (alC j) < T (alC i))
  have hi : i < (T AL).length := by rw [al_94]; omega
  have hj2 : j < (T AL).length := by rw [al_94]; omega
  rw [alC_T, alC_T, List.getD_eq_getElem?_getD, List.getElem?_eq_getElem hj2, List.getD_eq_getElem?_getD, List.getElem?_eq_getElem hi]
  show ¬ ([(T AL)[j]] < [(T AL)[i]])
  have hle : (T AL)[i]'(by rw [al_94]; omega) ≤ (T AL)[j]'(by rw [al_94]; omega) := by
    by_cases e : i = j
    · subst e; exact Nat.le_refl _
    · exact Nat.le_of_lt (List.pairwise_iff_getElem.mp al_pw i j (by rw [al_94]; omega) (by rw [al_94]; omega) (by omega))
  intro c
  rw [List.cons_lt_cons_iff] at c
  rcases c with c | ⟨_, c⟩
  · omega
  · exact absurd c (List.not_lt_nil _)
theorem alC_gt {i j : Nat} (h : i < j) (hj : j < 94) : (alC i).cps.toList < (alC j).cps.toList := by
  show T (alC i) < T (alC j)
  have hi : i < (T AL).length := by rw [al_94]; omega
  have hj2 : j < (T AL).length := by rw [al_94]; omega
  rw [alC_T, alC_T, List.getD_eq_getElem?_getD, List.getElem?_eq_getElem hi, List.getD_eq_getElem?_getD, List.getElem?_eq_getElem hj2]
  show [(T AL)[i]] < [(T AL)[j]]
  rw [List.cons_lt_cons_iff]
  exact .inl (List.pairwise_iff_getElem.mp al_pw i j hi hj2 h)
theorem span_good {φ : D → Prop} {ψ : Er → Prop} {z w : Str} {i j : Nat} {r1 r2 : List Nat} (oz : Ok z) (ow : Ok w) (l1 : z.length = 1) (l2 : w.length = 1) (lt : ¬ (w.cps.toList < z.cps.toList)) (e1 : Builtin.Str.occurrences AL z 0 AL.length 1 = i :: r1) (e2 : Builtin.Str.occurrences AL w 0 AL.length 1 = j :: r2) (ij : i ≤ j) (hj : j < 94) (h : φ (sigD (alS i j))) : runF 2 (b_Signs_span cs errs) [.val (.str z), .val (.str w)] φ ψ := by
  refine .inl ⟨_, rfl, oz, .inl ⟨_, rfl, ow, ?_⟩⟩
  have big : 1000 ≤ sizeLine := by decide
  refine ⟨by omega, ?_⟩
  show if (!decide (((z.length : Nat) : Int) = 1)) = true then _ else _
  rw [if_neg (by rw [decide_eq_true (by omega)]; decide)]
  refine ⟨by omega, ?_⟩
  show if (!decide (((w.length : Nat) : Int) = 1)) = true then _ else _
  rw [if_neg (by rw [decide_eq_true (by omega)]; decide)]
  show if decide (w.cps.toList < z.cps.toList) = true then _ else _
  rw [if_neg (by rw [decide_eq_true_eq]; exact lt)]
  refine ⟨_, i, r1, rfl, e1, _, j, r2, rfl, e2, by decide +kernel, ?_⟩
  have ec : cutS AL (some ((i : Nat) : Int)) (some (((j : Nat) : Int) + 1)) = alS i j := by
    refine T_inj ?_
    have e3 : ((j : Nat) : Int) + 1 = ((j + 1 : Nat) : Int) := by omega
    rw [cutT, e3, HT.sIx_nat, HT.sIx_nat, al_94, alS_T, Nat.min_eq_left (show i ≤ 94 by omega), Nat.min_eq_left (show j + 1 ≤ 94 by omega)]
  show g_Signs_initX cs [.val (.str (cutS AL (some ((i : Nat) : Int)) (some (((j : Nat) : Int) + 1))))] _ _
  rw [ec]
  refine ⟨_, rfl, trivial, .inl ⟨_, rfl, alS_ok i j, ?_⟩⟩
  rw [alS_of]
  exact h
theorem u_Signs_span : ∀ as φ ψ, g_Signs_span cs as φ ψ → as.length = 2 ∧ runF 2 (b_Signs_span cs errs) as φ ψ := fun as φ ψ h => by
  rcases h with ⟨d1, d2, rfl, ⟨k1, k2, bad⟩, h⟩ | ⟨i, j, rfl, ij, hj, h⟩
  · refine ⟨rfl, ?_⟩
    by_cases o1 : ∃ z, d1 = .str z ∧ Ok z
    · obtain ⟨z, rfl, oz⟩ := o1
      refine .inl ⟨z, rfl, oz, ?_⟩
      by_cases o2 : ∃ w, d2 = .str w ∧ Ok w
      · obtain ⟨w, rfl, ow⟩ := o2
        refine .inl ⟨w, rfl, ow, ?_⟩
        rcases bad with b | b | ⟨z', w', e1, e2, lz, lw, b⟩
        · exact absurd oz (b z rfl)
        · exact absurd ow (b w rfl)
        cases e1
        cases e2
        have big : 1000 ≤ sizeLine := by decide
        refine ⟨by omega, ?_⟩
        show if (!decide (((z.length : Nat) : Int) = 1)) = true then _ else _
        by_cases c1 : z.length = 1
        · rw [if_neg (by rw [decide_eq_true (by omega)]; decide)]
          refine ⟨by omega, ?_⟩
          show if (!decide (((w.length : Nat) : Int) = 1)) = true then _ else _
          by_cases c2 : w.length = 1
          · rw [if_neg (by rw [decide_eq_true (by omega)]; decide)]
            show if decide (w.cps.toList < z.cps.toList) = true then _ else _
            rw [if_pos (decide_eq_true ((b.resolve_left fun z => z c1).resolve_left fun z => z c2))]
            exact h
          · rw [if_pos (by rw [decide_eq_false (by omega)]; rfl)]
            exact h
        · rw [if_pos (by rw [decide_eq_false (by omega)]; rfl)]
          exact h
      · exact .inr ⟨d2, rfl, k2, fun w e o => o2 ⟨w, e, o⟩, h⟩
    · exact .inr ⟨d1, rfl, k1, fun z e o => o1 ⟨z, e, o⟩, h⟩
  · obtain ⟨r1, e1⟩ := occ_at (show i < 94 by omega)
    obtain ⟨r2, e2⟩ := occ_at hj
    exact ⟨rfl, span_good cs errs (alC_ok (by omega)) (alC_ok hj) (alC_len i) (alC_len j) (alC_lt ij hj) e1 e2 ij hj h⟩
end Tw
end
section
set_option maxHeartbeats 1000000
namespace Tw
open PySem PySem.Spec PyProof.Rows L2 Tl
variable (cs errs : List Str)
theorem al_size : AL.length ≤ sizeLine := by decide +kernel
theorem al_at {i : Nat} (h : i < 94) : atI AL.cps.toList ((i : Nat) : Int) = some ((T AL).getD i 0) := by
  refine atI_nat ?_
  show (T AL)[i]? = _
  rw [List.getD_eq_getElem?_getD, List.getElem?_eq_getElem (by rw [al_94]; exact h)]; rfl
def things (a : Nat) : List D := [.str "", .str (repS (alC a) 2), .str "\n", .int 5, .non, .bl true, .lst [.str (alC a)]]
theorem rep_two (a : Nat) : (repS (alC a) 2).length = 2 := by
  rw [← T_len]
  have : T (repS (alC a) 2) = (List.replicate 2 (T (alC a))).flatten := rfl
  rw [this, alC_T]; rfl
theorem thing_bad {a : Nat} {t : D} (m : t ∈ things a) {c : Nat} : SpBad cs t (.str (alC c)) ∧ SpBad cs (.str (alC c)) t := by
  have lc := alC_len c
  have l2 := rep_two a
  have len : ∀ z : Str, z.length ≤ 1000 → z.length ≠ 1 → SpBad cs (.str z) (.str (alC c)) ∧ SpBad cs (.str (alC c)) (.str z) := fun z h1 h2 =>
    ⟨⟨trivial, trivial, .inr (.inr ⟨_, _, rfl, rfl, h1, by omega, .inl h2⟩)⟩, trivial, trivial, .inr (.inr ⟨_, _, rfl, rfl, by omega, h1, .inr (.inl h2)⟩)⟩
  have odd : ∀ d : D, KnD cs d → (∀ z, d = .str z → ¬ Ok z) → SpBad cs d (.str (alC c)) ∧ SpBad cs (.str (alC c)) d := fun d kn h => ⟨⟨kn, trivial, .inl h⟩, trivial, kn, .inr (.inl h)⟩
  unfold things at m
  rcases List.mem_cons.mp m with rfl | m
  · exact len "" (by decide) (by decide)
  rcases List.mem_cons.mp m with rfl | m
  · exact len _ (by omega) (by omega)
  rcases List.mem_cons.mp m with rfl | m
  · refine odd _ trivial fun z e o => ?_
    cases e
    have := o 10 (by decide +kernel)
    exact absurd this (by decide +kernel)
  rcases List.mem_cons.mp m with rfl | m
  · exact odd _ trivial fun z e => nomatch e
  rcases List.mem_cons.mp m with rfl | m
  · exact odd _ trivial fun z e => nomatch e
  rcases List.mem_cons.mp m with rfl | m
  · exact odd _ trivial fun z e => nomatch e
  rw [List.mem_singleton.mp m]
  exact odd _ trivial fun z e => nomatch e
abbrev spanL : FnS := (hSeq (hFor (eIt (eLv (eLst (zCons (eC (.str "")) (zCons (eOp gMul (eOp gIx (eVar 2) (eVar 3)) (eC (.int 2))) (zCons (eC (.str "\n")) (zCons (eC (.int 5)) (zCons (eC .non) (zCons (eC (.bl true)) (zCons (eLv (eLst (zCons (eOp gIx (eVar 2) (eVar 3)) zNil))) zNil)))))))))) (tgSet 6)
      (hSeq (hIf (bNot (bE (eCall (g_law_refused cs) [] (zCons (eC (.glo "_law_span_of")) (zCons (eVar 6) (zCons (eOp gIx (eVar 2) (eVar 4)) zNil)))))) (hRet (eC (.bl false))) hNext)
    (hIf (bNot (bE (eCall (g_law_refused cs) [] (zCons (eC (.glo "_law_span_of")) (zCons (eOp gIx (eVar 2) (eVar 3)) (zCons (eVar 6) zNil)))))) (hRet (eC (.bl false))) hNext)))
    (hRet (eC (.bl true))))
theorem spanL_ok {x0 x1 x5 x6 : A} {a b : Nat} (ha : a < 94) (hb : b < 94) {P : AP} {ψ : XA} (h : ∀ env, P.rt (.bl true) env) : spanL cs [x0, x1, .val (.str AL), .val (.int ((a : Nat) : Int)), .val (.int ((b : Nat) : Int)), x5, x6] P ψ := by
  have big := al_size
  have s4 : (4 : Nat) ≤ sizeLine := by decide
  have la := alC_len a
  refine ⟨big, ?_⟩
  show (match atI AL.cps.toList ((a : Nat) : Int) with | some c => _ | none => False)
  rw [al_at ha]
  refine ⟨⟨by decide, by decide, by show (alC a).length * 2 ≤ sizeLine; omega⟩, ?_⟩
  refine ⟨big, ?_⟩
  show (match atI AL.cps.toList ((a : Nat) : Int) with | some c => _ | none => False)
  rw [al_at ha]
  refine for_lit2 (fun d : D => d) (things a) (List.map_id _).symm (fun pre env => ∃ x6, env = [x0, x1, .val (.str AL), .val (.int ((a : Nat) : Int)), .val (.int ((b : Nat) : Int)), x5, x6]) ⟨x6, rfl⟩ (fun pre t suf env κ e hs hk => ?_) (fun env hs => ?_)
  · obtain ⟨x6, rfl⟩ := hs
    have mt : t ∈ things a := by rw [e]; exact List.mem_append_right _ List.mem_cons_self
    refine ⟨big, ?_⟩
    show (match atI AL.cps.toList ((b : Nat) : Int) with | some c => _ | none => False)
    rw [al_at hb]
    refine ⟨"_law_span_of", _, _, _, rfl, rfl, fun φ ψ h => ⟨_, _, rfl, (thing_bad cs mt (c := b)).1, h⟩, ?_⟩
    refine ⟨big, ?_⟩
    show (match atI AL.cps.toList ((a : Nat) : Int) with | some c => _ | none => False)
    rw [al_at ha]
    refine ⟨"_law_span_of", _, _, _, rfl, rfl, fun φ ψ h => ⟨_, _, rfl, (thing_bad cs mt (c := a)).2, h⟩, ?_⟩
    exact hk _ ⟨_, rfl⟩
  · obtain ⟨x6, rfl⟩ := hs
    exact h _
end Tw
end
section
set_option maxHeartbeats 1000000
namespace Tw
open PySem PySem.Spec PyProof.Rows L2 Tl
variable (cs errs : List Str)
abbrev span2 : FnS := (hSeq (hIf (bAnd (bE (eOp (gEq true) (eVar 0) (eVar 1))) (bNot (bE (eCall (g_law_refused cs) [] (zCons (eC (.glo "_law_span_of")) (zCons (eOp gIx (eVar 2) (eVar 4)) (zCons (eOp gIx (eVar 2) (eVar 3)) zNil))))))) (hRet (eC (.bl false))) hNext)
    (hSeq (hFor (eIt (eLv (eLst (zCons (eC (.str "")) (zCons (eOp gMul (eOp gIx (eVar 2) (eVar 3)) (eC (.int 2))) (zCons (eC (.str "\n")) (zCons (eC (.int 5)) (zCons (eC .non) (zCons (eC (.bl true)) (zCons (eLv (eLst (zCons (eOp gIx (eVar 2) (eVar 3)) zNil))) zNil)))))))))) (tgSet 6)
      (hSeq (hIf (bNot (bE (eCall (g_law_refused cs) [] (zCons (eC (.glo "_law_span_of")) (zCons (eVar 6) (zCons (eOp gIx (eVar 2) (eVar 4)) zNil)))))) (hRet (eC (.bl false))) hNext)
    (hIf (bNot (bE (eCall (g_law_refused cs) [] (zCons (eC (.glo "_law_span_of")) (zCons (eOp gIx (eVar 2) (eVar 3)) (zCons (eVar 6) zNil)))))) (hRet (eC (.bl false))) hNext)))
    (hRet (eC (.bl true)))))
abbrev span1 : FnS := (hSeq (hIf (bOr (bNot (bE (eCB (gIsi (.glo "Signs") (isiOf cs (.glo "Signs"))) (zCons (eVar 5) (zCons (eC (.glo "Signs")) zNil))))) (bE (eOp (gEq true) (eMeth "Signs" "spelled" (g_Signs_spelled cs) [] (eVar 5) zNil) (eSl (eVar 2) (oSo (eVar 3)) (oSo (eOp gAdd (eVar 4) (eC (.int 1)))))))) (hRet (eC (.bl false))) hNext)
    (span2 cs))
abbrev span0 : FnS := (hSeq (hSet 5 (eCall (g_Signs_span cs) [] (zCons (eOp gIx (eVar 2) (eVar 3)) (zCons (eOp gIx (eVar 2) (eVar 4)) zNil))))
    (span1 cs))
theorem span2_ok {i j a b : Nat} (ne : i ≠ j → a < b) (ab : a ≤ b) (hb : b < 94) {x5 : A} {P : AP} {ψ : XA} (h : ∀ env, P.rt (.bl true) env) : span2 cs [.val (.int ((i : Nat) : Int)), .val (.int ((j : Nat) : Int)), .val (.str AL), .val (.int ((a : Nat) : Int)), .val (.int ((b : Nat) : Int)), x5, .no] P ψ := by
  have big := al_size
  have ha : a < 94 := by omega
  show if (!decide (((i : Nat) : Int) = ((j : Nat) : Int))) = true then _ else _
  by_cases e : i = j
  · rw [if_neg (by rw [decide_eq_true (by omega)]; decide)]
    exact spanL_ok cs ha hb h
  · rw [if_pos (by rw [decide_eq_false (by omega)]; rfl)]
    refine ⟨big, ?_⟩
    show (match atI AL.cps.toList ((b : Nat) : Int) with | some c => _ | none => False)
    rw [al_at hb]
    refine ⟨big, ?_⟩
    show (match atI AL.cps.toList ((a : Nat) : Int) with | some c => _ | none => False)
    rw [al_at ha]
    have lab := alC_gt (ne e) hb
    have la := alC_len a
    have lb := alC_len b
    refine ⟨"_law_span_of", _, _, _, rfl, rfl, fun φ ψ h => ⟨_, _, rfl, ⟨trivial, trivial, .inr (.inr ⟨alC b, alC a, rfl, rfl, by omega, by omega, .inr (.inr lab)⟩)⟩, h⟩, ?_⟩
    exact spanL_ok cs ha hb h
theorem span1_ok [hS : InE "Signs" cs] {i j a b : Nat} (ne : i ≠ j → a < b) (ab : a ≤ b) (hb : b < 94) {P : AP} {ψ : XA} (h : ∀ env, P.rt (.bl true) env) : span1 cs [.val (.int ((i : Nat) : Int)), .val (.int ((j : Nat) : Int)), .val (.str AL), .val (.int ((a : Nat) : Int)), .val (.int ((b : Nat) : Int)), .val (sigD (alS a b)), .no] P ψ := by
  have big := al_size
  obtain ⟨ki, e1, e2⟩ := kn_sig cs (d := sigD (alS a b)) hS.h
  refine ⟨rfl, ?_⟩
  rw [e1]
  dsimp only
  rw [e2]
  have ec : cutS AL (some ((a : Nat) : Int)) (some (((b : Nat) : Int) + 1)) = alS a b := by
    refine T_inj ?_
    have e3 : ((b : Nat) : Int) + 1 = ((b + 1 : Nat) : Int) := by omega
    rw [cutT, e3, HT.sIx_nat, HT.sIx_nat, al_94, alS_T, Nat.min_eq_left (show a ≤ 94 by omega), Nat.min_eq_left (show b + 1 ≤ 94 by omega)]
  refine ⟨rfl, by decide, _, rfl, big, ?_⟩
  show if (!decide (alS a b = cutS AL (some ((a : Nat) : Int)) (some (((b : Nat) : Int) + 1)))) = true then _ else _
  rw [ec, decide_eq_true rfl, if_neg (show ¬ (!true) = true by decide)]
  exact span2_ok cs ne ab hb h
theorem span0_ok [hS : InE "Signs" cs] {i j a b : Nat} (ne : i ≠ j → a < b) (ab : a ≤ b) (hb : b < 94) {P : AP} {ψ : XA} (h : ∀ env, P.rt (.bl true) env) : span0 cs [.val (.int ((i : Nat) : Int)), .val (.int ((j : Nat) : Int)), .val (.str AL), .val (.int ((a : Nat) : Int)), .val (.int ((b : Nat) : Int)), .no, .no] P ψ := by
  have big := al_size
  refine ⟨big, ?_⟩
  show (match atI AL.cps.toList ((a : Nat) : Int) with | some c => _ | none => False)
  rw [al_at (by omega)]
  refine ⟨big, ?_⟩
  show (match atI AL.cps.toList ((b : Nat) : Int) with | some c => _ | none => False)
  rw [al_at hb]
  exact .inr ⟨a, b, rfl, ab, hb, span1_ok cs ne ab hb h⟩
theorem u_law_span [hS : InE "Signs" cs] : ∀ as φ ψ, g_law_span cs as φ ψ → as.length = 2 ∧ runF 7 (b_law_span cs errs) as φ ψ := fun as φ ψ h => by
  obtain ⟨i, j, rfl, hi, hj, h⟩ := h
  refine ⟨rfl, rfl, ?_⟩
  have go : ∀ x3 x4 : Int, (∃ a b : Nat, x3 = (a : Int) ∧ x4 = (b : Int) ∧ (i ≠ j → a < b) ∧ a ≤ b ∧ b < 94) → span0 cs [.val (.int ((i : Nat) : Int)), .val (.int ((j : Nat) : Int)), .val (.str AL), .val (.int x3), .val (.int x4), .no, .no] { nx := fun _ => φ .non, rt := fun d _ => φ d } (fun er _ => ψ er) := fun x3 x4 q => by
    obtain ⟨a, b, rfl, rfl, ne, ab, hb⟩ := q
    exact span0_ok cs ne ab hb fun _ => h
  refine go (if ((j : Nat) : Int) < ((i : Nat) : Int) then ((j : Nat) : Int) else ((i : Nat) : Int)) (if ((j : Nat) : Int) > ((i : Nat) : Int) then ((j : Nat) : Int) else ((i : Nat) : Int)) ?_
  by_cases c : i ≤ j
  · refine ⟨i, j, by rw [if_neg (by omega)], ?_, by omega, c, hj⟩
    by_cases c2 : i = j
    · rw [if_neg (by omega), c2]
    · rw [if_pos (by omega)]
  · exact ⟨j, i, by rw [if_pos (by omega)], by rw [if_neg (by omega)], by omega, by omega, hi⟩
end Tw
end
section
set_option maxHeartbeats 1000000
namespace Tw
open PySem PySem.Spec PyProof.Rows L2 Tl
variable (cs errs : List Str)
theorem cut_a2 (z : Str) (n : Nat) : T (cutS z none (some ((n : Nat) : Int))) = (T z).take n := by
  rw [cutT, HT.sIx_nat, HT.sIx_none, List.drop_zero, Nat.sub_zero]
  rcases Nat.le_total n (T z).length with h | h
  · rw [Nat.min_eq_left h]
  · rw [Nat.min_eq_right h, List.take_of_length_le (Nat.le_refl _), List.take_of_length_le h]
theorem cut_b2 (z : Str) {n : Nat} (h : n ≤ (T z).length) : T (cutS z (some ((n : Nat) : Int)) none) = (T z).drop n := by
  rw [cutT, HT.sIx_nat, HT.sIx_none, Nat.min_eq_left h]
  refine List.take_of_length_le ?_
  rw [List.length_drop]; exact Nat.le_refl _
theorem T_app2 (a b : Str) : T (a ++ b) = T a ++ T b := TL.tl_append a b
theorem bad_str {z o : Str} {n c : Nat} (hn : n ≤ z.length) (eo : T o = [c]) (hc : c ∉ T AL) : ¬ Ok (cutS z none (some ((n : Nat) : Int)) ++ o ++ cutS z (some ((n : Nat) : Int)) none) ∧ (cutS z none (some ((n : Nat) : Int)) ++ o ++ cutS z (some ((n : Nat) : Int)) none).length = z.length + 1 := by
  have hz : n ≤ (T z).length := by rw [T_len]; exact hn
  have e : T (cutS z none (some ((n : Nat) : Int)) ++ o ++ cutS z (some ((n : Nat) : Int)) none) = (T z).take n ++ [c] ++ (T z).drop n := by
    rw [T_app2, T_app2, cut_a2, cut_b2 z hz, eo]
  refine ⟨fun ok => hc (ok c (by rw [e]; simp)), ?_⟩
  rw [← T_len, e, List.length_append, List.length_append, List.length_take, List.length_drop, ← T_len z, List.length_singleton]
  omega
theorem at_odd {d : Int} (h0 : 0 ≤ d) (h1 : d < 2) : ∃ (o : Str) (c : Nat), atI [D.str "\n", .str "\t"] d = some (.str o) ∧ T o = [c] ∧ c ∉ T AL ∧ o.length = 1 := by
  have : d = 0 ∨ d = 1 := by omega
  rcases this with rfl | rfl
  · exact ⟨"\n", 10, rfl, rfl, by decide +kernel, rfl⟩
  · exact ⟨"\t", 9, rfl, rfl, by decide +kernel, rfl⟩
theorem u_law_bad : ∀ as φ ψ, g_law_bad cs as φ ψ → as.length = 2 ∧ runF 4 (b_law_bad cs errs) as φ ψ := fun as φ ψ h => by
  obtain ⟨z, rfl, l7, h⟩ := h
  have big : 1000 ≤ sizeLine := by decide
  refine ⟨rfl, by omega, by omega, by omega, fun d d0 d1 => ?_⟩
  obtain ⟨n, rfl⟩ := Int.eq_ofNat_of_zero_le d0
  refine ⟨by decide, by decide, fun e e0 e1 => ?_⟩
  obtain ⟨o, c, eo, to, hc, lo⟩ := at_odd e0 e1
  show (match atI [D.str "\n", .str "\t"] e with | some d => _ | none => False)
  rw [eo]
  have hn : n ≤ z.length := by omega
  obtain ⟨b1, b2⟩ := bad_str hn to hc
  have hz : n ≤ (T z).length := by rw [T_len]; exact hn
  have l1 : (cutS z none (some ((n : Nat) : Int))).length ≤ 7 := by
    rw [← T_len, cut_a2, List.length_take, T_len]; omega
  have l2 : (cutS z (some ((n : Nat) : Int)) none).length ≤ 7 := by
    rw [← T_len, cut_b2 z hz, List.length_drop, T_len]; omega
  have l3 : (cutS z none (some ((n : Nat) : Int)) ++ o).length = (cutS z none (some ((n : Nat) : Int))).length + o.length := by
    rw [← T_len, T_app2, List.length_append, T_len, T_len]
  exact ⟨by omega, by omega, by omega, by omega, h _ b1 b2⟩
end Tw
end
section
set_option maxHeartbeats 1000000
namespace Tw
open PySem PySem.Spec PyProof.Rows L2 Tl
variable (cs errs : List Str)
abbrev P2 : AP := { nx := fun _ => False, rt := fun d _ => d = .bl true }
abbrev X2 : XA := fun _ _ => False
abbrev sg (l : List Nat) : Str := of (pOf (mk l))
abbrev env2 (l : List Nat) (x4 x5 x6 x7 : A) : List A := [.no, .bag, .val (.str (mk l)), .val (sigD (of (pOf (mk l)))), x4, x5, x6, x7]
theorem wd_ok {l : List Nat} (h : ∀ c ∈ l, c ∈ T AL) : Ok (mk l) := fun c m => h c (by rw [T_mk] at m; exact m)
theorem sort_of {l : List Nat} (nd : l.Nodup) (h : ∀ c ∈ l, c ∈ T AL) {ys : List Str} (pm : ys.Perm (l.map sgn)) (so : sortedS ys = true) : Txt.join (SX.S []) ys = of (pOf (mk l)) := by
  by_cases e : l = []
  · subst e
    have : ys = [] := List.Perm.eq_nil pm
    subst this
    decide +kernel
  · obtain ⟨l', rfl, _, s⟩ := sgs_of nd h e pm so
    rw [join_sgn, ← s.as]
    refine of_congr fun c _ => ?_
    have : ∀ c, c ∈ l' ↔ c ∈ l := fun c => by
      have := pm.mem_iff (a := sgn c)
      rw [List.mem_map, List.mem_map] at this
      exact ⟨fun m => by obtain ⟨x, mx, q⟩ := this.mp ⟨c, m, rfl⟩; rw [sgn_inj q] at mx; exact mx, fun m => by obtain ⟨x, mx, q⟩ := this.mpr ⟨c, m, rfl⟩; rw [sgn_inj q] at mx; exact mx⟩
    unfold pOf
    rw [T_mk, T_mk, Bool.eq_iff_iff, decide_eq_true_eq, decide_eq_true_eq]
    exact this c
theorem law2_1 {l : List Nat} (nd : l.Nodup) (h : ∀ c ∈ l, c ∈ T AL) (l7 : l.length ≤ 7) {x4 x5 x6 x7 : A} : b_law_1 cs errs (env2 l x4 x5 x6 x7) P2 X2 := by
  have big : 1000 ≤ sizeLine := by decide
  have lw : (mk l).length = l.length := by rw [← T_len, T_mk]
  refine ⟨rfl, by decide, _, rfl, trivial, by omega, ?_⟩
  show (match strsD ((T (mk l)).map fun c => D.str (sgn c)) with | some xs => xs.length < 64 ∧ _ | none => False)
  rw [T_mk, strsD_sgn]
  refine ⟨by rw [List.length_map]; omega, fun ys pm so => ?_⟩
  have j := sort_of nd h pm so
  have sl : (ys.map (·.length)).sum = l.length := by
    have := (pm.map (fun z : Str => z.length)).sum_nat
    rw [this]
    have q := sgn_len l
    have z : (SX.S []).length = 0 := rfl
    rw [z, Nat.mul_zero, Nat.add_zero] at q
    exact q
  show (match strsD (ys.map D.str) with | some ys => _ ∧ _ | none => False)
  rw [strsD_map]
  refine ⟨by show (ys.map (·.length)).sum + ys.length * 0 ≤ _; omega, ?_⟩
  show if decide (of (pOf (mk l)) = Txt.join (SX.S []) ys) = true then _ else _
  rw [j, if_pos (decide_eq_true rfl)]
  refine ⟨_, rfl, trivial, .inl ⟨_, rfl, wd_ok h, ?_⟩⟩
  refine ⟨rfl, .inl rfl, _, _, rfl, .inl ⟨_, rfl, ?_⟩⟩
  rw [decide_eq_true rfl]
  refine ⟨rfl, rfl, _, _, rfl, .inr ⟨trivial, (fun c ns ds e => nomatch e), ?_⟩⟩
  rfl
end Tw
end
section
set_option maxHeartbeats 1000000
namespace Tw
open PySem PySem.Spec PyProof.Rows L2 Tl
variable (cs errs : List Str)
structure Wd (l : List Nat) : Prop where
  nd : l.Nodup
  ok : ∀ c ∈ l, c ∈ T AL
  l7 : l.length ≤ 7
theorem of_e : of (pOf ("" : Str)) = ("" : Str) := by decide +kernel
theorem law2_2 {l : List Nat} (h : Wd l) {x4 x5 x6 x7 : A} : b_law_2 cs errs (env2 l x4 x5 x6 x7) P2 X2 := by
  refine ⟨_, rfl, trivial, .inl ⟨_, rfl, by unfold Ok; decide +kernel, ?_⟩⟩
  refine ⟨rfl, rfl, .inr ⟨pOf (mk l), rfl, ?_⟩⟩
  refine for_lit2 (fun d : D => d) [sigD (of (pOf "")), sigD ""] rfl (fun pre env => ∃ x7, env = env2 l x4 x5 x6 x7) ⟨x7, rfl⟩ (fun pre t suf env κ e hs hk => ?_) (fun env hs => ?_)
  · obtain ⟨x7, rfl⟩ := hs
    have et : t = sigD "" := by
      have : t ∈ [sigD (of (pOf "")), sigD ""] := by rw [e]; exact List.mem_append_right _ List.mem_cons_self
      rcases List.mem_cons.mp this with q | q
      · rw [q, of_e]
      · exact List.mem_singleton.mp q
    subst et
    refine ⟨"_law_least_of", _, _, _, rfl, rfl, fun φ ψ h => ⟨_, _, rfl, ⟨rfl, rfl⟩, h⟩, ?_⟩
    exact hk _ ⟨_, rfl⟩
  · obtain ⟨x7, rfl⟩ := hs
    exact law2_1 cs errs h.nd h.ok h.l7
theorem law2_3 {l : List Nat} (h : Wd l) {x4 x5 x6 x7 : A} : b_law_3 cs errs (env2 l x4 x5 x6 x7) P2 X2 := by
  refine ⟨rfl, rfl, by decide, _, rfl, ?_⟩
  exact law2_2 cs errs h
theorem law2_4 {l : List Nat} (h : Wd l) {x4 x5 x6 x7 : A} : b_law_4 cs errs (env2 l x4 x5 x6 x7) P2 X2 := by
  refine ⟨rfl, rfl, by decide, _, rfl, ?_⟩
  refine ⟨rfl, rfl, by decide, _, rfl, ?_⟩
  exact law2_3 cs errs h
theorem law2_5 {l : List Nat} (h : Wd l) {x4 x5 x6 x7 : A} : b_law_5 cs errs (env2 l x4 x5 x6 x7) P2 X2 := by
  refine ⟨by decide, by decide, fun a a0 a1 => ⟨by decide, by decide, fun b b0 b1 => ?_⟩⟩
  obtain ⟨i, rfl⟩ := Int.eq_ofNat_of_zero_le a0
  obtain ⟨j, rfl⟩ := Int.eq_ofNat_of_zero_le b0
  refine ⟨i, j, rfl, by omega, by omega, ?_⟩
  exact law2_4 cs errs h
theorem mem_sg {l : List Nat} (h : Wd l) {c : Nat} (m : c ∈ l) : c ∈ T (of (pOf (mk l))) := by
  rw [mem_of]
  refine ⟨h.ok c m, ?_⟩
  unfold pOf
  rw [T_mk]
  exact decide_eq_true m
theorem law2_6 {l : List Nat} (h : Wd l) {x4 x5 x6 x7 : A} : b_law_6 cs errs (env2 l x4 x5 x6 x7) P2 X2 := by
  have big : 1000 ≤ sizeLine := by decide
  show forA _ _ (Tl.signs (mk l)) _ _ _
  unfold Tl.signs
  refine for_lit2 (fun c : Nat => D.str (sgn c)) l (by show (T (mk l)).map _ = _; rw [T_mk]) (fun pre env => ∃ x6, env = env2 l x4 x5 x6 x7) ⟨x6, rfl⟩ (fun pre c suf env κ e hs hk => ?_) (fun env hs => ?_)
  · obtain ⟨x6, rfl⟩ := hs
    have mc : c ∈ l := by rw [e]; exact List.mem_append_right _ List.mem_cons_self
    have sl : (sgn c).length = 1 := by rw [← T_len, T_sgn]; rfl
    have s2 : (sgn c ++ sgn c).length = 2 := by rw [← T_len, T_app2, List.length_append, T_sgn]; rfl
    refine ⟨rfl, _, _, rfl, trivial, .inr ⟨c, rfl, ?_⟩⟩
    rw [decide_eq_true (mem_sg h mc)]
    refine ⟨by omega, rfl, _, _, rfl, trivial, .inl ⟨fun x q => ?_, ?_⟩⟩
    · cases q; exact ⟨by omega, by omega⟩
    refine ⟨rfl, _, _, rfl, trivial, .inl ⟨fun x q => ?_, ?_⟩⟩
    · cases q; exact ⟨by decide, by decide⟩
    exact hk _ ⟨_, rfl⟩
  · obtain ⟨x6, rfl⟩ := hs
    exact law2_5 cs errs h
abbrev aR : Rn := ⟨of (pOf ("a" : Str)), 1, some 1⟩
theorem a_of : of (pOf ("a" : Str)) = ("a" : Str) := by decide +kernel
theorem law2_7 [hS : InE "Kind" cs] {l : List Nat} (h : Wd l) {x4 x5 x6 x7 : A} : b_law_7 cs errs (env2 l x4 x5 x6 x7) P2 X2 := by
  have run : ∀ {φ : D → Prop} {ψ : Er → Prop}, φ (kindD [[aR]]) → g_Kind_run cs [.val (.str "a"), .val (.int 1), .val (.int 1)] φ ψ := fun {φ ψ} k => ⟨"a", 1, some 1, rfl, by unfold Ok; decide +kernel, by decide, by decide, by decide, fun i e => by cases e; exact ⟨by decide, by decide, by decide⟩, k⟩
  have kn : KnD cs (kindD [[aR]]) := hS.h
  have no : ∀ c ns ds, kindD [[aR]] = .obj c ns ds → c ≠ "Signs" := fun c ns ds e => by cases e; decide
  refine ⟨"a", 1, some 1, rfl, by unfold Ok; decide +kernel, by decide, by decide, by decide, fun i e => by cases e; exact ⟨by decide, by decide, by decide⟩, ?_⟩
  refine ⟨rfl, _, _, rfl, kn, .inl ⟨(fun x q => nomatch q), ?_⟩⟩
  refine ⟨"a", 1, some 1, rfl, by unfold Ok; decide +kernel, by decide, by decide, by decide, fun i e => by cases e; exact ⟨by decide, by decide, by decide⟩, ?_⟩
  refine ⟨rfl, .inr (by decide), _, _, rfl, .inr ⟨kn, no, ?_⟩⟩
  refine ⟨"a", 1, some 1, rfl, by unfold Ok; decide +kernel, by decide, by decide, by decide, fun i e => by cases e; exact ⟨by decide, by decide, by decide⟩, ?_⟩
  refine ⟨"_law_inside", _, _, _, rfl, rfl, fun φ ψ h => ⟨_, _, rfl, ⟨_, rfl, kn, .odd _ no (fun z q => nomatch q)⟩, h⟩, ?_⟩
  exact law2_6 cs errs h
end Tw
end
section
set_option maxHeartbeats 1000000
namespace Tw
open PySem PySem.Spec PyProof.Rows L2 Tl
variable (cs errs : List Str)
abbrev aX : It := .fld "a" [[aR]]
theorem a_sgs : Sgs (of (pOf ("a" : Str))) := by
  rw [a_of]
  exact ⟨by unfold Ok; decide +kernel, by decide +kernel, a_of⟩
theorem a_grn : GRn aR := ⟨a_sgs, by decide, by decide, fun i e => by cases e; exact ⟨by decide, by decide, by decide⟩⟩
theorem a_name : NameS ("a" : Str) := ⟨by decide +kernel, by decide +kernel, by decide +kernel⟩
theorem a_ks : Ks [[aR]] := ks_one ⟨fun x m => by rw [List.mem_singleton.mp m]; exact a_grn, Nat.le_refl _, by show 1 ≤ 3; decide⟩
theorem a_rows : GRows [[aR]] := by
  refine ⟨fun row mr x mx => ?_, fun row mr => ?_, ⟨Nat.le_refl _, by show 1 ≤ 2; decide⟩, fun row mr => ?_⟩
  · rw [List.mem_singleton.mp mr] at mx; rw [List.mem_singleton.mp mx]; exact a_grn
  · rw [List.mem_singleton.mp mr]; exact ⟨Nat.le_refl _, by show 1 ≤ 3; decide⟩
  · rw [List.mem_singleton.mp mr]; exact ⟨_, List.mem_cons_self, by decide⟩
theorem a_raw : rawL [aX] := by rw [rawL, rawL, rawI]; exact ⟨⟨a_name, a_rows⟩, trivial⟩
theorem a_cnv : cnvL [aX] = [aX] := by rw [cnvL, cnvL, cnv]; rfl
theorem a_good : Good [aX] := by
  have := cnvL_good (ps := [aX]) a_raw (by rw [szL, szL, It.sz]; decide) (by rw [a_cnv, plL, plL, It.pl]; decide +kernel)
  rw [a_cnv] at this
  exact this
theorem a_goodF : GoodF [[aX]] := by
  refine ⟨Nat.le_refl _, by show 1 ≤ 10; decide, fun l m => ?_, fun l m => ?_, fun l m => ?_, ?_, ?_, ?_⟩
  · rw [List.mem_singleton.mp m]; exact fun z => nomatch z
  · rw [List.mem_singleton.mp m]; exact a_good
  · rw [List.mem_singleton.mp m, depL, depL, It.dep]; decide
  · show (nmsL [aX] ++ []).Nodup; rw [nmsL, nmsL, It.nms]; decide +kernel
  · show (nmsL [aX] ++ []).length ≤ 12; rw [nmsL, nmsL, It.nms]; decide
  · show ((1 : Nat) : Int) - 1 + (plL [aX] + 0) ≤ 200
    rw [plL, plL, It.pl]; decide +kernel
def Ot (t : D) : Prop := ∃ c n ds, t = .obj c n ds ∧ c ∈ c2L
theorem law2_8 [h1 : InE "Signs" cs] [h2 : InE "Field" cs] [h3 : InE "Mark" cs] [h4 : InE "Maybe" cs] [h5 : InE "Form" cs] [h6 : InE "Kind" cs] {l : List Nat} (h : Wd l) {x4 x6 x7 : A} : b_law_8 cs errs (env2 l x4 (.val (itD aX)) x6 x7) P2 X2 := by
  refine ⟨"a", rfl, by unfold Ok; decide +kernel, by decide +kernel, by decide +kernel, ?_⟩
  refine ⟨[aX], by rw [itsD, itsD]; rfl, (fun z => nomatch z), a_good, by rw [ownN]; exact (fun z => nomatch z), by rw [depL, depL, It.dep]; decide, ?_⟩
  refine ⟨false, [[aX]], by show _ = [A.val (.lst [.lst (itsD [aX])])]; rw [itsD, itsD]; rfl, a_goodF, ?_⟩
  have kn : ∀ t, Ot t → KnD cs t := fun t ⟨c, n, ds, e, m⟩ => by
    subst e
    show c ∈ cs
    rcases List.mem_cons.mp m with rfl | m
    · exact h2.h
    rcases List.mem_cons.mp m with rfl | m
    · exact h3.h
    rcases List.mem_cons.mp m with rfl | m
    · exact h4.h
    rw [List.mem_singleton.mp m]; exact h5.h
  have no : ∀ t, Ot t → ∀ c n ds, t = .obj c n ds → c ≠ "Signs" := fun t ⟨c, n, ds, e, m⟩ c' n' ds' e' => by
    subst e
    cases e'
    intro z
    subst z
    exact absurd m (by decide)
  have go : ∀ (items : List D), (∀ t ∈ items, Ot t) → ∀ x4, forA (tgSet 4) (hIf (bOr (bNot (bE (eCall (g_law_all_refused cs) [] (zCons (eVar 3) (zCons (eVar 4) zNil))))) (bOr (bE (eOp (gInA "Signs" (g_Signs_containsO cs) false) (eVar 4) (eVar 3))) (bE (eOp (gEqB "Signs" ["Field", "Mark", "Maybe", "Form", "Kind"] (g_Signs_eq cs)) (eVar 3) (eVar 4))))) (hRet (eC (.bl false))) hNext) items (env2 l x4 (.val (itD aX)) x6 x7) { P2 with nx := fun e => b_law_7 cs errs e P2 X2 } X2 := fun items hi x4 => by
    refine for_lit2 (fun d : D => d) items (List.map_id _).symm (fun pre env => ∃ x4, env = env2 l x4 (.val (itD aX)) x6 x7) ⟨x4, rfl⟩ (fun pre t suf env κ e hs hk => ?_) (fun env hs => ?_)
    · obtain ⟨x4, rfl⟩ := hs
      have ot := hi t (by rw [e]; exact List.mem_append_right _ List.mem_cons_self)
      have k := kn t ot
      have n := no t ot
      have ns : ∀ x, t = .str x → False := fun x q => by obtain ⟨c, n, ds, e, m⟩ := ot; rw [e] at q; cases q
      obtain ⟨c, nn, ds, et, mc⟩ := ot
      have ob : okB c2L t = true := by subst et; exact List.contains_iff_mem.mpr mc
      refine ⟨_, t, rfl, h1.h, ⟨k, .odd t n (fun z q => (ns z q).elim), ob⟩, ?_⟩
      refine ⟨rfl, _, t, rfl, k, .inl ⟨(fun x q => (ns x q).elim), ?_⟩⟩
      refine ⟨rfl, ?_, _, t, rfl, .inr ⟨k, n, ?_⟩⟩
      · subst et
        refine .inr ?_
        have : ∀ c ∈ c2L, c ∈ (["Field", "Mark", "Maybe", "Form", "Kind"] : List Str) := by decide
        exact this c mc
      · exact hk _ ⟨_, rfl⟩
    · obtain ⟨x4, rfl⟩ := hs
      exact law2_7 cs errs h
  refine go [itD aX, itD (.mrk "a"), itD (.grp (joinM [aX])), formD ([[aX]].map joinM)] (fun t m => ?_) x4
  rcases List.mem_cons.mp m with rfl | m
  · exact ⟨_, _, _, rfl, by decide⟩
  rcases List.mem_cons.mp m with rfl | m
  · exact ⟨_, _, _, rfl, by decide⟩
  rcases List.mem_cons.mp m with rfl | m
  · exact ⟨_, _, _, rfl, by decide⟩
  rw [List.mem_singleton.mp m]
  exact ⟨_, _, _, rfl, by decide⟩
theorem bad_ok [h1 : InE "Signs" cs] {x z : Str} (bx : ¬ Ok x) : ∀ t ∈ badL x z, OdB cs t := fun t m => by
  have odd : ∀ d : D, KnD cs d → okB c2L d = true → (∀ c ns ds, d ≠ .obj c ns ds) → (∀ z, d = .str z → ¬ Ok z) → OdB cs d := fun d k o h1 h2 => ⟨k, .odd d (fun c ns ds e => absurd e (h1 c ns ds)) h2, o⟩
  unfold badL at m
  rcases List.mem_cons.mp m with rfl | m
  · exact odd _ trivial rfl (fun c ns ds e => nomatch e) fun w e => by cases e; exact bx
  rcases List.mem_cons.mp m with rfl | m
  · exact odd _ trivial rfl (fun c ns ds e => nomatch e) fun w e => nomatch e
  rcases List.mem_cons.mp m with rfl | m
  · exact odd _ trivial rfl (fun c ns ds e => nomatch e) fun w e => nomatch e
  rcases List.mem_cons.mp m with rfl | m
  · exact odd _ trivial rfl (fun c ns ds e => nomatch e) fun w e => nomatch e
  rcases List.mem_cons.mp m with rfl | m
  · exact odd _ trivial rfl (fun c ns ds e => nomatch e) fun w e => nomatch e
  rcases List.mem_cons.mp m with rfl | m
  · exact odd _ trivial rfl (fun c ns ds e => nomatch e) fun w e => nomatch e
  rcases List.mem_cons.mp m with rfl | m
  · exact odd _ trivial rfl (fun c ns ds e => nomatch e) fun w e => nomatch e
  rcases List.mem_cons.mp m with rfl | m
  · exact odd _ trivial rfl (fun c ns ds e => nomatch e) fun w e => nomatch e
  rcases List.mem_cons.mp m with rfl | m
  · exact odd _ trivial rfl (fun c ns ds e => nomatch e) fun w e => nomatch e
  rcases List.mem_cons.mp m with rfl | m
  · exact odd _ trivial rfl (fun c ns ds e => nomatch e) fun w e => nomatch e
  rw [List.mem_singleton.mp m]
  exact odd _ trivial rfl (fun c ns ds e => nomatch e) fun w e => nomatch e
theorem bad_in {s x z : Str} (bx : ¬ Ok x) (os : Ok s) (lx : x.length ≤ 8) {t : D} (m : t ∈ badL x z) : (∀ y, t = .str y → y.length ≠ 1 ∧ y.length ≤ 1000) ∨ ∃ c, t = .str (sgn c) ∧ decide (c ∈ T s) = false := by
  unfold badL at m
  rcases List.mem_cons.mp m with rfl | m
  · by_cases e : x.length = 1
    · right
      have : (T x).length = 1 := by rw [T_len]; exact e
      match q : T x, this with
      | [c], _ =>
        refine ⟨c, ?_, decide_eq_false fun mc => bx fun d md => ?_⟩
        · have : x = sgn c := T_inj (by rw [q, T_sgn])
          rw [this]
        · rw [q, List.mem_singleton] at md
          rw [md]; exact os c mc
    · exact .inl fun y q => by cases q; exact ⟨e, by omega⟩
  · left
    intro y q
    rw [q] at m
    simp at m
theorem law2_9 [h1 : InE "Signs" cs] [h2 : InE "Field" cs] [h3 : InE "Mark" cs] [h4 : InE "Maybe" cs] [h5 : InE "Form" cs] [h6 : InE "Kind" cs] {l : List Nat} (h : Wd l) {x4 x5 x6 x7 : A} : b_law_9 cs errs (env2 l x4 x5 x6 x7) P2 X2 := by
  refine ⟨"a", 1, some 1, rfl, by unfold Ok; decide +kernel, by decide, by decide, by decide, fun i e => by cases e; exact ⟨by decide, by decide, by decide⟩, ?_⟩
  refine ⟨"a", [[aR]], rfl, a_name, a_ks, by decide, ?_⟩
  exact law2_8 cs errs h
theorem sg_ok (l : List Nat) : Ok (of (pOf (mk l))) := fun c m => (mem_of.mp m).1
theorem law2_10 [h1 : InE "Signs" cs] [h2 : InE "Field" cs] [h3 : InE "Mark" cs] [h4 : InE "Maybe" cs] [h5 : InE "Form" cs] [h6 : InE "Kind" cs] {l : List Nat} (h : Wd l) {x4 x5 x6 x7 : A} : b_law_10 cs errs (env2 l x4 x5 x6 x7) P2 X2 := by
  have lw : (mk l).length = l.length := by rw [← T_len, T_mk]
  have l7 := h.l7
  refine ⟨mk l, rfl, by omega, fun x bx lx => ?_⟩
  refine for_lit2 (fun d : D => d) (badL x (mk l)) (List.map_id _).symm (fun pre env => ∃ x4, env = env2 l x4 x5 x6 x7) ⟨x4, rfl⟩ (fun pre t suf env κ e hs hk => ?_) (fun env hs => ?_)
  · obtain ⟨x4, rfl⟩ := hs
    have mt : t ∈ badL x (mk l) := by rw [e]; exact List.mem_append_right _ List.mem_cons_self
    have ob := bad_ok cs bx t mt
    refine ⟨_, t, rfl, h1.h, ob, ?_⟩
    rcases bad_in bx (sg_ok l) (by omega) mt with q | ⟨c, rfl, q⟩
    · refine ⟨rfl, _, t, rfl, ob.1, .inl ⟨q, ?_⟩⟩
      exact hk _ ⟨_, rfl⟩
    · refine ⟨rfl, _, _, rfl, ob.1, .inr ⟨c, rfl, ?_⟩⟩
      rw [q]
      exact hk _ ⟨_, rfl⟩
  · obtain ⟨x4, rfl⟩ := hs
    exact law2_9 cs errs h
theorem u_law [h1 : InE "Signs" cs] [h2 : InE "Field" cs] [h3 : InE "Mark" cs] [h4 : InE "Maybe" cs] [h5 : InE "Form" cs] [h6 : InE "Kind" cs] : b_law cs errs (.no :: .bag :: List.replicate 6 .no) P2 X2 := by
  have big : 1000 ≤ sizeLine := by decide
  refine ⟨trivial, by decide, by decide, fun d d0 d1 => ?_⟩
  refine ⟨d, rfl, d0, by omega, fun l ll nd ok => ?_⟩
  have h : Wd l := ⟨nd, ok, by omega⟩
  have l7 := h.l7
  show (match strsD (l.map fun c => D.str (sgn c)) with | some ys => _ ∧ _ | none => False)
  rw [strsD_sgn]
  refine ⟨?_, ?_⟩
  · have := sgn_len l
    show ((l.map sgn).map (·.length)).sum + (l.map sgn).length * (SX.S []).length ≤ _
    omega
  · have j := join_sgn l
    show b_law_11 cs errs [.no, .bag, .val (.str (Txt.join (SX.S []) (l.map sgn))), .no, .no, .no, .no, .no] P2 X2
    rw [j]
    refine ⟨_, rfl, trivial, .inl ⟨_, rfl, wd_ok ok, ?_⟩⟩
    exact law2_10 cs errs h
end Tw
end
namespace Tl
open PySem PySem.Spec PyProof.Rows L2
theorem sub_flat {α β : Type} (f : α → List β) {l m : List α} (h : l.Sublist m) : (l.flatMap f).Sublist (m.flatMap f) := by
  induction h with
  | slnil => exact List.Sublist.refl _
  | cons a _ ih =>
    rw [List.flatMap_cons]
    exact ih.trans (List.sublist_append_right _ _)
  | cons_cons a _ ih =>
    rw [List.flatMap_cons, List.flatMap_cons]
    exact ih.append_left _
theorem erase_map {α β : Type} (f : α → β) : ∀ (l : List α) (i : Nat), (l.map f).eraseIdx i = (l.eraseIdx i).map f
  | [], _ => rfl
  | _ :: _, 0 => rfl
  | x :: l, i + 1 => by
    show f x :: (l.map f).eraseIdx i = f x :: (l.eraseIdx i).map f
    rw [erase_map f l i]
theorem Fin.dropAt {K : PySem.W.Frag} {F H : Hp} {R : List Res} (k : Nat) (ex : Ex F H) (rk : ROk K F H R) : Fin K F H R F H (R.eraseIdx k) := by
  have sub : (R.eraseIdx k).Sublist R := List.eraseIdx_sublist R k
  have sf : (fps (R.eraseIdx k)).Sublist (fps R) := by
    unfold fps
    exact sub_flat Res.fp sub
  exact ⟨Ex.rfl, ex, fun a u e _ => e, fun a e => e, fun a e z => absurd e z, ⟨fun t ht => rk.ok t (sub.subset ht), sf.nodup rk.nd, fun q m => rk.off q (sf.subset m)⟩, fun q m => .inl (sf.subset m)⟩
/-- an owned thing is let go behind e -/
def wDropR (k : Nat) (w : WE) : WE := fun env R Φ Ψ => w env R (fun o R1 => Φ o (R1.eraseIdx k)) Ψ
theorem de_drop {X : Cx} {W : WX} {e : Expr} {te : TE} {we : WE} (k : Nat) (h : DE X W e te we) : DE X W e te (wDropR k we) :=
  ⟨h.p, fun B env R Φ Ψ acc w σ F H s Q q => h.v B env R _ Ψ acc w σ F H s Q fun o R1 v F1 H1 φ s1 x1 eo => q o _ v F1 H1 φ (s1.go (Fin.dropAt k s1.fin.fh s1.fin.rk)) x1 eo⟩
end Tl
namespace Tw
open PySem PySem.Spec PyProof.Rows L2 Tl
abbrev sgD (c : Nat) : D := .str (sgn c)
def fsAlpha : FS := fun os R Φ _ => os = [] ∧ Φ (.val (.str AL)) R
theorem mono_alpha : Mono fsAlpha := fun os R Φ Φ' Ψ Ψ' h _ z => ⟨z.1, h _ _ z.2⟩
/-- n unlike letters -/
def fsLetters : FS := fun os R Φ _ => ∃ b l n, os = [.adr b, .val (.int n)] ∧ 0 ≤ n ∧ n ≤ 94 ∧ Res.bag b l ∈ R ∧ ∀ cs : List Nat, cs.length = n.toNat → cs.Nodup → (∀ c ∈ cs, c ∈ T AL) → Φ (.val (.lst (cs.map sgD))) R
/-- what the head tells of the law's common defs -/
structure LwEnv (P : Program) (w : World) (K : PySem.W.Frag) (mg : Str → Option Value) (base : Heap) : Prop where
  ml : mg "len" = none
  mli : mg "list" = none
  mr : mg "range" = none
section
variable {P : Program} {w : World} {K : PySem.W.Frag} {mg : Str → Option Value} {base : Heap} {f : Addr} {fd : FuncData} {cs : List Str}
theorem sc_draw : FnScope ["_law_bag_here", "_law_limit", "_law_cell", "_law_number", "_law_drawn", "_law_one"] ["_law_bag_here", "_law_limit"] (defScope st_law_draw) := ⟨rfl, rfl, rfl, by decide +kernel, rfl, by decide +kernel, by decide +kernel⟩
theorem ok_draw (ml : mg "len" = none) (mi : mg "int" = none) (Fd : FnQ K "_law_draw" "_law_draw" st_law_draw [] f fd) : FnOk P w K mg base (L2.CX P w) 1 f fd ["_law_bag_here", "_law_limit"] (spOf K fsDraw) := by
  have px : ∀ (i : Int) (k : Nat) (p : Pos), PlainIx (.Constant (.int i) k p) := fun _ _ _ _ _ => rfl
  refine fn_draw (k := 0) Fd sc_draw rfl rfl fun cdv A outer s H E => ?_
  exact pss_cons (ps_if (pw_and (pt_cmpR op_eq (pe_ix ix_list (pv 0) pe_int (px _ _ _)) pe_int (nomark _)) (pw_and1 (pt_cmpR op_gt (pe_callB call_len (by rfl) ml boot_len (pa_cons (pe_ix ix_list (pv 0) pe_int (px _ _ _)) pa_nil)) pe_int (nomark _)))).pt
      (pss_cons (ps_set (i := 2) sc_draw.nd rfl (.inl rfl) (pe_bm PySem.F.plainAttrs_list PySem.F.slot_list_pop PySem.F.type_list_pop mt_popAt (pe_ix ix_list (pv 0) pe_int (px _ _ _)) (pa_cons pe_int pa_nil)))
      (pss_cons (ps_set (i := 3) sc_draw.nd rfl (.inl rfl) (pe_op op_mul pe_int (pv 2)))
      (pss_cons (ps_if (pt_cmpR op_lt (pv 2) pe_int (nomark _)) (pss_one (ps_set (i := 3) sc_draw.nd rfl (.inl rfl) (pe_op op_sub (pe_op op_mul (pe_un un_neg pe_int) (pv 2)) pe_int))) pss_nil)
      (pss_cons (ps_if (pt_cmpR op_ge (pv 3) (pe_op op_pow pe_int pe_int) (nomark _)) (pss_one (ps_asg (pv 3) (pg_sub (pv 0) pe_int set_list))) pss_nil)
      (pss_one (ps_asg (pe_op op_mod (pe_callTy call_int1 (by rfl) mi boot_int (pa_cons (pe_op op_add (pe_op op_add (pe_op op_mul (pe_ix ix_list (pv 0) pe_int (px _ _ _)) pe_int) (pv 3)) pe_int) pa_nil)) pe_int) (pg_sub (pv 0) pe_int set_list)))))))
      pss_nil)
    (pss_cons (ps_if (pt_cmpR op_gt (pe_ix ix_list (pv 0) pe_int (px _ _ _)) pe_int (nomark _))
      (pss_cons (ps_set (i := 4) sc_draw.nd rfl (.inl rfl) (pe_op op_mod (pe_callTy call_int1 (by rfl) mi boot_int (pa_cons (pe_ix ix_list (pv 0) pe_int (px _ _ _)) pa_nil)) (pv 1)))
      (pss_cons (ps_asg (pe_op op_fdivW (pe_ix ix_list (pv 0) pe_int (px _ _ _)) (pv 1)) (pg_sub (pv 0) pe_int set_list))
      (pss_one (ps_ret (pv 4))))) pss_nil)
    (pss_cons (ps_asg (pe_op op_add (pe_ix ix_list (pv 0) pe_int (px _ _ _)) pe_int) (pg_sub (pv 0) pe_int set_list))
    (pss_cons (ps_set (i := 5) sc_draw.nd rfl (.inl rfl) (pe_op op_mod (pe_callTy call_int1 (by rfl) mi boot_int (pa_cons (pe_op op_mul (pe_op op_add (pe_op op_add (pe_ix ix_list (pv 0) pe_int (px _ _ _)) (pe_op op_mul pe_int (pe_ix ix_list (pv 0) pe_int (px _ _ _)))) pe_int) pe_int) pa_nil)) pe_int))
    (pss_cons (ps_set (i := 5) sc_draw.nd rfl (.inl rfl) (pe_op op_mod (pe_callTy call_int1 (by rfl) mi boot_int (pa_cons (pe_op op_mul (pv 5) (pe_op op_add (pe_op op_fdiv (pv 5) pe_int) pe_int)) pa_nil)) pe_int))
    (pss_cons (ps_set (i := 5) sc_draw.nd rfl (.inl rfl) (pe_op op_mod (pe_callTy call_int1 (by rfl) mi boot_int (pa_cons (pe_op op_mul (pv 5) (pe_op op_add (pe_op op_fdiv (pv 5) pe_int) pe_int)) pa_nil)) pe_int))
    (pss_one (ps_ret (pe_op op_mod (pe_callTy call_int1 (by rfl) mi boot_int (pa_cons (pe_op op_fdiv (pv 5) pe_int) pa_nil)) (pv 1)))))))))
theorem sc_bag : FnScope ["_law_script"] ["_law_script"] (defScope st_law_bag) := ⟨rfl, rfl, rfl, by decide +kernel, rfl, by decide +kernel, by decide +kernel⟩
theorem ok_bag (mli : mg "list" = none) (Fd : FnQ K "_law_bag" "_law_bag" st_law_bag [] f fd) : FnOk P w K mg base (L2.CX P w) 1 f fd ["_law_script"] (spBag K) := by
  refine fn_bag (k := 0) Fd sc_bag rfl rfl fun cdv A outer s H E => ?_
  exact pss_one (ps_ret (pe_lst (pa_cons (pe_callTy call_list_of (by rfl) mli boot_list (pa_cons (pe_slice sl_list (pv 0) po_none (po_some pe_int)) pa_nil)) (pa_cons pe_int (pa_cons pe_int (pa_cons pe_int pa_nil))))))
theorem sc_alpha : FnScope ["_law_first"] [] (defScope st_law_alphabet) := ⟨rfl, rfl, rfl, by decide +kernel, rfl, by decide +kernel, by decide +kernel⟩
theorem ok_alpha (Fd : FnQ K "_law_alphabet" "_law_alphabet" st_law_alphabet [] f fd) : FnOk P w K mg base (L2.CX P w) 1 f fd [] (spOf K fsAlpha) := by
  refine fn_body (k := 0) Fd sc_alpha (fun os R Φ Ψ h => ?_) (fun cdv A outer s H E hr tk => ⟨_, _, ss_cons (s_set (i := 0) sc_alpha.nd d_str) (ss_one (s_ret (d_op o_addS (dv 0) d_str))), fun os R Φ Ψ h => ?_⟩)
  · obtain ⟨rfl, _⟩ := h
    rfl
  · obtain ⟨rfl, φ⟩ := h
    refine ⟨by decide +kernel, ?_⟩
    have e : ((" !\"#$&'()*+,-./0123456789:;<=>?@ABCDEFGHIJKLMNOPQRSTUVWXYZ[\\]^_`" : String) : Str) ++ (("abcdefghijklmnopqrstuvwxyz{|}~" : String) : Str) = AL := by decide +kernel
    rw [← e] at φ
    exact φ
theorem erase_perm {c : Nat} : ∀ {l : List Nat} {i : Nat}, l[i]? = some c → (c :: l.eraseIdx i).Perm l
  | [], _, h => by simp at h
  | x :: l, 0, h => by
    have e : x = c := Option.some.inj h
    rw [e]
    exact List.Perm.refl _
  | x :: l, i + 1, h => by
    show (c :: x :: l.eraseIdx i).Perm (x :: l)
    exact (List.Perm.swap x c _).trans ((erase_perm (l := l) (i := i) h).cons x)
theorem sc_letters : FnScope ["_law_bag_here", "_law_many", "_law_rest", "_law_found", "_law_k"] ["_law_bag_here", "_law_many"] (defScope st_law_letters) := ⟨rfl, rfl, rfl, by decide +kernel, rfl, by decide +kernel, by decide +kernel⟩
theorem ok_letters (V : LwEnv P w K mg base) (fD : Fx P w K mg base 1 "_law_draw" fsDraw []) (fA : Fx P w K mg base 1 "_law_alphabet" fsAlpha []) (Fd : FnQ K "_law_letters" "_law_letters" st_law_letters [] f fd) : FnOk P w K mg base (L2.CX P w) 2 f fd ["_law_bag_here", "_law_many"] (spOf K fsLetters) := by
  refine fn_body (k := 1) Fd sc_letters (fun os R Φ Ψ h => ?_) (fun cdv A outer s H E hr tk => ⟨_, _,
    ss_cons (s_set (i := 2) sc_letters.nd (d_callTy (c_listS rfl) V.mli boot_list (a_cons (d_call0 mono_alpha fA hr (Nat.le_refl _) tk) a_nil)))
    (ss_cons (s_set (i := 3) sc_letters.nd (d_lst a_nil))
    (ss_cons (s_for tk rfl (i_range1 V.mr (a_cons (dv 1) a_nil)) (g_name (i := 4) sc_letters.nd) (ss_one (s_expr (d_append 0 (dv 3) (a_cons (d_pop 1 (dv 2) (a_cons (d_call mono_draw fD hr (Nat.le_refl _) tk (a_cons (dv 0) (a_cons (d_callB c_len V.ml boot_len (a_cons (dv 2) a_nil)) a_nil))) a_nil)) a_nil)))))
    (ss_one (s_ret (de_drop 0 (de_set 0 (dv 3))))))), fun os R Φ Ψ h => ?_⟩)
  · obtain ⟨b, l, n, rfl, _⟩ := h
    rfl
  · obtain ⟨b, l, n, rfl, h0, h1, m, k⟩ := h
    refine ⟨rfl, by decide +kernel, fun p => ⟨[], rfl, Nat.zero_le _, fun q => ⟨by omega, by omega, ?_⟩⟩⟩
    refine ⟨fun i env' R' => (∃ x, env' = [.adr b, .val (.int n), .adr p, .adr q, x]) ∧ ∃ fo re : List Nat, R' = .lst q (fo.map sgD) :: .lst p (re.map sgD) :: R ∧ fo.length = i ∧ (fo ++ re).Perm (T AL), ⟨⟨.no, rfl⟩, [], T AL, ?_, rfl, List.Perm.refl _⟩, fun i d env' R' hd hI => ?_, fun env' R' hI => ?_⟩
    · rw [signs_T, List.map_map]
      rfl
    · obtain ⟨⟨x, rfl⟩, fo, re, rfl, lf, pm⟩ := hI
      have hi : i < n.toNat := by
        have := (List.getElem?_eq_some_iff.mp hd).1
        rw [intsFrom_len] at this
        exact this
      have tot : fo.length + re.length = 94 := by
        rw [← List.length_append, pm.length_eq, al_len]
      have rl : 0 < re.length := by omega
      refine ⟨⟨_, List.mem_cons_self⟩, ⟨_, List.mem_cons_of_mem _ List.mem_cons_self⟩, _, List.mem_cons_of_mem _ List.mem_cons_self, ?_⟩
      refine ⟨b, l, _, rfl, ?_, ?_, List.mem_cons_of_mem _ (List.mem_cons_of_mem _ m), fun dd d0 d1 => ?_⟩
      · rw [List.length_map]; omega
      · rw [List.length_map]; omega
      · rw [List.length_map] at d1
        have dl : dd.toNat < re.length := by omega
        refine ⟨_, sgD re[dd.toNat], rfl, d0, by omega, ?_, ?_⟩
        · rw [List.getElem?_map, List.getElem?_eq_getElem dl]
          rfl
        · refine ⟨_, rfl, by rw [List.length_map]; omega, ⟨_, rfl⟩, fo ++ [re[dd.toNat]], re.eraseIdx dd.toNat, ?_, by rw [List.length_append, lf]; rfl, ?_⟩
          · rw [List.map_append, ← erase_map]
            rfl
          · rw [List.append_assoc]
            refine (List.Perm.append_left fo (erase_perm (List.getElem?_eq_getElem dl))).trans pm
    · obtain ⟨⟨x, rfl⟩, fo, re, rfl, lf, pm⟩ := hI
      rw [intsFrom_len] at lf
      have nd : (fo ++ re).Nodup := pm.nodup_iff.mpr al_nodup
      exact ⟨_, rfl, k fo lf (List.nodup_append.mp nd).1 fun c hc => pm.mem_iff.mp (List.mem_append_left _ hc)⟩
end
end Tw
section
set_option maxHeartbeats 4000000
namespace Tw
open PySem PySem.Spec PyProof.Rows L2 Tl
structure Env (P : Program) (w : World) (K : PySem.W.Frag) (mg : Str → Option Value) (base : Heap) : Prop where
  isi : ∀ c, isC cs c = true → Isi K c (isiOf cs c)
  em : ∀ c, c ∈ errs → ∀ y v, emC errs c y = some v → PySem.W.exmOne K (.ref (He.ga K y)) (.ref (He.ga K c)) = some v
  c_ALPHABET : ∃ t, mg "ALPHABET" = some (.str c_ALPHABET t)
  c_FIGURES : ∃ t, mg "FIGURES" = some (.str c_FIGURES t)
  c_LOWER : ∃ t, mg "LOWER" = some (.str c_LOWER t)
  c_MOST_DEPTH : ∃ t, mg "MOST_DEPTH" = some (.int 3 t)
  c_MOST_FIELDS : ∃ t, mg "MOST_FIELDS" = some (.int 12 t)
  c_MOST_LINES : ∃ t, mg "MOST_LINES" = some (.int 10 t)
  c_MOST_PLACES_items : ∃ t, mg "MOST_PLACES_items" = some (.int 200 t)
  c_MOST_PLACES_kinds : ∃ t, mg "MOST_PLACES_kinds" = some (.int 120 t)
  c_MOST_PLACES_spelling : ∃ t, mg "MOST_PLACES_spelling" = some (.int 200 t)
  c_MOST_ROWS : ∃ t, mg "MOST_ROWS" = some (.int 20 t)
  c_UPPER : ∃ t, mg "UPPER" = some (.str c_UPPER t)
  f_begins : FldOk K ["Layout"] "begins"
  f_blank : FldOk K ["Layout"] "blank"
  f_finishes : FldOk K ["Layout"] "finishes"
  f_follows : FldOk K ["Layout"] "follows"
  f_held : FldOk K ["Signs"] "held"
  f_kind : FldOk K ["Field"] "kind"
  f_layout : FldOk K ["Form"] "layout"
  f_lines : FldOk K ["Form"] "lines"
  f_name : FldOk K ["Field"] "name"
  f_names_at : FldOk K ["Layout"] "names_at"
  f_parts : FldOk K ["Maybe"] "parts"
  f_rows : FldOk K ["Kind"] "rows"
  f_signs_at : FldOk K ["Layout"] "signs_at"
  f_text : FldOk K ["Mark"] "text"
  g_BadKind : mg "BadKind" = some (.ref (He.ga K "BadKind"))
  g_BadSigns : mg "BadSigns" = some (.ref (He.ga K "BadSigns"))
  g_BadText : mg "BadText" = some (.ref (He.ga K "BadText"))
  g_Field : mg "Field" = some (.ref (He.ga K "Field"))
  g_Kind : mg "Kind" = some (.ref (He.ga K "Kind"))
  g_Mark : mg "Mark" = some (.ref (He.ga K "Mark"))
  g_Maybe : mg "Maybe" = some (.ref (He.ga K "Maybe"))
  g_Signs : mg "Signs" = some (.ref (He.ga K "Signs"))
  g_TownError : mg "TownError" = some (.ref (He.ga K "TownError"))
  g_law_and : mg "_law_and" = some (.ref (He.ga K "_law_and"))
  g_law_inside : mg "_law_inside" = some (.ref (He.ga K "_law_inside"))
  g_law_least_of : mg "_law_least_of" = some (.ref (He.ga K "_law_least_of"))
  g_law_less : mg "_law_less" = some (.ref (He.ga K "_law_less"))
  g_law_new : mg "_law_new" = some (.ref (He.ga K "_law_new"))
  g_law_or : mg "_law_or" = some (.ref (He.ga K "_law_or"))
  g_law_or_in_place : mg "_law_or_in_place" = some (.ref (He.ga K "_law_or_in_place"))
  g_law_span_of : mg "_law_span_of" = some (.ref (He.ga K "_law_span_of"))
  m_ValueError : mg "ValueError" = none
  m_bool : mg "bool" = none
  m_enumerate : mg "enumerate" = none
  m_int : mg "int" = none
  m_isinstance : mg "isinstance" = none
  m_len : mg "len" = none
  m_list : mg "list" = none
  m_max : mg "max" = none
  m_min : mg "min" = none
  m_range : mg "range" = none
  m_sorted : mg "sorted" = none
  m_str : mg "str" = none
  m_sum : mg "sum" = none
  m_tuple : mg "tuple" = none
  ne_Signs__Field_Mark_Maybe_Form_Kind : ∀ c2 ∈ (["Field", "Mark", "Maybe", "Form", "Kind"] : List Str), NeK K "Signs" c2
  ni_Signs__ior : NiK K "Signs" (dunderI "or")
  np_Signs__Field_Mark_Maybe_Form : ∀ c2 ∈ (["Field", "Mark", "Maybe", "Form"] : List Str), NopK K "Signs" c2
  sub_Signs : SubOwn K "Signs"
  top_Signs : Top1 K "Signs"
  x_BadForm : ExF P K mg "BadForm" "at"
  x_BadItem : ExF P K mg "BadItem" "at"
  x_BadKind : ExK K mg "BadKind"
  x_BadName : ExF P K mg "BadName" "name"
  x_BadSigns : ExK K mg "BadSigns"
  xi_BadSigns__TownError : XiK K "BadSigns" "TownError"
  xi_BadSigns__ValueError : XiK K "BadSigns" "ValueError"
  d_law : DefK K mg "law" "law" st_law []
  d_law_span : DefK K mg "_law_span" "_law_span" st_law_span []
  d_law_refused : DefK K mg "_law_refused" "_law_refused" st_law_refused []
  d_law_span_of : DefK K mg "_law_span_of" "_law_span_of" st_law_span_of []
  d_Signs_span : StaK K mg "Signs" "span" "Signs.span" (st_Signs 1) []
  d_is_signs : DefK K mg "is_signs" "is_signs" st_is_signs []
  d_Signs_initX : ClsK K mg "Signs" "Signs.__init__" (st_Signs 0) [.str ""]
  d_in_order : DefK K mg "in_order" "in_order" st_in_order []
  d_law_or_in_place : DefK K mg "_law_or_in_place" "_law_or_in_place" st_law_or_in_place []
  d_Signs_ror : MethK K "Signs" "__ror__" "Signs.__ror__" (st_Signs 6) []
  d_held_signs : DefK K mg "held_signs" "held_signs" st_held_signs []
  d_Signs_or : MethK K "Signs" "__or__" "Signs.__or__" (st_Signs 5) []
  d_law_or : DefK K mg "_law_or" "_law_or" st_law_or []
  d_law_new : DefK K mg "_law_new" "_law_new" st_law_new []
  d_law_less : DefK K mg "_law_less" "_law_less" st_law_less []
  d_Signs_sub : MethK K "Signs" "__sub__" "Signs.__sub__" (st_Signs 9) []
  d_Signs_rsub : MethK K "Signs" "__rsub__" "Signs.__rsub__" (st_Signs 10) []
  d_law_least_of : DefK K mg "_law_least_of" "_law_least_of" st_law_least_of []
  d_Signs_least : MethK K "Signs" "least" "Signs.least" (st_Signs 17) []
  d_law_inside : DefK K mg "_law_inside" "_law_inside" st_law_inside []
  d_Signs_within : MethK K "Signs" "within" "Signs.within" (st_Signs 16) []
  d_law_and : DefK K mg "_law_and" "_law_and" st_law_and []
  d_Signs_rand : MethK K "Signs" "__rand__" "Signs.__rand__" (st_Signs 8) []
  d_Signs_and : MethK K "Signs" "__and__" "Signs.__and__" (st_Signs 7) []
  d_law_alphabet : DefK K mg "_law_alphabet" "_law_alphabet" st_law_alphabet []
  d_Signs_spelled : MethK K "Signs" "spelled" "Signs.spelled" (st_Signs 18) []
  d_law_letters : DefK K mg "_law_letters" "_law_letters" st_law_letters []
  d_law_draw : DefK K mg "_law_draw" "_law_draw" st_law_draw []
  d_law_bad : DefK K mg "_law_bad" "_law_bad" st_law_bad []
  d_law_all_refused : DefK K mg "_law_all_refused" "_law_all_refused" st_law_all_refused []
  d_Signs_letters : StaK K mg "Signs" "letters" "Signs.letters" (st_Signs 2) []
  d_Signs_digits : StaK K mg "Signs" "digits" "Signs.digits" (st_Signs 4) []
  d_Signs_capitals : StaK K mg "Signs" "capitals" "Signs.capitals" (st_Signs 3) []
  d_Signs_eq : MethK K "Signs" "__eq__" "Signs.__eq__" (st_Signs 12) []
  d_Signs_containsO : MethK K "Signs" "__contains__" "Signs.__contains__" (st_Signs 13) []
  d_Maybe_init : ClsK K mg "Maybe" "Maybe.__init__" (st_Maybe 0) []
  d_own_names : DefK K mg "own_names" "own_names" st_own_names []
  d_joined_marks : DefK K mg "joined_marks" "joined_marks" st_joined_marks []
  d_Mark_init : ClsK K mg "Mark" "Mark.__init__" (st_Mark 0) []
  d_is_item : DefK K mg "is_item" "is_item" st_is_item []
  d_depth_of : DefK K mg "depth_of" "depth_of" st_depth_of []
  d_count_places : DefK K mg "count_places" "count_places" st_count_places []
  d_kind_places : DefK K mg "kind_places" "kind_places" st_kind_places []
  d_run_places : DefK K mg "run_places" "run_places" st_run_places []
  d_Kind_alternatives : MethK K "Kind" "alternatives" "Kind.alternatives" (st_Kind 10) []
  d_Kind_run : StaK K mg "Kind" "run" "Kind.run" (st_Kind 1) [.int 1, .int 1]
  d_run_signs : DefK K mg "run_signs" "run_signs" st_run_signs []
  d_made_kind : DefK K mg "made_kind" "made_kind" st_made_kind []
  d_Kind_init : ClsK K mg "Kind" "Kind.__init__" (st_Kind 0) []
  d_is_number : DefK K mg "is_number" "is_number" st_is_number [.non]
  d_Form_init : ClsK K mg "Form" "Form.__init__" (st_Form 0) []
  d_form_layout : DefK K mg "form_layout" "form_layout" st_form_layout []
  d_with_line : DefK K mg "with_line" "with_line" st_with_line []
  d_row_piece : DefK K mg "row_piece" "row_piece" st_row_piece []
  d_then : DefK K mg "then" "then" st_then []
  d_nothing : DefK K mg "nothing" "nothing" st_nothing []
  d_item_piece : DefK K mg "item_piece" "item_piece" st_item_piece []
  d_mark_piece : DefK K mg "mark_piece" "mark_piece" st_mark_piece []
  d_kind_piece : DefK K mg "kind_piece" "kind_piece" st_kind_piece []
  d_row_of_runs : DefK K mg "row_of_runs" "row_of_runs" st_row_of_runs []
  d_run_piece : DefK K mg "run_piece" "run_piece" st_run_piece []
  d_Layout_init : ClsK K mg "Layout" "Layout.__init__" (st_Layout 0) []
  d_followers : DefK K mg "followers" "followers" st_followers []
  d_checked_lines : DefK K mg "checked_lines" "checked_lines" st_checked_lines []
  d_names_in : DefK K mg "names_in" "names_in" st_names_in []
  d_line_places : DefK K mg "line_places" "line_places" st_line_places []
  d_is_line : DefK K mg "is_line" "is_line" st_is_line []
  d_Field_init : ClsK K mg "Field" "Field.__init__" (st_Field 0) []
  d_is_name : DefK K mg "is_name" "is_name" st_is_name []
  d_Kind_has_empty : ProK K "Kind" "has_empty" "Kind.has_empty" (st_Kind 9)
section
variable {P : Program} {w : World} {K : PySem.W.Frag} {mg : Str → Option Value} {base : Heap}
theorem x_law_draw (V : Env P w K mg base) : Fx P w K mg base 1 "_law_draw" (fsA (g_law_draw cs)) [] := fx_weak (fx_of V.d_law_draw (fun f fd F => ok_draw V.m_len V.m_int F) fun _ _ _ _ _ _ us hl => match us, hl with | [_, _], _ => rfl) draw_a
instance : InE "BadSigns" errs := ⟨by decide⟩
instance : InE "BadText" errs := ⟨by decide⟩
instance : InE "BadKind" errs := ⟨by decide⟩
instance : InE "TooLarge" errs := ⟨by decide⟩
instance : InE "BadItem" errs := ⟨by decide⟩
instance : InE "BadForm" errs := ⟨by decide⟩
instance : InE "BadName" errs := ⟨by decide⟩
instance : InE "Unknown" errs := ⟨by decide⟩
instance : InE "Missing" errs := ⟨by decide⟩
instance : InE "BadValue" errs := ⟨by decide⟩
instance : InE "BadNumber" errs := ⟨by decide⟩
instance : InE "Kind" cs := ⟨by decide⟩
instance : InE "Field" cs := ⟨by decide⟩
instance : InE "Mark" cs := ⟨by decide⟩
instance : InE "Maybe" cs := ⟨by decide⟩
instance : InE "Form" cs := ⟨by decide⟩
instance : InE "Layout" cs := ⟨by decide⟩
instance : InE "Signs" cs := ⟨by decide⟩
theorem letters_a {cs : List Str} : ∀ os R Φ Ψ, fsA (g_law_letters cs) os R Φ Ψ → fsLetters os R Φ Ψ := fun os R Φ Ψ h => by
  obtain ⟨b, as, φ, ψ, rfl, ha, hb, ⟨n, rfl, h0, h1, g⟩, k1, k2⟩ := h
  obtain ⟨l, hl⟩ := hb List.mem_cons_self
  exact ⟨b, l, n, rfl, h0, h1, hl, fun ls a1 a2 a3 => k1 _ (g ls a1 a2 a3)⟩
theorem x_law_letters (V : Env P w K mg base) : Fx P w K mg base 2 "_law_letters" (fsA (g_law_letters cs)) [] := fx_weak (fx_of V.d_law_letters (fun f fd F => ok_letters ⟨V.m_len, V.m_list, V.m_range⟩ (fx_of V.d_law_draw (fun f fd F => ok_draw V.m_len V.m_int F) fun _ _ _ _ _ _ us hl => match us, hl with | [_, _], _ => rfl) (fx_of V.d_law_alphabet (fun f fd F => ok_alpha F) fun _ _ _ _ _ _ us hl => match us, hl with | [], _ => rfl) F) fun _ _ _ _ _ _ us hl => match us, hl with | [_, _], _ => rfl) letters_a
theorem alpha_a {cs : List Str} : ∀ os R Φ Ψ, fsA (g_law_alphabet cs) os R Φ Ψ → fsAlpha os R Φ Ψ := fun os R Φ Ψ h => by
  obtain ⟨b, as, φ, ψ, rfl, ha, hb, ⟨rfl, g⟩, k1, k2⟩ := h
  exact ⟨rfl, k1 _ g⟩
theorem x_law_alphabet (V : Env P w K mg base) : Fx P w K mg base 1 "_law_alphabet" (fsA (g_law_alphabet cs)) [] := fx_weak (fx_of V.d_law_alphabet (fun f fd F => ok_alpha F) fun _ _ _ _ _ _ us hl => match us, hl with | [], _ => rfl) alpha_a
theorem sc_is_signs : FnScope ["thing", "sign"] ["thing"] (defScope st_is_signs) := ⟨rfl, rfl, rfl, by decide +kernel, rfl, by decide +kernel, by decide +kernel⟩
theorem sc_in_order : FnScope ["signs", "sign"] ["signs"] (defScope st_in_order) := ⟨rfl, rfl, rfl, by decide +kernel, rfl, by decide +kernel, by decide +kernel⟩
theorem sc_Signs_least : FnScope ["self"] ["self"] (defScope (st_Signs 17)) := ⟨rfl, rfl, rfl, by decide +kernel, rfl, by decide +kernel, by decide +kernel⟩
theorem sc_Signs_spelled : FnScope ["self"] ["self"] (defScope (st_Signs 18)) := ⟨rfl, rfl, rfl, by decide +kernel, rfl, by decide +kernel, by decide +kernel⟩
theorem sc_Signs_eq : FnScope ["self", "other"] ["self", "other"] (defScope (st_Signs 12)) := ⟨rfl, rfl, rfl, by decide +kernel, rfl, by decide +kernel, by decide +kernel⟩
theorem sc_Signs_containsO : FnScope ["self", "sign"] ["self", "sign"] (defScope (st_Signs 13)) := ⟨rfl, rfl, rfl, by decide +kernel, rfl, by decide +kernel, by decide +kernel⟩
theorem sc_own_names : FnScope ["row", "item"] ["row"] (defScope st_own_names) := ⟨rfl, rfl, rfl, by decide +kernel, rfl, by decide +kernel, by decide +kernel⟩
theorem sc_is_item : FnScope ["thing"] ["thing"] (defScope st_is_item) := ⟨rfl, rfl, rfl, by decide +kernel, rfl, by decide +kernel, by decide +kernel⟩
theorem sc_run_places : FnScope ["run"] ["run"] (defScope st_run_places) := ⟨rfl, rfl, rfl, by decide +kernel, rfl, by decide +kernel, by decide +kernel⟩
theorem sc_Kind_alternatives : FnScope ["self"] ["self"] (defScope (st_Kind 10)) := ⟨rfl, rfl, rfl, by decide +kernel, rfl, by decide +kernel, by decide +kernel⟩
theorem sc_Kind_init : FnScope ["self", "rows"] ["self", "rows"] (defScope (st_Kind 0)) := ⟨rfl, rfl, rfl, by decide +kernel, rfl, by decide +kernel, by decide +kernel⟩
theorem sc_is_number : FnScope ["thing", "low", "high"] ["thing", "low", "high"] (defScope st_is_number) := ⟨rfl, rfl, rfl, by decide +kernel, rfl, by decide +kernel, by decide +kernel⟩
theorem sc_then : FnScope ["one", "two", "links", "place", "goal", "begins", "finishes"] ["one", "two"] (defScope st_then) := ⟨rfl, rfl, rfl, by decide +kernel, rfl, by decide +kernel, by decide +kernel⟩
theorem sc_nothing : FnScope [] [] (defScope st_nothing) := ⟨rfl, rfl, rfl, by decide +kernel, rfl, by decide +kernel, by decide +kernel⟩
theorem sc_run_piece : FnScope ["start", "run", "name", "signs", "least", "most", "many", "edges", "index", "finishes"] ["start", "run", "name"] (defScope st_run_piece) := ⟨rfl, rfl, rfl, by decide +kernel, rfl, by decide +kernel, by decide +kernel⟩
theorem sc_followers : FnScope ["many", "edges", "rows", "found", "at", "place", "stop", "source", "goal"] ["many", "edges"] (defScope st_followers) := ⟨rfl, rfl, rfl, by decide +kernel, rfl, by decide +kernel, by decide +kernel⟩
theorem sc_is_name : FnScope ["thing", "sign"] ["thing"] (defScope st_is_name) := ⟨rfl, rfl, rfl, by decide +kernel, rfl, by decide +kernel, by decide +kernel⟩
theorem sc_Kind_has_empty : FnScope ["self", "row", "run"] ["self"] (defScope (st_Kind 9)) := ⟨rfl, rfl, rfl, by decide +kernel, rfl, by decide +kernel, by decide +kernel⟩
theorem sc_Signs_initX : FnScope ["self", "text"] ["self", "text"] (defScope (st_Signs 0)) := ⟨rfl, rfl, rfl, by decide +kernel, rfl, by decide +kernel, by decide +kernel⟩
theorem sc_held_signs : FnScope ["thing"] ["thing"] (defScope st_held_signs) := ⟨rfl, rfl, rfl, by decide +kernel, rfl, by decide +kernel, by decide +kernel⟩
theorem sc_law_least_of : FnScope ["_law_one", "_law_other"] ["_law_one", "_law_other"] (defScope st_law_least_of) := ⟨rfl, rfl, rfl, by decide +kernel, rfl, by decide +kernel, by decide +kernel⟩
theorem sc_law_bad : FnScope ["_law_bag_here", "_law_word", "_law_at", "_law_odd"] ["_law_bag_here", "_law_word"] (defScope st_law_bad) := ⟨rfl, rfl, rfl, by decide +kernel, rfl, by decide +kernel, by decide +kernel⟩
theorem sc_Mark_init : FnScope ["self", "text"] ["self", "text"] (defScope (st_Mark 0)) := ⟨rfl, rfl, rfl, by decide +kernel, rfl, by decide +kernel, by decide +kernel⟩
theorem sc_kind_places : FnScope ["kind", "row", "run"] ["kind"] (defScope st_kind_places) := ⟨rfl, rfl, rfl, by decide +kernel, rfl, by decide +kernel, by decide +kernel⟩
theorem sc_mark_piece : FnScope ["start", "text", "piece", "index", "place"] ["start", "text"] (defScope st_mark_piece) := ⟨rfl, rfl, rfl, by decide +kernel, rfl, by decide +kernel, by decide +kernel⟩
theorem sc_row_of_runs : FnScope ["start", "row", "name", "piece", "run"] ["start", "row", "name"] (defScope st_row_of_runs) := ⟨rfl, rfl, rfl, by decide +kernel, rfl, by decide +kernel, by decide +kernel⟩
theorem sc_Layout_init : FnScope ["self", "piece", "signs_at", "names_at", "edges", "begins", "finishes", "blank"] ["self", "piece"] (defScope (st_Layout 0)) := ⟨rfl, rfl, rfl, by decide +kernel, rfl, by decide +kernel, by decide +kernel⟩
theorem sc_is_line : FnScope ["thing", "item"] ["thing"] (defScope st_is_line) := ⟨rfl, rfl, rfl, by decide +kernel, rfl, by decide +kernel, by decide +kernel⟩
theorem sc_Signs_within : FnScope ["self", "other", "wanted", "sign"] ["self", "other"] (defScope (st_Signs 16)) := ⟨rfl, rfl, rfl, by decide +kernel, rfl, by decide +kernel, by decide +kernel⟩
theorem sc_run_signs : FnScope ["signs", "held"] ["signs"] (defScope st_run_signs) := ⟨rfl, rfl, rfl, by decide +kernel, rfl, by decide +kernel, by decide +kernel⟩
theorem sc_made_kind : FnScope ["rows", "kept", "row", "many", "run"] ["rows"] (defScope st_made_kind) := ⟨rfl, rfl, rfl, by decide +kernel, rfl, by decide +kernel, by decide +kernel⟩
theorem sc_kind_piece : FnScope ["start", "rows", "name", "signs_at", "names_at", "edges", "begins", "finishes", "blank", "row", "piece"] ["start", "rows", "name"] (defScope st_kind_piece) := ⟨rfl, rfl, rfl, by decide +kernel, rfl, by decide +kernel, by decide +kernel⟩
theorem sc_Field_init : FnScope ["self", "name", "kind"] ["self", "name", "kind"] (defScope (st_Field 0)) := ⟨rfl, rfl, rfl, by decide +kernel, rfl, by decide +kernel, by decide +kernel⟩
theorem sc_Signs_span : FnScope ["first", "last"] ["first", "last"] (defScope (st_Signs 1)) := ⟨rfl, rfl, rfl, by decide +kernel, rfl, by decide +kernel, by decide +kernel⟩
theorem sc_Signs_ror : FnScope ["self", "other"] ["self", "other"] (defScope (st_Signs 6)) := ⟨rfl, rfl, rfl, by decide +kernel, rfl, by decide +kernel, by decide +kernel⟩
theorem sc_Signs_or : FnScope ["self", "other"] ["self", "other"] (defScope (st_Signs 5)) := ⟨rfl, rfl, rfl, by decide +kernel, rfl, by decide +kernel, by decide +kernel⟩
theorem sc_law_new : FnScope ["_law_one", "_law_other"] ["_law_one", "_law_other"] (defScope st_law_new) := ⟨rfl, rfl, rfl, by decide +kernel, rfl, by decide +kernel, by decide +kernel⟩
theorem sc_Signs_sub : FnScope ["self", "other", "barred", "sign"] ["self", "other"] (defScope (st_Signs 9)) := ⟨rfl, rfl, rfl, by decide +kernel, rfl, by decide +kernel, by decide +kernel⟩
theorem sc_Signs_rsub : FnScope ["self", "other", "given", "sign"] ["self", "other"] (defScope (st_Signs 10)) := ⟨rfl, rfl, rfl, by decide +kernel, rfl, by decide +kernel, by decide +kernel⟩
theorem sc_law_inside : FnScope ["_law_one", "_law_other"] ["_law_one", "_law_other"] (defScope st_law_inside) := ⟨rfl, rfl, rfl, by decide +kernel, rfl, by decide +kernel, by decide +kernel⟩
theorem sc_Signs_rand : FnScope ["self", "other", "wanted", "sign"] ["self", "other"] (defScope (st_Signs 8)) := ⟨rfl, rfl, rfl, by decide +kernel, rfl, by decide +kernel, by decide +kernel⟩
theorem sc_Signs_and : FnScope ["self", "other", "wanted", "sign"] ["self", "other"] (defScope (st_Signs 7)) := ⟨rfl, rfl, rfl, by decide +kernel, rfl, by decide +kernel, by decide +kernel⟩
theorem sc_Signs_letters : FnScope [] [] (defScope (st_Signs 2)) := ⟨rfl, rfl, rfl, by decide +kernel, rfl, by decide +kernel, by decide +kernel⟩
theorem sc_Signs_digits : FnScope [] [] (defScope (st_Signs 4)) := ⟨rfl, rfl, rfl, by decide +kernel, rfl, by decide +kernel, by decide +kernel⟩
theorem sc_Signs_capitals : FnScope [] [] (defScope (st_Signs 3)) := ⟨rfl, rfl, rfl, by decide +kernel, rfl, by decide +kernel, by decide +kernel⟩
theorem sc_joined_marks : FnScope ["row", "found", "item"] ["row"] (defScope st_joined_marks) := ⟨rfl, rfl, rfl, by decide +kernel, rfl, by decide +kernel, by decide +kernel⟩
theorem sc_Kind_run : FnScope ["signs", "least", "most", "held"] ["signs", "least", "most"] (defScope (st_Kind 1)) := ⟨rfl, rfl, rfl, by decide +kernel, rfl, by decide +kernel, by decide +kernel⟩
theorem sc_law_span_of : FnScope ["_law_one", "_law_other"] ["_law_one", "_law_other"] (defScope st_law_span_of) := ⟨rfl, rfl, rfl, by decide +kernel, rfl, by decide +kernel, by decide +kernel⟩
theorem sc_law_or_in_place : FnScope ["_law_one", "_law_other", "_law_bound"] ["_law_one", "_law_other"] (defScope st_law_or_in_place) := ⟨rfl, rfl, rfl, by decide +kernel, rfl, by decide +kernel, by decide +kernel⟩
theorem sc_law_or : FnScope ["_law_one", "_law_other"] ["_law_one", "_law_other"] (defScope st_law_or) := ⟨rfl, rfl, rfl, by decide +kernel, rfl, by decide +kernel, by decide +kernel⟩
theorem sc_law_less : FnScope ["_law_one", "_law_other"] ["_law_one", "_law_other"] (defScope st_law_less) := ⟨rfl, rfl, rfl, by decide +kernel, rfl, by decide +kernel, by decide +kernel⟩
theorem sc_law_and : FnScope ["_law_one", "_law_other"] ["_law_one", "_law_other"] (defScope st_law_and) := ⟨rfl, rfl, rfl, by decide +kernel, rfl, by decide +kernel, by decide +kernel⟩
theorem sc_depth_of : FnScope ["row", "found", "item"] ["row"] (defScope st_depth_of) := ⟨rfl, rfl, rfl, by decide +kernel, rfl, by decide +kernel, by decide +kernel⟩
theorem sc_names_in : FnScope ["row", "found", "item"] ["row"] (defScope st_names_in) := ⟨rfl, rfl, rfl, by decide +kernel, rfl, by decide +kernel, by decide +kernel⟩
theorem sc_law_refused : FnScope ["_law_made", "_law_one", "_law_other", "e"] ["_law_made", "_law_one", "_law_other"] (defScope st_law_refused) := ⟨rfl, rfl, rfl, by decide +kernel, rfl, by decide +kernel, by decide +kernel⟩
theorem sc_law_span : FnScope ["_law_low", "_law_high", "_law_signs", "_law_first", "_law_last", "_law_span_here", "_law_thing"] ["_law_low", "_law_high"] (defScope st_law_span) := ⟨rfl, rfl, rfl, by decide +kernel, rfl, by decide +kernel, by decide +kernel⟩
theorem sc_law_all_refused : FnScope ["_law_held", "_law_thing", "_law_made"] ["_law_held", "_law_thing"] (defScope st_law_all_refused) := ⟨rfl, rfl, rfl, by decide +kernel, rfl, by decide +kernel, by decide +kernel⟩
theorem sc_count_places : FnScope ["row", "found", "item"] ["row"] (defScope st_count_places) := ⟨rfl, rfl, rfl, by decide +kernel, rfl, by decide +kernel, by decide +kernel⟩
theorem sc_Maybe_init : FnScope ["self", "parts", "at", "part"] ["self", "parts"] (defScope (st_Maybe 0)) := ⟨rfl, rfl, rfl, by decide +kernel, rfl, by decide +kernel, by decide +kernel⟩
theorem sc_line_places : FnScope ["lines", "line"] ["lines"] (defScope st_line_places) := ⟨rfl, rfl, rfl, by decide +kernel, rfl, by decide +kernel, by decide +kernel⟩
theorem sc_checked_lines : FnScope ["lines", "seen", "at", "line", "name"] ["lines"] (defScope st_checked_lines) := ⟨rfl, rfl, rfl, by decide +kernel, rfl, by decide +kernel, by decide +kernel⟩
theorem sc_row_piece : FnScope ["start", "row", "piece", "item"] ["start", "row"] (defScope st_row_piece) := ⟨rfl, rfl, rfl, by decide +kernel, rfl, by decide +kernel, by decide +kernel⟩
theorem sc_item_piece : FnScope ["start", "item", "signs_at", "names_at", "edges", "begins", "finishes", "blank"] ["start", "item"] (defScope st_item_piece) := ⟨rfl, rfl, rfl, by decide +kernel, rfl, by decide +kernel, by decide +kernel⟩
theorem sc_with_line : FnScope ["whole", "line", "feed", "below", "edges", "place", "goal", "begins", "finishes", "signs_at", "names_at"] ["whole", "line"] (defScope st_with_line) := ⟨rfl, rfl, rfl, by decide +kernel, rfl, by decide +kernel, by decide +kernel⟩
theorem sc_form_layout : FnScope ["lines", "whole", "line"] ["lines"] (defScope st_form_layout) := ⟨rfl, rfl, rfl, by decide +kernel, rfl, by decide +kernel, by decide +kernel⟩
theorem sc_Form_init : FnScope ["self", "lines"] ["self", "lines"] (defScope (st_Form 0)) := ⟨rfl, rfl, rfl, by decide +kernel, rfl, by decide +kernel, by decide +kernel⟩
theorem sc_law : FnScope ["_law_script", "_law_bag_here", "_law_word", "_law_held", "_law_thing", "_law_field", "_law_sign", "_law_empty"] ["_law_script"] (defScope st_law) := ⟨rfl, rfl, rfl, by decide +kernel, rfl, by decide +kernel, by decide +kernel⟩
theorem x_is_signs (V : Env P w K mg base) : Fx P w K mg base 1 "is_signs" (fsA (g_is_signs cs)) [] := fx_of V.d_is_signs (fun f fd F => fn_a (k := 0) F sc_is_signs (fun cdv A outer s H E hr tk => ⟨_, _, b_is_signs cs errs, (fs_cons (fs_if (ft_not (ft_val (f_callB (p_isi (V.isi (.ty "str") (by decide))) V.m_isinstance boot_isinstance (z_cons (f_v 0) (z_cons (f_ty V.m_str boot_str) z_nil))))) (fs_one (fs_ret f_bl)) fs_nil)
    (fs_cons (fs_for tk rfl (fi_any K (f_v 0)) (fg_name (i := 1) sc_is_signs.nd)
      (fs_one (fs_if (ft_cmp p_ninS (f_v 1) (f_gs V.c_ALPHABET)) (fs_one (fs_ret f_bl)) fs_nil)))
    (fs_one (fs_ret f_bl)))), u_is_signs cs errs⟩) (fun as φ ψ h => (u_is_signs cs errs as φ ψ h).1)) (fun _ _ _ _ _ _ us hl => match us, hl with | [_], _ => rfl)
theorem x_in_order (V : Env P w K mg base) : Fx P w K mg base 1 "in_order" (fsA (g_in_order cs)) [] := fx_of V.d_in_order (fun f fd F => fn_a (k := 0) F sc_in_order (fun cdv A outer s H E hr tk => ⟨_, _, b_in_order cs errs, (fs_one (fs_ret (f_join K f_str (FO.rd (f_lc [("sign", 1)] rfl sc_in_order.nd gw_name (fi_any K (f_gs V.c_ALPHABET)) (blk_of (by kernel_rfl)) (fun _ _ _ _ _ => (fg_name (i := 1) sc_in_order.nd)) (fun _ _ _ _ _ => (fts_one (ft_cmp p_inS (f_v 1) (f_v 0)))) (fun _ _ _ _ _ => (f_v 1))))))), u_in_order cs errs⟩) (fun as φ ψ h => (u_in_order cs errs as φ ψ h).1)) (fun _ _ _ _ _ _ us hl => match us, hl with | [_], _ => rfl)
theorem x_Signs_least (V : Env P w K mg base) : Mx P w K mg base 1 "Signs" "least" (fsA (g_Signs_least cs)) [] := mx_of V.d_Signs_least (fun f fd F => fn_a (k := 0) F sc_Signs_least (fun cdv A outer s H E hr tk => ⟨_, _, b_Signs_least cs errs, (fs_cons (fs_if (ft_cmp (p_eq K hr) (f_callBr (p_len K) V.m_len boot_len (f_fld V.f_held (f_v 0)).rd) f_int) (fs_one (fs_raise0 rfl tk V.x_BadSigns)) fs_nil)
    (fs_one (fs_ret (f_ix K (f_fld V.f_held (f_v 0)) f_int)))), u_Signs_least cs errs⟩) (fun as φ ψ h => (u_Signs_least cs errs as φ ψ h).1)) (fun _ _ _ _ _ _ us hl => match us, hl with | [_], _ => rfl)
theorem x_Signs_spelled (V : Env P w K mg base) : Mx P w K mg base 1 "Signs" "spelled" (fsA (g_Signs_spelled cs)) [] := mx_of V.d_Signs_spelled (fun f fd F => fn_a (k := 0) F sc_Signs_spelled (fun cdv A outer s H E hr tk => ⟨_, _, b_Signs_spelled cs errs, (fs_one (fs_ret (f_fld V.f_held (f_v 0)))), u_Signs_spelled cs errs⟩) (fun as φ ψ h => (u_Signs_spelled cs errs as φ ψ h).1)) (fun _ _ _ _ _ _ us hl => match us, hl with | [_], _ => rfl)
theorem x_Signs_eq (V : Env P w K mg base) : Mx P w K mg base 1 "Signs" "__eq__" (fsA (g_Signs_eq cs)) [] := mx_of V.d_Signs_eq (fun f fd F => fn_a (k := 0) F sc_Signs_eq (fun cdv A outer s H E hr tk => ⟨_, _, b_Signs_eq cs errs, (fs_one (fs_ret (f_and (f_callB (p_isi (V.isi (.glo "Signs") (by decide))) V.m_isinstance boot_isinstance (z_cons (f_v 1) (z_cons (f_gr V.g_Signs) z_nil))) (f_one (f_cmp (p_eq K hr) (f_fld V.f_held (f_v 0)) (f_fld V.f_held (f_v 1))))))), u_Signs_eq cs errs⟩) (fun as φ ψ h => (u_Signs_eq cs errs as φ ψ h).1)) (fun _ _ _ _ _ _ us hl => match us, hl with | [_, _], _ => rfl)
theorem x_Signs_containsO (V : Env P w K mg base) : Mx P w K mg base 1 "Signs" "__contains__" (fsA (g_Signs_containsO cs)) [] := mx_of V.d_Signs_containsO (fun f fd F => fn_a (k := 0) F sc_Signs_containsO (fun cdv A outer s H E hr tk => ⟨_, _, b_Signs_containsO cs errs, (fs_one (fs_ret (f_and (f_callB (p_isi (V.isi (.ty "str") (by decide))) V.m_isinstance boot_isinstance (z_cons (f_v 1) (z_cons (f_ty V.m_str boot_str) z_nil))) (f_and (f_cmp (p_eq K hr) (f_callBr (p_len K) V.m_len boot_len (f_v 1).rd) f_int) (f_one (f_cmp p_inS (f_v 1) (f_fld V.f_held (f_v 0)))))))), u_Signs_containsO cs errs⟩) (fun as φ ψ h => (u_Signs_containsO cs errs as φ ψ h).1)) (fun _ _ _ _ _ _ us hl => match us, hl with | [_, _], _ => rfl)
theorem x_own_names (V : Env P w K mg base) : Fx P w K mg base 1 "own_names" (fsA (g_own_names cs)) [] := fx_of V.d_own_names (fun f fd F => fn_a (k := 0) F sc_own_names (fun cdv A outer s H E hr tk => ⟨_, _, b_own_names cs errs, (fs_one (fs_ret (FO.val (f_lc [("item", 1)] rfl sc_own_names.nd gw_name (fi_any K (f_v 0)) (blk_of (by kernel_rfl)) (fun _ _ _ _ _ => (fg_name (i := 1) sc_own_names.nd)) (fun _ _ _ _ _ => (fts_one (ft_val (f_callB (p_isi (V.isi (.glo "Field") (by decide))) V.m_isinstance boot_isinstance (z_cons (f_v 1) (z_cons (f_gr V.g_Field) z_nil)))))) (fun _ _ _ _ _ => (f_fld V.f_name (f_v 1))))))), u_own_names cs errs⟩) (fun as φ ψ h => (u_own_names cs errs as φ ψ h).1)) (fun _ _ _ _ _ _ us hl => match us, hl with | [_], _ => rfl)
theorem x_is_item (V : Env P w K mg base) : Fx P w K mg base 1 "is_item" (fsA (g_is_item cs)) [] := fx_of V.d_is_item (fun f fd F => fn_a (k := 0) F sc_is_item (fun cdv A outer s H E hr tk => ⟨_, _, b_is_item cs errs, (fs_one (fs_ret (f_callB (p_isiT V.isi [.glo "Field", .glo "Mark", .glo "Maybe"]) V.m_isinstance boot_isinstance (z_cons (f_v 0) (z_cons (f_tup (z_cons (f_gr V.g_Field) (z_cons (f_gr V.g_Mark) (z_cons (f_gr V.g_Maybe) z_nil)))) z_nil))))), u_is_item cs errs⟩) (fun as φ ψ h => (u_is_item cs errs as φ ψ h).1)) (fun _ _ _ _ _ _ us hl => match us, hl with | [_], _ => rfl)
theorem x_run_places (V : Env P w K mg base) : Fx P w K mg base 1 "run_places" (fsA (g_run_places cs)) [] := fx_of V.d_run_places (fun f fd F => fn_a (k := 0) F sc_run_places (fun cdv A outer s H E hr tk => ⟨_, _, b_run_places cs errs, (fs_cons (fs_if (ft_cmp p_isN (f_ix K (f_v 0) f_int) f_non) (fs_one (fs_ret (f_callB (p_max2 rfl) V.m_max boot_max (z_cons (f_ix K (f_v 0) f_int) (z_cons f_int z_nil))))) fs_nil)
    (fs_one (fs_ret (f_ix K (f_v 0) f_int)))), u_run_places cs errs⟩) (fun as φ ψ h => (u_run_places cs errs as φ ψ h).1)) (fun _ _ _ _ _ _ us hl => match us, hl with | [_], _ => rfl)
theorem x_Kind_alternatives (V : Env P w K mg base) : Mx P w K mg base 1 "Kind" "alternatives" (fsA (g_Kind_alternatives cs)) [] := mx_of V.d_Kind_alternatives (fun f fd F => fn_a (k := 0) F sc_Kind_alternatives (fun cdv A outer s H E hr tk => ⟨_, _, b_Kind_alternatives cs errs, (fs_one (fs_ret (f_fld V.f_rows (f_v 0)))), u_Kind_alternatives cs errs⟩) (fun as φ ψ h => (u_Kind_alternatives cs errs as φ ψ h).1)) (fun _ _ _ _ _ _ us hl => match us, hl with | [_], _ => rfl)
theorem x_Kind_init (V : Env P w K mg base) : Cx' P w K mg base 1 "Kind" (fsM "Kind" (g_Kind_init cs)) [] := cx_of V.d_Kind_init (fun f fd F => fn_m (k := 0) (N0 := 1) (ps0 := 1) F sc_Kind_init rfl rfl (fun cdv A outer s H E hr tk => ⟨_, _, b_Kind_init cs errs, (fs_one (fs_fld 0 V.f_rows (f_v 1))), u_Kind_init cs errs⟩) (l_Kind_init cs)) (fun _ _ _ _ _ _ us hl => match us, hl with | [_, _], _ => rfl)
theorem x_is_number (V : Env P w K mg base) : Fx P w K mg base 1 "is_number" (fsA (g_is_number cs)) [] := fx_ofD (dv := [.non]) V.d_is_number rfl (by simp) 3 1 rfl (fun f fd F => fn_a (k := 0) F sc_is_number (fun cdv A outer s H E hr tk => ⟨_, _, b_is_number cs errs, (fs_cons (fs_if (ft_or (ft_val (f_callB (p_isi (V.isi (.ty "bool") (by decide))) V.m_isinstance boot_isinstance (z_cons (f_v 0) (z_cons (f_ty V.m_bool boot_bool) z_nil)))) (ft_or1 (ft_not (ft_val (f_callB (p_isi (V.isi (.ty "int") (by decide))) V.m_isinstance boot_isinstance (z_cons (f_v 0) (z_cons (f_ty V.m_int boot_int) z_nil))))))).tst (fs_one (fs_ret f_bl)) fs_nil)
    (fs_one (fs_ret (f_and (f_cmp p_ge (f_v 0) (f_v 1)) (f_one (f_or (f_cmp p_isN (f_v 2) f_non) (f_one (f_cmp p_le (f_v 0) (f_v 2))))))))), u_is_number cs errs⟩) (fun as φ ψ h => (u_is_number cs errs as φ ψ h).1)) fun _ _ _ _ _ _ _ us its hl hi => match us, its, hl, hi with | [_, _, _], [_], _, _ => ⟨_, rfl, rfl⟩
theorem x_then (V : Env P w K mg base) : Fx P w K mg base 1 "then" (fsA (g_then cs)) [] := fx_of V.d_then (fun f fd F => fn_a (k := 0) F sc_then (fun cdv A outer s H E hr tk => ⟨_, _, b_then cs errs, (fs_cons (fs_setLc2 (i := 2) [("place", 3), ("goal", 4)] [4] rfl sc_then.nd gw_name gw_name (by decide) (fi_any K (f_ix K (f_v 0) f_int)) (blk_of (by kernel_rfl)) (fun _ _ _ _ _ => (fg_name (i := 3) sc_then.nd)) (fun _ _ _ _ _ => fts_nil) (fun _ _ _ _ _ => (fi_any K (f_ix K (f_v 1) f_int))) (fun _ _ _ _ _ => (fg_name (i := 4) sc_then.nd)) (fun _ _ _ _ _ => fts_nil) (fun _ _ _ _ _ => (f_tup (z_cons (f_v 3) (z_cons (f_v 4) z_nil)))))
    (fs_cons (fs_set (i := 5) sc_then.nd (FO.val (f_list K V.m_list (f_ix K (f_v 0) f_int).rd)))
    (fs_cons (fs_if (ft_val (f_ix K (f_v 0) f_int)) (fs_one (fs_set (i := 5) sc_then.nd (f_op (p_add K) (f_v 5) (f_ix K (f_v 1) f_int)))) fs_nil)
    (fs_cons (fs_set (i := 6) sc_then.nd (FO.val (f_list K V.m_list (f_ix K (f_v 1) f_int).rd)))
    (fs_cons (fs_if (ft_val (f_ix K (f_v 1) f_int)) (fs_one (fs_set (i := 6) sc_then.nd (f_op (p_add K) (f_v 6) (f_ix K (f_v 0) f_int)))) fs_nil)
    (fs_settle 2 (fs_one (fs_ret (f_tup (z_cons (f_op (p_add K) (f_ix K (f_v 0) f_int) (f_ix K (f_v 1) f_int)) (z_cons (f_op (p_add K) (f_ix K (f_v 0) f_int) (f_ix K (f_v 1) f_int)) (z_cons (f_op (p_add K) (f_op (p_add K) (f_ix K (f_v 0) f_int) (f_ix K (f_v 1) f_int)) (f_v 2)) (z_cons (f_v 5) (z_cons (f_v 6) (z_cons (f_and (f_ix K (f_v 0) f_int) (f_one (f_ix K (f_v 1) f_int))) z_nil))))))))))))))), u_then cs errs⟩) (fun as φ ψ h => (u_then cs errs as φ ψ h).1)) (fun _ _ _ _ _ _ us hl => match us, hl with | [_, _], _ => rfl)
theorem x_nothing (V : Env P w K mg base) : Fx P w K mg base 1 "nothing" (fsA (g_nothing cs)) [] := fx_of V.d_nothing (fun f fd F => fn_a (k := 0) F sc_nothing (fun cdv A outer s H E hr tk => ⟨_, _, b_nothing cs errs, (fs_one (fs_ret (f_tup (z_cons (FO.val (f_lst z_nil)) (z_cons (FO.val (f_lst z_nil)) (z_cons (FO.val (f_lst z_nil)) (z_cons (FO.val (f_lst z_nil)) (z_cons (FO.val (f_lst z_nil)) (z_cons f_bl z_nil))))))))), u_nothing cs errs⟩) (fun as φ ψ h => (u_nothing cs errs as φ ψ h).1)) (fun _ _ _ _ _ _ us hl => match us, hl with | [], _ => rfl)
theorem x_run_piece (V : Env P w K mg base) : Fx P w K mg base 1 "run_piece" (fsA (g_run_piece cs)) [] := fx_of V.d_run_piece (fun f fd F => fn_a (k := 0) F sc_run_piece (fun cdv A outer s H E hr tk => ⟨_, _, b_run_piece cs errs, (fs_cons (fs_asg (f_v 1) (fg_tup rfl (fgs_one (i := 3) sc_run_piece.nd (fgs_one (i := 4) sc_run_piece.nd (fgs_one (i := 5) sc_run_piece.nd fgs_nil)))))
    (fs_cons (fs_set (i := 6) sc_run_piece.nd (f_v 5))
    (fs_cons (fs_set (i := 7) sc_run_piece.nd (FO.val (f_lst z_nil)))
    (fs_cons (fs_if (ft_cmp p_isN (f_v 5) f_non) (fs_cons (fs_set (i := 6) sc_run_piece.nd (f_callB (p_max2 rfl) V.m_max boot_max (z_cons (f_v 4) (z_cons f_int z_nil))))
    (fs_one (fs_set (i := 7) sc_run_piece.nd (FO.val (f_lst (z_cons (f_tup (z_cons (f_op p_sub (f_op (p_add K) (f_v 0) (f_v 6)) f_int) (z_cons (f_op p_sub (f_op (p_add K) (f_v 0) (f_v 6)) f_int) z_nil))) z_nil)))))) fs_nil)
    (fs_cons (fs_set (i := 7) sc_run_piece.nd (f_op (p_add K) (f_v 7) (FO.val (f_lc [("index", 8)] rfl sc_run_piece.nd gw_name (fi_range1 V.m_range (z_cons (f_op p_sub (f_v 6) f_int) z_nil)) (blk_of (by kernel_rfl)) (fun _ _ _ _ _ => (fg_name (i := 8) sc_run_piece.nd)) (fun _ _ _ _ _ => fts_nil) (fun _ _ _ _ _ => (f_tup (z_cons (f_op (p_add K) (f_v 0) (f_v 8)) (z_cons (f_op (p_add K) (f_op (p_add K) (f_v 0) (f_v 8)) f_int) z_nil))))))))
    (fs_cons (fs_setLc (i := 9) [("index", 8)] rfl sc_run_piece.nd gw_name (fi_range2 V.m_range (z_cons (f_op p_sub (f_callB (p_max2 rfl) V.m_max boot_max (z_cons (f_v 4) (z_cons f_int z_nil))) f_int) (z_cons (f_v 6) z_nil))) (blk_of (by kernel_rfl)) (fun _ _ _ _ _ => (fg_name (i := 8) sc_run_piece.nd)) (fun _ _ _ _ _ => fts_nil) (fun _ _ _ _ _ => (f_op (p_add K) (f_v 0) (f_v 8))))
    (fs_settle 9 (fs_one (fs_ret (f_tup (z_cons (FO.val (f_rep (FO.val (f_lst (z_cons (f_v 3) z_nil))) (f_v 6))) (z_cons (FO.val (f_rep (FO.val (f_lst (z_cons (f_v 2) z_nil))) (f_v 6))) (z_cons (f_v 7) (z_cons (FO.val (f_lst (z_cons (f_v 0) z_nil))) (z_cons (f_v 9) (z_cons (f_cmp (p_eq K hr) (f_v 4) f_int) z_nil)))))))))))))))), u_run_piece cs errs⟩) (fun as φ ψ h => (u_run_piece cs errs as φ ψ h).1)) (fun _ _ _ _ _ _ us hl => match us, hl with | [_, _, _], _ => rfl)
theorem x_followers (V : Env P w K mg base) : Fx P w K mg base 1 "followers" (fsA (g_followers cs)) [] := fx_of V.d_followers (fun f fd F => fn_a (k := 0) F sc_followers (fun cdv A outer s H E hr tk => ⟨_, _, b_followers cs errs, (fs_cons (fs_set (i := 2) sc_followers.nd (FO.val (f_sortP K V.m_sorted (f_v 1).rd)))
    (fs_cons (fs_setO (i := 3) sc_followers.nd (f_lst z_nil))
    (fs_cons (fs_set (i := 4) sc_followers.nd f_int)
    (fs_cons (fs_for tk rfl (fi_range1 V.m_range (z_cons (f_v 0) z_nil)) (fg_name (i := 5) sc_followers.nd)
      (fs_cons (fs_set (i := 6) sc_followers.nd (f_v 4))
    (fs_cons (fs_while tk (ft_and (ft_cmp p_lt (f_v 6) (f_callBr (p_len K) V.m_len boot_len (f_v 2).rd)) (ft_and1 (ft_cmp (p_eq K hr) (f_ix K (f_ix K (f_v 2) (f_v 6)) f_int) (f_v 5)))).tst
      (fs_one (fs_set (i := 6) sc_followers.nd (f_op (p_add K) (f_v 6) f_int))))
    (fs_cons (fs_app 3 (FO.val (f_lc [("source", 7), ("goal", 8)] rfl sc_followers.nd gw_two (fi_any K (f_sl K (f_v 2) (po_so (f_v 4)) (po_so (f_v 6)))) (blk_of (by kernel_rfl)) (fun _ _ _ _ _ => (fg_tup rfl (fgs_one (i := 7) sc_followers.nd (fgs_one (i := 8) sc_followers.nd fgs_nil)))) (fun _ _ _ _ _ => fts_nil) (fun _ _ _ _ _ => (f_v 8)))))
    (fs_one (fs_set (i := 4) sc_followers.nd (f_v 6)))))))
    (fs_settle 3 (fs_one (fs_ret (f_v 3)))))))), u_followers cs errs⟩) (fun as φ ψ h => (u_followers cs errs as φ ψ h).1)) (fun _ _ _ _ _ _ us hl => match us, hl with | [_, _], _ => rfl)
theorem x_is_name (V : Env P w K mg base) : Fx P w K mg base 1 "is_name" (fsA (g_is_name cs)) [] := fx_of V.d_is_name (fun f fd F => fn_a (k := 0) F sc_is_name (fun cdv A outer s H E hr tk => ⟨_, _, b_is_name cs errs, (fs_cons (fs_if (ft_or (ft_not (ft_val (f_callB (p_isi (V.isi (.ty "str") (by decide))) V.m_isinstance boot_isinstance (z_cons (f_v 0) (z_cons (f_ty V.m_str boot_str) z_nil))))) (ft_or (ft_cmp p_lt (f_callBr (p_len K) V.m_len boot_len (f_v 0).rd) f_int) (ft_or1 (ft_cmp p_gt (f_callBr (p_len K) V.m_len boot_len (f_v 0).rd) f_int)))).tst (fs_one (fs_ret f_bl)) fs_nil)
    (fs_cons (fs_for tk rfl (fi_any K (f_v 0)) (fg_name (i := 1) sc_is_name.nd)
      (fs_one (fs_if (ft_cmp p_ninS (f_v 1) (f_gs V.c_LOWER)) (fs_one (fs_ret f_bl)) fs_nil)))
    (fs_one (fs_ret f_bl)))), u_is_name cs errs⟩) (fun as φ ψ h => (u_is_name cs errs as φ ψ h).1)) (fun _ _ _ _ _ _ us hl => match us, hl with | [_], _ => rfl)
theorem x_Kind_has_empty (V : Env P w K mg base) : Px P w K mg base 1 "Kind" "has_empty" (fsA (g_Kind_has_empty cs)) := px_of V.d_Kind_has_empty (fun f fd F => fn_a (k := 0) F sc_Kind_has_empty (fun cdv A outer s H E hr tk => ⟨_, _, b_Kind_has_empty cs errs, (fs_one (fs_ret (f_cmp p_gt (f_callBr (p_len K) V.m_len boot_len (FO.rd (f_lc [("row", 1)] rfl sc_Kind_has_empty.nd gw_name (fi_any K (f_fld V.f_rows (f_v 0))) (blk_of (by kernel_rfl)) (fun _ _ _ _ _ => (fg_name (i := 1) sc_Kind_has_empty.nd)) (fun _ _ _ _ _ => (fts_one (ft_cmp (p_eq K hr) (f_callBr (p_len K) V.m_len boot_len (FO.rd (f_lc [("run", 2)] rfl sc_Kind_has_empty.nd gw_name (fi_any K (f_v 1)) (blk_of (by kernel_rfl)) (fun _ _ _ _ _ => (fg_name (i := 2) sc_Kind_has_empty.nd)) (fun _ _ _ _ _ => (fts_one (ft_cmp p_gt (f_ix K (f_v 2) f_int) f_int))) (fun _ _ _ _ _ => (f_v 2))))) f_int))) (fun _ _ _ _ _ => (f_v 1))))) f_int))), u_Kind_has_empty cs errs⟩) (fun as φ ψ h => (u_Kind_has_empty cs errs as φ ψ h).1)) (fun _ _ _ _ _ _ us hl => match us, hl with | [_], _ => rfl)
theorem x_Signs_initX (V : Env P w K mg base) : Cx' P w K mg base 2 "Signs" (fsM "Signs" (g_Signs_initX cs)) [] := cx_ofD (dv := [.str ""]) V.d_Signs_initX rfl (by simp) 2 1 rfl (fun f fd F => fn_m (k := 1) (N0 := 1) (ps0 := 1) F sc_Signs_initX rfl rfl (fun cdv A outer s H E hr tk => ⟨_, _, b_Signs_initX cs errs, (fs_cons (fs_if (ft_not (ft_val (f_call (x_is_signs V) hr (by decide) tk (z_cons (f_v 1) z_nil)))) (fs_one (fs_raise0 rfl tk V.x_BadSigns)) fs_nil)
    (fs_one (fs_fld 0 V.f_held (f_call (x_in_order V) hr (by decide) tk (z_cons (f_v 1) z_nil))))), u_Signs_initX cs errs⟩) (l_Signs_initX cs)) fun _ _ _ _ _ _ _ us its hl hi => match us, its, hl, hi with | [_, _], [_], _, _ => ⟨_, rfl, rfl⟩
theorem x_Signs_initX_1 (V : Env P w K mg base) : Cx' P w K mg base 2 "Signs" (fsM "Signs" (g_Signs_initX cs)) [.str ""] := cx_ofD (dv := [.str ""]) V.d_Signs_initX rfl (by simp) 1 0 rfl (fun f fd F => fn_m (k := 1) (N0 := 1) (ps0 := 1) F sc_Signs_initX rfl rfl (fun cdv A outer s H E hr tk => ⟨_, _, b_Signs_initX cs errs, (fs_cons (fs_if (ft_not (ft_val (f_call (x_is_signs V) hr (by decide) tk (z_cons (f_v 1) z_nil)))) (fs_one (fs_raise0 rfl tk V.x_BadSigns)) fs_nil)
    (fs_one (fs_fld 0 V.f_held (f_call (x_in_order V) hr (by decide) tk (z_cons (f_v 1) z_nil))))), u_Signs_initX cs errs⟩) (l_Signs_initX cs)) fun _ _ _ _ _ _ _ us its hl hi => match us, its, hl, hi with | [_], [_], _, _ => ⟨_, rfl, rfl⟩
theorem x_held_signs (V : Env P w K mg base) : Fx P w K mg base 2 "held_signs" (fsA (g_held_signs cs)) [] := fx_of V.d_held_signs (fun f fd F => fn_a (k := 1) F sc_held_signs (fun cdv A outer s H E hr tk => ⟨_, _, b_held_signs cs errs, (fs_cons (fs_if (ft_val (f_callB (p_isi (V.isi (.glo "Signs") (by decide))) V.m_isinstance boot_isinstance (z_cons (f_v 0) (z_cons (f_gr V.g_Signs) z_nil)))) (fs_one (fs_ret (f_fld V.f_held (f_v 0)))) fs_nil)
    (fs_cons (fs_if (ft_not (ft_val (f_call (x_is_signs V) hr (by decide) tk (z_cons (f_v 0) z_nil)))) (fs_one (fs_raise0 rfl tk V.x_BadSigns)) fs_nil)
    (fs_one (fs_ret (f_call (x_in_order V) hr (by decide) tk (z_cons (f_v 0) z_nil)))))), u_held_signs cs errs⟩) (fun as φ ψ h => (u_held_signs cs errs as φ ψ h).1)) (fun _ _ _ _ _ _ us hl => match us, hl with | [_], _ => rfl)
theorem x_held_signsN (V : Env P w K mg base) : Fx P w K mg base 2 "held_signs" (fsA (g_held_signsN cs)) [] := fx_of V.d_held_signs (fun f fd F => fn_a (k := 1) F sc_held_signs (fun cdv A outer s H E hr tk => ⟨_, _, b_held_signs cs errs, (fs_cons (fs_if (ft_val (f_callB (p_isi (V.isi (.glo "Signs") (by decide))) V.m_isinstance boot_isinstance (z_cons (f_v 0) (z_cons (f_gr V.g_Signs) z_nil)))) (fs_one (fs_ret (f_fld V.f_held (f_v 0)))) fs_nil)
    (fs_cons (fs_if (ft_not (ft_val (f_call (x_is_signs V) hr (by decide) tk (z_cons (f_v 0) z_nil)))) (fs_one (fs_raise0 rfl tk V.x_BadSigns)) fs_nil)
    (fs_one (fs_ret (f_call (x_in_order V) hr (by decide) tk (z_cons (f_v 0) z_nil)))))), u_held_signsN cs errs⟩) (fun as φ ψ h => (u_held_signsN cs errs as φ ψ h).1)) (fun _ _ _ _ _ _ us hl => match us, hl with | [_], _ => rfl)
theorem x_law_least_of (V : Env P w K mg base) : Fx P w K mg base 2 "_law_least_of" (fsA (g_law_least_of cs)) [] := fx_of V.d_law_least_of (fun f fd F => fn_a (k := 1) F sc_law_least_of (fun cdv A outer s H E hr tk => ⟨_, _, b_law_least_of cs errs, (fs_one (fs_ret (f_meth0 (x_Signs_least V) hr (by decide) tk (f_v 0)))), u_law_least_of cs errs⟩) (fun as φ ψ h => (u_law_least_of cs errs as φ ψ h).1)) (fun _ _ _ _ _ _ us hl => match us, hl with | [_, _], _ => rfl)
theorem x_law_bad (V : Env P w K mg base) : Fx P w K mg base 2 "_law_bad" (fsA (g_law_bad cs)) [] := fx_of V.d_law_bad (fun f fd F => fn_a (k := 1) F sc_law_bad (fun cdv A outer s H E hr tk => ⟨_, _, b_law_bad cs errs, (fs_cons (fs_set (i := 2) sc_law_bad.nd (f_call (x_law_draw V) hr (by decide) tk (z_bag 0 (z_cons (f_op (p_add K) (f_callBr (p_len K) V.m_len boot_len (f_v 1).rd) f_int) z_nil))))
    (fs_cons (fs_set (i := 3) sc_law_bad.nd (f_ix K (FO.val (f_lst (z_cons f_str (z_cons f_str z_nil)))) (f_call (x_law_draw V) hr (by decide) tk (z_bag 0 (z_cons f_int z_nil)))))
    (fs_one (fs_ret (FO.val (f_lst (z_cons (f_op (p_add K) (f_op (p_add K) (f_sl K (f_v 1) po_no (po_so (f_v 2))) (f_v 3)) (f_sl K (f_v 1) (po_so (f_v 2)) po_no)) (z_cons f_int (z_cons f_int (z_cons (f_neg f_int) (z_cons f_bl (z_cons f_bl (z_cons f_non (z_cons (FO.val (f_lst z_nil)) (z_cons (FO.val (f_lst (z_cons (f_v 1) z_nil))) (z_cons (f_tup (z_cons (f_v 1) z_nil)) (z_cons (f_dsp1 (f_v 1) (f_v 1)) z_nil))))))))))))))))), u_law_bad cs errs⟩) (fun as φ ψ h => (u_law_bad cs errs as φ ψ h).1)) (fun _ _ _ _ _ _ us hl => match us, hl with | [_, _], _ => rfl)
theorem x_Mark_init (V : Env P w K mg base) : Cx' P w K mg base 2 "Mark" (fsM "Mark" (g_Mark_init cs)) [] := cx_of V.d_Mark_init (fun f fd F => fn_m (k := 1) (N0 := 1) (ps0 := 1) F sc_Mark_init rfl rfl (fun cdv A outer s H E hr tk => ⟨_, _, b_Mark_init cs errs, (fs_cons (fs_if (ft_or (ft_not (ft_val (f_call (x_is_signs V) hr (by decide) tk (z_cons (f_v 1) z_nil)))) (ft_or (ft_cmp p_lt (f_callBr (p_len K) V.m_len boot_len (f_v 1).rd) f_int) (ft_or1 (ft_cmp p_gt (f_callBr (p_len K) V.m_len boot_len (f_v 1).rd) (f_gi V.c_MOST_PLACES_items))))).tst (fs_one (fs_raise0 rfl tk V.x_BadSigns)) fs_nil)
    (fs_one (fs_fld 0 V.f_text (f_v 1)))), u_Mark_init cs errs⟩) (l_Mark_init cs)) (fun _ _ _ _ _ _ us hl => match us, hl with | [_, _], _ => rfl)
theorem x_kind_places (V : Env P w K mg base) : Fx P w K mg base 2 "kind_places" (fsA (g_kind_places cs)) [] := fx_of V.d_kind_places (fun f fd F => fn_a (k := 1) F sc_kind_places (fun cdv A outer s H E hr tk => ⟨_, _, b_kind_places cs errs, (fs_one (fs_ret (f_callBr (p_sum K rfl) V.m_sum boot_sum (FO.rd (f_lc [("row", 1)] rfl sc_kind_places.nd gw_name (fi_any K (f_meth0 (x_Kind_alternatives V) hr (by decide) tk (f_v 0))) (blk_of (by kernel_rfl)) (fun _ _ _ _ _ => (fg_name (i := 1) sc_kind_places.nd)) (fun _ _ _ _ _ => fts_nil) (fun _ _ _ _ _ => (f_callBr (p_sum K rfl) V.m_sum boot_sum (FO.rd (f_lc [("run", 2)] rfl sc_kind_places.nd gw_name (fi_any K (f_v 1)) (blk_of (by kernel_rfl)) (fun _ _ _ _ _ => (fg_name (i := 2) sc_kind_places.nd)) (fun _ _ _ _ _ => fts_nil) (fun _ _ _ _ _ => (f_call (x_run_places V) hr (by decide) tk_blk (z_cons (f_v 2) z_nil)))))))))))), u_kind_places cs errs⟩) (fun as φ ψ h => (u_kind_places cs errs as φ ψ h).1)) (fun _ _ _ _ _ _ us hl => match us, hl with | [_], _ => rfl)
theorem x_mark_piece (V : Env P w K mg base) : Fx P w K mg base 2 "mark_piece" (fsA (g_mark_piece cs)) [] := fx_of V.d_mark_piece (fun f fd F => fn_a (k := 1) F sc_mark_piece (fun cdv A outer s H E hr tk => ⟨_, _, b_mark_piece cs errs, (fs_cons (fs_set (i := 2) sc_mark_piece.nd (f_call0 (x_nothing V) hr (by decide) tk))
    (fs_cons (fs_for tk rfl (fi_range1 V.m_range (z_cons (f_callBr (p_len K) V.m_len boot_len (f_v 1).rd) z_nil)) (fg_name (i := 3) sc_mark_piece.nd)
      (fs_cons (fs_set (i := 4) sc_mark_piece.nd (f_op (p_add K) (f_v 0) (f_v 3)))
    (fs_one (fs_set (i := 2) sc_mark_piece.nd (f_call (x_then V) hr (by decide) tk (z_cons (f_v 2) (z_cons (f_tup (z_cons (FO.val (f_lst (z_cons (f_ix K (f_v 1) (f_v 3)) z_nil))) (z_cons (FO.val (f_lst (z_cons f_str z_nil))) (z_cons (FO.val (f_lst z_nil)) (z_cons (FO.val (f_lst (z_cons (f_v 4) z_nil))) (z_cons (FO.val (f_lst (z_cons (f_v 4) z_nil))) (z_cons f_bl z_nil))))))) z_nil)))))))
    (fs_one (fs_ret (f_v 2))))), u_mark_piece cs errs⟩) (fun as φ ψ h => (u_mark_piece cs errs as φ ψ h).1)) (fun _ _ _ _ _ _ us hl => match us, hl with | [_, _], _ => rfl)
theorem x_row_of_runs (V : Env P w K mg base) : Fx P w K mg base 2 "row_of_runs" (fsA (g_row_of_runs cs)) [] := fx_of V.d_row_of_runs (fun f fd F => fn_a (k := 1) F sc_row_of_runs (fun cdv A outer s H E hr tk => ⟨_, _, b_row_of_runs cs errs, (fs_cons (fs_set (i := 3) sc_row_of_runs.nd (f_call0 (x_nothing V) hr (by decide) tk))
    (fs_cons (fs_for tk rfl (fi_any K (f_v 1)) (fg_name (i := 4) sc_row_of_runs.nd)
      (fs_one (fs_set (i := 3) sc_row_of_runs.nd (f_call (x_then V) hr (by decide) tk (z_cons (f_v 3) (z_cons (f_call (x_run_piece V) hr (by decide) tk (z_cons (f_op (p_add K) (f_v 0) (f_callBr (p_len K) V.m_len boot_len (f_ix K (f_v 3) f_int).rd)) (z_cons (f_v 4) (z_cons (f_v 2) z_nil)))) z_nil))))))
    (fs_one (fs_ret (f_v 3))))), u_row_of_runs cs errs⟩) (fun as φ ψ h => (u_row_of_runs cs errs as φ ψ h).1)) (fun _ _ _ _ _ _ us hl => match us, hl with | [_, _, _], _ => rfl)
theorem x_Layout_init (V : Env P w K mg base) : Cx' P w K mg base 2 "Layout" (fsM "Layout" (g_Layout_init cs)) [] := cx_of V.d_Layout_init (fun f fd F => fn_m (k := 1) (N0 := 7) (ps0 := 1) F sc_Layout_init rfl rfl (fun cdv A outer s H E hr tk => ⟨_, _, b_Layout_init cs errs, (fs_cons (fs_asg (f_v 1) (fg_tup rfl (fgs_one (i := 2) sc_Layout_init.nd (fgs_one (i := 3) sc_Layout_init.nd (fgs_one (i := 4) sc_Layout_init.nd (fgs_one (i := 5) sc_Layout_init.nd (fgs_one (i := 6) sc_Layout_init.nd (fgs_one (i := 7) sc_Layout_init.nd fgs_nil))))))))
    (fs_cons (fs_fld 0 V.f_signs_at (f_v 2))
    (fs_cons (fs_fld 0 V.f_names_at (f_v 3))
    (fs_cons (fs_fld 0 V.f_follows (f_call (x_followers V) hr (by decide) tk (z_cons (f_callBr (p_len K) V.m_len boot_len (f_v 2).rd) (z_cons (f_v 4) z_nil))))
    (fs_cons (fs_fld 0 V.f_begins (FO.val (f_sortI K V.m_sorted (f_v 5).rd)))
    (fs_cons (fs_fld 0 V.f_finishes (FO.val (f_sortI K V.m_sorted (f_v 6).rd)))
    (fs_one (fs_fld 0 V.f_blank (f_v 7))))))))), u_Layout_init cs errs⟩) (l_Layout_init cs)) (fun _ _ _ _ _ _ us hl => match us, hl with | [_, _], _ => rfl)
theorem x_is_line (V : Env P w K mg base) : Fx P w K mg base 2 "is_line" (fsA (g_is_line cs)) [] := fx_of V.d_is_line (fun f fd F => fn_a (k := 1) F sc_is_line (fun cdv A outer s H E hr tk => ⟨_, _, b_is_line cs errs, (fs_cons (fs_if (ft_or (ft_not (ft_val (f_callB (p_isiT V.isi [.ty "list", .ty "tuple"]) V.m_isinstance boot_isinstance (z_cons (f_v 0) (z_cons (f_tup (z_cons (f_ty V.m_list boot_list) (z_cons (f_ty V.m_tuple boot_tuple) z_nil))) z_nil))))) (ft_or1 (ft_cmp (p_eq K hr) (f_callBr (p_len K) V.m_len boot_len (f_v 0).rd) f_int))).tst (fs_one (fs_ret f_bl)) fs_nil)
    (fs_cons (fs_for tk rfl (fi_any K (f_v 0)) (fg_name (i := 1) sc_is_line.nd)
      (fs_one (fs_if (ft_not (ft_val (f_call (x_is_item V) hr (by decide) tk (z_cons (f_v 1) z_nil)))) (fs_one (fs_ret f_bl)) fs_nil)))
    (fs_one (fs_ret f_bl)))), u_is_line cs errs⟩) (fun as φ ψ h => (u_is_line cs errs as φ ψ h).1)) (fun _ _ _ _ _ _ us hl => match us, hl with | [_], _ => rfl)
theorem x_Signs_within (V : Env P w K mg base) : Mx P w K mg base 3 "Signs" "within" (fsA (g_Signs_within cs)) [] := mx_of V.d_Signs_within (fun f fd F => fn_a (k := 2) F sc_Signs_within (fun cdv A outer s H E hr tk => ⟨_, _, b_Signs_within cs errs, (fs_cons (fs_set (i := 2) sc_Signs_within.nd (f_call (x_held_signsN V) hr (by decide) tk (z_cons (f_v 1) z_nil)))
    (fs_cons (fs_for tk rfl (fi_any K (f_fld V.f_held (f_v 0))) (fg_name (i := 3) sc_Signs_within.nd)
      (fs_one (fs_if (ft_cmp p_ninS (f_v 3) (f_v 2)) (fs_one (fs_ret f_bl)) fs_nil)))
    (fs_one (fs_ret f_bl)))), u_Signs_within cs errs⟩) (fun as φ ψ h => (u_Signs_within cs errs as φ ψ h).1)) (fun _ _ _ _ _ _ us hl => match us, hl with | [_, _], _ => rfl)
theorem x_run_signs (V : Env P w K mg base) : Fx P w K mg base 3 "run_signs" (fsA (g_run_signs cs)) [] := fx_of V.d_run_signs (fun f fd F => fn_a (k := 2) F sc_run_signs (fun cdv A outer s H E hr tk => ⟨_, _, b_run_signs cs errs, (fs_cons (fs_try rfl rfl sc_run_signs.nd tk (fun _ _ _ _ tk2 => (fs_one (fs_set (i := 1) sc_run_signs.nd (f_call (x_held_signs V) hr (by decide) tk2 (z_cons (f_v 0) z_nil))))) (.cons (em := (fun _ => none)) ⟨rfl, rfl, .inl V.g_BadSigns⟩ (fun y v z => nomatch z) (fun _ _ _ => fss_never) .nil))
    (fs_cons (fs_if (ft_cmp (p_eq K hr) (f_v 1) f_str) (fs_one (fs_raise0 rfl tk V.x_BadKind)) fs_nil)
    (fs_one (fs_ret (f_v 1))))), u_run_signs cs errs⟩) (fun as φ ψ h => (u_run_signs cs errs as φ ψ h).1)) (fun _ _ _ _ _ _ us hl => match us, hl with | [_], _ => rfl)
theorem x_made_kind (V : Env P w K mg base) : Fx P w K mg base 3 "made_kind" (fsA (g_made_kind cs)) [] := fx_of V.d_made_kind (fun f fd F => fn_a (k := 2) F sc_made_kind (fun cdv A outer s H E hr tk => ⟨_, _, b_made_kind cs errs, (fs_cons (fs_setO (i := 1) sc_made_kind.nd (f_lst z_nil))
    (fs_cons (fs_for tk rfl (fi_any K (f_v 0)) (fg_name (i := 2) sc_made_kind.nd)
      (fs_one (fs_if (ft_cmpR (p_ninL K hr) (f_v 2) (f_own 1)) (fs_one (fs_app 1 (f_v 2))) fs_nil)))
    (fs_settle 1 (fs_cons (fs_set (i := 3) sc_made_kind.nd (f_callBr (p_sum K rfl) V.m_sum boot_sum (FO.rd (f_lc [("row", 2)] rfl sc_made_kind.nd gw_name (fi_any K (f_v 1)) (blk_of (by kernel_rfl)) (fun _ _ _ _ _ => (fg_name (i := 2) sc_made_kind.nd)) (fun _ _ _ _ _ => fts_nil) (fun _ _ _ _ _ => (f_callBr (p_sum K rfl) V.m_sum boot_sum (FO.rd (f_lc [("run", 4)] rfl sc_made_kind.nd gw_name (fi_any K (f_v 2)) (blk_of (by kernel_rfl)) (fun _ _ _ _ _ => (fg_name (i := 4) sc_made_kind.nd)) (fun _ _ _ _ _ => fts_nil) (fun _ _ _ _ _ => (f_call (x_run_places V) hr (by decide) tk_blk (z_cons (f_v 4) z_nil)))))))))))
    (fs_cons (fs_if (ft_or (ft_cmp p_gt (f_callBr (p_len K) V.m_len boot_len (f_v 1).rd) (f_gi V.c_MOST_ROWS)) (ft_or (ft_cmp p_gt (f_callBr (p_max K rfl) V.m_max boot_max (FO.rd (f_lc [("row", 2)] rfl sc_made_kind.nd gw_name (fi_any K (f_v 1)) (blk_of (by kernel_rfl)) (fun _ _ _ _ _ => (fg_name (i := 2) sc_made_kind.nd)) (fun _ _ _ _ _ => fts_nil) (fun _ _ _ _ _ => (f_callBr (p_len K) V.m_len boot_len (f_v 2).rd))))) (f_gi V.c_MOST_ROWS)) (ft_or1 (ft_cmp p_gt (f_v 3) (f_gi V.c_MOST_PLACES_kinds))))).tst (fs_one (fs_raise0 rfl tk V.x_BadKind)) fs_nil)
    (fs_one (fs_ret (f_make (x_Kind_init V) hr (by decide) tk (z_cons (f_callTyr (p_tuple K) V.m_tuple boot_tuple (f_v 1).rd) z_nil))))))))), u_made_kind cs errs⟩) (fun as φ ψ h => (u_made_kind cs errs as φ ψ h).1)) (fun _ _ _ _ _ _ us hl => match us, hl with | [_], _ => rfl)
theorem x_kind_piece (V : Env P w K mg base) : Fx P w K mg base 3 "kind_piece" (fsA (g_kind_piece cs)) [] := fx_of V.d_kind_piece (fun f fd F => fn_a (k := 2) F sc_kind_piece (fun cdv A outer s H E hr tk => ⟨_, _, b_kind_piece cs errs, (fs_cons (fs_asg (f_tup (z_cons (FO.val (f_lst z_nil)) (z_cons (FO.val (f_lst z_nil)) (z_cons (FO.val (f_lst z_nil)) (z_cons (FO.val (f_lst z_nil)) (z_cons (FO.val (f_lst z_nil)) (z_cons f_bl z_nil))))))) (fg_tup rfl (fgs_one (i := 3) sc_kind_piece.nd (fgs_one (i := 4) sc_kind_piece.nd (fgs_one (i := 5) sc_kind_piece.nd (fgs_one (i := 6) sc_kind_piece.nd (fgs_one (i := 7) sc_kind_piece.nd (fgs_one (i := 8) sc_kind_piece.nd fgs_nil))))))))
    (fs_cons (fs_for tk rfl (fi_any K (f_v 1)) (fg_name (i := 9) sc_kind_piece.nd)
      (fs_cons (fs_set (i := 10) sc_kind_piece.nd (f_call (x_row_of_runs V) hr (by decide) tk (z_cons (f_op (p_add K) (f_v 0) (f_callBr (p_len K) V.m_len boot_len (f_v 3).rd)) (z_cons (f_v 9) (z_cons (f_v 2) z_nil)))))
    (fs_cons (fs_set (i := 3) sc_kind_piece.nd (f_op (p_add K) (f_v 3) (f_ix K (f_v 10) f_int)))
    (fs_cons (fs_set (i := 4) sc_kind_piece.nd (f_op (p_add K) (f_v 4) (f_ix K (f_v 10) f_int)))
    (fs_cons (fs_set (i := 5) sc_kind_piece.nd (f_op (p_add K) (f_v 5) (f_ix K (f_v 10) f_int)))
    (fs_cons (fs_set (i := 6) sc_kind_piece.nd (f_op (p_add K) (f_v 6) (f_ix K (f_v 10) f_int)))
    (fs_cons (fs_set (i := 7) sc_kind_piece.nd (f_op (p_add K) (f_v 7) (f_ix K (f_v 10) f_int)))
    (fs_one (fs_set (i := 8) sc_kind_piece.nd (f_or (f_v 8) (f_one (f_ix K (f_v 10) f_int))))))))))))
    (fs_one (fs_ret (f_tup (z_cons (f_v 3) (z_cons (f_v 4) (z_cons (f_v 5) (z_cons (f_v 6) (z_cons (f_v 7) (z_cons (f_v 8) z_nil))))))))))), u_kind_piece cs errs⟩) (fun as φ ψ h => (u_kind_piece cs errs as φ ψ h).1)) (fun _ _ _ _ _ _ us hl => match us, hl with | [_, _, _], _ => rfl)
theorem x_Field_init (V : Env P w K mg base) : Cx' P w K mg base 3 "Field" (fsM "Field" (g_Field_init cs)) [] := cx_of V.d_Field_init (fun f fd F => fn_m (k := 2) (N0 := 2) (ps0 := 2) F sc_Field_init rfl rfl (fun cdv A outer s H E hr tk => ⟨_, _, b_Field_init cs errs, (fs_cons (fs_if (ft_not (ft_val (f_call (x_is_name V) hr (by decide) tk (z_cons (f_v 1) z_nil)))) (fs_one (fs_raiseF rfl tk V.x_BadName hr (z_cons (f_v 1) z_nil))) fs_nil)
    (fs_cons (fs_if (ft_or (ft_not (ft_val (f_callB (p_isi (V.isi (.glo "Kind") (by decide))) V.m_isinstance boot_isinstance (z_cons (f_v 2) (z_cons (f_gr V.g_Kind) z_nil))))) (ft_or1 (ft_val (f_prop (x_Kind_has_empty V) hr (by decide) (f_v 2))))).tst (fs_one (fs_raise0 rfl tk V.x_BadKind)) fs_nil)
    (fs_cons (fs_fld 0 V.f_name (f_v 1))
    (fs_one (fs_fld 0 V.f_kind (f_v 2)))))), u_Field_init cs errs⟩) (l_Field_init cs)) (fun _ _ _ _ _ _ us hl => match us, hl with | [_, _, _], _ => rfl)
theorem x_Signs_span (V : Env P w K mg base) : Sx P w K mg base 4 "Signs" "span" (fsA (g_Signs_span cs)) [] := sx_of V.d_Signs_span (fun f fd F => fn_a (k := 3) F sc_Signs_span (fun cdv A outer s H E hr tk => ⟨_, _, b_Signs_span cs errs, (fs_cons (fs_if (ft_or (ft_not (ft_val (f_call (x_is_signs V) hr (by decide) tk (z_cons (f_v 0) z_nil)))) (ft_or (ft_not (ft_val (f_call (x_is_signs V) hr (by decide) tk (z_cons (f_v 1) z_nil)))) (ft_or (ft_cmp (p_ne K hr) (f_callBr (p_len K) V.m_len boot_len (f_v 0).rd) f_int) (ft_or (ft_cmp (p_ne K hr) (f_callBr (p_len K) V.m_len boot_len (f_v 1).rd) f_int) (ft_or1 (ft_cmp p_gt (f_v 0) (f_v 1))))))).tst (fs_one (fs_raise0 rfl tk V.x_BadSigns)) fs_nil)
    (fs_one (fs_ret (f_make (x_Signs_initX V) hr (by decide) tk (z_cons (f_sl K (f_gs V.c_ALPHABET) (po_so (f_sidx (f_gs V.c_ALPHABET) (f_v 0))) (po_so (f_op (p_add K) (f_sidx (f_gs V.c_ALPHABET) (f_v 1)) f_int))) z_nil))))), u_Signs_span cs errs⟩) (fun as φ ψ h => (u_Signs_span cs errs as φ ψ h).1)) (fun _ _ _ _ _ _ us hl => match us, hl with | [_, _], _ => rfl)
theorem x_Signs_ror (V : Env P w K mg base) : Mx P w K mg base 4 "Signs" "__ror__" (fsA (g_Signs_ror cs)) [] := mx_of V.d_Signs_ror (fun f fd F => fn_a (k := 3) F sc_Signs_ror (fun cdv A outer s H E hr tk => ⟨_, _, b_Signs_ror cs errs, (fs_one (fs_ret (f_make (x_Signs_initX V) hr (by decide) tk (z_cons (f_op (p_add K) (f_call (x_held_signsN V) hr (by decide) tk (z_cons (f_v 1) z_nil)) (f_fld V.f_held (f_v 0))) z_nil)))), u_Signs_ror cs errs⟩) (fun as φ ψ h => (u_Signs_ror cs errs as φ ψ h).1)) (fun _ _ _ _ _ _ us hl => match us, hl with | [_, _], _ => rfl)
theorem x_Signs_or (V : Env P w K mg base) : Mx P w K mg base 4 "Signs" "__or__" (fsA (g_Signs_or cs)) [] := mx_of V.d_Signs_or (fun f fd F => fn_a (k := 3) F sc_Signs_or (fun cdv A outer s H E hr tk => ⟨_, _, b_Signs_or cs errs, (fs_one (fs_ret (f_make (x_Signs_initX V) hr (by decide) tk (z_cons (f_op (p_add K) (f_fld V.f_held (f_v 0)) (f_call (x_held_signsN V) hr (by decide) tk (z_cons (f_v 1) z_nil))) z_nil)))), u_Signs_or cs errs⟩) (fun as φ ψ h => (u_Signs_or cs errs as φ ψ h).1)) (fun _ _ _ _ _ _ us hl => match us, hl with | [_, _], _ => rfl)
theorem x_law_new (V : Env P w K mg base) : Fx P w K mg base 4 "_law_new" (fsA (g_law_new cs)) [] := fx_of V.d_law_new (fun f fd F => fn_a (k := 3) F sc_law_new (fun cdv A outer s H E hr tk => ⟨_, _, b_law_new cs errs, (fs_one (fs_ret (f_make (x_Signs_initX V) hr (by decide) tk (z_cons (f_v 1) z_nil)))), u_law_new cs errs⟩) (fun as φ ψ h => (u_law_new cs errs as φ ψ h).1)) (fun _ _ _ _ _ _ us hl => match us, hl with | [_, _], _ => rfl)
theorem x_Signs_sub (V : Env P w K mg base) : Mx P w K mg base 4 "Signs" "__sub__" (fsA (g_Signs_sub cs)) [] := mx_of V.d_Signs_sub (fun f fd F => fn_a (k := 3) F sc_Signs_sub (fun cdv A outer s H E hr tk => ⟨_, _, b_Signs_sub cs errs, (fs_cons (fs_set (i := 2) sc_Signs_sub.nd (f_call (x_held_signsN V) hr (by decide) tk (z_cons (f_v 1) z_nil)))
    (fs_one (fs_ret (f_make (x_Signs_initX V) hr (by decide) tk (z_cons (f_join K f_str (FO.rd (f_lc [("sign", 3)] rfl sc_Signs_sub.nd gw_name (fi_any K (f_fld V.f_held (f_v 0))) (blk_of (by kernel_rfl)) (fun _ _ _ _ _ => (fg_name (i := 3) sc_Signs_sub.nd)) (fun _ _ _ _ _ => (fts_one (ft_cmp p_ninS (f_v 3) (f_v 2)))) (fun _ _ _ _ _ => (f_v 3))))) z_nil))))), u_Signs_sub cs errs⟩) (fun as φ ψ h => (u_Signs_sub cs errs as φ ψ h).1)) (fun _ _ _ _ _ _ us hl => match us, hl with | [_, _], _ => rfl)
theorem x_Signs_rsub (V : Env P w K mg base) : Mx P w K mg base 4 "Signs" "__rsub__" (fsA (g_Signs_rsub cs)) [] := mx_of V.d_Signs_rsub (fun f fd F => fn_a (k := 3) F sc_Signs_rsub (fun cdv A outer s H E hr tk => ⟨_, _, b_Signs_rsub cs errs, (fs_cons (fs_set (i := 2) sc_Signs_rsub.nd (f_call (x_held_signsN V) hr (by decide) tk (z_cons (f_v 1) z_nil)))
    (fs_one (fs_ret (f_make (x_Signs_initX V) hr (by decide) tk (z_cons (f_join K f_str (FO.rd (f_lc [("sign", 3)] rfl sc_Signs_rsub.nd gw_name (fi_any K (f_v 2)) (blk_of (by kernel_rfl)) (fun _ _ _ _ _ => (fg_name (i := 3) sc_Signs_rsub.nd)) (fun _ _ _ _ _ => (fts_one (ft_cmp p_ninS (f_v 3) (f_fld V.f_held (f_v 0))))) (fun _ _ _ _ _ => (f_v 3))))) z_nil))))), u_Signs_rsub cs errs⟩) (fun as φ ψ h => (u_Signs_rsub cs errs as φ ψ h).1)) (fun _ _ _ _ _ _ us hl => match us, hl with | [_, _], _ => rfl)
theorem x_law_inside (V : Env P w K mg base) : Fx P w K mg base 4 "_law_inside" (fsA (g_law_inside cs)) [] := fx_of V.d_law_inside (fun f fd F => fn_a (k := 3) F sc_law_inside (fun cdv A outer s H E hr tk => ⟨_, _, b_law_inside cs errs, (fs_one (fs_ret (f_meth (x_Signs_within V) hr (by decide) tk (f_v 0) (z_cons (f_v 1) z_nil)))), u_law_inside cs errs⟩) (fun as φ ψ h => (u_law_inside cs errs as φ ψ h).1)) (fun _ _ _ _ _ _ us hl => match us, hl with | [_, _], _ => rfl)
theorem x_Signs_rand (V : Env P w K mg base) : Mx P w K mg base 4 "Signs" "__rand__" (fsA (g_Signs_rand cs)) [] := mx_of V.d_Signs_rand (fun f fd F => fn_a (k := 3) F sc_Signs_rand (fun cdv A outer s H E hr tk => ⟨_, _, b_Signs_rand cs errs, (fs_cons (fs_set (i := 2) sc_Signs_rand.nd (f_call (x_held_signsN V) hr (by decide) tk (z_cons (f_v 1) z_nil)))
    (fs_one (fs_ret (f_make (x_Signs_initX V) hr (by decide) tk (z_cons (f_join K f_str (FO.rd (f_lc [("sign", 3)] rfl sc_Signs_rand.nd gw_name (fi_any K (f_fld V.f_held (f_v 0))) (blk_of (by kernel_rfl)) (fun _ _ _ _ _ => (fg_name (i := 3) sc_Signs_rand.nd)) (fun _ _ _ _ _ => (fts_one (ft_cmp p_inS (f_v 3) (f_v 2)))) (fun _ _ _ _ _ => (f_v 3))))) z_nil))))), u_Signs_rand cs errs⟩) (fun as φ ψ h => (u_Signs_rand cs errs as φ ψ h).1)) (fun _ _ _ _ _ _ us hl => match us, hl with | [_, _], _ => rfl)
theorem x_Signs_and (V : Env P w K mg base) : Mx P w K mg base 4 "Signs" "__and__" (fsA (g_Signs_and cs)) [] := mx_of V.d_Signs_and (fun f fd F => fn_a (k := 3) F sc_Signs_and (fun cdv A outer s H E hr tk => ⟨_, _, b_Signs_and cs errs, (fs_cons (fs_set (i := 2) sc_Signs_and.nd (f_call (x_held_signsN V) hr (by decide) tk (z_cons (f_v 1) z_nil)))
    (fs_one (fs_ret (f_make (x_Signs_initX V) hr (by decide) tk (z_cons (f_join K f_str (FO.rd (f_lc [("sign", 3)] rfl sc_Signs_and.nd gw_name (fi_any K (f_fld V.f_held (f_v 0))) (blk_of (by kernel_rfl)) (fun _ _ _ _ _ => (fg_name (i := 3) sc_Signs_and.nd)) (fun _ _ _ _ _ => (fts_one (ft_cmp p_inS (f_v 3) (f_v 2)))) (fun _ _ _ _ _ => (f_v 3))))) z_nil))))), u_Signs_and cs errs⟩) (fun as φ ψ h => (u_Signs_and cs errs as φ ψ h).1)) (fun _ _ _ _ _ _ us hl => match us, hl with | [_, _], _ => rfl)
theorem x_Signs_letters (V : Env P w K mg base) : Sx P w K mg base 4 "Signs" "letters" (fsA (g_Signs_letters cs)) [] := sx_of V.d_Signs_letters (fun f fd F => fn_a (k := 3) F sc_Signs_letters (fun cdv A outer s H E hr tk => ⟨_, _, b_Signs_letters cs errs, (fs_one (fs_ret (f_make (x_Signs_initX V) hr (by decide) tk (z_cons (f_gs V.c_LOWER) z_nil)))), u_Signs_letters cs errs⟩) (fun as φ ψ h => (u_Signs_letters cs errs as φ ψ h).1)) (fun _ _ _ _ _ _ us hl => match us, hl with | [], _ => rfl)
theorem x_Signs_digits (V : Env P w K mg base) : Sx P w K mg base 4 "Signs" "digits" (fsA (g_Signs_digits cs)) [] := sx_of V.d_Signs_digits (fun f fd F => fn_a (k := 3) F sc_Signs_digits (fun cdv A outer s H E hr tk => ⟨_, _, b_Signs_digits cs errs, (fs_one (fs_ret (f_make (x_Signs_initX V) hr (by decide) tk (z_cons (f_gs V.c_FIGURES) z_nil)))), u_Signs_digits cs errs⟩) (fun as φ ψ h => (u_Signs_digits cs errs as φ ψ h).1)) (fun _ _ _ _ _ _ us hl => match us, hl with | [], _ => rfl)
theorem x_Signs_capitals (V : Env P w K mg base) : Sx P w K mg base 4 "Signs" "capitals" (fsA (g_Signs_capitals cs)) [] := sx_of V.d_Signs_capitals (fun f fd F => fn_a (k := 3) F sc_Signs_capitals (fun cdv A outer s H E hr tk => ⟨_, _, b_Signs_capitals cs errs, (fs_one (fs_ret (f_make (x_Signs_initX V) hr (by decide) tk (z_cons (f_gs V.c_UPPER) z_nil)))), u_Signs_capitals cs errs⟩) (fun as φ ψ h => (u_Signs_capitals cs errs as φ ψ h).1)) (fun _ _ _ _ _ _ us hl => match us, hl with | [], _ => rfl)
theorem x_joined_marks (V : Env P w K mg base) : Fx P w K mg base 4 "joined_marks" (fsA (g_joined_marks cs)) [] := fx_of V.d_joined_marks (fun f fd F => fn_a (k := 3) F sc_joined_marks (fun cdv A outer s H E hr tk => ⟨_, _, b_joined_marks cs errs, (fs_cons (fs_set (i := 1) sc_joined_marks.nd (FO.val (f_lst z_nil)))
    (fs_cons (fs_for tk rfl (fi_any K (f_v 0)) (fg_name (i := 2) sc_joined_marks.nd)
      (fs_one (fs_if (ft_and (ft_val (f_callB (p_isi (V.isi (.glo "Mark") (by decide))) V.m_isinstance boot_isinstance (z_cons (f_v 2) (z_cons (f_gr V.g_Mark) z_nil)))) (ft_and (ft_cmp p_gt (f_callBr (p_len K) V.m_len boot_len (f_v 1).rd) f_int) (ft_and1 (ft_val (f_callB (p_isi (V.isi (.glo "Mark") (by decide))) V.m_isinstance boot_isinstance (z_cons (f_ix K (f_v 1) (f_neg f_int)) (z_cons (f_gr V.g_Mark) z_nil))))))).tst (fs_one (fs_set (i := 1) sc_joined_marks.nd (f_op (p_add K) (f_sl K (f_v 1) po_no (po_so (f_neg f_int))) (FO.val (f_lst (z_cons (f_make (x_Mark_init V) hr (by decide) tk (z_cons (f_op (p_add K) (f_fld V.f_text (f_ix K (f_v 1) (f_neg f_int))) (f_fld V.f_text (f_v 2))) z_nil)) z_nil)))))) (fs_one (fs_set (i := 1) sc_joined_marks.nd (f_op (p_add K) (f_v 1) (FO.val (f_lst (z_cons (f_v 2) z_nil)))))))))
    (fs_one (fs_ret (f_callTyr (p_tuple K) V.m_tuple boot_tuple (f_v 1).rd))))), u_joined_marks cs errs⟩) (fun as φ ψ h => (u_joined_marks cs errs as φ ψ h).1)) (fun _ _ _ _ _ _ us hl => match us, hl with | [_], _ => rfl)
theorem x_Kind_run_2 (V : Env P w K mg base) : Sx P w K mg base 4 "Kind" "run" (fsA (g_Kind_run cs)) [.int 1, .int 1] := sx_ofD (dv := [.int 1, .int 1]) V.d_Kind_run rfl (by simp) 1 0 rfl (fun f fd F => fn_a (k := 3) F sc_Kind_run (fun cdv A outer s H E hr tk => ⟨_, _, b_Kind_run cs errs, (fs_cons (fs_set (i := 3) sc_Kind_run.nd (f_call (x_run_signs V) hr (by decide) tk (z_cons (f_v 0) z_nil)))
    (fs_cons (fs_if (ft_or (ft_not (ft_val (f_call (x_is_number V) hr (by decide) tk (z_cons (f_v 1) (z_cons f_int (z_cons f_int z_nil)))))) (ft_or1 (ft_and (ft_cmp p_notN (f_v 2) f_non) (ft_and1 (ft_not (ft_val (f_call (x_is_number V) hr (by decide) tk (z_cons (f_v 2) (z_cons f_int (z_cons f_int z_nil)))))))).tst)).tst (fs_one (fs_raise0 rfl tk V.x_BadKind)) fs_nil)
    (fs_cons (fs_if (ft_and (ft_cmp p_notN (f_v 2) f_non) (ft_and1 (ft_cmp p_gt (f_v 1) (f_v 2)))).tst (fs_one (fs_raise0 rfl tk V.x_BadKind)) fs_nil)
    (fs_one (fs_ret (f_call (x_made_kind V) hr (by decide) tk (z_cons (FO.val (f_lst (z_cons (f_tup (z_cons (f_tup (z_cons (f_v 3) (z_cons (f_v 1) (z_cons (f_v 2) z_nil)))) z_nil)) z_nil))) z_nil))))))), u_Kind_run cs errs⟩) (fun as φ ψ h => (u_Kind_run cs errs as φ ψ h).1)) fun _ _ _ _ _ _ _ us its hl hi => match us, its, hl, hi with | [_], [_, _], _, _ => ⟨_, rfl, rfl⟩
theorem x_law_span_of (V : Env P w K mg base) : Fx P w K mg base 5 "_law_span_of" (fsA (g_law_span_of cs)) [] := fx_of V.d_law_span_of (fun f fd F => fn_a (k := 4) F sc_law_span_of (fun cdv A outer s H E hr tk => ⟨_, _, b_law_span_of cs errs, (fs_one (fs_ret (f_stat (x_Signs_span V) hr (by decide) tk (z_cons (f_v 0) (z_cons (f_v 1) z_nil))))), u_law_span_of cs errs⟩) (fun as φ ψ h => (u_law_span_of cs errs as φ ψ h).1)) (fun _ _ _ _ _ _ us hl => match us, hl with | [_, _], _ => rfl)
theorem x_law_or_in_place (V : Env P w K mg base) : Fx P w K mg base 5 "_law_or_in_place" (fsA (g_law_or_in_place cs)) [] := fx_of V.d_law_or_in_place (fun f fd F => fn_a (k := 4) F sc_law_or_in_place (fun cdv A outer s H E hr tk => ⟨_, _, b_law_or_in_place cs errs, (fs_cons (fs_set (i := 2) sc_law_or_in_place.nd (f_v 0))
    (fs_cons (fs_augB (i := 2) (op := .BitOr) sc_law_or_in_place.nd V.top_Signs V.np_Signs__Field_Mark_Maybe_Form (x_Signs_or V) (x_Signs_ror V) hr (by decide) tk (f_v 1) V.ni_Signs__ior Own.ior_obj)
    (fs_one (fs_ret (f_v 2))))), u_law_or_in_place cs errs⟩) (fun as φ ψ h => (u_law_or_in_place cs errs as φ ψ h).1)) (fun _ _ _ _ _ _ us hl => match us, hl with | [_, _], _ => rfl)
theorem x_law_or (V : Env P w K mg base) : Fx P w K mg base 5 "_law_or" (fsA (g_law_or cs)) [] := fx_of V.d_law_or (fun f fd F => fn_a (k := 4) F sc_law_or (fun cdv A outer s H E hr tk => ⟨_, _, b_law_or cs errs, (fs_one (fs_ret (f_ownB (op := .BitOr) V.top_Signs V.np_Signs__Field_Mark_Maybe_Form (x_Signs_or V) (x_Signs_ror V) hr (by decide) tk (f_v 0) (f_v 1)))), u_law_or cs errs⟩) (fun as φ ψ h => (u_law_or cs errs as φ ψ h).1)) (fun _ _ _ _ _ _ us hl => match us, hl with | [_, _], _ => rfl)
theorem x_law_less (V : Env P w K mg base) : Fx P w K mg base 5 "_law_less" (fsA (g_law_less cs)) [] := fx_of V.d_law_less (fun f fd F => fn_a (k := 4) F sc_law_less (fun cdv A outer s H E hr tk => ⟨_, _, b_law_less cs errs, (fs_one (fs_ret (f_ownB (op := .Sub) V.top_Signs V.np_Signs__Field_Mark_Maybe_Form (x_Signs_sub V) (x_Signs_rsub V) hr (by decide) tk (f_v 0) (f_v 1)))), u_law_less cs errs⟩) (fun as φ ψ h => (u_law_less cs errs as φ ψ h).1)) (fun _ _ _ _ _ _ us hl => match us, hl with | [_, _], _ => rfl)
theorem x_law_and (V : Env P w K mg base) : Fx P w K mg base 5 "_law_and" (fsA (g_law_and cs)) [] := fx_of V.d_law_and (fun f fd F => fn_a (k := 4) F sc_law_and (fun cdv A outer s H E hr tk => ⟨_, _, b_law_and cs errs, (fs_one (fs_ret (f_ownB (op := .BitAnd) V.top_Signs V.np_Signs__Field_Mark_Maybe_Form (x_Signs_and V) (x_Signs_rand V) hr (by decide) tk (f_v 0) (f_v 1)))), u_law_and cs errs⟩) (fun as φ ψ h => (u_law_and cs errs as φ ψ h).1)) (fun _ _ _ _ _ _ us hl => match us, hl with | [_, _], _ => rfl)
theorem x_depth_ofR (V : Env P w K mg base) : ∀ n : Nat, Fx P w K mg base (1 + n) "depth_of" (fsA (g_depth_ofR cs n)) []
  | 0 => fx_of V.d_depth_of (fun f fd F => fn_a (k := 0) F sc_depth_of (fun cdv A outer s H E hr tk => ⟨_, _, _, fss_never, fun as φ ψ h => False.elim h⟩) (fun as φ ψ h => False.elim h)) (fun _ _ _ _ _ _ us hl => match us, hl with | [_], _ => rfl)
  | n + 1 => by
    have ih := x_depth_ofR V n
    exact fx_of V.d_depth_of (fun f fd F => fn_a (k := 1 + n) F sc_depth_of (fun cdv A outer s H E hr tk => ⟨_, _, b_depth_of cs errs (g_depth_ofR cs n), (fs_cons (fs_set (i := 1) sc_depth_of.nd f_int)
    (fs_cons (fs_for tk rfl (fi_any K (f_v 0)) (fg_name (i := 2) sc_depth_of.nd)
      (fs_one (fs_if (ft_val (f_callB (p_isi (V.isi (.glo "Maybe") (by decide))) V.m_isinstance boot_isinstance (z_cons (f_v 2) (z_cons (f_gr V.g_Maybe) z_nil)))) (fs_one (fs_set (i := 1) sc_depth_of.nd (f_callB (p_max2 rfl) V.m_max boot_max (z_cons (f_v 1) (z_cons (f_op (p_add K) f_int (f_call ih hr (by omega) tk (z_cons (f_fld V.f_parts (f_v 2)) z_nil))) z_nil))))) fs_nil)))
    (fs_one (fs_ret (f_v 1))))), u_depth_ofR cs errs n⟩) (fun as φ ψ h => (u_depth_ofR cs errs n as φ ψ h).1)) (fun _ _ _ _ _ _ us hl => match us, hl with | [_], _ => rfl)
theorem x_depth_of (V : Env P w K mg base) : Fx P w K mg base 5 "depth_of" (fsA (g_depth_of cs)) [] := x_depth_ofR V 4
theorem x_names_inR (V : Env P w K mg base) : ∀ n : Nat, Fx P w K mg base (1 + n) "names_in" (fsA (g_names_inR cs n)) []
  | 0 => fx_of V.d_names_in (fun f fd F => fn_a (k := 0) F sc_names_in (fun cdv A outer s H E hr tk => ⟨_, _, _, fss_never, fun as φ ψ h => False.elim h⟩) (fun as φ ψ h => False.elim h)) (fun _ _ _ _ _ _ us hl => match us, hl with | [_], _ => rfl)
  | n + 1 => by
    have ih := x_names_inR V n
    exact fx_of V.d_names_in (fun f fd F => fn_a (k := 1 + n) F sc_names_in (fun cdv A outer s H E hr tk => ⟨_, _, b_names_in cs errs (g_names_inR cs n), (fs_cons (fs_set (i := 1) sc_names_in.nd (FO.val (f_lst z_nil)))
    (fs_cons (fs_for tk rfl (fi_any K (f_v 0)) (fg_name (i := 2) sc_names_in.nd)
      (fs_one (fs_if (ft_val (f_callB (p_isi (V.isi (.glo "Field") (by decide))) V.m_isinstance boot_isinstance (z_cons (f_v 2) (z_cons (f_gr V.g_Field) z_nil)))) (fs_one (fs_set (i := 1) sc_names_in.nd (f_op (p_add K) (f_v 1) (FO.val (f_lst (z_cons (f_fld V.f_name (f_v 2)) z_nil)))))) (fs_one (fs_if (ft_val (f_callB (p_isi (V.isi (.glo "Maybe") (by decide))) V.m_isinstance boot_isinstance (z_cons (f_v 2) (z_cons (f_gr V.g_Maybe) z_nil)))) (fs_one (fs_set (i := 1) sc_names_in.nd (f_op (p_add K) (f_v 1) (f_call ih hr (by omega) tk (z_cons (f_fld V.f_parts (f_v 2)) z_nil))))) fs_nil)))))
    (fs_one (fs_ret (f_v 1))))), u_names_inR cs errs n⟩) (fun as φ ψ h => (u_names_inR cs errs n as φ ψ h).1)) (fun _ _ _ _ _ _ us hl => match us, hl with | [_], _ => rfl)
theorem x_names_in (V : Env P w K mg base) : Fx P w K mg base 5 "names_in" (fsA (g_names_in cs)) [] := x_names_inR V 4
theorem t_law_refused (V : Env P w K mg base) : TabOk P w K mg base 5 (tab_law_refused cs) := ⟨fun x G h => by
  unfold tab_law_refused at h
  by_cases e : x = "_law_or"
  · rw [if_pos e] at h
    cases h
    subst e
    exact ⟨⟨5, by decide, x_law_or V⟩, V.g_law_or⟩
  rw [if_neg e] at h
  clear e
  by_cases e : x = "_law_and"
  · rw [if_pos e] at h
    cases h
    subst e
    exact ⟨⟨5, by decide, x_law_and V⟩, V.g_law_and⟩
  rw [if_neg e] at h
  clear e
  by_cases e : x = "_law_less"
  · rw [if_pos e] at h
    cases h
    subst e
    exact ⟨⟨5, by decide, x_law_less V⟩, V.g_law_less⟩
  rw [if_neg e] at h
  clear e
  by_cases e : x = "_law_or_in_place"
  · rw [if_pos e] at h
    cases h
    subst e
    exact ⟨⟨5, by decide, x_law_or_in_place V⟩, V.g_law_or_in_place⟩
  rw [if_neg e] at h
  clear e
  by_cases e : x = "_law_new"
  · rw [if_pos e] at h
    cases h
    subst e
    exact ⟨⟨4, by decide, x_law_new V⟩, V.g_law_new⟩
  rw [if_neg e] at h
  clear e
  by_cases e : x = "_law_inside"
  · rw [if_pos e] at h
    cases h
    subst e
    exact ⟨⟨4, by decide, x_law_inside V⟩, V.g_law_inside⟩
  rw [if_neg e] at h
  clear e
  by_cases e : x = "_law_span_of"
  · rw [if_pos e] at h
    cases h
    subst e
    exact ⟨⟨5, by decide, x_law_span_of V⟩, V.g_law_span_of⟩
  rw [if_neg e] at h
  clear e
  by_cases e : x = "_law_least_of"
  · rw [if_pos e] at h
    cases h
    subst e
    exact ⟨⟨2, by decide, x_law_least_of V⟩, V.g_law_least_of⟩
  rw [if_neg e] at h
  clear e
  cases h⟩
theorem x_law_refused (V : Env P w K mg base) : Fx P w K mg base 6 "_law_refused" (fsA (g_law_refused cs)) [] := fx_of V.d_law_refused (fun f fd F => fn_a (k := 5) F sc_law_refused (fun cdv A outer s H E hr tk => ⟨_, _, b_law_refused cs errs, (fs_cons (fs_tryB rfl rfl sc_law_refused.nd tk (fun _ _ _ _ tk2 => (fs_one (fs_expr (f_callT (i := 0) (t_law_refused V) hr tk2 (z_cons (f_v 1) (z_cons (f_v 2) z_nil)))))) (.cons (em := (emC errs "BadText")) ⟨rfl, rfl, .inl V.g_BadText⟩ (V.em "BadText" (by decide)) (fun _ _ _ => (fs_one (fs_ret f_bl))) (.cons (em := (emC errs "BadKind")) ⟨rfl, rfl, .inl V.g_BadKind⟩ (V.em "BadKind" (by decide)) (fun _ _ _ => (fs_one (fs_ret f_bl))) (.as (em := (emC errs "BadSigns")) (i := 3) ⟨rfl, rfl, .inl V.g_BadSigns⟩ (V.em "BadSigns" (by decide)) (fun er a oe cls d pn hm hc hz hf => (fs_one (fs_ret (f_and (f_isX (K := K) (y := "BadSigns") (c := (.glo "TownError")) 3 V.xi_BadSigns__TownError.e (V.xi_BadSigns__TownError.g (by decide)) rfl hc (emC_eq hm) hz hf V.m_isinstance (f_gr V.g_TownError)) (f_one (f_isX (K := K) (y := "BadSigns") (c := (.ty "ValueError")) 3 V.xi_BadSigns__ValueError.e (V.xi_BadSigns__ValueError.ve rfl) rfl hc (emC_eq hm) hz hf V.m_isinstance (f_ty V.m_ValueError (by rfl)))))))) .nil))))
    (fs_one (fs_ret f_bl))), u_law_refused cs errs⟩) (fun as φ ψ h => (u_law_refused cs errs as φ ψ h).1)) (fun _ _ _ _ _ _ us hl => match us, hl with | [_, _, _], _ => rfl)
theorem x_law_span (V : Env P w K mg base) : Fx P w K mg base 7 "_law_span" (fsA (g_law_span cs)) [] := fx_of V.d_law_span (fun f fd F => fn_a (k := 6) F sc_law_span (fun cdv A outer s H E hr tk => ⟨_, _, b_law_span cs errs, (fs_cons (fs_set (i := 2) sc_law_span.nd (f_call0 (x_law_alphabet V) hr (by decide) tk))
    (fs_cons (fs_set (i := 3) sc_law_span.nd (f_callB (p_min2 rfl) V.m_min boot_min (z_cons (f_v 0) (z_cons (f_v 1) z_nil))))
    (fs_cons (fs_set (i := 4) sc_law_span.nd (f_callB (p_max2 rfl) V.m_max boot_max (z_cons (f_v 0) (z_cons (f_v 1) z_nil))))
    (fs_cons (fs_set (i := 5) sc_law_span.nd (f_stat (x_Signs_span V) hr (by decide) tk (z_cons (f_ix K (f_v 2) (f_v 3)) (z_cons (f_ix K (f_v 2) (f_v 4)) z_nil))))
    (fs_cons (fs_if (ft_or (ft_not (ft_val (f_callB (p_isi (V.isi (.glo "Signs") (by decide))) V.m_isinstance boot_isinstance (z_cons (f_v 5) (z_cons (f_gr V.g_Signs) z_nil))))) (ft_or1 (ft_cmp (p_ne K hr) (f_meth0 (x_Signs_spelled V) hr (by decide) tk (f_v 5)) (f_sl K (f_v 2) (po_so (f_v 3)) (po_so (f_op (p_add K) (f_v 4) f_int)))))).tst (fs_one (fs_ret f_bl)) fs_nil)
    (fs_cons (fs_if (ft_and (ft_cmp (p_ne K hr) (f_v 0) (f_v 1)) (ft_and1 (ft_not (ft_val (f_call (x_law_refused V) hr (by decide) tk (z_cons (f_gr V.g_law_span_of) (z_cons (f_ix K (f_v 2) (f_v 4)) (z_cons (f_ix K (f_v 2) (f_v 3)) z_nil)))))))).tst (fs_one (fs_ret f_bl)) fs_nil)
    (fs_cons (fs_for tk rfl (fi_any K (FO.val (f_lst (z_cons f_str (z_cons (f_op p_mul (f_ix K (f_v 2) (f_v 3)) f_int) (z_cons f_str (z_cons f_int (z_cons f_non (z_cons f_bl (z_cons (FO.val (f_lst (z_cons (f_ix K (f_v 2) (f_v 3)) z_nil))) z_nil)))))))))) (fg_name (i := 6) sc_law_span.nd)
      (fs_cons (fs_if (ft_not (ft_val (f_call (x_law_refused V) hr (by decide) tk (z_cons (f_gr V.g_law_span_of) (z_cons (f_v 6) (z_cons (f_ix K (f_v 2) (f_v 4)) z_nil)))))) (fs_one (fs_ret f_bl)) fs_nil)
    (fs_one (fs_if (ft_not (ft_val (f_call (x_law_refused V) hr (by decide) tk (z_cons (f_gr V.g_law_span_of) (z_cons (f_ix K (f_v 2) (f_v 3)) (z_cons (f_v 6) z_nil)))))) (fs_one (fs_ret f_bl)) fs_nil))))
    (fs_one (fs_ret f_bl))))))))), u_law_span cs errs⟩) (fun as φ ψ h => (u_law_span cs errs as φ ψ h).1)) (fun _ _ _ _ _ _ us hl => match us, hl with | [_, _], _ => rfl)
theorem x_law_all_refused (V : Env P w K mg base) : Fx P w K mg base 7 "_law_all_refused" (fsA (g_law_all_refused cs)) [] := fx_of V.d_law_all_refused (fun f fd F => fn_a (k := 6) F sc_law_all_refused (fun cdv A outer s H E hr tk => ⟨_, _, b_law_all_refused cs errs, (fs_cons (fs_for tk rfl (fi_any K (FO.val (f_lst (z_cons (f_gr V.g_law_or) (z_cons (f_gr V.g_law_and) (z_cons (f_gr V.g_law_less) z_nil)))))) (fg_name (i := 2) sc_law_all_refused.nd)
      (fs_one (fs_if (ft_or (ft_not (ft_val (f_call (x_law_refused V) hr (by decide) tk (z_cons (f_v 2) (z_cons (f_v 0) (z_cons (f_v 1) z_nil)))))) (ft_or1 (ft_not (ft_val (f_call (x_law_refused V) hr (by decide) tk (z_cons (f_v 2) (z_cons (f_v 1) (z_cons (f_v 0) z_nil)))))))).tst (fs_one (fs_ret f_bl)) fs_nil)))
    (fs_cons (fs_for tk rfl (fi_any K (FO.val (f_lst (z_cons (f_gr V.g_law_or_in_place) (z_cons (f_gr V.g_law_new) (z_cons (f_gr V.g_law_inside) z_nil)))))) (fg_name (i := 2) sc_law_all_refused.nd)
      (fs_one (fs_if (ft_not (ft_val (f_call (x_law_refused V) hr (by decide) tk (z_cons (f_v 2) (z_cons (f_v 0) (z_cons (f_v 1) z_nil)))))) (fs_one (fs_ret f_bl)) fs_nil)))
    (fs_one (fs_ret f_bl)))), u_law_all_refused cs errs⟩) (fun as φ ψ h => (u_law_all_refused cs errs as φ ψ h).1)) (fun _ _ _ _ _ _ us hl => match us, hl with | [_, _], _ => rfl)
theorem x_count_placesR (V : Env P w K mg base) : ∀ n : Nat, Fx P w K mg base (3 + n) "count_places" (fsA (g_count_placesR cs n)) []
  | 0 => fx_of V.d_count_places (fun f fd F => fn_a (k := 2) F sc_count_places (fun cdv A outer s H E hr tk => ⟨_, _, _, fss_never, fun as φ ψ h => False.elim h⟩) (fun as φ ψ h => False.elim h)) (fun _ _ _ _ _ _ us hl => match us, hl with | [_], _ => rfl)
  | n + 1 => by
    have ih := x_count_placesR V n
    exact fx_of V.d_count_places (fun f fd F => fn_a (k := 3 + n) F sc_count_places (fun cdv A outer s H E hr tk => ⟨_, _, b_count_places cs errs (g_count_placesR cs n), (fs_cons (fs_set (i := 1) sc_count_places.nd f_int)
    (fs_cons (fs_for tk rfl (fi_any K (f_v 0)) (fg_name (i := 2) sc_count_places.nd)
      (fs_one (fs_if (ft_val (f_callB (p_isi (V.isi (.glo "Field") (by decide))) V.m_isinstance boot_isinstance (z_cons (f_v 2) (z_cons (f_gr V.g_Field) z_nil)))) (fs_one (fs_set (i := 1) sc_count_places.nd (f_op (p_add K) (f_v 1) (f_call (x_kind_places V) hr (by omega) tk (z_cons (f_fld V.f_kind (f_v 2)) z_nil))))) (fs_one (fs_if (ft_val (f_callB (p_isi (V.isi (.glo "Mark") (by decide))) V.m_isinstance boot_isinstance (z_cons (f_v 2) (z_cons (f_gr V.g_Mark) z_nil)))) (fs_one (fs_set (i := 1) sc_count_places.nd (f_op (p_add K) (f_v 1) (f_callBr (p_len K) V.m_len boot_len (f_fld V.f_text (f_v 2)).rd)))) (fs_one (fs_set (i := 1) sc_count_places.nd (f_op (p_add K) (f_v 1) (f_call ih hr (by omega) tk (z_cons (f_fld V.f_parts (f_v 2)) z_nil))))))))))
    (fs_one (fs_ret (f_v 1))))), u_count_placesR cs errs n⟩) (fun as φ ψ h => (u_count_placesR cs errs n as φ ψ h).1)) (fun _ _ _ _ _ _ us hl => match us, hl with | [_], _ => rfl)
theorem x_count_places (V : Env P w K mg base) : Fx P w K mg base 7 "count_places" (fsA (g_count_places cs)) [] := x_count_placesR V 4
theorem x_Maybe_init (V : Env P w K mg base) : Cx' P w K mg base 8 "Maybe" (fsM "Maybe" (g_Maybe_init cs)) [] := cx_of V.d_Maybe_init (fun f fd F => fn_m (k := 7) (N0 := 3) (ps0 := 1) F sc_Maybe_init rfl rfl (fun cdv A outer s H E hr tk => ⟨_, _, b_Maybe_init cs errs, (fs_cons (fs_if (ft_or (ft_not (ft_val (f_callB (p_isiT V.isi [.ty "list", .ty "tuple"]) V.m_isinstance boot_isinstance (z_cons (f_v 1) (z_cons (f_tup (z_cons (f_ty V.m_list boot_list) (z_cons (f_ty V.m_tuple boot_tuple) z_nil))) z_nil))))) (ft_or1 (ft_cmp (p_eq K hr) (f_callBr (p_len K) V.m_len boot_len (f_v 1).rd) f_int))).tst (fs_one (fs_raiseF rfl tk V.x_BadItem hr (z_cons (f_neg f_int) z_nil))) fs_nil)
    (fs_cons (fs_for tk rfl (fi_enum V.m_enumerate (f_v 1)) (fg_tup rfl (fgs_one (i := 2) sc_Maybe_init.nd (fgs_one (i := 3) sc_Maybe_init.nd fgs_nil)))
      (fs_one (fs_if (ft_not (ft_val (f_call (x_is_item V) hr (by decide) tk (z_cons (f_v 3) z_nil)))) (fs_one (fs_raiseF rfl tk V.x_BadItem hr (z_cons (f_v 2) z_nil))) fs_nil)))
    (fs_cons (fs_if (ft_or (ft_cmp (p_eq K hr) (f_callBr (p_len K) V.m_len boot_len (f_call (x_own_names V) hr (by decide) tk (z_cons (f_v 1) z_nil)).rd) f_int) (ft_or (ft_cmp p_ge (f_call (x_depth_of V) hr (by decide) tk (z_cons (f_v 1) z_nil)) (f_gi V.c_MOST_DEPTH)) (ft_or1 (ft_cmp p_gt (f_call (x_count_places V) hr (by decide) tk (z_cons (f_v 1) z_nil)) (f_gi V.c_MOST_PLACES_items))))).tst (fs_one (fs_raiseF rfl tk V.x_BadItem hr (z_cons (f_neg f_int) z_nil))) fs_nil)
    (fs_one (fs_fld 0 V.f_parts (f_call (x_joined_marks V) hr (by decide) tk (z_cons (f_v 1) z_nil))))))), u_Maybe_init cs errs⟩) (l_Maybe_init cs)) (fun _ _ _ _ _ _ us hl => match us, hl with | [_, _], _ => rfl)
theorem x_line_places (V : Env P w K mg base) : Fx P w K mg base 8 "line_places" (fsA (g_line_places cs)) [] := fx_of V.d_line_places (fun f fd F => fn_a (k := 7) F sc_line_places (fun cdv A outer s H E hr tk => ⟨_, _, b_line_places cs errs, (fs_one (fs_ret (f_op (p_add K) (f_op p_sub (f_callBr (p_len K) V.m_len boot_len (f_v 0).rd) f_int) (f_callBr (p_sum K rfl) V.m_sum boot_sum (FO.rd (f_lc [("line", 1)] rfl sc_line_places.nd gw_name (fi_any K (f_v 0)) (blk_of (by kernel_rfl)) (fun _ _ _ _ _ => (fg_name (i := 1) sc_line_places.nd)) (fun _ _ _ _ _ => fts_nil) (fun _ _ _ _ _ => (f_call (x_count_places V) hr (by decide) tk_blk (z_cons (f_v 1) z_nil))))))))), u_line_places cs errs⟩) (fun as φ ψ h => (u_line_places cs errs as φ ψ h).1)) (fun _ _ _ _ _ _ us hl => match us, hl with | [_], _ => rfl)
theorem x_checked_lines (V : Env P w K mg base) : Fx P w K mg base 9 "checked_lines" (fsA (g_checked_lines cs)) [] := fx_of V.d_checked_lines (fun f fd F => fn_a (k := 8) F sc_checked_lines (fun cdv A outer s H E hr tk => ⟨_, _, b_checked_lines cs errs, (fs_cons (fs_if (ft_or (ft_not (ft_val (f_callB (p_isiT V.isi [.ty "list", .ty "tuple"]) V.m_isinstance boot_isinstance (z_cons (f_v 0) (z_cons (f_tup (z_cons (f_ty V.m_list boot_list) (z_cons (f_ty V.m_tuple boot_tuple) z_nil))) z_nil))))) (ft_or (ft_cmp p_lt (f_callBr (p_len K) V.m_len boot_len (f_v 0).rd) f_int) (ft_or1 (ft_cmp p_gt (f_callBr (p_len K) V.m_len boot_len (f_v 0).rd) (f_gi V.c_MOST_LINES))))).tst (fs_one (fs_raiseF rfl tk V.x_BadForm hr (z_cons (f_neg f_int) z_nil))) fs_nil)
    (fs_cons (fs_setO (i := 1) sc_checked_lines.nd (f_lst z_nil))
    (fs_cons (fs_for tk rfl (fi_enumB V.m_enumerate (f_v 0)) (fg_tup rfl (fgs_one (i := 2) sc_checked_lines.nd (fgs_one (i := 3) sc_checked_lines.nd fgs_nil)))
      (fs_cons (fs_if (ft_not (ft_val (f_call (x_is_line V) hr (by decide) tk (z_cons (f_v 3) z_nil)))) (fs_one (fs_raiseF rfl tk V.x_BadForm hr (z_cons (f_v 2) z_nil))) fs_nil)
    (fs_one (fs_for tk rfl (fi_any K (f_call (x_names_in V) hr (by decide) tk (z_cons (f_v 3) z_nil))) (fg_name (i := 4) sc_checked_lines.nd)
      (fs_cons (fs_if (ft_cmpR (p_inL K hr) (f_v 4) (f_own 1)) (fs_one (fs_raiseF rfl tk V.x_BadForm hr (z_cons (f_v 2) z_nil))) fs_nil)
    (fs_one (fs_app 1 (f_v 4))))))))
    (fs_cons (fs_if (ft_or (ft_cmp p_gt (f_callBr (p_len K) V.m_len boot_len (f_own 1)) (f_gi V.c_MOST_FIELDS)) (ft_or1 (ft_cmp p_gt (f_call (x_line_places V) hr (by decide) tk (z_cons (f_v 0) z_nil)) (f_gi V.c_MOST_PLACES_spelling)))).tst (fs_one (fs_raiseF rfl tk V.x_BadForm hr (z_cons (f_neg f_int) z_nil))) fs_nil)
    (fs_one (fs_ret (f_callTyr (p_tuple K) V.m_tuple boot_tuple (FO.rd (f_lc [("line", 3)] rfl sc_checked_lines.nd gw_name (fi_any K (f_v 0)) (blk_of (by kernel_rfl)) (fun _ _ _ _ _ => (fg_name (i := 3) sc_checked_lines.nd)) (fun _ _ _ _ _ => fts_nil) (fun _ _ _ _ _ => (f_call (x_joined_marks V) hr (by decide) tk_blk (z_cons (f_v 3) z_nil)))))))))))), u_checked_lines cs errs⟩) (fun as φ ψ h => (u_checked_lines cs errs as φ ψ h).1)) (fun _ _ _ _ _ _ us hl => match us, hl with | [_], _ => rfl)
theorem x_row_pieceR (V : Env P w K mg base) : ∀ n : Nat, Fx P w K mg base (4 + 2 * n) "row_piece" (fsA (g_row_pieceR cs n)) []
  | 0 => fx_of V.d_row_piece (fun f fd F => fn_a (k := 3) F sc_row_piece (fun cdv A outer s H E hr tk => ⟨_, _, _, fss_never, fun as φ ψ h => False.elim h⟩) (fun as φ ψ h => False.elim h)) (fun _ _ _ _ _ _ us hl => match us, hl with | [_, _], _ => rfl)
  | n + 1 => by
    have ih := x_row_pieceR V n
    have it : Fx P w K mg base (4 + 2 * n + 1) "item_piece" (fsA (g_item_pieceR cs n)) [] := fx_of V.d_item_piece (fun f fd F => fn_a (k := 4 + 2 * n) F sc_item_piece (fun cdv A outer s H E hr tk => ⟨_, _, b_item_piece cs errs (g_row_pieceR cs n), (fs_cons (fs_if (ft_val (f_callB (p_isi (V.isi (.glo "Field") (by decide))) V.m_isinstance boot_isinstance (z_cons (f_v 1) (z_cons (f_gr V.g_Field) z_nil)))) (fs_one (fs_ret (f_call (x_kind_piece V) hr (by omega) tk (z_cons (f_v 0) (z_cons (f_meth0 (x_Kind_alternatives V) hr (by omega) tk (f_fld V.f_kind (f_v 1))) (z_cons (f_fld V.f_name (f_v 1)) z_nil)))))) fs_nil)
    (fs_cons (fs_if (ft_val (f_callB (p_isi (V.isi (.glo "Mark") (by decide))) V.m_isinstance boot_isinstance (z_cons (f_v 1) (z_cons (f_gr V.g_Mark) z_nil)))) (fs_one (fs_ret (f_call (x_mark_piece V) hr (by omega) tk (z_cons (f_v 0) (z_cons (f_fld V.f_text (f_v 1)) z_nil))))) fs_nil)
    (fs_cons (fs_asg (f_call ih hr (by omega) tk (z_cons (f_v 0) (z_cons (f_fld V.f_parts (f_v 1)) z_nil))) (fg_tup rfl (fgs_one (i := 2) sc_item_piece.nd (fgs_one (i := 3) sc_item_piece.nd (fgs_one (i := 4) sc_item_piece.nd (fgs_one (i := 5) sc_item_piece.nd (fgs_one (i := 6) sc_item_piece.nd (fgs_one (i := 7) sc_item_piece.nd fgs_nil))))))))
    (fs_one (fs_ret (f_tup (z_cons (f_v 2) (z_cons (f_v 3) (z_cons (f_v 4) (z_cons (f_v 5) (z_cons (f_v 6) (z_cons f_bl z_nil)))))))))))), u_item_pieceR cs errs n⟩) (fun as φ ψ h => (u_item_pieceR cs errs n as φ ψ h).1)) (fun _ _ _ _ _ _ us hl => match us, hl with | [_, _], _ => rfl)
    have e : 4 + 2 * (n + 1) = 4 + 2 * n + 1 + 1 := by omega
    rw [e]
    exact fx_of V.d_row_piece (fun f fd F => fn_a (k := 4 + 2 * n + 1) F sc_row_piece (fun cdv A outer s H E hr tk => ⟨_, _, b_row_piece cs errs (g_item_pieceR cs n), (fs_cons (fs_set (i := 2) sc_row_piece.nd (f_call0 (x_nothing V) hr (by omega) tk))
    (fs_cons (fs_for tk rfl (fi_any K (f_v 1)) (fg_name (i := 3) sc_row_piece.nd)
      (fs_one (fs_set (i := 2) sc_row_piece.nd (f_call (x_then V) hr (by omega) tk (z_cons (f_v 2) (z_cons (f_call it hr (by omega) tk (z_cons (f_op (p_add K) (f_v 0) (f_callBr (p_len K) V.m_len boot_len (f_ix K (f_v 2) f_int).rd)) (z_cons (f_v 3) z_nil))) z_nil))))))
    (fs_one (fs_ret (f_v 2))))), u_row_pieceR cs errs n⟩) (fun as φ ψ h => (u_row_pieceR cs errs n as φ ψ h).1)) (fun _ _ _ _ _ _ us hl => match us, hl with | [_, _], _ => rfl)
theorem x_row_piece (V : Env P w K mg base) : Fx P w K mg base 12 "row_piece" (fsA (g_row_piece cs)) [] := x_row_pieceR V 4
theorem x_with_line (V : Env P w K mg base) : Fx P w K mg base 13 "with_line" (fsA (g_with_line cs)) [] := fx_of V.d_with_line (fun f fd F => fn_a (k := 12) F sc_with_line (fun cdv A outer s H E hr tk => ⟨_, _, b_with_line cs errs, (fs_cons (fs_set (i := 2) sc_with_line.nd (f_callBr (p_len K) V.m_len boot_len (f_ix K (f_v 0) f_int).rd))
    (fs_cons (fs_set (i := 3) sc_with_line.nd (f_call (x_row_piece V) hr (by decide) tk (z_cons (f_op (p_add K) (f_v 2) f_int) (z_cons (f_v 1) z_nil))))
    (fs_cons (fs_set (i := 4) sc_with_line.nd (f_op (p_add K) (FO.val (f_lc [("place", 5)] rfl sc_with_line.nd gw_name (fi_any K (f_ix K (f_v 0) f_int)) (blk_of (by kernel_rfl)) (fun _ _ _ _ _ => (fg_name (i := 5) sc_with_line.nd)) (fun _ _ _ _ _ => fts_nil) (fun _ _ _ _ _ => (f_tup (z_cons (f_v 5) (z_cons (f_v 2) z_nil)))))) (FO.val (f_lc [("goal", 6)] rfl sc_with_line.nd gw_name (fi_any K (f_ix K (f_v 3) f_int)) (blk_of (by kernel_rfl)) (fun _ _ _ _ _ => (fg_name (i := 6) sc_with_line.nd)) (fun _ _ _ _ _ => fts_nil) (fun _ _ _ _ _ => (f_tup (z_cons (f_v 2) (z_cons (f_v 6) z_nil))))))))
    (fs_cons (fs_set (i := 7) sc_with_line.nd (FO.val (f_list K V.m_list (f_ix K (f_v 0) f_int).rd)))
    (fs_cons (fs_if (ft_val (f_ix K (f_v 0) f_int)) (fs_one (fs_set (i := 7) sc_with_line.nd (f_op (p_add K) (f_v 7) (f_ix K (f_v 3) f_int)))) fs_nil)
    (fs_cons (fs_set (i := 8) sc_with_line.nd (FO.val (f_list K V.m_list (f_ix K (f_v 3) f_int).rd)))
    (fs_cons (fs_if (ft_val (f_ix K (f_v 3) f_int)) (fs_one (fs_set (i := 8) sc_with_line.nd (f_op (p_add K) (f_v 8) (f_ix K (f_v 0) f_int)))) fs_nil)
    (fs_cons (fs_set (i := 9) sc_with_line.nd (f_op (p_add K) (f_op (p_add K) (f_ix K (f_v 0) f_int) (FO.val (f_lst (z_cons f_str z_nil)))) (f_ix K (f_v 3) f_int)))
    (fs_cons (fs_set (i := 10) sc_with_line.nd (f_op (p_add K) (f_op (p_add K) (f_ix K (f_v 0) f_int) (FO.val (f_lst (z_cons f_str z_nil)))) (f_ix K (f_v 3) f_int)))
    (fs_one (fs_ret (f_tup (z_cons (f_v 9) (z_cons (f_v 10) (z_cons (f_op (p_add K) (f_op (p_add K) (f_ix K (f_v 0) f_int) (f_v 4)) (f_ix K (f_v 3) f_int)) (z_cons (f_v 7) (z_cons (f_v 8) (z_cons (f_and (f_ix K (f_v 0) f_int) (f_one (f_ix K (f_v 3) f_int))) z_nil)))))))))))))))))), u_with_line cs errs⟩) (fun as φ ψ h => (u_with_line cs errs as φ ψ h).1)) (fun _ _ _ _ _ _ us hl => match us, hl with | [_, _], _ => rfl)
theorem x_form_layout (V : Env P w K mg base) : Fx P w K mg base 14 "form_layout" (fsA (g_form_layout cs)) [] := fx_of V.d_form_layout (fun f fd F => fn_a (k := 13) F sc_form_layout (fun cdv A outer s H E hr tk => ⟨_, _, b_form_layout cs errs, (fs_cons (fs_set (i := 1) sc_form_layout.nd (f_call (x_row_piece V) hr (by decide) tk (z_cons f_int (z_cons (f_ix K (f_v 0) f_int) z_nil))))
    (fs_cons (fs_for tk rfl (fi_any K (f_sl K (f_v 0) (po_so f_int) po_no)) (fg_name (i := 2) sc_form_layout.nd)
      (fs_one (fs_set (i := 1) sc_form_layout.nd (f_call (x_with_line V) hr (by decide) tk (z_cons (f_v 1) (z_cons (f_v 2) z_nil))))))
    (fs_one (fs_ret (f_make (x_Layout_init V) hr (by decide) tk (z_cons (f_v 1) z_nil)))))), u_form_layout cs errs⟩) (fun as φ ψ h => (u_form_layout cs errs as φ ψ h).1)) (fun _ _ _ _ _ _ us hl => match us, hl with | [_], _ => rfl)
theorem x_Form_init (V : Env P w K mg base) : Cx' P w K mg base 15 "Form" (fsM "Form" (g_Form_init cs)) [] := cx_of V.d_Form_init (fun f fd F => fn_m (k := 14) (N0 := 1) (ps0 := 1) F sc_Form_init rfl rfl (fun cdv A outer s H E hr tk => ⟨_, _, b_Form_init cs errs, (fs_cons (fs_fld 0 V.f_lines (f_call (x_checked_lines V) hr (by decide) tk (z_cons (f_v 1) z_nil)))
    (fs_one (fs_fld 0 V.f_layout (f_call (x_form_layout V) hr (by decide) tk (z_cons (f_fldI 0 V.f_lines) z_nil))))), u_Form_init cs errs⟩) (l_Form_init cs)) (fun _ _ _ _ _ _ us hl => match us, hl with | [_, _], _ => rfl)
end
section
variable {P : Program} {w : World} {K : PySem.W.Frag} {mg : Str → Option Value} {base : Heap} {f fB : Addr} {fd fdB : FuncData}
theorem ok_law (V : Env P w K mg base) (FB : FnOk P w K mg base (L2.CX P w) 1 fB fdB ["_law_script"] (spBag K)) (gB : mg "_law_bag" = some (.ref fB)) (kB : PySem.W.keepIn K (.ref fB) = true) (bB : Binds K fdB ["_law_script"] [])
    (Fd : FnQ K "law" "law" st_law [] f fd) : FnOk P w K mg base (L2.CX P w) 17 f fd ["_law_script"] (spLaw K) :=
  fn_lawA (k := 16) (n0 := 6) Fd sc_law rfl rfl fun cdv A outer s H E hr tk => ⟨ps_set (i := 1) sc_law.nd rfl (by first | exact .inl rfl | exact .inr rfl) (pe_callSD FB (hr.mono (by decide)) (by rfl) gB kB bB .nil (fun σ => passAt tk.takes σ) (pa_cons (pv 0) pa_nil)), _, _, b_law cs errs, (fs_cons (fs_set (i := 2) sc_law.nd (f_join K f_str (f_call (x_law_letters V) hr (by decide) tk (z_bag 1 (z_cons (f_call (x_law_draw V) hr (by decide) tk (z_bag 1 (z_cons f_int z_nil))) z_nil))).rd))
    (fs_cons (fs_set (i := 3) sc_law.nd (f_make (x_Signs_initX V) hr (by decide) tk (z_cons (f_v 2) z_nil)))
    (fs_cons (fs_for tk rfl (fi_any K (f_call (x_law_bad V) hr (by decide) tk (z_bag 1 (z_cons (f_v 2) z_nil)))) (fg_name (i := 4) sc_law.nd)
      (fs_one (fs_if (ft_or (ft_not (ft_val (f_call (x_law_all_refused V) hr (by decide) tk (z_cons (f_v 3) (z_cons (f_v 4) z_nil))))) (ft_or1 (ft_cmp (p_inA (x_Signs_containsO V) hr (by decide)) (f_v 4) (f_v 3)))).tst (fs_one (fs_ret f_bl)) fs_nil)))
    (fs_cons (fs_set (i := 5) sc_law.nd (f_make (x_Field_init V) hr (by decide) tk (z_cons f_str (z_cons (f_stat (x_Kind_run_2 V) hr (by decide) tk (z_cons f_str z_nil)) z_nil))))
    (fs_cons (fs_for tk rfl (fi_any K (FO.val (f_lst (z_cons (f_v 5) (z_cons (f_make (x_Mark_init V) hr (by decide) tk (z_cons f_str z_nil)) (z_cons (f_make (x_Maybe_init V) hr (by decide) tk (z_cons (FO.val (f_lst (z_cons (f_v 5) z_nil))) z_nil)) (z_cons (f_make (x_Form_init V) hr (by decide) tk (z_cons (FO.val (f_lst (z_cons (FO.val (f_lst (z_cons (f_v 5) z_nil))) z_nil))) z_nil)) z_nil))))))) (fg_name (i := 4) sc_law.nd)
      (fs_one (fs_if (ft_or (ft_not (ft_val (f_call (x_law_all_refused V) hr (by decide) tk (z_cons (f_v 3) (z_cons (f_v 4) z_nil))))) (ft_or (ft_cmp (p_inA (x_Signs_containsO V) hr (by decide)) (f_v 4) (f_v 3)) (ft_or1 (ft_cmp (p_eqB V.sub_Signs V.ne_Signs__Field_Mark_Maybe_Form_Kind (x_Signs_eq V) hr (by decide)) (f_v 3) (f_v 4))))).tst (fs_one (fs_ret f_bl)) fs_nil)))
    (fs_cons (fs_if (ft_or (ft_cmp (p_inA (x_Signs_containsO V) hr (by decide)) (f_stat (x_Kind_run_2 V) hr (by decide) tk (z_cons f_str z_nil)) (f_v 3)) (ft_or (ft_cmp (p_eqB V.sub_Signs V.ne_Signs__Field_Mark_Maybe_Form_Kind (x_Signs_eq V) hr (by decide)) (f_v 3) (f_stat (x_Kind_run_2 V) hr (by decide) tk (z_cons f_str z_nil))) (ft_or1 (ft_not (ft_val (f_call (x_law_refused V) hr (by decide) tk (z_cons (f_gr V.g_law_inside) (z_cons (f_v 3) (z_cons (f_stat (x_Kind_run_2 V) hr (by decide) tk (z_cons f_str z_nil)) z_nil))))))))).tst (fs_one (fs_ret f_bl)) fs_nil)
    (fs_cons (fs_for tk rfl (fi_any K (f_v 2)) (fg_name (i := 6) sc_law.nd)
      (fs_one (fs_if (ft_or (ft_cmp (p_ninA (x_Signs_containsO V) hr (by decide)) (f_v 6) (f_v 3)) (ft_or (ft_cmp (p_inA (x_Signs_containsO V) hr (by decide)) (f_op (p_add K) (f_v 6) (f_v 6)) (f_v 3)) (ft_or1 (ft_cmp (p_inA (x_Signs_containsO V) hr (by decide)) f_str (f_v 3))))).tst (fs_one (fs_ret f_bl)) fs_nil)))
    (fs_cons (fs_if (ft_not (ft_val (f_call (x_law_span V) hr (by decide) tk (z_cons (f_call (x_law_draw V) hr (by decide) tk (z_bag 1 (z_cons f_int z_nil))) (z_cons (f_call (x_law_draw V) hr (by decide) tk (z_bag 1 (z_cons f_int z_nil))) z_nil))))) (fs_one (fs_ret f_bl)) fs_nil)
    (fs_cons (fs_if (ft_or (ft_cmp (p_ne K hr) (f_meth0 (x_Signs_spelled V) hr (by decide) tk (f_stat0 (x_Signs_letters V) hr (by decide) tk)) f_str) (ft_or1 (ft_cmp (p_ne K hr) (f_meth0 (x_Signs_spelled V) hr (by decide) tk (f_stat0 (x_Signs_digits V) hr (by decide) tk)) f_str))).tst (fs_one (fs_ret f_bl)) fs_nil)
    (fs_cons (fs_if (ft_cmp (p_ne K hr) (f_meth0 (x_Signs_spelled V) hr (by decide) tk (f_stat0 (x_Signs_capitals V) hr (by decide) tk)) f_str) (fs_one (fs_ret f_bl)) fs_nil)
    (fs_cons (fs_for tk rfl (fi_any K (FO.val (f_lst (z_cons (f_make0 (x_Signs_initX_1 V) hr (by decide) tk) (z_cons (f_ownS (op := .Sub) V.top_Signs (x_Signs_sub V) hr (by decide) tk (f_v 3) (f_v 3)) z_nil))))) (fg_name (i := 7) sc_law.nd)
      (fs_one (fs_if (ft_not (ft_val (f_call (x_law_refused V) hr (by decide) tk (z_cons (f_gr V.g_law_least_of) (z_cons (f_v 7) (z_cons f_non z_nil)))))) (fs_one (fs_ret f_bl)) fs_nil)))
    (fs_one (fs_ret (f_and (f_cmp (p_eq K hr) (f_meth0 (x_Signs_spelled V) hr (by decide) tk (f_v 3)) (f_join K f_str (FO.rd (f_sortS K V.m_sorted (FO.rd (f_listS rfl V.m_list (f_v 2))))))) (f_and (f_cmp (p_eqB V.sub_Signs V.ne_Signs__Field_Mark_Maybe_Form_Kind (x_Signs_eq V) hr (by decide)) (f_v 3) (f_make (x_Signs_initX V) hr (by decide) tk (z_cons (f_v 2) z_nil))) (f_one (f_not (f_cmp (p_eqB V.sub_Signs V.ne_Signs__Field_Mark_Maybe_Form_Kind (x_Signs_eq V) hr (by decide)) (f_v 3) (f_v 2))))))))))))))))))), u_law cs errs⟩
end
end Tw
end
namespace Tl
open PySem PySem.Spec PyProof.Rows L2 L2H
def obsH (n : Nat) (fa : List He.Fa) (fn : List He5.DefA) (ex : PySem.W.Frag → Bool) (xs : List XD) (g : Addr → Option Obj) : AlG := obsGK fa fn ex xs (He.frG g (asB g n))
def hookH (n : Nat) (fa : List He.Fa) (fn : List He5.DefA) (ex : PySem.W.Frag → Bool) (xs : List XD) : PySem.W.Hook where
  α := AlG
  obs := fun s => obsH n fa fn ex xs s.heap.get?
  val := fun _ => ((He5.valA fn, true), xs.map XD.val)
  says := fun _ h => ∃ K : PySem.W.Frag, K.In h ∧ SaysG fa fn ex xs K
  of := fun _ _ e => ⟨_, He.frG_in, congrArg (fun z : AlG => z.1.1) e, congrArg (fun z : AlG => z.1.2) e, map_eqs (congrArg (fun z : AlG => z.2) e)⟩
  keeps := fun _ _ _ ⟨K, hK, c⟩ k => ⟨K, PySem.W.Frag.In.keeps hK k, c⟩
theorem obsH_eq {n : Nat} {fa : List He.Fa} {fn : List He5.DefA} {ex : PySem.W.Frag → Bool} {xs : List XD} {g : Addr → Option Obj} {s : Shared} (h : ∀ a, g a = s.heap.get? a) : obsH n fa fn ex xs g = (hookH n fa fn ex xs).obs s := by
  have e : g = s.heap.get? := funext h
  subst e
  rfl
theorem map_all {α β γ δ : Type} {o : Option α} {f : α → β} {g : α → γ} {h : α → δ} {a : β} {b : γ} {c : δ} (h1 : o.map (fun s => (f s, g s)) = some (a, b)) (h3 : o.map h = some c) : o.map (fun s => (f s, g s, h s)) = some (a, b, c) := by
  cases o with
  | none => cases h1
  | some s =>
    cases h1
    cases h3
    rfl
end Tl
section
set_option maxHeartbeats 4000000
namespace Tw
open PySem PySem.Spec PyProof.Rows L2 Tl
abbrev hkL : PySem.W.Hook := hookH 5 faL fnL (exL PL) xdL
def obL (s : PySem.W.SharedT) : AlG := obsH 5 faL fnL (exL PL) xdL (HandSHeadRun.getT s)
theorem obL_eq (s : PySem.W.SharedT) : obL s = hkL.obs s.abs := obsH_eq (HandSHeadRun.getT_eq s)
theorem runL (w : World) : HandSHeadRun.RunEq RL (PySem.W.view RL.prog [103]) hkL obL 30000 looseL w := fun os => map_all (headA w os) (headB w os)
end Tw
end
section
set_option maxHeartbeats 0
namespace Tw
open PySem PySem.Spec PyProof.Rows L2 Tl
theorem xstL : ∀ x ∈ xdL, XSt x := by
  intro x m
  simp only [xdL, List.mem_cons, List.not_mem_nil, or_false] at m
  rcases m with rfl | rfl | rfl <;> exact ⟨by decide, by decide, by decide, by decide, by decide, _, _, _, _, _, _, _, _, _, _, _, _, _, _, rfl, rfl, rfl, fun _ _ _ _ _ _ _ _ _ => rfl, fun _ => ⟨_, rfl⟩⟩
theorem factsL {w : World} {K : PySem.W.Frag} {h : Heap} {mg : Str → Option Value} {f : Addr} (X : K.In h) (G : h.Ns mainGlobals mg) (hf : mg ("law" : Str) = some (.ref f)) (S : SaysG faL fnL (exL PL) xdL K) :
    ∃ fd : FuncData, (∀ (s : Shared) (v : Value), BindsTo s fd ⟨[v], []⟩ [("_law_script", v)]) ∧ ∀ base : Heap, K.In base → base.Ns mainGlobals mg → FnOk PL w K mg base (L2.CX PL w) 17 f fd ["_law_script"] (spLaw K) := by
  have c := S.d
  have x := S.e
  have e := hf.symm.trans (He.glo_ok X G (c.fact 69 (f := .glo "law") rfl))
  cases e
  obtain ⟨fd, F⟩ := c.def_ 0 (d := aDef "law" st_law []) rfl
  have b := FunD.bindsA (ps := ["_law_script"]) F fun _ _ _ _ _ _ us hl => match us, hl with | [_], _ => rfl
  unfold exL at x
  simp only [Bool.and_eq_true, List.all_eq_true, decide_eq_true_eq] at x
  obtain ⟨x_isi, x_em, x_top, x_io, x_sub, x_rd, x_sm, x_pr, x_xf, x_xi, x_np, x_ni, x_ne, x_xd, x_st⟩ := x
  refine ⟨fd, fun s v => b s [v] rfl, fun base _ _ => ?_⟩
  have g : ∀ (i : Nat) {y : Str}, faL[i]? = some (.glo y) → mg y = some (.ref (He.ga K y)) := fun i y e => He.glo_ok X G (c.fact i e)
  have fr : ∀ (i : Nat) {y : Str}, faL[i]? = some (.free y) → mg y = none := fun i y e => He.free_ok X G (c.fact i e)
  have top : (PL.main.scope.names.lookup ("super" : Str)).isSome = false := by kernel_rfl
  have EX : ∀ x ∈ xdL, (He.Fa.glo x.c).ok K = true → ExF PL K mg x.c x.f := fun x m gx => exF_of X G (xstL x m) (S.x x m) (x_xd x m) (He.eqO_ok x_st) top gx (c.fact 64 (f := .free "super") rfl)
  have h_isi : ∀ c, isC cs c = true → Isi K c (isiOf cs c) := isi_ok x_isi
  have h_em : ∀ c, c ∈ errs → ∀ y v, emC errs c y = some v → PySem.W.exmOne K (.ref (He.ga K y)) (.ref (He.ga K c)) = some v := emB_ok x_em
  have h_c_ALPHABET : ∃ t, mg "ALPHABET" = some (.str c_ALPHABET t) := He.str_ok X G (c.fact 0 (f := .str "ALPHABET" c_ALPHABET) rfl)
  have h_c_FIGURES : ∃ t, mg "FIGURES" = some (.str c_FIGURES t) := He.str_ok X G (c.fact 1 (f := .str "FIGURES" c_FIGURES) rfl)
  have h_c_LOWER : ∃ t, mg "LOWER" = some (.str c_LOWER t) := He.str_ok X G (c.fact 2 (f := .str "LOWER" c_LOWER) rfl)
  have h_c_MOST_DEPTH : ∃ t, mg "MOST_DEPTH" = some (.int 3 t) := He.int_ok X G (c.fact 3 (f := .int "MOST_DEPTH" 3) rfl)
  have h_c_MOST_FIELDS : ∃ t, mg "MOST_FIELDS" = some (.int 12 t) := He.int_ok X G (c.fact 4 (f := .int "MOST_FIELDS" 12) rfl)
  have h_c_MOST_LINES : ∃ t, mg "MOST_LINES" = some (.int 10 t) := He.int_ok X G (c.fact 5 (f := .int "MOST_LINES" 10) rfl)
  have h_c_MOST_PLACES_items : ∃ t, mg "MOST_PLACES_items" = some (.int 200 t) := He.int_ok X G (c.fact 6 (f := .int "MOST_PLACES_items" 200) rfl)
  have h_c_MOST_PLACES_kinds : ∃ t, mg "MOST_PLACES_kinds" = some (.int 120 t) := He.int_ok X G (c.fact 7 (f := .int "MOST_PLACES_kinds" 120) rfl)
  have h_c_MOST_PLACES_spelling : ∃ t, mg "MOST_PLACES_spelling" = some (.int 200 t) := He.int_ok X G (c.fact 8 (f := .int "MOST_PLACES_spelling" 200) rfl)
  have h_c_MOST_ROWS : ∃ t, mg "MOST_ROWS" = some (.int 20 t) := He.int_ok X G (c.fact 9 (f := .int "MOST_ROWS" 20) rfl)
  have h_c_UPPER : ∃ t, mg "UPPER" = some (.str c_UPPER t) := He.str_ok X G (c.fact 10 (f := .str "UPPER" c_UPPER) rfl)
  have h_f_begins : FldOk K ["Layout"] "begins" := ⟨fun y m => by
      simp only [List.mem_cons, List.not_mem_nil, or_false] at m
      rcases m with rfl
      · exact ⟨He.cls_ok (c.fact 11 (f := .cls "Layout") rfl), He.noat_ok (c.fact 12 (f := .noat "Layout" "begins") rfl)⟩⟩
  have h_f_blank : FldOk K ["Layout"] "blank" := ⟨fun y m => by
      simp only [List.mem_cons, List.not_mem_nil, or_false] at m
      rcases m with rfl
      · exact ⟨He.cls_ok (c.fact 11 (f := .cls "Layout") rfl), He.noat_ok (c.fact 13 (f := .noat "Layout" "blank") rfl)⟩⟩
  have h_f_finishes : FldOk K ["Layout"] "finishes" := ⟨fun y m => by
      simp only [List.mem_cons, List.not_mem_nil, or_false] at m
      rcases m with rfl
      · exact ⟨He.cls_ok (c.fact 11 (f := .cls "Layout") rfl), He.noat_ok (c.fact 14 (f := .noat "Layout" "finishes") rfl)⟩⟩
  have h_f_follows : FldOk K ["Layout"] "follows" := ⟨fun y m => by
      simp only [List.mem_cons, List.not_mem_nil, or_false] at m
      rcases m with rfl
      · exact ⟨He.cls_ok (c.fact 11 (f := .cls "Layout") rfl), He.noat_ok (c.fact 15 (f := .noat "Layout" "follows") rfl)⟩⟩
  have h_f_held : FldOk K ["Signs"] "held" := ⟨fun y m => by
      simp only [List.mem_cons, List.not_mem_nil, or_false] at m
      rcases m with rfl
      · exact ⟨He.cls_ok (c.fact 16 (f := .cls "Signs") rfl), He.noat_ok (c.fact 17 (f := .noat "Signs" "held") rfl)⟩⟩
  have h_f_kind : FldOk K ["Field"] "kind" := ⟨fun y m => by
      simp only [List.mem_cons, List.not_mem_nil, or_false] at m
      rcases m with rfl
      · exact ⟨He.cls_ok (c.fact 18 (f := .cls "Field") rfl), He.noat_ok (c.fact 19 (f := .noat "Field" "kind") rfl)⟩⟩
  have h_f_layout : FldOk K ["Form"] "layout" := ⟨fun y m => by
      simp only [List.mem_cons, List.not_mem_nil, or_false] at m
      rcases m with rfl
      · exact ⟨He.cls_ok (c.fact 20 (f := .cls "Form") rfl), He.noat_ok (c.fact 21 (f := .noat "Form" "layout") rfl)⟩⟩
  have h_f_lines : FldOk K ["Form"] "lines" := ⟨fun y m => by
      simp only [List.mem_cons, List.not_mem_nil, or_false] at m
      rcases m with rfl
      · exact ⟨He.cls_ok (c.fact 20 (f := .cls "Form") rfl), He.noat_ok (c.fact 22 (f := .noat "Form" "lines") rfl)⟩⟩
  have h_f_name : FldOk K ["Field"] "name" := ⟨fun y m => by
      simp only [List.mem_cons, List.not_mem_nil, or_false] at m
      rcases m with rfl
      · exact ⟨He.cls_ok (c.fact 18 (f := .cls "Field") rfl), He.noat_ok (c.fact 23 (f := .noat "Field" "name") rfl)⟩⟩
  have h_f_names_at : FldOk K ["Layout"] "names_at" := ⟨fun y m => by
      simp only [List.mem_cons, List.not_mem_nil, or_false] at m
      rcases m with rfl
      · exact ⟨He.cls_ok (c.fact 11 (f := .cls "Layout") rfl), He.noat_ok (c.fact 24 (f := .noat "Layout" "names_at") rfl)⟩⟩
  have h_f_parts : FldOk K ["Maybe"] "parts" := ⟨fun y m => by
      simp only [List.mem_cons, List.not_mem_nil, or_false] at m
      rcases m with rfl
      · exact ⟨He.cls_ok (c.fact 25 (f := .cls "Maybe") rfl), He.noat_ok (c.fact 26 (f := .noat "Maybe" "parts") rfl)⟩⟩
  have h_f_rows : FldOk K ["Kind"] "rows" := ⟨fun y m => by
      simp only [List.mem_cons, List.not_mem_nil, or_false] at m
      rcases m with rfl
      · exact ⟨He.cls_ok (c.fact 27 (f := .cls "Kind") rfl), He.noat_ok (c.fact 28 (f := .noat "Kind" "rows") rfl)⟩⟩
  have h_f_signs_at : FldOk K ["Layout"] "signs_at" := ⟨fun y m => by
      simp only [List.mem_cons, List.not_mem_nil, or_false] at m
      rcases m with rfl
      · exact ⟨He.cls_ok (c.fact 11 (f := .cls "Layout") rfl), He.noat_ok (c.fact 29 (f := .noat "Layout" "signs_at") rfl)⟩⟩
  have h_f_text : FldOk K ["Mark"] "text" := ⟨fun y m => by
      simp only [List.mem_cons, List.not_mem_nil, or_false] at m
      rcases m with rfl
      · exact ⟨He.cls_ok (c.fact 30 (f := .cls "Mark") rfl), He.noat_ok (c.fact 31 (f := .noat "Mark" "text") rfl)⟩⟩
  have h_g_BadKind : mg "BadKind" = some (.ref (He.ga K "BadKind")) := g 32 rfl
  have h_g_BadSigns : mg "BadSigns" = some (.ref (He.ga K "BadSigns")) := g 33 rfl
  have h_g_BadText : mg "BadText" = some (.ref (He.ga K "BadText")) := g 34 rfl
  have h_g_Field : mg "Field" = some (.ref (He.ga K "Field")) := g 35 rfl
  have h_g_Kind : mg "Kind" = some (.ref (He.ga K "Kind")) := g 36 rfl
  have h_g_Mark : mg "Mark" = some (.ref (He.ga K "Mark")) := g 37 rfl
  have h_g_Maybe : mg "Maybe" = some (.ref (He.ga K "Maybe")) := g 38 rfl
  have h_g_Signs : mg "Signs" = some (.ref (He.ga K "Signs")) := g 39 rfl
  have h_g_TownError : mg "TownError" = some (.ref (He.ga K "TownError")) := g 40 rfl
  have h_g_law_and : mg "_law_and" = some (.ref (He.ga K "_law_and")) := g 41 rfl
  have h_g_law_inside : mg "_law_inside" = some (.ref (He.ga K "_law_inside")) := g 42 rfl
  have h_g_law_least_of : mg "_law_least_of" = some (.ref (He.ga K "_law_least_of")) := g 43 rfl
  have h_g_law_less : mg "_law_less" = some (.ref (He.ga K "_law_less")) := g 44 rfl
  have h_g_law_new : mg "_law_new" = some (.ref (He.ga K "_law_new")) := g 45 rfl
  have h_g_law_or : mg "_law_or" = some (.ref (He.ga K "_law_or")) := g 46 rfl
  have h_g_law_or_in_place : mg "_law_or_in_place" = some (.ref (He.ga K "_law_or_in_place")) := g 47 rfl
  have h_g_law_span_of : mg "_law_span_of" = some (.ref (He.ga K "_law_span_of")) := g 48 rfl
  have h_m_ValueError : mg "ValueError" = none := fr 49 rfl
  have h_m_bool : mg "bool" = none := fr 50 rfl
  have h_m_enumerate : mg "enumerate" = none := fr 51 rfl
  have h_m_int : mg "int" = none := fr 52 rfl
  have h_m_isinstance : mg "isinstance" = none := fr 53 rfl
  have h_m_len : mg "len" = none := fr 54 rfl
  have h_m_list : mg "list" = none := fr 55 rfl
  have h_m_max : mg "max" = none := fr 56 rfl
  have h_m_min : mg "min" = none := fr 57 rfl
  have h_m_range : mg "range" = none := fr 58 rfl
  have h_m_sorted : mg "sorted" = none := fr 59 rfl
  have h_m_str : mg "str" = none := fr 60 rfl
  have h_m_sum : mg "sum" = none := fr 61 rfl
  have h_m_tuple : mg "tuple" = none := fr 62 rfl
  have h_ne_Signs__Field_Mark_Maybe_Form_Kind : ∀ c2 ∈ (["Field", "Mark", "Maybe", "Form", "Kind"] : List Str), NeK K "Signs" c2 := (fun c2 m => by
      simp only [List.mem_cons, List.not_mem_nil, or_false] at m
      rcases m with rfl | rfl | rfl | rfl | rfl
      · exact neB_ok (x_ne ("Signs", "Field") (by decide))
      · exact neB_ok (x_ne ("Signs", "Mark") (by decide))
      · exact neB_ok (x_ne ("Signs", "Maybe") (by decide))
      · exact neB_ok (x_ne ("Signs", "Form") (by decide))
      · exact neB_ok (x_ne ("Signs", "Kind") (by decide)))
  have h_ni_Signs__ior : NiK K "Signs" (dunderI "or") := niB_ok (x_ni ("Signs", "__ior__") (by decide))
  have h_np_Signs__Field_Mark_Maybe_Form : ∀ c2 ∈ (["Field", "Mark", "Maybe", "Form"] : List Str), NopK K "Signs" c2 := (fun c2 m => by
      simp only [List.mem_cons, List.not_mem_nil, or_false] at m
      rcases m with rfl | rfl | rfl | rfl
      · exact npB_ok (x_np ("Signs", "Field") (by decide))
      · exact npB_ok (x_np ("Signs", "Mark") (by decide))
      · exact npB_ok (x_np ("Signs", "Maybe") (by decide))
      · exact npB_ok (x_np ("Signs", "Form") (by decide)))
  have h_sub_Signs : SubOwn K "Signs" := subB_ok (x_sub "Signs" (by decide))
  have h_top_Signs : Top1 K "Signs" := topB_ok (x_top "Signs" (by decide))
  have h_x_BadForm : ExF PL K mg "BadForm" "at" := EX _ (List.mem_of_getElem? (i := 0) rfl) (c.fact 63 (f := .glo "BadForm") rfl)
  have h_x_BadItem : ExF PL K mg "BadItem" "at" := EX _ (List.mem_of_getElem? (i := 1) rfl) (c.fact 65 (f := .glo "BadItem") rfl)
  have h_x_BadKind : ExK K mg "BadKind" := exK_of X G (c.fact 66 (f := .exc "BadKind") rfl) (c.fact 32 (f := .glo "BadKind") rfl)
  have h_x_BadName : ExF PL K mg "BadName" "name" := EX _ (List.mem_of_getElem? (i := 2) rfl) (c.fact 67 (f := .glo "BadName") rfl)
  have h_x_BadSigns : ExK K mg "BadSigns" := exK_of X G (c.fact 68 (f := .exc "BadSigns") rfl) (c.fact 33 (f := .glo "BadSigns") rfl)
  have h_xi_BadSigns__TownError : XiK K "BadSigns" "TownError" := xiB_ok (x_xi ("BadSigns", "TownError") (by decide))
  have h_xi_BadSigns__ValueError : XiK K "BadSigns" "ValueError" := xiB_ok (x_xi ("BadSigns", "ValueError") (by decide))
  have h_d_law : DefK K mg "law" "law" st_law [] := ⟨c.def_ 0 (d := aDef "law" st_law []) rfl, g 69 rfl⟩
  have h_d_law_span : DefK K mg "_law_span" "_law_span" st_law_span [] := ⟨c.def_ 1 (d := aDef "_law_span" st_law_span []) rfl, g 70 rfl⟩
  have h_d_law_refused : DefK K mg "_law_refused" "_law_refused" st_law_refused [] := ⟨c.def_ 2 (d := aDef "_law_refused" st_law_refused []) rfl, g 71 rfl⟩
  have h_d_law_span_of : DefK K mg "_law_span_of" "_law_span_of" st_law_span_of [] := ⟨c.def_ 3 (d := aDef "_law_span_of" st_law_span_of []) rfl, g 48 rfl⟩
  have h_d_Signs_span : StaK K mg "Signs" "span" "Signs.span" (st_Signs 1) [] := ⟨c.def_ 4 (d := aSta "Signs" "span" "Signs.span" (st_Signs 1) []) rfl, smB_ok (x_rd "Signs" (by decide)) (x_sm ("Signs", "span") (by decide)), g 39 rfl⟩
  have h_d_is_signs : DefK K mg "is_signs" "is_signs" st_is_signs [] := ⟨c.def_ 5 (d := aDef "is_signs" st_is_signs []) rfl, g 72 rfl⟩
  have h_d_Signs_initX : ClsK K mg "Signs" "Signs.__init__" (st_Signs 0) [.str ""] := ⟨c.def_ 6 (d := aMet "Signs" "__init__" "Signs.__init__" (st_Signs 0) [.str ""]) rfl, He.mkr_ok (c.fact 73 (f := .mkr "Signs") rfl), g 39 rfl⟩
  have h_d_in_order : DefK K mg "in_order" "in_order" st_in_order [] := ⟨c.def_ 7 (d := aDef "in_order" st_in_order []) rfl, g 74 rfl⟩
  have h_d_law_or_in_place : DefK K mg "_law_or_in_place" "_law_or_in_place" st_law_or_in_place [] := ⟨c.def_ 8 (d := aDef "_law_or_in_place" st_law_or_in_place []) rfl, g 47 rfl⟩
  have h_d_Signs_ror : MethK K "Signs" "__ror__" "Signs.__ror__" (st_Signs 6) [] := ⟨c.def_ 9 (d := aMet "Signs" "__ror__" "Signs.__ror__" (st_Signs 6) []) rfl, He.cls_ok (c.fact 16 (f := .cls "Signs") rfl), He.meth_ok (c.fact 75 (f := .meth "Signs" "__ror__") rfl)⟩
  have h_d_held_signs : DefK K mg "held_signs" "held_signs" st_held_signs [] := ⟨c.def_ 10 (d := aDef "held_signs" st_held_signs []) rfl, g 76 rfl⟩
  have h_d_Signs_or : MethK K "Signs" "__or__" "Signs.__or__" (st_Signs 5) [] := ⟨c.def_ 11 (d := aMet "Signs" "__or__" "Signs.__or__" (st_Signs 5) []) rfl, He.cls_ok (c.fact 16 (f := .cls "Signs") rfl), He.meth_ok (c.fact 77 (f := .meth "Signs" "__or__") rfl)⟩
  have h_d_law_or : DefK K mg "_law_or" "_law_or" st_law_or [] := ⟨c.def_ 12 (d := aDef "_law_or" st_law_or []) rfl, g 46 rfl⟩
  have h_d_law_new : DefK K mg "_law_new" "_law_new" st_law_new [] := ⟨c.def_ 13 (d := aDef "_law_new" st_law_new []) rfl, g 45 rfl⟩
  have h_d_law_less : DefK K mg "_law_less" "_law_less" st_law_less [] := ⟨c.def_ 14 (d := aDef "_law_less" st_law_less []) rfl, g 44 rfl⟩
  have h_d_Signs_sub : MethK K "Signs" "__sub__" "Signs.__sub__" (st_Signs 9) [] := ⟨c.def_ 15 (d := aMet "Signs" "__sub__" "Signs.__sub__" (st_Signs 9) []) rfl, He.cls_ok (c.fact 16 (f := .cls "Signs") rfl), He.meth_ok (c.fact 78 (f := .meth "Signs" "__sub__") rfl)⟩
  have h_d_Signs_rsub : MethK K "Signs" "__rsub__" "Signs.__rsub__" (st_Signs 10) [] := ⟨c.def_ 16 (d := aMet "Signs" "__rsub__" "Signs.__rsub__" (st_Signs 10) []) rfl, He.cls_ok (c.fact 16 (f := .cls "Signs") rfl), He.meth_ok (c.fact 79 (f := .meth "Signs" "__rsub__") rfl)⟩
  have h_d_law_least_of : DefK K mg "_law_least_of" "_law_least_of" st_law_least_of [] := ⟨c.def_ 17 (d := aDef "_law_least_of" st_law_least_of []) rfl, g 43 rfl⟩
  have h_d_Signs_least : MethK K "Signs" "least" "Signs.least" (st_Signs 17) [] := ⟨c.def_ 18 (d := aMet "Signs" "least" "Signs.least" (st_Signs 17) []) rfl, He.cls_ok (c.fact 16 (f := .cls "Signs") rfl), He.meth_ok (c.fact 80 (f := .meth "Signs" "least") rfl)⟩
  have h_d_law_inside : DefK K mg "_law_inside" "_law_inside" st_law_inside [] := ⟨c.def_ 19 (d := aDef "_law_inside" st_law_inside []) rfl, g 42 rfl⟩
  have h_d_Signs_within : MethK K "Signs" "within" "Signs.within" (st_Signs 16) [] := ⟨c.def_ 20 (d := aMet "Signs" "within" "Signs.within" (st_Signs 16) []) rfl, He.cls_ok (c.fact 16 (f := .cls "Signs") rfl), He.meth_ok (c.fact 81 (f := .meth "Signs" "within") rfl)⟩
  have h_d_law_and : DefK K mg "_law_and" "_law_and" st_law_and [] := ⟨c.def_ 21 (d := aDef "_law_and" st_law_and []) rfl, g 41 rfl⟩
  have h_d_Signs_rand : MethK K "Signs" "__rand__" "Signs.__rand__" (st_Signs 8) [] := ⟨c.def_ 22 (d := aMet "Signs" "__rand__" "Signs.__rand__" (st_Signs 8) []) rfl, He.cls_ok (c.fact 16 (f := .cls "Signs") rfl), He.meth_ok (c.fact 82 (f := .meth "Signs" "__rand__") rfl)⟩
  have h_d_Signs_and : MethK K "Signs" "__and__" "Signs.__and__" (st_Signs 7) [] := ⟨c.def_ 23 (d := aMet "Signs" "__and__" "Signs.__and__" (st_Signs 7) []) rfl, He.cls_ok (c.fact 16 (f := .cls "Signs") rfl), He.meth_ok (c.fact 83 (f := .meth "Signs" "__and__") rfl)⟩
  have h_d_law_alphabet : DefK K mg "_law_alphabet" "_law_alphabet" st_law_alphabet [] := ⟨c.def_ 24 (d := aDef "_law_alphabet" st_law_alphabet []) rfl, g 84 rfl⟩
  have h_d_Signs_spelled : MethK K "Signs" "spelled" "Signs.spelled" (st_Signs 18) [] := ⟨c.def_ 25 (d := aMet "Signs" "spelled" "Signs.spelled" (st_Signs 18) []) rfl, He.cls_ok (c.fact 16 (f := .cls "Signs") rfl), He.meth_ok (c.fact 85 (f := .meth "Signs" "spelled") rfl)⟩
  have h_d_law_letters : DefK K mg "_law_letters" "_law_letters" st_law_letters [] := ⟨c.def_ 26 (d := aDef "_law_letters" st_law_letters []) rfl, g 86 rfl⟩
  have h_d_law_draw : DefK K mg "_law_draw" "_law_draw" st_law_draw [] := ⟨c.def_ 27 (d := aDef "_law_draw" st_law_draw []) rfl, g 87 rfl⟩
  have h_d_law_bad : DefK K mg "_law_bad" "_law_bad" st_law_bad [] := ⟨c.def_ 28 (d := aDef "_law_bad" st_law_bad []) rfl, g 88 rfl⟩
  have h_d_law_all_refused : DefK K mg "_law_all_refused" "_law_all_refused" st_law_all_refused [] := ⟨c.def_ 29 (d := aDef "_law_all_refused" st_law_all_refused []) rfl, g 89 rfl⟩
  have h_d_Signs_letters : StaK K mg "Signs" "letters" "Signs.letters" (st_Signs 2) [] := ⟨c.def_ 30 (d := aSta "Signs" "letters" "Signs.letters" (st_Signs 2) []) rfl, smB_ok (x_rd "Signs" (by decide)) (x_sm ("Signs", "letters") (by decide)), g 39 rfl⟩
  have h_d_Signs_digits : StaK K mg "Signs" "digits" "Signs.digits" (st_Signs 4) [] := ⟨c.def_ 31 (d := aSta "Signs" "digits" "Signs.digits" (st_Signs 4) []) rfl, smB_ok (x_rd "Signs" (by decide)) (x_sm ("Signs", "digits") (by decide)), g 39 rfl⟩
  have h_d_Signs_capitals : StaK K mg "Signs" "capitals" "Signs.capitals" (st_Signs 3) [] := ⟨c.def_ 32 (d := aSta "Signs" "capitals" "Signs.capitals" (st_Signs 3) []) rfl, smB_ok (x_rd "Signs" (by decide)) (x_sm ("Signs", "capitals") (by decide)), g 39 rfl⟩
  have h_d_Signs_eq : MethK K "Signs" "__eq__" "Signs.__eq__" (st_Signs 12) [] := ⟨c.def_ 33 (d := aMet "Signs" "__eq__" "Signs.__eq__" (st_Signs 12) []) rfl, He.cls_ok (c.fact 16 (f := .cls "Signs") rfl), He.meth_ok (c.fact 90 (f := .meth "Signs" "__eq__") rfl)⟩
  have h_d_Signs_containsO : MethK K "Signs" "__contains__" "Signs.__contains__" (st_Signs 13) [] := ⟨c.def_ 34 (d := aMet "Signs" "__contains__" "Signs.__contains__" (st_Signs 13) []) rfl, He.cls_ok (c.fact 16 (f := .cls "Signs") rfl), He.meth_ok (c.fact 91 (f := .meth "Signs" "__contains__") rfl)⟩
  have h_d_Maybe_init : ClsK K mg "Maybe" "Maybe.__init__" (st_Maybe 0) [] := ⟨c.def_ 35 (d := aMet "Maybe" "__init__" "Maybe.__init__" (st_Maybe 0) []) rfl, He.mkr_ok (c.fact 92 (f := .mkr "Maybe") rfl), g 38 rfl⟩
  have h_d_own_names : DefK K mg "own_names" "own_names" st_own_names [] := ⟨c.def_ 36 (d := aDef "own_names" st_own_names []) rfl, g 93 rfl⟩
  have h_d_joined_marks : DefK K mg "joined_marks" "joined_marks" st_joined_marks [] := ⟨c.def_ 37 (d := aDef "joined_marks" st_joined_marks []) rfl, g 94 rfl⟩
  have h_d_Mark_init : ClsK K mg "Mark" "Mark.__init__" (st_Mark 0) [] := ⟨c.def_ 38 (d := aMet "Mark" "__init__" "Mark.__init__" (st_Mark 0) []) rfl, He.mkr_ok (c.fact 95 (f := .mkr "Mark") rfl), g 37 rfl⟩
  have h_d_is_item : DefK K mg "is_item" "is_item" st_is_item [] := ⟨c.def_ 39 (d := aDef "is_item" st_is_item []) rfl, g 96 rfl⟩
  have h_d_depth_of : DefK K mg "depth_of" "depth_of" st_depth_of [] := ⟨c.def_ 40 (d := aDef "depth_of" st_depth_of []) rfl, g 97 rfl⟩
  have h_d_count_places : DefK K mg "count_places" "count_places" st_count_places [] := ⟨c.def_ 41 (d := aDef "count_places" st_count_places []) rfl, g 98 rfl⟩
  have h_d_kind_places : DefK K mg "kind_places" "kind_places" st_kind_places [] := ⟨c.def_ 42 (d := aDef "kind_places" st_kind_places []) rfl, g 99 rfl⟩
  have h_d_run_places : DefK K mg "run_places" "run_places" st_run_places [] := ⟨c.def_ 43 (d := aDef "run_places" st_run_places []) rfl, g 100 rfl⟩
  have h_d_Kind_alternatives : MethK K "Kind" "alternatives" "Kind.alternatives" (st_Kind 10) [] := ⟨c.def_ 44 (d := aMet "Kind" "alternatives" "Kind.alternatives" (st_Kind 10) []) rfl, He.cls_ok (c.fact 27 (f := .cls "Kind") rfl), He.meth_ok (c.fact 101 (f := .meth "Kind" "alternatives") rfl)⟩
  have h_d_Kind_run : StaK K mg "Kind" "run" "Kind.run" (st_Kind 1) [.int 1, .int 1] := ⟨c.def_ 45 (d := aSta "Kind" "run" "Kind.run" (st_Kind 1) [.int 1, .int 1]) rfl, smB_ok (x_rd "Kind" (by decide)) (x_sm ("Kind", "run") (by decide)), g 36 rfl⟩
  have h_d_run_signs : DefK K mg "run_signs" "run_signs" st_run_signs [] := ⟨c.def_ 46 (d := aDef "run_signs" st_run_signs []) rfl, g 102 rfl⟩
  have h_d_made_kind : DefK K mg "made_kind" "made_kind" st_made_kind [] := ⟨c.def_ 47 (d := aDef "made_kind" st_made_kind []) rfl, g 103 rfl⟩
  have h_d_Kind_init : ClsK K mg "Kind" "Kind.__init__" (st_Kind 0) [] := ⟨c.def_ 48 (d := aMet "Kind" "__init__" "Kind.__init__" (st_Kind 0) []) rfl, He.mkr_ok (c.fact 104 (f := .mkr "Kind") rfl), g 36 rfl⟩
  have h_d_is_number : DefK K mg "is_number" "is_number" st_is_number [.non] := ⟨c.def_ 49 (d := aDef "is_number" st_is_number [.non]) rfl, g 105 rfl⟩
  have h_d_Form_init : ClsK K mg "Form" "Form.__init__" (st_Form 0) [] := ⟨c.def_ 50 (d := aMet "Form" "__init__" "Form.__init__" (st_Form 0) []) rfl, He.mkr_ok (c.fact 106 (f := .mkr "Form") rfl), g 107 rfl⟩
  have h_d_form_layout : DefK K mg "form_layout" "form_layout" st_form_layout [] := ⟨c.def_ 51 (d := aDef "form_layout" st_form_layout []) rfl, g 108 rfl⟩
  have h_d_with_line : DefK K mg "with_line" "with_line" st_with_line [] := ⟨c.def_ 52 (d := aDef "with_line" st_with_line []) rfl, g 109 rfl⟩
  have h_d_row_piece : DefK K mg "row_piece" "row_piece" st_row_piece [] := ⟨c.def_ 53 (d := aDef "row_piece" st_row_piece []) rfl, g 110 rfl⟩
  have h_d_then : DefK K mg "then" "then" st_then [] := ⟨c.def_ 54 (d := aDef "then" st_then []) rfl, g 111 rfl⟩
  have h_d_nothing : DefK K mg "nothing" "nothing" st_nothing [] := ⟨c.def_ 55 (d := aDef "nothing" st_nothing []) rfl, g 112 rfl⟩
  have h_d_item_piece : DefK K mg "item_piece" "item_piece" st_item_piece [] := ⟨c.def_ 56 (d := aDef "item_piece" st_item_piece []) rfl, g 113 rfl⟩
  have h_d_mark_piece : DefK K mg "mark_piece" "mark_piece" st_mark_piece [] := ⟨c.def_ 57 (d := aDef "mark_piece" st_mark_piece []) rfl, g 114 rfl⟩
  have h_d_kind_piece : DefK K mg "kind_piece" "kind_piece" st_kind_piece [] := ⟨c.def_ 58 (d := aDef "kind_piece" st_kind_piece []) rfl, g 115 rfl⟩
  have h_d_row_of_runs : DefK K mg "row_of_runs" "row_of_runs" st_row_of_runs [] := ⟨c.def_ 59 (d := aDef "row_of_runs" st_row_of_runs []) rfl, g 116 rfl⟩
  have h_d_run_piece : DefK K mg "run_piece" "run_piece" st_run_piece [] := ⟨c.def_ 60 (d := aDef "run_piece" st_run_piece []) rfl, g 117 rfl⟩
  have h_d_Layout_init : ClsK K mg "Layout" "Layout.__init__" (st_Layout 0) [] := ⟨c.def_ 61 (d := aMet "Layout" "__init__" "Layout.__init__" (st_Layout 0) []) rfl, He.mkr_ok (c.fact 118 (f := .mkr "Layout") rfl), g 119 rfl⟩
  have h_d_followers : DefK K mg "followers" "followers" st_followers [] := ⟨c.def_ 62 (d := aDef "followers" st_followers []) rfl, g 120 rfl⟩
  have h_d_checked_lines : DefK K mg "checked_lines" "checked_lines" st_checked_lines [] := ⟨c.def_ 63 (d := aDef "checked_lines" st_checked_lines []) rfl, g 121 rfl⟩
  have h_d_names_in : DefK K mg "names_in" "names_in" st_names_in [] := ⟨c.def_ 64 (d := aDef "names_in" st_names_in []) rfl, g 122 rfl⟩
  have h_d_line_places : DefK K mg "line_places" "line_places" st_line_places [] := ⟨c.def_ 65 (d := aDef "line_places" st_line_places []) rfl, g 123 rfl⟩
  have h_d_is_line : DefK K mg "is_line" "is_line" st_is_line [] := ⟨c.def_ 66 (d := aDef "is_line" st_is_line []) rfl, g 124 rfl⟩
  have h_d_Field_init : ClsK K mg "Field" "Field.__init__" (st_Field 0) [] := ⟨c.def_ 67 (d := aMet "Field" "__init__" "Field.__init__" (st_Field 0) []) rfl, He.mkr_ok (c.fact 125 (f := .mkr "Field") rfl), g 35 rfl⟩
  have h_d_is_name : DefK K mg "is_name" "is_name" st_is_name [] := ⟨c.def_ 68 (d := aDef "is_name" st_is_name []) rfl, g 126 rfl⟩
  have h_d_Kind_has_empty : ProK K "Kind" "has_empty" "Kind.has_empty" (st_Kind 9) := ⟨c.def_ 69 (d := aPro "Kind" "has_empty" "Kind.has_empty" (st_Kind 9)) rfl, He.cls_ok (c.fact 27 (f := .cls "Kind") rfl), prB_ok (x_pr ("Kind", "has_empty") (by decide))⟩
  have V : Env PL w K mg base := ⟨h_isi, h_em, h_c_ALPHABET, h_c_FIGURES, h_c_LOWER, h_c_MOST_DEPTH, h_c_MOST_FIELDS, h_c_MOST_LINES, h_c_MOST_PLACES_items, h_c_MOST_PLACES_kinds, h_c_MOST_PLACES_spelling, h_c_MOST_ROWS, h_c_UPPER, h_f_begins, h_f_blank, h_f_finishes, h_f_follows, h_f_held, h_f_kind, h_f_layout, h_f_lines, h_f_name, h_f_names_at, h_f_parts, h_f_rows, h_f_signs_at, h_f_text, h_g_BadKind, h_g_BadSigns, h_g_BadText, h_g_Field, h_g_Kind, h_g_Mark, h_g_Maybe, h_g_Signs, h_g_TownError, h_g_law_and, h_g_law_inside, h_g_law_least_of, h_g_law_less, h_g_law_new, h_g_law_or, h_g_law_or_in_place, h_g_law_span_of, h_m_ValueError, h_m_bool, h_m_enumerate, h_m_int, h_m_isinstance, h_m_len, h_m_list, h_m_max, h_m_min, h_m_range, h_m_sorted, h_m_str, h_m_sum, h_m_tuple, h_ne_Signs__Field_Mark_Maybe_Form_Kind, h_ni_Signs__ior, h_np_Signs__Field_Mark_Maybe_Form, h_sub_Signs, h_top_Signs, h_x_BadForm, h_x_BadItem, h_x_BadKind, h_x_BadName, h_x_BadSigns, h_xi_BadSigns__TownError, h_xi_BadSigns__ValueError, h_d_law, h_d_law_span, h_d_law_refused, h_d_law_span_of, h_d_Signs_span, h_d_is_signs, h_d_Signs_initX, h_d_in_order, h_d_law_or_in_place, h_d_Signs_ror, h_d_held_signs, h_d_Signs_or, h_d_law_or, h_d_law_new, h_d_law_less, h_d_Signs_sub, h_d_Signs_rsub, h_d_law_least_of, h_d_Signs_least, h_d_law_inside, h_d_Signs_within, h_d_law_and, h_d_Signs_rand, h_d_Signs_and, h_d_law_alphabet, h_d_Signs_spelled, h_d_law_letters, h_d_law_draw, h_d_law_bad, h_d_law_all_refused, h_d_Signs_letters, h_d_Signs_digits, h_d_Signs_capitals, h_d_Signs_eq, h_d_Signs_containsO, h_d_Maybe_init, h_d_own_names, h_d_joined_marks, h_d_Mark_init, h_d_is_item, h_d_depth_of, h_d_count_places, h_d_kind_places, h_d_run_places, h_d_Kind_alternatives, h_d_Kind_run, h_d_run_signs, h_d_made_kind, h_d_Kind_init, h_d_is_number, h_d_Form_init, h_d_form_layout, h_d_with_line, h_d_row_piece, h_d_then, h_d_nothing, h_d_item_piece, h_d_mark_piece, h_d_kind_piece, h_d_row_of_runs, h_d_run_piece, h_d_Layout_init, h_d_followers, h_d_checked_lines, h_d_names_in, h_d_line_places, h_d_is_line, h_d_Field_init, h_d_is_name, h_d_Kind_has_empty⟩
  obtain ⟨fdB, FB⟩ := c.def_ 70 (d := aDef "_law_bag" st_law_bag []) rfl
  exact ok_law V (ok_bag V.m_list FB) (g 127 rfl) FB.kp (FB.bindsN fun _ _ _ _ _ _ us hl => match us, hl with | [_], _ => rfl) F
end Tw
open PySem PySem.W PySem.Calls PyProof.Rows
theorem PySem.Challenge.cw_townlines_k02_signs_refuse_holds : PySem.Challenge.rw_townlines_k02_signs_refuse.Holds := by
  w_on; o_law
  refine HandSHeadRun.head_any (r := Tw.RL) (q := view Tw.RL.prog [103]) (H := Tw.hkL) (ob := Tw.obL) (M := 30000) (loose := Tw.looseL) (d := HandSHeadRun.topDef Tw.RL.prog 103) (kwd := []) Tw.obL_eq (by kernel_rfl) (fun s => by kernel_rfl) Tw.runL (by kernel_rfl) (by kernel_rfl) (by kernel_rfl) (by rfl) (by first | assumption | decide +kernel) (by decide +kernel) ⟨rfl, rfl, rfl, rfl, rfl, by decide +kernel⟩ ?hw ?hc
  case hw => w_witness2
  case hc =>
    refine Tl.walk_w (law := PySem.Challenge.rw_townlines_k02_signs_refuse) (most := 63) (k := 17) (x := "_law_script") rfl (by decide) (by kernel_rfl) ⟨rfl, by decide, by decide⟩ ?F
    intro w mg f h Y G hmg0
    obtain ⟨K, KX, S⟩ := Y
    have hmg : mg ("law" : PySem.Str) = some (.ref f) := by
      have e : (HandSHeadRun.topDef Tw.RL.prog 103).name = ("law" : PySem.Str) := by kernel_rfl
      rw [← e]
      exact hmg0
    obtain ⟨fd, hb, hF⟩ := Tw.factsL (w := w) KX G hmg S
    exact ⟨K, fd, KX, hb, Nat.le_refl _, hF⟩
end
