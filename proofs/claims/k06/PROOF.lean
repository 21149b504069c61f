import PyProof.Rows.All
import Wide.All
import OpenK.AllK
import Wide.FinOn
import HandS.ForMost
import HandS.Exc
import HandS.ExcOwn
import HandS.WordsExc
import HandS.CallSlots
import HandS.Defaults
import HandS.Head0
import HandS.Head1
import HandS.Head2
import HandS.HeadEnd
import HandS.HeadHook1
import HandS.HeadHook2
import HandS.ExcCtx
import HandS.Lambda
import KE.KDictKeyed
import KE.KDictItemsList
import KE.KeyNested
import HandS.Wide
import HandS.TupAny
import HandS.TupMul
import HandS.IsInst
import HandS.Flow
import HandS.TryOnly
import HandS.ExcInit
import HandS.ExcIs
import KE.KExcInit
import HandS.Small
import HandS.ExcValue
import HandS.ExcField
import PyProof.ReprRoads
import KE.KExcIs
import KE.KNestM
import HandS.MakeKw
import HandS.MakeKwOnly
import HandS.Property
import KE.KOpsOwn
import KE.KCallOwn
import KE.KFmtOwn
import PyProof.InstNe
import HandS.FStr
import HandS.StrMore
import HandS.RaiseMore
import OpenK.KOps
import HandS.Star
import KE.DataMinMax
import HandS.Flt
import PyProof.Rows.StrMeet
import PyProof.Rows.SortStr
import PyProof.Rows.SetFrom
import PyProof.SetKind
import HandS.Set
import HandS.Strs
import HandS.SetBool
import PyProof.Draws
import HandS.Iter
import HandS.Style
import HandS.HotCalls
import KE.KTryMore
import KE.Datum
import KE.DatumIndex
import HandS.ExcInitHot
import PyProof.MaxThree
import HandS.Zip
import HandS.Sort
import HandS.GenList
import HandS.Conv
import OpenK.KWalk
import PyProof.ReprHeads
import PyProof.ReprHeadsTuple
import HandS.DictTup
import HandS.ListItems
import KE.KDictDisplayH
import KE.KDictWalk
import KE.KDictCopyH
import KE.SortKeyHeap
import HandS.SortKw
import HandS.TupLen
import PyProof.SetRoads
import PyProof.DictWalks
import PyProof.DictDisplay
import HandS.DictComp
import HandS.TupSets
import KE.SortData
import KE.KTupSum
import HandS.Text
import HandS.ReplaceLit
import KE.KAssignIn
import PyProof.StrReplace2
import PySem.Challenge.RW_evenkeeps_k06_ratios_refused
import HandS.Hot
import PyProof.StrLawsTight
import PyProof.StrLawsChain
import PyProof.StrLawsFirst
set_option Elab.async false
set_option linter.all false
set_option maxRecDepth 100000
set_option maxHeartbeats 0
/-! MH: what the head asks. -/
namespace M
open PySem PySem.Spec PyProof.Rows L2
open He (eqO eqO_ok ba)
section
variable {n : Nat} {B : PySem.W.Frag → Bool} {fa : List He.Fa} {fn : List He.DefD} {K : PySem.W.Frag}
/-- own classes, then the base's mro -/
def over (tail : List Value) : List Value → Bool
  | .ref _ :: r => over tail r
  | l => l == tail
inductive Tg where
  | ty (n : String)
  | own (C : Str)
  deriving DecidableEq
def Tg.val (g : Str → Addr) : Tg → Value
  | .ty n => .type n
  | .own C => .ref (g C)
/-- a family of exceptions -/
inductive Fam where
  | v | l | r
  deriving DecidableEq
def Fam.nm : Fam → String
  | .v => "ValueError"
  | .l => "LookupError"
  | .r => "RuntimeError"
def Fam.new : Fam → String
  | .v => "ValueError.__new__"
  | .l => "LookupError.__new__"
  | .r => "RuntimeError.__new__"
def Fam.ini : Fam → String
  | .v => "ValueError.__init__"
  | .l => "LookupError.__init__"
  | .r => "RuntimeError.__init__"
def Fam.tail (f : Fam) : List Value := [.type f.nm, .type "Exception", .type "BaseException", .type "object"]
/-- the class object -/
def xclsB (K : PySem.W.Frag) (f : Fam) (C : Addr) : Bool := match K.lookup C with
  | some ⟨.type t, _, .cls cd, sl⟩ => (match cd.mro, sl.toList with
    | .ref c1 :: bm, [_, _, _, _, some (.builtin n), _] => decide (t = "type") && (decide (c1 = C) && (decide (n = f.new) && (!cd.hasDel && (cd.hasDict && over f.tail bm))))
    | _, _ => false)
  | _ => false
def xcB (K : PySem.W.Frag) (f : Fam) (C : Addr) : Bool := xclsB K f C && (eqO (PySem.W.findIn K (.ref C) "__setattr__") (some (some (.builtin "object.__setattr__"))) && (decide (PySem.W.subIn K (.ref C) (.type "BaseException") = some true) && (decide (PySem.W.typeIn K (.ref C) = some (.type "type")) && PySem.W.keepIn K (.ref C))))
/-- isinstance, fields -/
def xfAll (K : PySem.W.Frag) (C : Addr) : Bool := xfB K C && ((PySem.W.clsIn K C).isSome && (eqO (PySem.W.findIn K (.ref C) "__class__") (some (some (.builtin "object.__class__"))) && (eqO (PySem.W.specialIn K (.builtin "object.__class__") "__get__") (some (some (.builtin "getset_descriptor.__get__"))) && (decide (PySem.W.takesIn K (.builtin "object.__class__") = some true) && decide (PySem.W.mroIn K C (.type "object") = some true)))))
/-- an own exception class: its name, family, the fields of its __init__ (none: it has none) -/
structure XD where
  nm : Str
  fam : Fam
  fs : Option (List Str)
def XD.ok (K : PySem.W.Frag) (d : XD) : Bool := xfAll K (He.ga K d.nm) && (match d.fs with
  | none => PySem.W.excIn K (He.ga K d.nm) d.fam.tail d.fam.new && PySem.W.keepIn K (.ref (He.ga K d.nm))
  | some fs => xcB K d.fam (He.ga K d.nm) && (fs.all (fun f => eqO (PySem.W.findIn K (.ref (He.ga K d.nm)) f) (some none)) && (eqO (PySem.W.findIn K (.ref (He.ga K d.nm)) "__init__") (some (some (.ref (He.ma K (He.ga K d.nm) "__init__")))) && decide (PySem.W.typeIn K (.ref (He.ma K (He.ga K d.nm) "__init__")) = some (.type "function")))))
/-- isinstance's table -/
def isaB (K : PySem.W.Frag) (q : Tg × Tg × Bool) : Bool := decide (PySem.W.kitOne K (q.1.val (He.ga K)) (q.2.1.val (He.ga K)) = some q.2.2)
def isaT (tb : List (Tg × Tg × Bool)) (t c : Tg) : Option Bool := (tb.find? fun q => decide (q.1 = t) && decide (q.2.1 = c)).map fun q => q.2.2
/-- a def's code object, its table of code objects -/
def tcA (K : PySem.W.Frag) (x : Str) : Addr := match PySem.W.tabIn K x with
  | some (c, _) => c
  | none => 0
def ttA (K : PySem.W.Frag) (x : Str) : Addr := match PySem.W.tabIn K x with
  | some (_, p) => p
  | none => 0
/-- isinstance of its instances -/
def insB (K : PySem.W.Frag) (x : Str) : Bool := (He.Fa.cls x).ok K && (eqO (PySem.W.findIn K (.ref (He.ga K x)) "__class__") (some (some (.builtin "object.__class__"))) && (eqO (PySem.W.specialIn K (.builtin "object.__class__") "__get__") (some (some (.builtin "getset_descriptor.__get__"))) &&
  (decide (PySem.W.takesIn K (.builtin "object.__class__") = some true) && decide (PySem.W.mroIn K (He.ga K x) (.type "object") = some true))))
/-- its own __eq__ -/
def eqcB (K : PySem.W.Frag) (x : Str) (ts : List String) : Bool := eqO (PySem.W.findIn K (.ref (He.ga K x)) "__eq__") (some (some (.ref (He.ma K (He.ga K x) "__eq__")))) && (PySem.W.isFn K (.ref (He.ma K (He.ga K x) "__eq__")) && (eqO (PySem.W.findIn K (.ref (He.ga K x)) "__ne__") (some (some (.builtin "object.__ne__"))) &&
  (decide (PySem.W.mroIn K (He.ga K x) (.type "object") = some true) && ts.all fun t => decide (PySem.W.subIn K (.type t) (.ref (He.ga K x)) = some false))))
/-- str(o), repr(o) by own methods -/
def slotB (K : PySem.W.Frag) (x m : Str) : Bool := eqO (PySem.W.findIn K (.ref (He.ga K x)) m) (some (some (.ref (He.ma K (He.ga K x) m)))) && PySem.W.isFn K (.ref (He.ma K (He.ga K x) m))
/-- a property's object, its getter -/
def ppA (K : PySem.W.Frag) (x f : Str) : Addr := He.ma K (He.ga K x) f
def pgA (K : PySem.W.Frag) (x f : Str) : Addr := match PySem.W.recIn K (ppA K x f) "property" with
  | some (.ref g :: _) => g
  | _ => 0
def isRef (g : Addr) : Option (List Value) → Bool
  | some (.ref a :: _) => decide (a = g)
  | _ => false
def propB (K : PySem.W.Frag) (x f : Str) : Bool := eqO (PySem.W.findIn K (.ref (He.ga K x)) f) (some (some (.ref (ppA K x f)))) && (eqO (PySem.W.specialIn K (.ref (ppA K x f)) "__get__") (some (some (.builtin "property.__get__"))) && (decide (PySem.W.takesIn K (.ref (ppA K x f)) = some true) &&
  isRef (pgA K x f) (PySem.W.recIn K (ppA K x f) "property")))
/-- a staticmethod's record, its def -/
def sfA (K : PySem.W.Frag) (x f : Str) : Addr := match PySem.W.recIn K (ppA K x f) "staticmethod" with
  | some (.ref g :: _) => g
  | _ => 0
def statB (K : PySem.W.Frag) (x f : Str) : Bool := PySem.W.readsIn K (He.ga K x) (.type "type") && (eqO (PySem.W.specialIn K (.ref (He.ga K x)) "__getattribute__") (some (some (.builtin "type.__getattribute__"))) && ((match PySem.W.findCls K (.ref (He.ga K x)) (.type "type") f with
  | some (.get (.builtin g) (.ref p) .none (.ref D)) => decide (g = "staticmethod.__get__") && (decide (p = ppA K x f) && decide (D = He.ga K x))
  | _ => false) && isRef (sfA K x f) (PySem.W.recIn K (ppA K x f) "staticmethod")))
/-- a property's getter, a staticmethod's def -/
structure PD where
  stat : Bool
  cls : Str
  fld : Str
  name : Str
  qual : Str
  params : Arguments
  body : List Stmt
  scope : Scope
def fnA (K : PySem.W.Frag) (a : Addr) : He.FnW := match K.lookup a with
  | some ⟨_, _, .func fd, _⟩ => some (fd.name, fd.qualname, fd.params, fd.body, fd.scope, fd.globals, fd.closure, fd.builtins)
  | _ => none
def PD.val (d : PD) : He.FnW := some (d.name, d.qual, d.params, .stmts d.body, d.scope, mainGlobals, [], builtinsNs)
def PD.adr (K : PySem.W.Frag) (d : PD) : Addr := if d.stat = true then sfA K d.cls d.fld else pgA K d.cls d.fld
def PD.ok (K : PySem.W.Frag) (d : PD) : Bool := (if d.stat = true then statB K d.cls d.fld else propB K d.cls d.fld) && (PySem.W.keepIn K (.ref (d.adr K)) && (match K.lookup (d.adr K) with
  | some ⟨_, _, .func fd, _⟩ => PySem.W.codeIn K fd.code d.qual && (He.dflB K fd.defaults [] && He.kwdB K fd.kwdefaults [])
  | _ => false))
abbrev AlP : Type := Bool × He.AlD × List He.FnW
def obsP (B : PySem.W.Frag → Bool) (fa : List He.Fa) (fn : List He.DefD) (pd : List PD) (K : PySem.W.Frag) : AlP := (B K && pd.all (fun d => d.ok K), He.obsD fa fn K, pd.map fun d => fnA K (d.adr K))
def valP (fn : List He.DefD) (pd : List PD) : AlP := (true, He.valD fn, pd.map PD.val)
def SaysP (B : PySem.W.Frag → Bool) (fa : List He.Fa) (fn : List He.DefD) (pd : List PD) (K : PySem.W.Frag) : Prop := obsP B fa fn pd K = valP fn pd
/-- what the head explores of an object -/
def kidsO (o : Obj) : List Addr := match o.data with
  | .seq its _ => its.toList.flatMap He.refV
  | .dict es _ => es.toList.flatMap fun e => He.refV e.val
  | .func fd => He.refV fd.code ++ (He.refV fd.defaults ++ He.refV fd.kwdefaults)
  | .cls cd => [cd.ns]
  | .fields vs => if vs.toList.length < 12 then vs.toList.flatMap He.refV else []
  | _ => []
def kidsG (g : Addr → Option Obj) : List Addr → List Addr
  | [] => []
  | a :: r => match g a with
    | some o => kidsO o ++ kidsG g r
    | none => kidsG g r
/-- what the module's names reach, layer by layer (never compared: cheap in the kernel) -/
def asL (g : Addr → Option Obj) : Nat → List Addr → List Addr
  | 0, l => l
  | n + 1, l => l ++ asL g n (kidsG g l)
def obsPG (n : Nat) (B : PySem.W.Frag → Bool) (fa : List He.Fa) (fn : List He.DefD) (pd : List PD) (g : Addr → Option Obj) : AlP := obsP B fa fn pd (He.frG g (asL g n [mainGlobals] ++ [cStatics]))
def hookP (n : Nat) (B : PySem.W.Frag → Bool) (fa : List He.Fa) (fn : List He.DefD) (pd : List PD) : PySem.W.Hook where
  α := AlP
  obs := fun s => obsPG n B fa fn pd s.heap.get?
  val := fun _ => valP fn pd
  says := fun _ h => ∃ K : PySem.W.Frag, K.In h ∧ SaysP B fa fn pd K
  of := fun _ _ e => ⟨_, He.frG_in, e⟩
  keeps := fun _ _ _ ⟨K, hK, c⟩ k => ⟨K, PySem.W.Frag.In.keeps hK k, c⟩
variable {pd : List PD}
theorem obsPG_eq {g : Addr → Option Obj} {s : Shared} (h : ∀ a, g a = s.heap.get? a) : obsPG n B fa fn pd g = (hookP n B fa fn pd).obs s := by
  have e : g = s.heap.get? := funext h
  rw [e] <;> rfl
/-- what the classes of an except clause say, by name -/
def exmB (K : PySem.W.Frag) (cs : List Str) (q : Str × Bool) : Bool := decide (PySem.W.exmAny K (.ref (He.ga K q.1)) (cs.map fun c => Value.ref (He.ga K c)) = some q.2)
def exmT (tb : List (Str × Bool)) (C : Str) : Option Bool := tb.lookup C
/-- what the head says of a maker: it has a table, which nobody knows -/
def tabB (K : PySem.W.Frag) (x : Str) : Bool := match PySem.W.tabIn K x with
  | some (_, p) => (K.lookup p).isNone && (match PySem.W.nsIn K mainGlobals x with
    | some (some (.ref f)) => decide (f = He.ga K x)
    | _ => false)
  | none => false
def binB (K : PySem.W.Frag) (x m r : Str) (ts : List String) : Bool := PySem.W.selfFirst K (He.ga K x) && (slotB K x m && ((match PySem.W.findIn K (.ref (He.ga K x)) r with
  | some none => true
  | some (some (.ref _)) => true
  | _ => false) && ts.all fun t => decide (PySem.W.subIn K (.type t) (.ref (He.ga K x)) = some false)))
def binRB (K : PySem.W.Frag) (x m r : Str) : Bool := PySem.W.selfFirst K (He.ga K x) && (slotB K x m && (slotB K x r && decide (PySem.W.subIn K (.ref (He.ga K x)) (.type "bool") = some false)))
def methB (K : PySem.W.Frag) (x m : Str) : Bool := slotB K x m && PySem.W.keepIn K (.ref (He.ma K (He.ga K x) m))
def callB (K : PySem.W.Frag) (x : Str) : Bool := slotB K x "__call__" && PySem.W.fnIn K (He.ma K (He.ga K x) "__call__")
def fmtB (K : PySem.W.Frag) (x : Str) : Bool := eqO (PySem.W.findIn K (.ref (He.ga K x)) "__format__") (some (some (.builtin "object.__format__"))) && decide (PySem.W.mroIn K (He.ga K x) (.type "object") = some true)
def xr0B (K : PySem.W.Frag) (x : Str) : Bool := decide (PySem.W.subIn K (.ref (He.ga K x)) (.type "BaseException") = some true) && decide (PySem.W.typeIn K (.ref (He.ga K x)) = some (.type "type"))
end
end M
/-! tables -/
namespace M
open PySem
def tl_Ratio : List (Tg × Tg × Bool) := [(.ty "str", .own "Ratio", false), (.ty "tuple", .own "Ratio", false), (.ty "list", .own "Ratio", false), (.ty "NoneType", .own "Ratio", false), (.ty "int", .own "Ratio", false), (.ty "bool", .own "Ratio", false), (.ty "dict", .own "Ratio", false), (.own "Ratio", .own "Ratio", true)]
def tl_bool : List (Tg × Tg × Bool) := [(.ty "str", .ty "bool", false), (.ty "tuple", .ty "bool", false), (.ty "list", .ty "bool", false), (.ty "NoneType", .ty "bool", false), (.ty "int", .ty "bool", false), (.ty "bool", .ty "bool", true), (.ty "dict", .ty "bool", false), (.own "Ratio", .ty "bool", false)]
def tl_int : List (Tg × Tg × Bool) := [(.ty "str", .ty "int", false), (.ty "tuple", .ty "int", false), (.ty "list", .ty "int", false), (.ty "NoneType", .ty "int", false), (.ty "int", .ty "int", true), (.ty "bool", .ty "int", true), (.ty "dict", .ty "int", false), (.own "Ratio", .ty "int", false)]
def tl_str : List (Tg × Tg × Bool) := [(.ty "str", .ty "str", true), (.ty "tuple", .ty "str", false), (.ty "list", .ty "str", false), (.ty "NoneType", .ty "str", false), (.ty "int", .ty "str", false), (.ty "bool", .ty "str", false), (.ty "dict", .ty "str", false), (.own "Ratio", .ty "str", false)]
def tl_tuple : List (Tg × Tg × Bool) := [(.ty "str", .ty "tuple", false), (.ty "tuple", .ty "tuple", true), (.ty "list", .ty "tuple", false), (.ty "NoneType", .ty "tuple", false), (.ty "int", .ty "tuple", false), (.ty "bool", .ty "tuple", false), (.ty "dict", .ty "tuple", false), (.own "Ratio", .ty "tuple", false)]
def tx__law_told_0 : List (Str × Bool) := [("InvalidText", false), ("NotARatio", false), ("ZeroBelow", false), ("InvalidCount", true)]
def tx__law_told_1 : List (Str × Bool) := [("InvalidText", false), ("NotARatio", true), ("ZeroBelow", false), ("InvalidCount", false)]
def tx__law_told_2 : List (Str × Bool) := [("InvalidText", true), ("NotARatio", false), ("ZeroBelow", false), ("InvalidCount", false)]
def tx__law_told_3 : List (Str × Bool) := [("InvalidText", false), ("NotARatio", false), ("ZeroBelow", true), ("InvalidCount", false)]
def tx__law_told_4 : List (Str × Bool) := [("InvalidText", false), ("NotARatio", false), ("ZeroBelow", false), ("InvalidCount", false)]
def fl_k06 (f : Str) : List Str := if f = "value" then ["InvalidText", "NotARatio", "InvalidCount"] else []
end M
/-! the run of the top -/
namespace M
noncomputable section
open PySem PySem.Spec PyProof.Rows L2
def top (i : Nat) : Stmt := PySem.Challenge.pw_evenkeeps_k06_ratios_refused.main.body.getD i (.Pass ⟨0, 0, 0, 0⟩)
def inCls (st : Stmt) (j : Nat) : Stmt := match st with
  | .ClassDef _ _ _ b _ _ _ _ _ _ _ => b.getD j (.Pass ⟨0, 0, 0, 0⟩)
  | s => s
abbrev dF (x : Str) (i : Nat) : He.DefD := ⟨(x, none), x, x, defArgs (top i), defBody (top i), defScope (top i), [], []⟩
abbrev dM (c m q : Str) (i j : Nat) : He.DefD := ⟨(c, some m), m, q, defArgs (inCls (top i) j), defBody (inCls (top i) j), defScope (inCls (top i) j), [], []⟩
def dfA (x m : Str) (i : Nat) (K : PySem.W.Frag) : Addr := match K.lookup (He.ma K (He.ga K x) m) with
  | some ⟨_, _, .func fd, _⟩ => (match fd.defaults with
    | .ref T => (match K.lookup T with
      | some ⟨_, _, .seq its _, _⟩ => (match its[i]? with
        | some (.ref a) => a
        | _ => 0)
      | _ => 0)
    | _ => 0)
  | _ => 0
abbrev dP (st : Bool) (c m q : Str) (i j : Nat) : PD := ⟨st, c, m, m, q, defArgs (inCls (top i) j), defBody (inCls (top i) j), defScope (inCls (top i) j)⟩
def fn_ : List He.DefD := [dF "is_whole" 12, dM "Ratio" "__call__" "Ratio.__call__" 28 11, dM "Ratio" "__eq__" "Ratio.__eq__" 28 14, dF "is_row" 24, dF "divisor_of" 13, dF "plain" 18, dF "trimmed" 15, dF "row_sum" 16, dF "rest_of" 19, dF "common_row" 20, dF "quotient" 21, dF "lowest" 25, ⟨("Ratio", some "__init__"), "__init__", "Ratio.__init__", defArgs (inCls (top 28) 0), defBody (inCls (top 28) 0), defScope (inCls (top 28) 0), [.adr (dfA "Ratio" "__init__" 0)], []⟩, dM "Ratio" "__pow__" "Ratio.__pow__" 28 9, dF "power_text" 26, dF "row_text" 27, dM "Ratio" "__str__" "Ratio.__str__" 28 15, dM "Ratio" "__repr__" "Ratio.__repr__" 28 16, dF "ratio_of" 29, dF "row_product" 17, dM "Ratio" "__sub__" "Ratio.__sub__" 28 4, dM "Ratio" "later" "Ratio.later" 28 12, dM "Ratio" "over" "Ratio.over" 28 10, dF "is_digits" 32, dF "term_in" 33, dF "row_in" 31, dF "ratio_in" 30, dF "_law_dip" 36, dF "_law_any" 37, dM "Ratio" "__add__" "Ratio.__add__" 28 2, dM "Ratio" "__mul__" "Ratio.__mul__" 28 6, dM "Ratio" "__radd__" "Ratio.__radd__" 28 3, dM "Ratio" "__rsub__" "Ratio.__rsub__" 28 5, dF "_law_told" 38, dF "_law_signs_right" 39, dF "_law_right" 40, dF "_law_well" 35, dF "law" 41, dM "InvalidText" "__init__" "InvalidText.__init__" 3 0, dM "NotARatio" "__init__" "NotARatio.__init__" 4 0, dM "InvalidCount" "__init__" "InvalidCount.__init__" 5 0]
def xd_ : List XD := [⟨"InvalidText", .v, some ["value"]⟩, ⟨"NotARatio", .v, some ["value"]⟩, ⟨"ZeroBelow", .r, none⟩, ⟨"InvalidCount", .v, some ["value"]⟩]
def pd_ : List PD := [dP true "Ratio" "read" "Ratio.read" 28 1]
def mk_ : List (Str × Str) := [("_law_right", "_law_right.<locals>.<lambda>"), ("_law_signs_right", "_law_signs_right.<locals>.<lambda>")]
def fa_ : List He.Fa := [.glo "Gap", .glo "InvalidCount", .glo "InvalidText", .glo "NotARatio", .glo "Ratio", .glo "ZeroBelow", .glo "_law_any", .glo "_law_dip", .glo "_law_right", .glo "_law_signs_right", .glo "_law_told", .glo "_law_well", .glo "common_row", .glo "divisor_of", .glo "is_digits", .glo "is_row", .glo "is_whole", .glo "lowest", .glo "plain", .glo "power_text", .glo "quotient", .glo "ratio_in", .glo "ratio_of", .glo "rest_of", .glo "row_in", .glo "row_product", .glo "row_sum", .glo "row_text", .glo "term_in", .glo "trimmed", .free "abs", .free "all", .free "bool", .free "enumerate", .free "int", .free "isinstance", .free "len", .free "list", .free "max", .free "min", .free "range", .free "repr", .free "str", .free "tuple", .free "zip", .int "MOST_LATER" 20, .int "MOST_POWER" 6, .glo "law", .mkr "Ratio", .cls "Ratio", .noat "Ratio" "bottom", .noat "Ratio" "top"]
def bs_ (K : PySem.W.Frag) : List Bool := [insB K "Ratio", tabB K "_law_right", tabB K "_law_signs_right", decide ((mk_.map fun p => ttA K p.1).Nodup), eqcB K "Ratio" ["str", "tuple", "list", "NoneType", "int", "bool", "dict"], slotB K "Ratio" "__str__", slotB K "Ratio" "__repr__", tl_Ratio.all (isaB K), tl_bool.all (isaB K), tl_int.all (isaB K), tl_str.all (isaB K), tl_tuple.all (isaB K), xd_.all (fun d => d.ok K), xr0B K "ZeroBelow", binB K "Ratio" "__add__" "__radd__" ["str", "tuple", "list", "NoneType", "bool", "dict"], binB K "Ratio" "__mul__" "__rmul__" ["str", "tuple", "list", "NoneType", "bool", "dict"], binB K "Ratio" "__pow__" "__rpow__" ["int"], binB K "Ratio" "__sub__" "__rsub__" ["str", "tuple", "list", "NoneType", "bool", "dict"], binRB K "Ratio" "__add__" "__radd__", binRB K "Ratio" "__sub__" "__rsub__", methB K "Ratio" "later", methB K "Ratio" "over", callB K "Ratio", fmtB K "Ratio", tx__law_told_0.all (exmB K ["InvalidCount"]), tx__law_told_1.all (exmB K ["NotARatio"]), tx__law_told_2.all (exmB K ["InvalidText"]), tx__law_told_3.all (exmB K ["ZeroBelow"]), tx__law_told_4.all (exmB K ["Gap"])]
def bB_ (K : PySem.W.Frag) : Bool := (bs_ K).all id
end
noncomputable section
open PySem PySem.W PySem.Calls PyProof.Rows
abbrev R_ : OpenRow := OpenLaw.row PySem.Challenge.rw_evenkeeps_k06_ratios_refused
abbrev qv_ : Program := view R_.prog [39, 40, 41]
def names_ : List PySem.Str := (["TextError", "KeepError", "InvalidText", "NotARatio", "InvalidCount", "ZeroBelow", "Gap", "MOST_POWER", "MOST_LATER", "MOST_READ", "is_whole", "divisor_of", "fraction", "trimmed", "row_sum", "row_product", "plain", "rest_of", "common_row", "quotient", "value_at", "moved", "is_row", "lowest", "power_text", "row_text", "Ratio", "ratio_of", "ratio_in", "row_in"] : List PySem.Str) ++ (["is_digits", "term_in", "_law_well", "_law_dip", "_law_any", "_law_told"] : List PySem.Str)
abbrev hk_ : PySem.W.Hook := hookP 6 bB_ fa_ fn_ pd_
def ob_ (s : PySem.W.SharedT) : AlP := obsPG 6 bB_ fa_ fn_ pd_ (HandSHeadRun.getT s)
theorem ob_eq_ (s : PySem.W.SharedT) : ob_ s = hk_.obs s.abs := obsPG_eq (HandSHeadRun.getT_eq s)
theorem runA_ (w : World) (os : OsState) : (HandSHeadRun.endF (HandSHeadRun.stepQ (HandSHeadRun.denQ HandSHeadRun.tabQ) R_.prog w) 9000 R_.prog w os).map (fun s => (HandSHeadRun.looksF R_.prog (boot_heap w.params) s.abs, HandSHeadRun.seenQ qv_ names_ (importedModules R_.prog.main.body) (fun s => xlAt qv_ [] s && recOk R_.toRowW.records s) s.abs)) = some (true, openGood qv_ names_) := by
  kernel_rfl
theorem runB_ (w : World) (os : OsState) : (HandSHeadRun.endF (HandSHeadRun.stepQ (HandSHeadRun.denQ HandSHeadRun.tabQ) R_.prog w) 9000 R_.prog w os).map (fun s => ((ob_ s).1, (ob_ s).2.2)) = some (true, pd_.map PD.val) := by
  kernel_rfl
theorem runC0_ (w : World) (os : OsState) : (HandSHeadRun.endF (HandSHeadRun.stepQ (HandSHeadRun.denQ HandSHeadRun.tabQ) R_.prog w) 9000 R_.prog w os).map (fun s => (ob_ s).2.1.1) = some true := by
  kernel_rfl
theorem runC1_ (w : World) (os : OsState) : (HandSHeadRun.endF (HandSHeadRun.stepQ (HandSHeadRun.denQ HandSHeadRun.tabQ) R_.prog w) 9000 R_.prog w os).map (fun s => (ob_ s).2.1.2) = some ((He.valD fn_).2) := by
  kernel_rfl
theorem map_two {α β γ : Type} {x : Option α} {f : α → β × γ} {a : β} {l : γ} (h1 : x.map (fun s => (f s).1) = some a) (h2 : x.map (fun s => (f s).2) = some l) : x.map f = some (a, l) := by
  cases x with
  | none => cases h1
  | some s =>
    simp only [Option.map_some, Option.some.injEq] at h1 h2 ⊢
    rw [← h1, ← h2]
theorem runC_ (w : World) (os : OsState) : (HandSHeadRun.endF (HandSHeadRun.stepQ (HandSHeadRun.denQ HandSHeadRun.tabQ) R_.prog w) 9000 R_.prog w os).map (fun s => (ob_ s).2.1) = some (He.valD fn_) := map_two (f := fun s => (ob_ s).2.1) (runC0_ w os) (runC1_ w os)
theorem map_all {α β γ A B C : Type} {x : Option α} {f : α → β} {g : α → γ} {ob : α → A × B × C} {a : β} {b : γ} {c : A} {d : B} {e : C} (hA : x.map (fun s => (f s, g s)) = some (a, b)) (hB : x.map (fun s => ((ob s).1, (ob s).2.2)) = some (c, e)) (hC : x.map (fun s => (ob s).2.1) = some d) : x.map (fun s => (f s, g s, ob s)) = some (a, b, (c, d, e)) := by
  cases x with
  | none => cases hC
  | some s =>
    simp only [Option.map_some, Option.some.injEq, Prod.mk.injEq] at hA hB hC ⊢
    obtain ⟨h1, h2⟩ := hA
    obtain ⟨h3, h4⟩ := hB
    refine ⟨h1, h2, ?_⟩
    rw [← h3, ← hC, ← h4]
theorem run_ (w : World) : HandSHeadRun.RunEq R_ qv_ hk_ ob_ 9000 names_ w := fun os => map_all (runA_ w os) (runB_ w os) (runC_ w os)
end
end M
/-! M1: data, the view, what stands for what; results; the readings TI, TS. -/
namespace M
open PySem PySem.Spec PyProof.Rows L2

/-- a datum: texts, ints, tuples; a list or an instance that nobody changes any more; an exception; n: a mutable thing of the store -/
inductive D where
  | non | bl (b : Bool) | int (i : Int) | str (x : Str) | ty (n : String) | glo (x : Str)
  | tup (xs : List D) | lst (xs : List D) | dct (ks : List Key) (xs : List D) | obj (C : Str) (fs : List (Str × D)) | exc (C : Str) (fs : List (Str × D)) | ref (n : Nat)
  /-- a tuple of which more is known: it has no dict -/
  | tpl (xs : List D)
  /-- a function that was made: where it stands, its code object, that object's name, what it knows -/
  | adr (f c : Addr) (q : Str) (xs : List D) (vs : List V)
  deriving Inhabited
/-- a mutable thing -/
inductive O where
  | lst (xs : List D) | dct (kvs : List (Key × D)) | ins (C : Str) (fs : List (Str × D))
  /-- a dict whose keys are tuples of numbers, texts and None -/
  | dcn (t : Bool) (kvs : List (List Leaf × D))
  /-- .. while a loop walks it -/
  | lck (t : Bool) (kvs : List (List Leaf × D))
  /-- a dict whose keys are pairs of such a tuple and a number; lk: .. while something walks it -/
  | dcp (lk : Bool) (kvs : List ((List Leaf × Int) × D))
  /-- x's table of code objects: those that it tells bear the name q -/
  | tbl (x q : Str)
  deriving Inhabited
abbrev Sto := List O
abbrev Env := List (Option D)

/-- an exception's object -/
def exq (a C : Addr) (d : Option Addr) : HO := .ext fun h => ∃ (o : Obj) (vs : Array Value), h.get? a = some o ∧ o.cls = .ref C ∧ o.dict = d ∧ o.data = .fields vs ∧ vs[2]? = some .none

/-- where names stand; with the program and the world -/
structure GG where
  f : Str → Addr
  P : Program
  w : World
  t : Str → Addr
  /-- where the exception stands that is handled -/
  hd : Option Addr
instance : CoeFun GG (fun _ => Str → Addr) := ⟨GG.f⟩
instance : Coe GG (Str → Addr) := ⟨GG.f⟩
/-- the view: K the written part, g where names stand, ρ where the store's things stand, Z what is out of reach, H the heap -/
structure Vw where
  K : PySem.W.Frag
  g : GG
  Z : Addr → Prop
  ρ : List Addr
  H : Hp
abbrev Vw.to (W : Vw) (ρ : List Addr) (H : Hp) : Vw := { W with ρ := ρ, H := H }
/-- what nobody changes -/
def Vw.fro (W : Vw) (a : Addr) : Prop := a ∉ W.ρ ∧ ¬ W.Z a
def WrT (K : PySem.W.Frag) (a : Addr) (ys : List V) : Prop := ∃ (o : Obj) (its : Array Value) (n : Nat), K.lookup a = some o ∧ o.cls = .type "tuple" ∧ o.data = .seq its n ∧ its.size ≤ sizeLine ∧ Vals ys its.toList
def WrL (K : PySem.W.Frag) (a : Addr) (ys : List V) : Prop := ∃ (its : Array Value) (n : Nat), K.lookup a = some ({ cls := .type "list", data := .seq its n } : Obj) ∧ its.size ≤ sizeLine ∧ Vals ys its.toList
def Vw.Tup (W : Vw) (a : Addr) (ys : List V) : Prop := (Rd W.H a (.tup ys) ∧ W.fro a) ∨ WrT W.K a ys
/-- of which more is known -/
def Vw.Tpl (W : Vw) (a : Addr) (ys : List V) : Prop := (∃ o, W.H a = some (.frz o (.tup ys)) ∧ o.dict = none) ∧ W.fro a
theorem Vw.Tpl.tup {W : Vw} {a : Addr} {ys : List V} (h : W.Tpl a ys) : W.Tup a ys := let ⟨⟨o, e, _⟩, f⟩ := h; .inl ⟨.inr ⟨o, e⟩, f⟩
def Vw.Lst (W : Vw) (a : Addr) (ys : List V) : Prop := (Rd W.H a (.lst ys) ∧ W.fro a) ∨ WrL W.K a ys
theorem Vw.Tup.sq {W : Vw} {a : Addr} {ys : List V} (h : W.Tup a ys) : SqT W.K W.H a ys := by
  rcases h with ⟨h, _⟩ | h
  · exact .inl h
  · exact .inr h
theorem Vw.Lst.sq {W : Vw} {a : Addr} {ys : List V} (h : W.Lst a ys) : SqL W.K W.H a ys := by
  rcases h with ⟨h, _⟩ | ⟨its, n, h1, h2⟩
  · exact .inl h
  · exact .inr ⟨_, its, n, h1, rfl, rfl, rfl, h2⟩

mutual
/-- the datum d stands for the value v -/
inductive RV (W : Vw) : D → V → Prop
  | non : RV W .non .non
  | bl (b : Bool) : RV W (.bl b) (.bl b)
  | int (i : Int) : RV W (.int i) (.int i)
  | str (x : Str) : RV W (.str x) (.str x)
  | ty (n : String) : RV W (.ty n) (.ty n)
  | glo (x : Str) : RV W (.glo x) (.ref (W.g x))
  | tup {a : Addr} {xs : List D} {ys : List V} : W.Tup a ys → RVs W xs ys → RV W (.tup xs) (.ref a)
  | lst {a : Addr} {xs : List D} {ys : List V} : W.Lst a ys → RVs W xs ys → RV W (.lst xs) (.ref a)
  | dct {a : Addr} {ks : List Key} {xs : List D} {ys : List (Key × V)} : Rd W.H a (.dK ys) → W.fro a → ys.map (·.1) = ks → RVs W xs (ys.map (·.2)) → RV W (.dct ks xs) (.ref a)
  | obj {a dx : Addr} {C : Str} {fs : List (Str × D)} {gs : List (Str × V)} : W.H a = some (.ins (W.g C) dx gs) → W.fro a → RFs W fs gs → RV W (.obj C fs) (.ref a)
  | exc {a : Addr} {d : Option Addr} {C : Str} {fs : List (Str × D)} {gs : List (Str × V)} : W.H a = some (exq a (W.g C) d) → W.fro a → (d = none → gs = []) → (∀ dx, d = some dx → W.H dx = some (.xd gs) ∧ W.fro dx) → RFs W fs gs → RV W (.exc C fs) (.ref a)
  | ref {n : Nat} {a : Addr} : W.ρ[n]? = some a → RV W (.ref n) (.ref a)
  | tpl {a : Addr} {xs : List D} {ys : List V} : W.Tpl a ys → RVs W xs ys → RV W (.tpl xs) (.ref a)
  | adr {a c : Addr} {q : Str} {xs : List D} {vs : List V} : W.H c = some (LamX.CodeO c q) → W.fro c → RVs W xs vs → RV W (.adr a c q xs vs) (.ref a)
inductive RVs (W : Vw) : List D → List V → Prop
  | nil : RVs W [] []
  | cons {d : D} {v : V} {ds : List D} {vs : List V} : RV W d v → RVs W ds vs → RVs W (d :: ds) (v :: vs)
inductive RFs (W : Vw) : List (Str × D) → List (Str × V) → Prop
  | nil : RFs W [] []
  | cons {f : Str} {d : D} {v : V} {ds : List (Str × D)} {vs : List (Str × V)} : RV W d v → RFs W ds vs → RFs W ((f, d) :: ds) ((f, v) :: vs)
end

/-- later: more things in the store, what is not in it stands -/
structure Ext (W : Vw) (ρ' : List Addr) (H' : Hp) : Prop where
  pre : W.ρ <+: ρ'
  new : ∀ a ∈ ρ', a ∈ W.ρ ∨ W.H a = none
  keep : ∀ a o, W.H a = some o → a ∉ W.ρ → H' a = some o
  /-- what is locked stands, too -/
  frz : ∀ a o u, W.H a = some (.frz o u) → H' a = some (.frz o u)

section
variable {W : Vw} {ρ' ρ'' : List Addr} {H' H'' : Hp}
theorem Ext.refl : Ext W W.ρ W.H := ⟨List.prefix_refl _, fun _ h => .inl h, fun _ _ h _ => h, fun _ _ _ h => h⟩
theorem Ext.notin (x : Ext W ρ' H') {a : Addr} {o : HO} (h : W.H a = some o) (n : a ∉ W.ρ) : a ∉ ρ' := fun m => by
  rcases x.new a m with q | q
  · exact n q
  · rw [h] at q; cases q
theorem Ext.trans (x : Ext W ρ' H') (y : Ext (W.to ρ' H') ρ'' H'') : Ext W ρ'' H'' where
  pre := x.pre.trans y.pre
  new := fun a m => by
    rcases y.new a m with q | q
    · exact x.new a q
    · by_cases m2 : a ∈ W.ρ
      · exact .inl m2
      · refine .inr ?_
        cases e : W.H a with
        | none => rfl
        | some o =>
          have z := x.keep a o e m2
          rw [show H' a = none from q] at z
          cases z
  keep := fun a o h n => y.keep a o (x.keep a o h n) (x.notin h n)
  frz := fun a o u h => y.frz a o u (x.frz a o u h)
theorem fro_mono (x : Ext W ρ' H') {a : Addr} {o : HO} (h : W.H a = some o) (f : W.fro a) : (W.to ρ' H').fro a := ⟨x.notin h f.1, f.2⟩
theorem rd_mono (x : Ext W ρ' H') {a : Addr} {u : HO} (h : Rd W.H a u) (f : W.fro a) : Rd H' a u ∧ (W.to ρ' H').fro a := by
  rcases h with h | ⟨o, h⟩
  · exact ⟨.inl (x.keep _ _ h f.1), fro_mono x h f⟩
  · exact ⟨.inr ⟨o, x.keep _ _ h f.1⟩, fro_mono x h f⟩
theorem Vw.Tup.mono (x : Ext W ρ' H') {a : Addr} {ys : List V} (h : W.Tup a ys) : (W.to ρ' H').Tup a ys := by
  rcases h with ⟨h | ⟨o, h⟩, f⟩ | h
  · exact .inl ⟨.inl (x.keep _ _ h f.1), fro_mono x h f⟩
  · exact .inl ⟨.inr ⟨o, x.keep _ _ h f.1⟩, fro_mono x h f⟩
  · exact .inr h
theorem Vw.Tpl.mono (x : Ext W ρ' H') {a : Addr} {ys : List V} (h : W.Tpl a ys) : (W.to ρ' H').Tpl a ys := let ⟨⟨o, e, d⟩, f⟩ := h; ⟨⟨o, x.keep _ _ e f.1, d⟩, fro_mono x e f⟩
theorem Vw.Lst.mono (x : Ext W ρ' H') {a : Addr} {ys : List V} (h : W.Lst a ys) : (W.to ρ' H').Lst a ys := by
  rcases h with ⟨h | ⟨o, h⟩, f⟩ | h
  · exact .inl ⟨.inl (x.keep _ _ h f.1), fro_mono x h f⟩
  · exact .inl ⟨.inr ⟨o, x.keep _ _ h f.1⟩, fro_mono x h f⟩
  · exact .inr h
theorem pre_get {α : Type} {l l' : List α} (h : l <+: l') {n : Nat} {a : α} (e : l[n]? = some a) : l'[n]? = some a := by
  obtain ⟨t, rfl⟩ := h
  rw [List.getElem?_append_left (List.getElem?_eq_some_iff.mp e).1]
  exact e
mutual
theorem RV.mono (x : Ext W ρ' H') : ∀ {d : D} {v : V}, RV W d v → RV (W.to ρ' H') d v
  | _, _, .non => .non
  | _, _, .bl b => .bl b
  | _, _, .int i => .int i
  | _, _, .str s => .str s
  | _, _, .ty n => .ty n
  | _, _, .glo s => .glo (W := W.to ρ' H') s
  | _, _, .tup h r => .tup (h.mono x) (r.mono x)
  | _, _, .lst h r => .lst (h.mono x) (r.mono x)
  | _, _, .dct h f e r => .dct (rd_mono x h f).1 (rd_mono x h f).2 e (r.mono x)
  | _, _, .obj h f r => .obj (x.keep _ _ h f.1) (fro_mono x h f) (r.mono x)
  | _, _, .exc h f a b r => .exc (x.keep _ _ h f.1) (fro_mono x h f) a (fun dx e => ⟨x.keep _ _ (b dx e).1 (b dx e).2.1, fro_mono x (b dx e).1 (b dx e).2⟩) (r.mono x)
  | _, _, .ref h => .ref (pre_get x.pre h)
  | _, _, .tpl h r => .tpl (h.mono x) (r.mono x)
  | _, _, .adr h f r => .adr (x.keep _ _ h f.1) (fro_mono x h f) (r.mono x)
theorem RVs.mono (x : Ext W ρ' H') : ∀ {d : List D} {v : List V}, RVs W d v → RVs (W.to ρ' H') d v
  | _, _, .nil => .nil
  | _, _, .cons h r => .cons (h.mono x) (r.mono x)
theorem RFs.mono (x : Ext W ρ' H') : ∀ {d : List (Str × D)} {v : List (Str × V)}, RFs W d v → RFs (W.to ρ' H') d v
  | _, _, .nil => .nil
  | _, _, .cons h r => .cons (h.mono x) (r.mono x)
end
end

def leafV : Leaf → V
  | .none => .non
  | .num i => .int i
  | .text x => .str x
abbrev lfK (P : Program) (w : World) : HeapKind P w (List Leaf) := tupleKind (leafKind P w)
abbrev NP (p : List Leaf × Addr × V) (q : List Leaf × Addr × Value) : Prop := p.1 = q.1 ∧ p.2.1 = q.2.1 ∧ RelV p.2.2 q.2.2
/-- the dict at a, its entries: keys, where their tuples stand, values -/
def dcnO (P : Program) (w : World) (a : Addr) (xs : List (List Leaf × Addr × V)) : HO := .ext fun h => xs.length ≤ sizeLine ∧ (a == sysModules) = false ∧ ∃ vs : List (List Leaf × Addr × Value), Paired NP xs vs ∧
  ∃ o es ep, h.get? a = some o ∧ o.ExactDict ∧ o.data = .dict es ep ∧ es.toList = vs.map (entryOfKey (lfK P w)) ∧ (vs.map (·.1)).Nodup
/-- an entry -/
def Vw.Key (W : Vw) (t : Bool) (a : Addr) (ys : List V) : Prop := match t with
  | true => W.Tpl a ys
  | false => W.Tup a ys
theorem Vw.Key.tup {W : Vw} {t : Bool} {a : Addr} {ys : List V} (h : W.Key t a ys) : W.Tup a ys := by
  cases t with
  | true => exact Vw.Tpl.tup h
  | false => exact h
theorem Vw.Key.mono {W : Vw} {ρ' : List Addr} {H' : Hp} (x : Ext W ρ' H') {t : Bool} {a : Addr} {ys : List V} (h : W.Key t a ys) : (W.to ρ' H').Key t a ys := by
  cases t with
  | true => exact Vw.Tpl.mono x h
  | false => exact Vw.Tup.mono x h
def EN (W : Vw) (t : Bool) (p : List Leaf × D) (x : List Leaf × Addr × V) : Prop := p.1 = x.1 ∧ W.Key t x.2.1 (x.1.map leafV) ∧ RV W p.2 x.2.2
/-! pairs as keys -/
abbrev PKy := List Leaf × Int
def nkL : Leaf → NestedKey
  | .none => .none
  | .num i => .num i
  | .text x => .text x
def nkP (k : PKy) : NestedKey := .tup [.tup (k.1.map nkL), .num k.2]
abbrev NPP (p : PKy × Addr × V) (q : NestedKey × Addr × Value) : Prop := nkP p.1 = q.1 ∧ p.2.1 = q.2.1 ∧ RelV p.2.2 q.2.2
def dcpO (P : Program) (w : World) (a : Addr) (xs : List (PKy × Addr × V)) : HO := .ext fun h => xs.length ≤ sizeLine ∧ (a == sysModules) = false ∧ ∃ vs : List (NestedKey × Addr × Value), Paired NPP xs vs ∧
  ∃ o es ep, h.get? a = some o ∧ o.ExactDict ∧ o.data = .dict es ep ∧ es.toList = vs.map (entryOfKey (nestedKind P w)) ∧ (vs.map (·.1)).Nodup
def Vw.PairAt (W : Vw) (b : Addr) (k : PKy) : Prop := ∃ c, W.Tup b [.ref c, .int k.2] ∧ W.Tup c (k.1.map leafV)
theorem Vw.PairAt.map {W W' : Vw} (f : ∀ {a : Addr} {ys : List V}, W.Tup a ys → W'.Tup a ys) {b : Addr} {k : PKy} (h : W.PairAt b k) : W'.PairAt b k := let ⟨c, h1, h2⟩ := h; ⟨c, f h1, f h2⟩
def EPk (W : Vw) (p : PKy × D) (x : PKy × Addr × V) : Prop := p.1 = x.1 ∧ W.PairAt x.2.1 x.1 ∧ RV W p.2 x.2.2
def LkO (lk : Bool) (u v : HO) : Prop := match lk with
  | false => u = v
  | true => ∃ od, u = .frz od v
def KnC (W : Vw) (q : Str) (cv : Value) : Prop := ∃ c, cv = .ref c ∧ W.H c = some (LamX.CodeO c q) ∧ W.fro c
/-- the thing o of the store stands at a -/
def OR (W : Vw) (a : Addr) : O → Prop
  | .lst xs => ∃ ys, W.H a = some (.lst ys) ∧ RVs W xs ys
  | .dct kvs => ∃ ys : List (Key × V), W.H a = some (.dK ys) ∧ kvs.map (·.1) = ys.map (·.1) ∧ RVs W (kvs.map (·.2)) (ys.map (·.2))
  | .ins C fs => ∃ dx gs, W.H a = some (.ins (W.g C) dx gs) ∧ RFs W fs gs
  | .dcn t kvs => ∃ xs : List (List Leaf × Addr × V), W.H a = some (dcnO W.g.P W.g.w a xs) ∧ Paired (EN W t) kvs xs
  | .lck t kvs => ∃ (od : Obj) (xs : List (List Leaf × Addr × V)), W.H a = some (.frz od (dcnO W.g.P W.g.w a xs)) ∧ Paired (EN W t) kvs xs
  | .dcp lk kvs => ∃ (u : HO) (xs : List (PKy × Addr × V)), W.H a = some u ∧ LkO lk u (dcpO W.g.P W.g.w a xs) ∧ Paired (EPk W) kvs xs
  | .tbl x q => a = W.g.t x ∧ ∃ ps : Array Value, W.H a = some (.tbl ps) ∧ TriplesOk ps.toList ∧ ∀ (pos : Pos) (cv : Value), codeAmong pos ps.toList = some cv → KnC W q cv
structure Sim (W : Vw) (st : Sto) : Prop where
  len : W.ρ.length = st.length
  nd : W.ρ.Nodup
  nz : ∀ a ∈ W.ρ, ¬ W.Z a
  zt : ∀ a, W.Z a → ∃ o, W.H a = some o
  at_ : ∀ (n : Nat) (o : O) (a : Addr), st[n]? = some o → W.ρ[n]? = some a → OR W a o
  hot : ∀ a, W.g.hd = some a → ∃ C d, W.H a = some (exq a C d) ∧ W.fro a
structure EnvR (W : Vw) (env : Env) (σ : L2.St) : Prop where
  len : env.length = σ.length
  at_ : ∀ (i : Nat) (d : D), env[i]? = some (some d) → ∃ v, σ[i]? = some (some v) ∧ RV W d v
theorem EnvR.mono {W : Vw} {ρ' : List Addr} {H' : Hp} (x : Ext W ρ' H') {env : Env} {σ : L2.St} (h : EnvR W env σ) : EnvR (W.to ρ' H') env σ :=
  ⟨h.len, fun i d e => by obtain ⟨v, e1, r⟩ := h.at_ i d e; exact ⟨v, e1, r.mono x⟩⟩
theorem OR.some {W : Vw} {a : Addr} {o : O} (h : OR W a o) : ∃ u, W.H a = some u := by
  cases o with
  | lst xs => obtain ⟨_, e, _⟩ := h; exact ⟨_, e⟩
  | dct xs => obtain ⟨_, e, _⟩ := h; exact ⟨_, e⟩
  | ins C xs => obtain ⟨_, _, e, _⟩ := h; exact ⟨_, e⟩
  | dcn t xs => obtain ⟨_, e, _⟩ := h; exact ⟨_, e⟩
  | lck t xs => obtain ⟨_, _, e, _⟩ := h; exact ⟨_, e⟩
  | dcp lk xs => obtain ⟨_, _, e, _⟩ := h; exact ⟨_, e⟩
  | tbl x q => obtain ⟨_, _, e, _⟩ := h; exact ⟨_, e⟩
theorem Sim.tr {W : Vw} {st : Sto} (S : Sim W st) {a : Addr} (h : a ∈ W.ρ) : ∃ u, W.H a = some u := by
  obtain ⟨n, hn⟩ := List.mem_iff_getElem?.mp h
  have hl : n < st.length := by rw [← S.len]; exact (List.getElem?_eq_some_iff.mp hn).1
  exact (S.at_ n _ a (List.getElem?_eq_getElem hl) hn).some

/-! ### results -/
inductive R (α : Type) where
  | ok (a : α) (st : Sto)
  | exc (C : Str) (fs : List (Str × D)) (st : Sto)
  | bad
  deriving Inhabited
def R.bind {α β : Type} (r : R α) (k : α → Sto → R β) : R β := match r with
  | .ok a st => k a st
  | .exc C fs st => .exc C fs st
  | .bad => .bad
inductive RS where
  | nx (env : Env) (st : Sto)
  | ret (d : D) (st : Sto)
  | bk (env : Env) (st : Sto)
  | ct (env : Env) (st : Sto)
  | exc (C : Str) (fs : List (Str × D)) (env : Env) (st : Sto)
  | bad
  deriving Inhabited
abbrev IE := Env → Sto → R D
abbrev IA := Env → Sto → R (List D)
abbrev IT := Env → Sto → R Bool
abbrev IS := Env → Sto → RS

/-- what flies: its fields -/
def XR (W : Vw) (fs : List (Str × D)) (d : Option Addr) : Prop := ∃ gs, RFs W fs gs ∧ (d = none → gs = []) ∧ ∀ dx, d = some dx → W.H dx = some (.xd gs) ∧ W.fro dx
/-- what a result asks of what follows; P: how a result stands for a value -/
def Post {α β : Type} (W : Vw) (P : Vw → α → β → Prop) (r : R α) (Q : β → Hp → Prop) (E : XK) : Prop := match r with
  | .ok a st => ∀ ρ' H' b, Ext W ρ' H' → Sim (W.to ρ' H') st → P (W.to ρ' H') a b → Q b H'
  | .exc C fs st => ∀ ρ' H' d, Ext W ρ' H' → Sim (W.to ρ' H') st → XR (W.to ρ' H') fs d → E (.ref (W.g C)) d H'
  | .bad => False
def PostS (W : Vw) (r : RS) (N : Ends) (E : WX) : Prop := match r with
  | .nx env st => ∀ ρ' H' σ', Ext W ρ' H' → Sim (W.to ρ' H') st → EnvR (W.to ρ' H') env σ' → N.nx σ' H'
  | .ret d st => ∀ ρ' H' v, Ext W ρ' H' → Sim (W.to ρ' H') st → RV (W.to ρ' H') d v → N.rt v H'
  | .bk env st => ∀ ρ' H' σ', Ext W ρ' H' → Sim (W.to ρ' H') st → EnvR (W.to ρ' H') env σ' → N.bk σ' H'
  | .ct env st => ∀ ρ' H' σ', Ext W ρ' H' → Sim (W.to ρ' H') st → EnvR (W.to ρ' H') env σ' → N.ct σ' H'
  | .exc C fs env st => ∀ ρ' H' σ' d, Ext W ρ' H' → Sim (W.to ρ' H') st → EnvR (W.to ρ' H') env σ' → XR (W.to ρ' H') fs d → E (.ref (W.g C)) d σ' H'
  | .bad => False
theorem Post.ext {α β : Type} {W : Vw} {ρ' : List Addr} {H' : Hp} {P : Vw → α → β → Prop} {r : R α} {Q : β → Hp → Prop} {E : XK} (x : Ext W ρ' H') (h : Post W P r Q E) : Post (W.to ρ' H') P r Q E := by
  cases r with
  | ok a st => exact fun ρ2 H2 b y => h ρ2 H2 b (x.trans y)
  | exc C fs st => exact fun ρ2 H2 d y => h ρ2 H2 d (x.trans y)
  | bad => exact h
theorem PostS.ext {W : Vw} {ρ' : List Addr} {H' : Hp} {r : RS} {N : Ends} {E : WX} (x : Ext W ρ' H') (h : PostS W r N E) : PostS (W.to ρ' H') r N E := by
  cases r with
  | nx a st => exact fun ρ2 H2 b y => h ρ2 H2 b (x.trans y)
  | ret a st => exact fun ρ2 H2 b y => h ρ2 H2 b (x.trans y)
  | bk a st => exact fun ρ2 H2 b y => h ρ2 H2 b (x.trans y)
  | ct a st => exact fun ρ2 H2 b y => h ρ2 H2 b (x.trans y)
  | exc C fs e st => exact fun ρ2 H2 s d y => h ρ2 H2 s d (x.trans y)
  | bad => exact h
def PB (_ : Vw) (a b : Bool) : Prop := a = b
abbrev PostE (W : Vw) (r : R D) (Q : VK) (E : XK) : Prop := Post W RV r Q E
abbrev PostT (W : Vw) (r : R Bool) (Q : Bool → Hp → Prop) (E : XK) : Prop := Post W PB r Q E

/-- the frame of a body's walk: the written part, the names, the wish -/
structure Fx where
  K : PySem.W.Frag
  g : GG
  E : WX
/-- a state of the embedding stands for σ, H -/
structure At (F : Fx) (W : Vw) (st : Sto) (env : Env) (σ : L2.St) (H : Hp) : Prop where
  k : W.K = F.K
  g : W.g = F.g
  h : W.H = H
  sim : Sim W st
  env : EnvR W env σ
abbrev Fx.at_ (F : Fx) (σ : L2.St) : XK := fun c d H => F.E c d σ H
def TX {α β : Type} (P : Vw → α → β → Prop) (F : Fx) (i : Env → Sto → R α) : L2.St → Hp → (β → Hp → Prop) → Prop := fun σ H Q => ∃ W st env, At F W st env σ H ∧ Post W P (i env st) Q (F.at_ σ)
abbrev TI (F : Fx) (i : IE) : TE := TX RV F i
abbrev TA_ (F : Fx) (i : IA) : TA := TX RVs F i
abbrev TT_ (F : Fx) (i : IT) : TT := TX PB F i
def TS_ (F : Fx) (i : IS) : TS := fun N σ H => ∃ W st env, At F W st env σ H ∧ PostS W (i env st) N F.E
theorem At.next {F : Fx} {W : Vw} {st st' : Sto} {env : Env} {σ : L2.St} {H H' : Hp} {ρ' : List Addr} (a : At F W st env σ H) (x : Ext W ρ' H') (s : Sim (W.to ρ' H') st') : At F (W.to ρ' H') st' env σ H' :=
  ⟨a.k, a.g, rfl, s, a.env.mono x⟩

/-- a value in hand, what follows -/
def TK {α β : Type} (P : Vw → α → β → Prop) {γ δ : Type} (P' : Vw → γ → δ → Prop) (F : Fx) (k : α → Env → Sto → R γ) (b : β) : L2.St → Hp → (δ → Hp → Prop) → Prop :=
  fun σ H Q => ∃ W st env a, At F W st env σ H ∧ P W a b ∧ Post W P' (k a env st) Q (F.at_ σ)
theorem TX.bind {α β γ δ : Type} {P : Vw → α → β → Prop} {P' : Vw → γ → δ → Prop} {F : Fx} {i : Env → Sto → R α} {k : α → Env → Sto → R γ} {σ : L2.St} {H : Hp} {Q : δ → Hp → Prop}
    (h : TX P' F (fun env st => (i env st).bind fun a s1 => k a env s1) σ H Q) : TX P F i σ H fun b H' => TK P P' F k b σ H' Q := by
  obtain ⟨W, st, env, A, p⟩ := h
  refine ⟨W, st, env, A, ?_⟩
  have p' : Post W P' ((i env st).bind fun a s1 => k a env s1) Q (F.at_ σ) := p
  cases r : i env st with
  | ok a s1 =>
    rw [r] at p'
    exact fun ρ' H' b x s q => ⟨W.to ρ' H', s1, env, a, A.next x s, q, Post.ext x p'⟩
  | exc C fs s1 => rw [r] at p'; exact p'
  | bad => rw [r] at p'; exact p'
theorem PE.imp {X : Cx} {e : Expr} {t t' : TE} (h : PE X e t) (w : ∀ σ H Q, t' σ H Q → t σ H Q) : PE X e t' := ⟨fun p s σ H Q I q => h.run p s σ H Q I (w σ H Q q)⟩
theorem PT.imp {X : Cx} {e : Expr} {t t' : TT} (h : PT X e t) (w : ∀ σ H Q, t' σ H Q → t σ H Q) : PT X e t' := ⟨fun p s σ H Q I q => h.run p s σ H Q I (w σ H Q q)⟩
theorem PW.imp {X : Cx} {e : Expr} {t t' : TT} (h : PW X e t) (w : ∀ σ H Q, t' σ H Q → t σ H Q) : PW X e t' := ⟨fun wh p s σ H Q I q => h.run wh p s σ H Q I (w σ H Q q)⟩
theorem PA.imp {X : Cx} {e : List Expr} {t t' : TA} (h : PA X e t) (w : ∀ σ H Q, t' σ H Q → t σ H Q) : PA X e t' := ⟨fun o p s σ H Q I q => h.run o p s σ H Q I (w σ H Q q)⟩
theorem PS.imp {X : Cx} {e : Stmt} {t t' : TS} (h : PS X e t) (w : ∀ N σ H, t' N σ H → t N σ H) : PS X e t' := ⟨fun p s σ H N I q => h.run p s σ H N I (w N σ H q)⟩
theorem PSs.imp {X : Cx} {e : List Stmt} {t t' : TS} (h : PSs X e t) (w : ∀ N σ H, t' N σ H → t N σ H) : PSs X e t' := ⟨fun p s σ H N I q => h.run p s σ H N I (w N σ H q)⟩
end M
/-! M2: the store's moves; operators. -/
namespace M
open PySem PySem.Spec PyProof.Rows L2

section
variable {W : Vw} {ρ' : List Addr} {H' : Hp} {st : Sto} {a p : Addr} {u : HO}
theorem KnC.mono (x : Ext W ρ' H') {q : Str} {cv : Value} (h : KnC W q cv) : KnC (W.to ρ' H') q cv := let ⟨c, e, h1, f⟩ := h; ⟨c, e, x.keep _ _ h1 f.1, fro_mono x h1 f⟩
theorem OR.mono (x : Ext W ρ' H') (e : H' a = W.H a) : ∀ {o : O}, OR W a o → OR (W.to ρ' H') a o
  | .lst xs, ⟨ys, h, r⟩ => ⟨ys, e.trans h, r.mono x⟩
  | .dct kvs, ⟨ys, h, k, r⟩ => ⟨ys, e.trans h, k, r.mono x⟩
  | .ins C fs, ⟨dx, gs, h, r⟩ => ⟨dx, gs, e.trans h, r.mono x⟩
  | .dcn t kvs, ⟨xs, h, r⟩ => ⟨xs, e.trans h, Paired.mapP r fun p y z => ⟨z.1, z.2.1.mono x, z.2.2.mono x⟩⟩
  | .lck t kvs, ⟨od, xs, h, r⟩ => ⟨od, xs, e.trans h, Paired.mapP r fun p y z => ⟨z.1, z.2.1.mono x, z.2.2.mono x⟩⟩
  | .dcp lk kvs, ⟨u, xs, h, l, r⟩ => ⟨u, xs, e.trans h, l, Paired.mapP r fun p y z => ⟨z.1, z.2.1.map (fun t => t.mono x), z.2.2.mono x⟩⟩
  | .tbl x1 q1, ⟨ha, ps, h, t, k⟩ => ⟨ha, ps, e.trans h, t, fun pos cv hc => (k pos cv hc).mono x⟩
theorem ext_new (o : List Addr) (ho : ∀ a ∈ o, W.H a = none) (hp : W.H p = none) : Ext W (W.ρ ++ o) (upd W.H p u) where
  pre := List.prefix_append _ _
  new := fun a m => (List.mem_append.mp m).imp id (ho a)
  keep := fun b v h _ => by rw [upd_ne (ne_of_none h hp)]; exact h
  frz := fun b o u h => by rw [upd_ne (ne_of_none h hp)]; exact h
theorem ext_new0 (hp : W.H p = none) : Ext W W.ρ (upd W.H p u) where
  pre := List.prefix_refl _
  new := fun a m => .inl m
  keep := fun b v h _ => by rw [upd_ne (ne_of_none h hp)]; exact h
  frz := fun b o u h => by rw [upd_ne (ne_of_none h hp)]; exact h
theorem Sim.frozen (S : Sim W st) (x : Ext W W.ρ H') (k : ∀ a ∈ W.ρ, H' a = W.H a) : Sim (W.to W.ρ H') st where
  len := S.len
  nd := S.nd
  nz := S.nz
  zt := fun a h => by
    obtain ⟨o, e⟩ := S.zt a h
    exact ⟨o, x.keep a o e fun m => S.nz a m h⟩
  at_ := fun n o a h1 h2 => (S.at_ n o a h1 h2).mono x (k a (List.mem_of_getElem? h2))
  hot := fun a h => let ⟨C, d, e, f⟩ := S.hot a h; ⟨C, d, x.keep a _ e f.1, fro_mono x e f⟩
theorem Sim.new0 (S : Sim W st) (hp : W.H p = none) : Sim (W.to W.ρ (upd W.H p u)) st := S.frozen (ext_new0 hp) fun a m => by
  obtain ⟨o, e⟩ := S.tr m
  rw [upd_ne (ne_of_none e hp)]
theorem Sim.new (S : Sim W st) (hp : W.H p = none) {o : O} (h : OR (W.to (W.ρ ++ [p]) (upd W.H p u)) p o) : Sim (W.to (W.ρ ++ [p]) (upd W.H p u)) (st ++ [o]) := by
  have x : Ext W (W.ρ ++ [p]) (upd W.H p u) := ext_new [p] (fun a m => by rw [List.mem_singleton.mp m]; exact hp) hp
  have np : p ∉ W.ρ := fun m => by
    obtain ⟨v, e⟩ := S.tr m
    rw [hp] at e; cases e
  refine ⟨by simp [S.len], ?_, fun a m z => ?_, fun a z => ?_, fun n q a h1 h2 => ?_, fun a h => let ⟨C, d, e, f⟩ := S.hot a h; ⟨C, d, x.keep a _ e f.1, fro_mono x e f⟩⟩
  · exact List.nodup_append.mpr ⟨S.nd, by simp, fun a m b n e => by rw [List.mem_singleton.mp n] at e; rw [e] at m; exact np m⟩
  · rcases List.mem_append.mp m with m | m
    · exact S.nz a m z
    · obtain ⟨v, e⟩ := S.zt a z
      rw [List.mem_singleton.mp m, hp] at e; cases e
  · obtain ⟨v, e⟩ := S.zt a z
    exact ⟨v, x.keep a v e fun m => S.nz a m z⟩
  · by_cases hn : n < st.length
    · rw [List.getElem?_append_left hn] at h1
      rw [List.getElem?_append_left (by rw [S.len]; exact hn)] at h2
      have m := List.mem_of_getElem? h2
      obtain ⟨v, e⟩ := S.tr m
      exact (S.at_ n q a h1 h2).mono x (upd_ne (ne_of_none e hp))
    · have hn' : n = st.length := by
        have := (List.getElem?_eq_some_iff.mp h1).1
        simp at this; omega
      subst hn'
      rw [List.getElem?_append_right (by omega)] at h1
      rw [List.getElem?_append_right (by rw [S.len]; omega)] at h2
      simp at h1
      simp [S.len] at h2
      subst h1 h2
      exact h
theorem ref_new (S : Sim W st) : RV (W.to (W.ρ ++ [p]) H') (.ref st.length) (.ref p) := .ref (by
  show (W.ρ ++ [p])[st.length]? = some p
  rw [List.getElem?_append_right (by rw [S.len]; omega), S.len]
  simp)
/-- it is not locked -/
def NoFrz (H : Hp) (a : Addr) : Prop := ∀ o u, H a ≠ some (.frz o u)
theorem nf_lst {H : Hp} {a : Addr} {xs : List V} (h : H a = some (.lst xs)) : NoFrz H a := fun o u z => by rw [h] at z; cases z
theorem nf_dK {H : Hp} {a : Addr} {xs : List (Key × V)} (h : H a = some (.dK xs)) : NoFrz H a := fun o u z => by rw [h] at z; cases z
theorem nf_ins {H : Hp} {a C dx : Addr} {xs : List (Str × V)} (h : H a = some (.ins C dx xs)) : NoFrz H a := fun o u z => by rw [h] at z; cases z
theorem nf_ext {H : Hp} {a : Addr} {φ : Heap → Prop} (h : H a = some (.ext φ)) : NoFrz H a := fun o u z => by rw [h] at z; cases z
theorem nf_dcn {H : Hp} {a : Addr} {P : Program} {w : World} {xs : List (List Leaf × Addr × V)} (h : H a = some (dcnO P w a xs)) : NoFrz H a := fun o u z => by rw [h] at z; cases z
theorem ext_put (m : a ∈ W.ρ) (nf : NoFrz W.H a := by first | assumption | exact nf_lst (by assumption) | exact nf_dK (by assumption) | exact nf_ins (by assumption) | exact nf_dcn (by assumption) | exact nf_ext (by assumption)) : Ext W W.ρ (upd W.H a u) where
  pre := List.prefix_refl _
  new := fun a m => .inl m
  keep := fun b v h n => by rw [upd_ne (fun e => by rw [e] at n; exact n m)]; exact h
  frz := fun b o v h => by rw [upd_ne (fun e => by rw [e] at h; exact nf _ _ h)]; exact h
theorem Sim.put (S : Sim W st) {n : Nat} (hn : W.ρ[n]? = some a) {o : O} (h : OR (W.to W.ρ (upd W.H a u)) a o) (nf : NoFrz W.H a := by first | assumption | exact nf_lst (by assumption) | exact nf_dK (by assumption) | exact nf_ins (by assumption) | exact nf_dcn (by assumption) | exact nf_ext (by assumption)) : Sim (W.to W.ρ (upd W.H a u)) (st.set n o) := by
  have m := List.mem_of_getElem? hn
  have x : Ext W W.ρ (upd W.H a u) := ext_put m
  refine ⟨by simp [S.len], S.nd, S.nz, fun b z => ?_, fun k q b h1 h2 => ?_, fun a h => let ⟨C, d, e, f⟩ := S.hot a h; ⟨C, d, x.keep a _ e f.1, fro_mono x e f⟩⟩
  · obtain ⟨v, e⟩ := S.zt b z
    exact ⟨v, x.keep b v e fun m => S.nz b m z⟩
  · by_cases hk : k = n
    · subst hk
      rw [hn] at h2
      cases h2
      have hl : k < st.length := by rw [← S.len]; exact (List.getElem?_eq_some_iff.mp hn).1
      rw [List.getElem?_set_self hl] at h1
      cases h1
      exact h
    · rw [List.getElem?_set_ne (Ne.symm hk)] at h1
      refine (S.at_ k q b h1 h2).mono x (upd_ne fun e => hk ?_)
      subst e
      exact (List.getElem?_inj (List.getElem?_eq_some_iff.mp h2).1 S.nd).mp (h2.trans hn.symm)
theorem new_fro (S : Sim W st) (hp : W.H p = none) : (W.to W.ρ H').fro p := by
  refine ⟨fun m => ?_, fun z => ?_⟩
  · obtain ⟨v, e⟩ := S.tr m
    rw [hp] at e
    cases e
  · obtain ⟨v, e⟩ := S.zt p z
    rw [hp] at e
    cases e
theorem tup_new (S : Sim W st) (hp : W.H p = none) {xs : List D} {ys : List V} (r : RVs W xs ys) : RV (W.to W.ρ (upd W.H p (.tup ys))) (.tup xs) (.ref p) :=
  .tup (.inl ⟨.inl upd_same, new_fro S hp⟩) (r.mono (ext_new0 hp))
theorem lst_or (hp : W.H p = none) {xs : List D} {ys : List V} (r : RVs W xs ys) : OR (W.to (W.ρ ++ [p]) (upd W.H p (.lst ys))) p (.lst xs) :=
  ⟨ys, upd_same, r.mono (ext_new [p] (fun a m => by rw [List.mem_singleton.mp m]; exact hp) hp)⟩
end

/-! ### operators by values -/
abbrev Op1 := D → Sto → Option (D × Sto)
abbrev Op2 := D → D → Sto → Option (D × Sto)
abbrev OpN := List D → Sto → Option (D × Sto)
def PostO (W : Vw) (o : Option (D × Sto)) (Q : VK) : Prop := match o with
  | some (a, st) => ∀ ρ' H' b, Ext W ρ' H' → Sim (W.to ρ' H') st → RV (W.to ρ' H') a b → Q b H'
  | none => False
def ofO (o : Option (D × Sto)) : R D := match o with
  | some (a, st) => .ok a st
  | none => .bad
theorem PostO.of {W : Vw} {o : Option (D × Sto)} {Q : VK} {E : XK} (h : PostE W (ofO o) Q E) : PostO W o Q := by
  cases o with
  | none => exact h
  | some x => exact h
/-- the view and the store at H -/
structure In (F : Fx) (W : Vw) (st : Sto) (H : Hp) : Prop where
  k : W.K = F.K
  g : W.g = F.g
  h : W.H = H
  sim : Sim W st
def r1 (F : Fx) (op : Op1) : V → Hp → VK → Prop := fun x H Q => ∃ W st a, In F W st H ∧ RV W a x ∧ PostO W (op a st) Q
def r2 (F : Fx) (op : Op2) : R2 := fun x y H Q => ∃ W st a b, In F W st H ∧ RV W a x ∧ RV W b y ∧ PostO W (op a b st) Q
def rN (F : Fx) (op : OpN) : List V → Hp → VK → Prop := fun xs H Q => ∃ W st ds, In F W st H ∧ RVs W ds xs ∧ PostO W (op ds st) Q
section
variable {W : Vw} {st : Sto} {Q : VK} {d : D} {v : V}
/-- the answer is d, nothing changed -/
theorem PostO.now (h : PostO W (some (d, st)) Q) (S : Sim W st) (r : RV W d v) : Q v W.H := h W.ρ W.H v Ext.refl S r
theorem PostO.list {p : Addr} {xs : List D} {ys : List V} (h : PostO W (some (.ref st.length, st ++ [.lst xs])) Q) (S : Sim W st) (r : RVs W xs ys) (hp : W.H p = none) : Q (.ref p) (upd W.H p (.lst ys)) :=
  h (W.ρ ++ [p]) _ _ (ext_new [p] (fun a m => by rw [List.mem_singleton.mp m]; exact hp) hp) (S.new hp (lst_or hp r)) (ref_new S)
theorem PostO.tuple {p : Addr} {xs : List D} {ys : List V} (h : PostO W (some (.tup xs, st)) Q) (S : Sim W st) (r : RVs W xs ys) (hp : W.H p = none) : Q (.ref p) (upd W.H p (.tup ys)) :=
  h W.ρ _ _ (ext_new0 hp) (S.new0 hp) (tup_new S hp r)
theorem RVs.length : ∀ {xs : List D} {ys : List V}, RVs W xs ys → xs.length = ys.length
  | _, _, .nil => rfl
  | _, _, .cons _ r => by rw [List.length_cons, List.length_cons, r.length]
theorem RVs.append : ∀ {xs xs' : List D} {ys ys' : List V}, RVs W xs ys → RVs W xs' ys' → RVs W (xs ++ xs') (ys ++ ys')
  | _, _, _, _, .nil, q => q
  | _, _, _, _, .cons h r, q => .cons h (r.append q)
theorem RVs.take : ∀ {xs : List D} {ys : List V} (n : Nat), RVs W xs ys → RVs W (xs.take n) (ys.take n)
  | _, _, 0, _ => by simp only [List.take_zero]; exact .nil
  | _, _, _ + 1, .nil => .nil
  | _, _, n + 1, .cons h r => .cons h (r.take n)
theorem RVs.drop : ∀ {xs : List D} {ys : List V} (n : Nat), RVs W xs ys → RVs W (xs.drop n) (ys.drop n)
  | _, _, 0, q => q
  | _, _, _ + 1, .nil => .nil
  | _, _, n + 1, .cons h r => r.drop n
theorem RVs.get : ∀ {xs : List D} {ys : List V} {n : Nat} {d : D}, RVs W xs ys → xs[n]? = some d → ∃ v, ys[n]? = some v ∧ RV W d v
  | _, _, _, _, .nil, e => by simp at e
  | _, _, 0, _, .cons h r, e => by simp at e; subst e; exact ⟨_, rfl, h⟩
  | _, _, n + 1, _, .cons h r, e => by
    obtain ⟨v, e1, q⟩ := r.get (n := n) (by simpa using e)
    exact ⟨v, by simpa using e1, q⟩
theorem RVs.set : ∀ {xs : List D} {ys : List V} (n : Nat) {d : D} {v : V}, RVs W xs ys → RV W d v → RVs W (xs.set n d) (ys.set n v)
  | _, _, _, _, _, .nil, _ => .nil
  | _, _, 0, _, _, .cons h r, q => .cons q r
  | _, _, n + 1, _, _, .cons h r, q => .cons h (r.set n q)
theorem RVs.rep : ∀ {xs : List D} {ys : List V} (n : Nat), RVs W xs ys → RVs W (List.replicate n xs).flatten (List.replicate n ys).flatten
  | _, _, 0, _ => .nil
  | _, _, n + 1, q => by rw [List.replicate_succ, List.replicate_succ, List.flatten_cons, List.flatten_cons]; exact q.append (q.rep n)
def lstAt (st : Sto) (n : Nat) : Option (List D) := match st[n]? with
  | some (.lst xs) => some xs
  | _ => none
theorem lstAt_eq {st : Sto} {n : Nat} {xs : List D} (h : lstAt st n = some xs) : st[n]? = some (.lst xs) := by
  unfold lstAt at h
  split at h
  · cases h; assumption
  · cases h
/-- a list of the store -/
def mlst (st : Sto) : D → Option (List D)
  | .ref n => lstAt st n
  | _ => none
/-- any list -/
def alst (st : Sto) : D → Option (List D)
  | .ref n => lstAt st n
  | .lst xs => some xs
  | _ => none
/-- list or tuple -/
def aseq (st : Sto) : D → Option (List D)
  | .ref n => lstAt st n
  | .lst xs => some xs
  | .tpl xs => some xs
  | .tup xs => some xs
  | _ => none
theorem mlst_at (S : Sim W st) {d : D} {v : V} {xs : List D} (h : mlst st d = some xs) (r : RV W d v) : ∃ n a ys, d = .ref n ∧ v = .ref a ∧ W.ρ[n]? = some a ∧ st[n]? = some (.lst xs) ∧ W.H a = some (.lst ys) ∧ RVs W xs ys := by
  cases r with
  | ref e =>
    rename_i n a
    have q := lstAt_eq (show lstAt st n = some xs from h)
    obtain ⟨ys, e1, r1⟩ := S.at_ n _ a q e
    exact ⟨n, a, ys, rfl, rfl, e, q, e1, r1⟩
  | _ => cases h
theorem alst_at (S : Sim W st) {d : D} {v : V} {xs : List D} (h : alst st d = some xs) (r : RV W d v) : ∃ a ys, v = .ref a ∧ SqL W.K W.H a ys ∧ RVs W xs ys := by
  cases r with
  | ref e =>
    rename_i n a
    have q := lstAt_eq (show lstAt st n = some xs from h)
    obtain ⟨ys, e1, r1⟩ := S.at_ n _ a q e
    exact ⟨a, ys, rfl, .inl (.inl e1), r1⟩
  | lst h1 r1 => cases h; exact ⟨_, _, rfl, h1.sq, r1⟩
  | _ => cases h
theorem aseq_at (S : Sim W st) {d : D} {v : V} {xs : List D} (h : aseq st d = some xs) (r : RV W d v) : ∃ a ys, v = .ref a ∧ (SqL W.K W.H a ys ∨ SqT W.K W.H a ys) ∧ RVs W xs ys := by
  cases r with
  | ref e =>
    rename_i n a
    have q := lstAt_eq (show lstAt st n = some xs from h)
    obtain ⟨ys, e1, r1⟩ := S.at_ n _ a q e
    exact ⟨a, ys, rfl, .inl (.inl (.inl e1)), r1⟩
  | lst h1 r1 => cases h; exact ⟨_, _, rfl, .inl h1.sq, r1⟩
  | tup h1 r1 => cases h; exact ⟨_, _, rfl, .inr h1.sq, r1⟩
  | tpl h1 r1 => cases h; exact ⟨_, _, rfl, .inr h1.tup.sq, r1⟩
  | _ => cases h
theorem tup_at {xs : List D} {v : V} (r : RV W (.tup xs) v) : ∃ a ys, v = .ref a ∧ SqT W.K W.H a ys ∧ RVs W xs ys := by
  cases r with
  | tup h1 r1 => exact ⟨_, _, rfl, h1.sq, r1⟩

/-! ### arithmetic -/
variable {X : Cx} {F : Fx}
theorem OpR.or {f : Value → Value → Sem Value} {r r' : R2} (a : OpR X f r) (b : OpR X f r') : OpR X f (fun x y H Q => r x y H Q ∨ r' x y H Q) :=
  fun p s σ H x y v u Q I rx ry h => h.elim (a p s σ H x y v u Q I rx ry) (b p s σ H x y v u Q I rx ry)
theorem OpR.imp {f : Value → Value → Sem Value} {r r' : R2} (a : OpR X f r) (h : ∀ x y H Q, r' x y H Q → r x y H Q) : OpR X f r' :=
  fun p s σ H x y v u Q I rx ry q => a p s σ H x y v u Q I rx ry (h x y H Q q)
theorem CallR.imp {f : Value} {r r' : List V → Hp → VK → Prop} (a : CallR X f r) (h : ∀ x H Q, r' x H Q → r x H Q) : CallR X f r' :=
  fun p s σ H x u Q I rx q => a p s σ H x u Q I rx (h x H Q q)
theorem CallR.or {f : Value} {r r' : List V → Hp → VK → Prop} (a : CallR X f r) (b : CallR X f r') : CallR X f (fun x H Q => r x H Q ∨ r' x H Q) :=
  fun p s σ H x u Q I rx h => h.elim (a p s σ H x u Q I rx) (b p s σ H x u Q I rx)

/-- any list, as it stands -/
def LsE (K : PySem.W.Frag) (H : Hp) (a : Addr) (ys : List V) : Prop := Rd H a (.lst ys) ∨ WrL K a ys
theorem LsE.at_ {pins : List (Addr × Obj)} {s : Shared} {σ : L2.St} {H : Hp} {a : Addr} {ys : List V} (h : LsE X.K H a ys) (I : Inv X pins σ H s) : ys.length ≤ sizeLine ∧ ∃ (its : List Value) (n : Nat), Vals ys its ∧ ys.length = its.length ∧ s.heap.get? a = some ({ cls := .type "list", data := .seq its.toArray n } : Obj) := by
  rcases h with h | ⟨its, n, hk, hz, r⟩
  · obtain ⟨z, its, n, r, e⟩ := h.ok I.hok
    exact ⟨z, its, n, r, r.length, e⟩
  · have l := r.length
    exact ⟨by rw [l]; simpa using hz, its.toList, n, r, l, by simpa using I.kIn _ _ hk⟩
theorem op_catL : OpR X (binaryOp .Add) (fun x y H Q => ∃ a b xs ys, x = .ref a ∧ y = .ref b ∧ LsE X.K H a xs ∧ LsE X.K H b ys ∧ xs.length + ys.length ≤ sizeLine ∧ ∀ p, H p = none → Q (.ref p) (upd H p (.lst (xs ++ ys)))) := fun pins s σ H x y v u Q I rx ry ⟨a, b, xs, ys, ex, ey, ha, hb, hz, q⟩ => by
  subst ex ey
  cases rx
  cases ry
  obtain ⟨_, is1, n1, r1, l1, e1⟩ := ha.at_ I
  obtain ⟨_, is2, n2, r2, l2, e2⟩ := hb.at_ I
  refine PySem.P.add_list e1 e2 ?_ (by simp only [List.size_toArray]; omega)
  rw [List.append_toArray]
  exact ⟨.ref _, _, I.lnew (t' := s.toks) (r1.append r2) (by rw [List.length_append]; exact hz), rfl, q _ I.fresh⟩
theorem rep_arr (is : List Value) (m : Nat) : List.foldl (fun u v => u ++ v) #[] (List.replicate (if is.toArray.isEmpty = true then 0 else m) is.toArray) = (List.replicate m is).flatten.toArray := by
  have z := foldl_rep is m []
  cases is with
  | nil => simp
  | cons b r => simpa using z
theorem op_repL : OpR X (binaryOp .Mult) (fun x y H Q => ∃ a k xs, x = .ref a ∧ y = .int k ∧ LsE X.K H a xs ∧ -(2 ^ 63) ≤ k ∧ k < 2 ^ 63 ∧ xs.length * k.toNat ≤ sizeLine ∧ ∀ p, H p = none → Q (.ref p) (upd H p (.lst (List.replicate k.toNat xs).flatten))) := fun pins s σ H x y v u Q I rx ry ⟨a, k, xs, ex, ey, ha, h1, h2, hz, q⟩ => by
  subst ex ey
  cases rx
  obtain ⟨tk, rfl⟩ := ry
  obtain ⟨_, is, n, r, l, e⟩ := ha.at_ I
  have z1 : is.toArray.size * k.toNat ≤ sizeLine := by rw [List.size_toArray, ← l]; exact hz
  have z2 : (sizeLine : Nat) ≤ (2 ^ 63 - 1) / 8 := by decide
  have m1 := AutoListH.list___mul___list_int_3 a is.toArray n k tk (by rw [fitsIndex_both h1 h2]; simp) (by omega) (by rw [notLongL z1]; simp)
  refine wpAny_binaryOp_repeat_ref (U := "int") (T := "list") (by decide) ⟨_, e, rfl⟩ (fun s2 => typeIs_int s2 k tk) noFill_list_mul F.fills_int_mul F.slot_int_rmul repeat_list F.slot_int_index.lookup (call_meets F.slot_int_rmul (typeIs_int s k tk) F.entry_int_rmul (F.args_int_rmul_2 _ _) (int___rmul___int_list k tk a is.toArray n) ⟨e, rfl, ⟨_, e, rfl⟩, call_meets F.slot_list_mul ⟨_, e, rfl⟩ F.entry_list_mul (F.args_list_mul_2 _ _) m1 ⟨e, ?_⟩⟩)
  rw [rep_arr]
  exact ⟨.ref _, _, I.lnew (t' := s.toks) (r.rep k.toNat) (by rw [PyProof.Rows.lm_len_rep_flat, Nat.mul_comm]; exact hz), rfl, q _ I.fresh⟩
theorem lst_at {xs : List D} {v : V} (r : RV W (.lst xs) v) : ∃ a ys, v = .ref a ∧ LsE W.K W.H a ys ∧ RVs W xs ys := by
  cases r with
  | lst h1 r1 => exact ⟨_, _, rfl, h1.imp (·.1) id, r1⟩
theorem PostO.listF {p : Addr} {xs : List D} {ys : List V} (h : PostO W (some (.lst xs, st)) Q) (S : Sim W st) (r : RVs W xs ys) (hp : W.H p = none) : Q (.ref p) (upd W.H p (.lst ys)) :=
  h W.ρ _ _ (ext_new0 hp) (S.new0 hp) (.lst (.inl ⟨.inl upd_same, new_fro S hp⟩) (r.mono (ext_new0 hp)))
def smallI (i : Int) : Prop := -(2 ^ 64) < i ∧ i < 2 ^ 64
instance (i : Int) : Decidable (smallI i) := by unfold smallI; infer_instance
def opAdd : Op2 := fun a b st => match a, b with
  | .int i, .int j => some (.int (i + j), st)
  | .str x, .str y => if x.length + y.length ≤ sizeLine then some (.str (x ++ y), st) else none
  | .tup xs, .tup ys => if xs.length + ys.length ≤ sizeLine then some (.tup (xs ++ ys), st) else none
  | .lst xs, .lst ys => if xs.length + ys.length ≤ sizeLine then some (.lst (xs ++ ys), st) else none
  | .ref n, .ref m => match lstAt st n, lstAt st m with
    | some xs, some ys => if xs.length + ys.length ≤ sizeLine then some (.ref st.length, st ++ [.lst (xs ++ ys)]) else none
    | _, _ => none
  | _, _ => none
def opSub : Op2 := fun a b st => match a, b with
  | .int i, .int j => some (.int (i - j), st)
  | _, _ => none
def opMul : Op2 := fun a b st => match a, b with
  | .int i, .int j => if smallI i ∨ smallI j then some (.int (i * j), st) else if i.natAbs.log2 + j.natAbs.log2 < 1000000 then some (.int (i * j), st) else none
  | .lst xs, .int k => if -(2 ^ 63) ≤ k ∧ k < 2 ^ 63 ∧ xs.length * k.toNat ≤ sizeLine then some (.lst (List.replicate k.toNat xs).flatten, st) else none
  | .ref n, .int k => match lstAt st n with
    | some xs => if -(2 ^ 63) ≤ k ∧ k < 2 ^ 63 ∧ xs.length * k.toNat ≤ sizeLine then some (.ref st.length, st ++ [.lst (List.replicate k.toNat xs).flatten]) else none
    | none => none
  | _, _ => none
def opFdiv : Op2 := fun a b st => match a, b with
  | .int i, .int j => if 0 < j ∧ j.natAbs.log2 < 9000 then some (.int (i / j), st) else if j ≠ 0 ∧ j.natAbs < 1073741824 then some (.int (i.fdiv j), st) else none
  | _, _ => none
def opMod : Op2 := fun a b st => match a, b with
  | .int i, .int j => if 0 < j then some (.int (i % j), st) else if j ≠ 0 then some (.int (i.fmod j), st) else none
  | _, _ => none
def opPow : Op2 := fun a b st => match a, b with
  | .int i, .int j => if 0 ≤ j ∧ j ≤ 1000000 ∧ i.natAbs < 2 ^ 64 then some (.int (i ^ j.toNat), st) else none
  | _, _ => none

theorem In.now {H : Hp} (h : In F W st H) (p : PostO W (some (d, st)) Q) (r : RV W d v) : Q v H := by rw [← h.h]; exact p.now h.sim r
theorem or_sub : OpR X (binaryOp .Sub) (r2 F opSub) := OpR.imp op_sub fun x y H Q ⟨W, st, a, b, I, ra, rb, p⟩ => by
  unfold opSub at p
  split at p
  · cases ra; cases rb; exact ⟨_, _, rfl, rfl, I.now p (.int _)⟩
  · exact p.elim
theorem or_pow : OpR X (binaryOp .Pow) (r2 F opPow) := OpR.imp op_pow fun x y H Q ⟨W, st, a, b, I, ra, rb, p⟩ => by
  unfold opPow at p
  split at p
  · split at p
    · cases ra; cases rb; exact ⟨_, _, rfl, rfl, by assumption, I.now p (.int _)⟩
    · exact p.elim
  · exact p.elim
theorem or_mod : OpR X (binaryOp .Mod) (r2 F opMod) := OpR.imp (OpR.or op_mod op_modN) fun x y H Q ⟨W, st, a, b, I, ra, rb, p⟩ => by
  unfold opMod at p
  split at p
  · split at p
    · cases ra; cases rb; exact .inl ⟨_, _, rfl, rfl, by assumption, I.now p (.int _)⟩
    · split at p
      · cases ra; cases rb; exact .inr ⟨_, _, rfl, rfl, by assumption, I.now p (.int _)⟩
      · exact p.elim
  · exact p.elim
theorem or_fdiv : OpR X (binaryOp .FloorDiv) (r2 F opFdiv) := OpR.imp (OpR.or op_fdivW op_fdivN) fun x y H Q ⟨W, st, a, b, I, ra, rb, p⟩ => by
  unfold opFdiv at p
  split at p
  · split at p
    · cases ra; cases rb; exact .inl ⟨_, _, rfl, rfl, by assumption, I.now p (.int _)⟩
    · split at p
      · cases ra; cases rb; exact .inr ⟨_, _, rfl, rfl, by assumption, I.now p (.int _)⟩
      · exact p.elim
  · exact p.elim
theorem or_mul (hk : X.K = F.K) : OpR X (binaryOp .Mult) (r2 F opMul) := OpR.imp (OpR.or op_mulW (OpR.or op_rep (OpR.or op_mul op_repL))) fun x y H Q ⟨W, st, a, b, I, ra, rb, p⟩ => by
  unfold opMul at p
  split at p
  · split at p
    · cases ra; cases rb; exact .inr (.inr (.inl ⟨_, _, rfl, rfl, by assumption, I.now p (.int _)⟩))
    · split at p
      · cases ra; cases rb; exact .inl ⟨_, _, rfl, rfl, by assumption, I.now p (.int _)⟩
      · exact p.elim
  · split at p
    · rename_i c
      obtain ⟨a, ys, rfl, hl, r⟩ := lst_at ra
      cases rb
      have eH := I.h
      subst eH
      rw [I.k, ← hk] at hl
      refine .inr (.inr (.inr ⟨a, _, ys, rfl, rfl, hl, c.1, c.2.1, by rw [← r.length]; exact c.2.2, fun q hq => ?_⟩))
      exact p.listF I.sim (r.rep _) hq
    · exact p.elim
  · split at p
    · rename_i xs hx
      split at p
      · rename_i c
        obtain ⟨n, a, ys, e1, rfl, e2, e3, e4, r⟩ := mlst_at I.sim (d := .ref _) (xs := xs) hx ra
        cases rb
        have eH := I.h
        subst eH
        refine .inr (.inl ⟨a, _, ys, rfl, rfl, e4, c.1, c.2.1, by rw [← r.length]; exact c.2.2, fun q hq => ?_⟩)
        exact p.list I.sim (r.rep _) hq
      · exact p.elim
    · exact p.elim
  · exact p.elim
theorem or_add (hk : X.K = F.K) : OpR X (binaryOp .Add) (r2 F opAdd) := OpR.imp (OpR.or op_add (OpR.or op_add_str (OpR.or op_catA (OpR.or op_cat op_catL)))) fun x y H Q ⟨W, st, a, b, I, ra, rb, p⟩ => by
  unfold opAdd at p
  split at p
  · cases ra; cases rb; exact .inl ⟨_, _, rfl, rfl, I.now p (.int _)⟩
  · split at p
    · cases ra; cases rb; exact .inr (.inl ⟨_, _, rfl, rfl, by assumption, I.now p (.str _)⟩)
    · exact p.elim
  · split at p
    · rename_i c
      obtain ⟨a, xs', rfl, t1, r⟩ := tup_at ra
      obtain ⟨b, ys', rfl, t2, r'⟩ := tup_at rb
      have eK := I.k
      have eH := I.h
      subst eH
      rw [eK, ← hk] at t1 t2
      refine .inr (.inr (.inl ⟨a, b, _, _, rfl, rfl, t1, t2, by rw [← r.length, ← r'.length]; exact c, fun e => ?_, fun e1 e2 => ?_, fun e1 e2 q hq => ?_⟩))
      · subst e
        cases r
        exact p.now I.sim rb
      · subst e2
        cases r'
        rw [List.append_nil] at p
        exact p.now I.sim ra
      · exact p.tuple I.sim (r.append r') hq
    · exact p.elim
  · split at p
    · rename_i c
      obtain ⟨a, xs', rfl, t1, r⟩ := lst_at ra
      obtain ⟨b, ys', rfl, t2, r'⟩ := lst_at rb
      have eK := I.k
      have eH := I.h
      subst eH
      rw [eK, ← hk] at t1 t2
      refine .inr (.inr (.inr (.inr ⟨a, b, _, _, rfl, rfl, t1, t2, by rw [← r.length, ← r'.length]; exact c, fun q hq => ?_⟩)))
      exact p.listF I.sim (r.append r') hq
    · exact p.elim
  · split at p
    · rename_i xs ys h1 h2
      split at p
      · rename_i c
        obtain ⟨n, a, xs', e1, rfl, e2, e3, e4, r⟩ := mlst_at I.sim (d := .ref _) (xs := xs) h1 ra
        obtain ⟨m, b, ys', f1, rfl, f2, f3, f4, r'⟩ := mlst_at I.sim (d := .ref _) (xs := ys) h2 rb
        have eH := I.h
        subst eH
        refine .inr (.inr (.inr (.inl ⟨a, b, _, _, rfl, rfl, e4, f4, by rw [← r.length, ← r'.length]; exact c, fun q hq => ?_⟩)))
        exact p.list I.sim (r.append r') hq
      · exact p.elim
    · exact p.elim
  · exact p.elim
end
end M
/-! M3: expressions: names, constants, operators, comparisons, tests, arguments, displays. -/
namespace M
open PySem PySem.Spec PyProof.Rows L2

section
variable {α β γ δ : Type} {P : Vw → α → β → Prop} {P' : Vw → γ → δ → Prop} {F : Fx} {σ : L2.St} {H : Hp}
theorem Post.mono {W : Vw} {r : R α} {Q Q' : β → Hp → Prop} {E : XK} (h : Post W P r Q E) (m : ∀ b H, Q b H → Q' b H) : Post W P r Q' E := by
  cases r with
  | ok a st => exact fun ρ H b x s p => m _ _ (h ρ H b x s p)
  | exc C fs st => exact h
  | bad => exact h
theorem TX.mono {i : Env → Sto → R α} {Q Q' : β → Hp → Prop} (h : TX P F i σ H Q) (m : ∀ b H, Q b H → Q' b H) : TX P F i σ H Q' := by
  obtain ⟨W, st, env, A, p⟩ := h
  exact ⟨W, st, env, A, p.mono m⟩
/-- a value in hand (a), a further step i that does not look at it, then k -/
theorem TK.bind {κ μ : Type} {P2 : Vw → κ → μ → Prop} {i : Env → Sto → R γ} {k : α → γ → Env → Sto → R κ} {Q : μ → Hp → Prop} {b : β} (mo : ∀ {W : Vw} {ρ' : List Addr} {H' : Hp} {a : α} {b : β}, Ext W ρ' H' → P W a b → P (W.to ρ' H') a b)
    (h : TK P P2 F (fun a env st => (i env st).bind fun c s1 => k a c env s1) b σ H Q) :
    TX P' F i σ H fun c H' => ∃ W st env a d, At F W st env σ H' ∧ P W a b ∧ P' W d c ∧ Post W P2 (k a d env st) Q (F.at_ σ) := by
  obtain ⟨W, st, env, a, A, p, q⟩ := h
  refine ⟨W, st, env, A, ?_⟩
  have q' : Post W P2 ((i env st).bind fun c s1 => k a c env s1) Q (F.at_ σ) := q
  cases r : i env st with
  | ok d s1 =>
    rw [r] at q'
    exact fun ρ' H' c x s pc => ⟨W.to ρ' H', s1, env, a, d, A.next x s, mo x p, pc, Post.ext x q'⟩
  | exc C fs s1 => rw [r] at q'; exact q'
  | bad => rw [r] at q'; exact q'
theorem At.in_ {W : Vw} {st : Sto} {env : Env} (a : At F W st env σ H) : In F W st H := ⟨a.k, a.g, a.h, a.sim⟩
end

section
variable {X : Cx} {F : Fx} {pos : Pos}
/-! ### names, constants -/
def iC (d : D) : IE := fun _ st => .ok d st
def iVar (i : Nat) : IE := fun env st => match env[i]? with
  | some (some d) => .ok d st
  | _ => .bad
theorem e_var {e : Expr} {i : Nat} (h : PE X e (tVar i)) : PE X e (TI F (iVar i)) := PE.imp h fun σ H Q ⟨W, st, env, A, p⟩ => by
  unfold iVar at p
  split at p
  · rename_i d e
    obtain ⟨v, e1, r⟩ := A.env.at_ _ _ e
    refine ⟨v, e1, ?_⟩
    have q := p W.ρ W.H v Ext.refl A.sim r
    rw [A.h] at q
    exact q
  · exact p.elim
/-- the name in slot i -/
theorem e_v (i : Nat) {x : Str} (hN : X.N[i]? = some x := by rfl) (hv : Vis X.env.scope x := by first | exact Or.inl rfl | exact Or.inr (Or.inl rfl) | exact Or.inr (Or.inr rfl)) (hd : (x == ("__debug__" : Str)) = false := by decide)
    (hcd : (x == ("__classdict__" : Str)) = false := by decide) : PE X (.Name x pos) (TI F (iVar i)) := e_var (pe_var hN hv hd hcd)
theorem e_con {e : Expr} {d : D} {v : V} (h : PE X e (tC v)) (r : ∀ W : Vw, W.K = F.K → W.g = F.g → RV W d v) : PE X e (TI F (iC d)) := PE.imp h fun σ H Q ⟨W, st, env, A, p⟩ => by
  have q := p W.ρ W.H v Ext.refl A.sim (r W A.k A.g)
  rw [A.h] at q
  exact q
theorem e_int {i : Int} {j} : PE X (.Constant (.int i) j pos) (TI F (iC (.int i))) := e_con pe_int fun _ _ _ => .int _
theorem e_bl {i : Bool} {j} : PE X (.Constant (.bool i) j pos) (TI F (iC (.bl i))) := e_con pe_bl fun _ _ _ => .bl _
theorem e_str {i : Str} {j} : PE X (.Constant (.str i) j pos) (TI F (iC (.str i))) := e_con pe_str fun _ _ _ => .str _
theorem e_non {j} : PE X (.Constant .none j pos) (TI F (iC .non)) := e_con pe_non fun _ _ _ => .non

/-! ### operators -/
def iBin (f : Op2) (i j : IE) : IE := fun env st => (i env st).bind fun a s1 => (j env s1).bind fun b s2 => ofO (f a b s2)
def iUn (f : Op1) (i : IE) : IE := fun env st => (i env st).bind fun a s1 => ofO (f a s1)
theorem bin_r2 {f : Op2} {i j : IE} {σ : L2.St} {H : Hp} {Q : VK} (h : TI F (iBin f i j) σ H Q) : tOp (r2 F f) (TI F i) (TI F j) σ H Q :=
  (TX.bind (k := fun a env s1 => (j env s1).bind fun b s2 => ofO (f a b s2)) h).mono fun x H1 h1 => (TK.bind (i := j) (k := fun a b env s2 => ofO (f a b s2)) (fun x r => RV.mono x r) h1).mono fun y H2 ⟨W, st, env, a, b, A, ra, rb, p⟩ => ⟨W, st, a, b, A.in_, ra, rb, PostO.of p⟩
theorem e_bin {a b : Expr} {op : Operator} {f : Op2} {i j : IE} (ho : OpR X (binaryOp op) (r2 F f)) (ha : PE X a (TI F i)) (hb : PE X b (TI F j)) : PE X (.BinOp a op b pos) (TI F (iBin f i j)) :=
  PE.imp (pe_op ho ha hb) fun _ _ _ h => bin_r2 h
theorem e_cmp {a b : Expr} {op : CmpOp} {f : Op2} {i j : IE} (ho : OpR X (compareOp op) (r2 F f)) (ha : PE X a (TI F i)) (hb : PE X b (TI F j)) (h1 : behindInMarks op b = false := by first | exact nomark _ | rfl) : PE X (.Compare a [op] [b] pos) (TI F (iBin f i j)) :=
  PE.imp (pe_cmpR ho ha hb h1) fun _ _ _ h => bin_r2 h
theorem e_un {a : Expr} {op : UnaryOp} {f : Op1} {i : IE} (ho : UnR X (unaryOp op) (r1 F f)) (ha : PE X a (TI F i)) : PE X (.UnaryOp op a pos) (TI F (iUn f i)) :=
  PE.imp (pe_un ho ha) fun _ _ _ h => (TX.bind (k := fun a env s1 => ofO (f a s1)) h).mono fun x H1 ⟨W, st, env, a, A, ra, p⟩ => ⟨W, st, a, A.in_, ra, PostO.of p⟩
end

section
variable {X : Cx} {F : Fx} {pos : Pos} {W : Vw} {st : Sto}
/-! ### equality -/
def allP {α β : Type} (f : α → Option β) : List α → Option (List β)
  | [] => some []
  | x :: xs => match f x, allP f xs with
    | some p, some ps => some (p :: ps)
    | _, _ => none
theorem allP_cons {α β : Type} {f : α → Option β} {x : α} {xs : List α} {ps : List β} (h : allP f (x :: xs) = some ps) : ∃ p r, f x = some p ∧ allP f xs = some r ∧ ps = p :: r := by
  unfold allP at h
  split at h
  · rename_i p r e1 e2
    cases h
    exact ⟨p, r, e1, e2, rfl⟩
  · cases h
/-- the datum as the library's plain data -/
def toP (st : Sto) : Nat → D → Option PyData
  | 0, _ => none
  | n + 1, d => match d with
    | .non => some .none
    | .bl b => some (.bool b)
    | .int i => some (.int i)
    | .str x => if PyData.strOk x then some (.str x) else none
    | .tup xs => (allP (toP st n) xs).map .tuple
    | .tpl xs => (allP (toP st n) xs).map .tuple
    | .lst xs => (allP (toP st n) xs).map .list
    | .ref k => match lstAt st k with
      | some xs => (allP (toP st n) xs).map .list
      | none => none
    | _ => none
/-- what toP gives -/
def Good (W : Vw) (n : Nat) (d : D) (p : PyData) : Prop := p.canLay0 = true ∧ p.depth ≤ n ∧ ∀ v, RV W d v → Dp W.K W.H v p
theorem good_all {n : Nat} {f : D → Option PyData} (hf : ∀ d p, f d = some p → Good W n d p) : ∀ {xs : List D} {ps : List PyData}, allP f xs = some ps → PyData.canLayAll0 ps = true ∧ PyData.depthAll ps ≤ n ∧ ∀ ys, RVs W xs ys → DpAll W.K W.H ys ps
  | [], ps, h => by
    cases h
    exact ⟨rfl, Nat.zero_le _, fun ys r => by cases r; exact .nil⟩
  | x :: xs, ps, h => by
    obtain ⟨p, r, e1, e2, rfl⟩ := allP_cons h
    obtain ⟨a1, a2, a3⟩ := hf _ _ e1
    obtain ⟨b1, b2, b3⟩ := good_all hf e2
    refine ⟨by show (PyData.canLay0 p && PyData.canLayAll0 r) = true; rw [a1, b1]; rfl, Nat.max_le.mpr ⟨a2, b2⟩, fun ys q => ?_⟩
    cases q with
    | cons q1 q2 => exact .cons (a3 _ q1) (b3 _ q2)
theorem toP_good (S : Sim W st) : ∀ (n : Nat) (d : D) (p : PyData), toP st n d = some p → Good W n d p
  | 0, _, _, h => by cases h
  | n + 1, d, p, h => by
    cases d with
    | non => cases h; exact ⟨rfl, Nat.zero_le _, fun v r => by cases r; exact .non⟩
    | bl b => cases h; exact ⟨rfl, Nat.zero_le _, fun v r => by cases r; exact .bl _⟩
    | int b => cases h; exact ⟨rfl, Nat.zero_le _, fun v r => by cases r; exact .int _⟩
    | str x =>
      have h' : (if PyData.strOk x then some (PyData.str x) else none) = some p := h
      split at h'
      · rename_i c
        cases h'
        exact ⟨c, Nat.zero_le _, fun v r => by cases r; exact .str _⟩
      · cases h'
    | tup xs =>
      have h' : (allP (toP st n) xs).map PyData.tuple = some p := h
      obtain ⟨ps, e, rfl⟩ := Option.map_eq_some_iff.mp h'
      obtain ⟨b1, b2, b3⟩ := good_all (toP_good S n) e
      exact ⟨b1, Nat.succ_le_succ b2, fun v r => by
        obtain ⟨a, ys, rfl, q, r'⟩ := tup_at r
        exact .tup q (b3 _ r')⟩
    | tpl xs =>
      have h' : (allP (toP st n) xs).map PyData.tuple = some p := h
      obtain ⟨ps, e, rfl⟩ := Option.map_eq_some_iff.mp h'
      obtain ⟨b1, b2, b3⟩ := good_all (toP_good S n) e
      exact ⟨b1, Nat.succ_le_succ b2, fun v r => by
        cases r with
        | tpl q r' => exact .tup q.tup.sq (b3 _ r')⟩
    | lst xs =>
      have h' : (allP (toP st n) xs).map PyData.list = some p := h
      obtain ⟨ps, e, rfl⟩ := Option.map_eq_some_iff.mp h'
      obtain ⟨b1, b2, b3⟩ := good_all (toP_good S n) e
      exact ⟨b1, Nat.succ_le_succ b2, fun v r => by
        obtain ⟨a, ys, rfl, q, r'⟩ := alst_at S (xs := xs) rfl r
        exact .lst q (b3 _ r')⟩
    | ref k =>
      have h' : (match lstAt st k with
        | some xs => (allP (toP st n) xs).map PyData.list
        | none => none) = some p := h
      split at h'
      · rename_i xs hx
        obtain ⟨ps, e, rfl⟩ := Option.map_eq_some_iff.mp h'
        obtain ⟨b1, b2, b3⟩ := good_all (toP_good S n) e
        exact ⟨b1, Nat.succ_le_succ b2, fun v r => by
          obtain ⟨a, ys, rfl, q, r'⟩ := alst_at S (d := .ref k) (xs := xs) hx r
          exact .lst q (b3 _ r')⟩
      · cases h'
    | _ => cases h
def opEq (neg : Bool) : Op2 := fun a b st => match a, b with
  | .str x, .str y => some (.bl (if neg then !decide (x = y) else decide (x = y)), st)
  | a, b => match toP st 64 a, toP st 64 b with
    | some p, some q => some (.bl (if neg then !PyData.eqv p q else PyData.eqv p q), st)
    | _, _ => none
theorem eq_red (hk : X.K = F.K) (neg : Bool) (x y : V) (H : Hp) (Q : VK) (h : r2 F (opEq neg) x y H Q) :
    (scal x y = true ∧ Q (.bl (if neg then !decide (x = y) else decide (x = y))) H) ∨ (∃ d e, Dp X.K H x d ∧ Dp X.K H y e ∧ SeqAt.shaped d = true ∧ SeqAt.shaped e = true ∧ Q (.bl (if neg then !PyData.eqv d e else PyData.eqv d e)) H) := by
  obtain ⟨W, st, a, b, I, ra, rb, p⟩ := h
  unfold opEq at p
  split at p
  · rename_i u v
    cases ra
    cases rb
    refine .inl ⟨rfl, ?_⟩
    have e : decide (V.str u = V.str v) = decide (u = v) := by
      rw [Bool.eq_iff_iff]; simp
    rw [e]
    exact I.now p (.bl _)
  · split at p
    · rename_i d e h1 h2
      obtain ⟨a1, a2, a3⟩ := toP_good I.sim _ _ _ h1
      obtain ⟨b1, b2, b3⟩ := toP_good I.sim _ _ _ h2
      have z := I.now p (.bl _)
      have x1 := a3 _ ra
      have x2 := b3 _ rb
      rw [I.k, ← hk, I.h] at x1 x2
      refine .inr ⟨d, e, x1, x2, ?_, ?_, z⟩
      · unfold SeqAt.shaped; rw [a1, decide_eq_true a2]; rfl
      · unfold SeqAt.shaped; rw [b1, decide_eq_true b2]; rfl
    · exact p.elim
theorem or_eq (hk : X.K = F.K) (hu : X.A.units + 64 < cLine) : OpR X (compareOp .Eq) (r2 F (opEq false)) := OpR.imp (OpR.or op_eq (op_eqD hu)) fun x y H Q h => eq_red hk false x y H Q h
theorem or_ne (hk : X.K = F.K) (hu : X.A.units + 64 < cLine) : OpR X (compareOp .NotEq) (r2 F (opEq true)) := OpR.imp (OpR.or op_ne (op_neD hu)) fun x y H Q h => eq_red hk true x y H Q h
def opCmp (f : Int → Int → Bool) : Op2 := fun a b st => match a, b with
  | .int i, .int j => some (.bl (f i j), st)
  | _, _ => none
theorem or_cmp {op : CmpOp} {f : Int → Int → Bool} (h : OpR X (compareOp op) (rI0 fun i j => .bl (f i j))) : OpR X (compareOp op) (r2 F (opCmp f)) := OpR.imp h fun x y H Q ⟨W, st, a, b, I, ra, rb, p⟩ => by
  unfold opCmp at p
  split at p
  · cases ra; cases rb; exact ⟨_, _, rfl, rfl, I.now p (.bl _)⟩
  · exact p.elim
abbrev opLt : Op2 := opCmp fun i j => decide (i < j)
abbrev opLe : Op2 := opCmp fun i j => decide (i ≤ j)
abbrev opGt : Op2 := opCmp fun i j => decide (j < i)
abbrev opGe : Op2 := opCmp fun i j => decide (j ≤ i)
theorem or_lt : OpR X (compareOp .Lt) (r2 F opLt) := or_cmp op_lt
theorem or_le : OpR X (compareOp .LtE) (r2 F opLe) := or_cmp op_le
theorem or_gt : OpR X (compareOp .Gt) (r2 F opGt) := or_cmp op_gt
theorem or_ge : OpR X (compareOp .GtE) (r2 F opGe) := or_cmp op_ge
def D.isNon : D → Bool
  | .non => true
  | _ => false
theorem isNon_iff {W : Vw} {d : D} {v : V} (r : RV W d v) : decide (v = .non) = d.isNon := by
  cases r <;> first | rfl | exact decide_eq_false fun z => nomatch z
def opIs (neg : Bool) : Op2 := fun a b st => match b with
  | .non => some (.bl (if neg then !a.isNon else a.isNon), st)
  | _ => none
theorem or_is : OpR X (compareOp .Is) (r2 F (opIs false)) := OpR.imp op_isN fun x y H Q ⟨W, st, a, b, I, ra, rb, p⟩ => by
  unfold opIs at p
  split at p
  · cases rb
    refine ⟨rfl, ?_⟩
    rw [isNon_iff ra]
    exact I.now p (.bl _)
  · exact p.elim
def opNeg : Op1 := fun a st => match a with
  | .int i => some (.int (-i), st)
  | _ => none
theorem ur_neg : UnR X (unaryOp .USub) (r1 F opNeg) := fun p s σ H x v Q I rx ⟨W, st, a, J, ra, q⟩ => by
  unfold opNeg at q
  split at q
  · cases ra
    exact un_neg p s σ H _ v Q I rx ⟨_, rfl, J.now q (.int _)⟩
  · exact q.elim

/-! ### a chain of two comparisons -/
def kChain (g : Op2) (k : IE) (b : D) (env : Env) : D → Sto → R D
  | .bl true, s3 => (k env s3).bind fun c s4 => ofO (g b c s4)
  | .bl false, s3 => .ok (.bl false) s3
  | _, _ => .bad
def iChain (f g : Op2) (i j k : IE) : IE := fun env st => (i env st).bind fun a s1 => (j env s1).bind fun b s2 => (ofO (f a b s2)).bind (kChain g k b env)
end
end M
/-! M4: chains, tests, arguments, displays, built-in functions, subscripts, slices. -/
namespace M
open PySem PySem.Spec PyProof.Rows L2

section
variable {X : Cx} {F : Fx} {pos : Pos} {W : Vw} {st : Sto} {a b c : Expr} {rest : List Expr}
theorem e_chain {op op' : CmpOp} {f g : Op2} {i j k : IE} (ho : OpR X (compareOp op) (r2 F f)) (ho' : OpR X (compareOp op') (r2 F g)) (ha : PE X a (TI F i)) (hb : PE X b (TI F j)) (hc : PE X c (TI F k))
    (hm : lastMarks [op, op'] [b, c] = false := by with_unfolding_all rfl) : PE X (.Compare a [op, op'] [b, c] pos) (TI F (iChain f g i j k)) := by
  refine PE.imp (pe_chain (r := fun x y H Q => ∃ W st a b, In F W st H ∧ RV W a x ∧ RV W b y ∧ PostO W (f a b st) Q) ho ho' ha hb hc hm) fun σ H Q h => ?_
  refine (TX.bind (k := fun a env s1 => (j env s1).bind fun b s2 => (ofO (f a b s2)).bind (kChain g k b env)) h).mono fun x H1 h1 => ?_
  refine (TK.bind (i := j) (k := fun a b env s2 => (ofO (f a b s2)).bind (kChain g k b env)) (fun x r => RV.mono x r) h1).mono fun y H2 ⟨W, st, env, a, b, A, ra, rb, p⟩ => ?_
  refine ⟨W, st, a, b, A.in_, ra, rb, ?_⟩
  have p1 : PostE W ((ofO (f a b st)).bind (kChain g k b env)) Q (F.at_ σ) := p
  cases e : f a b st with
  | none => rw [e] at p1; exact p1
  | some z =>
    obtain ⟨d, s3⟩ := z
    rw [e] at p1
    intro ρ' H' v x s r
    have p2 : PostE W (kChain g k b env d s3) Q (F.at_ σ) := p1
    cases r with
    | bl t =>
      refine ⟨t, rfl, ?_⟩
      cases t with
      | false => exact p2 ρ' H' _ x s (.bl false)
      | true =>
        have T : TK RV RV F (fun b env s3 => (k env s3).bind fun c s4 => ofO (g b c s4)) y σ H' Q := ⟨W.to ρ' H', s3, env, b, A.next x s, rb.mono x, Post.ext x p2⟩
        exact (TK.bind (i := k) (k := fun b c env s4 => ofO (g b c s4)) (fun x r => RV.mono x r) T).mono fun z H3 ⟨W, st, env, a, b, A, ra, rb, p⟩ => ⟨W, st, a, b, A.in_, ra, rb, PostO.of p⟩
    | _ => exact p2.elim

/-! ### tests -/
def truD (st : Sto) : D → Option Bool
  | .non => some false
  | .bl b => some b
  | .int i => some (i != 0)
  | .str x => if x.length ≤ sizeLine then some ((x.length : Int) != 0) else none
  | .tup xs => some (!xs.isEmpty)
  | .lst xs => some (!xs.isEmpty)
  | .ref n => match st[n]? with
    | some (.lst xs) => some (!xs.isEmpty)
    | some (.dct xs) => some (!xs.isEmpty)
    | _ => none
  | _ => none
theorem RVs.empty {W : Vw} {xs : List D} {ys : List V} (r : RVs W xs ys) : xs.isEmpty = ys.isEmpty := by cases r <;> rfl
theorem tru_of (S : Sim W st) {d : D} {v : V} {k : Bool} (r : RV W d v) (h : truD st d = some k) : TruV W.K v W.H k := by
  cases r with
  | non => cases h; rfl
  | bl b => cases h; rfl
  | int i => cases h; rfl
  | str x =>
    have h' : (if x.length ≤ sizeLine then some ((x.length : Int) != 0) else none) = some k := h
    split at h'
    · cases h'; exact ⟨by assumption, rfl⟩
    · cases h'
  | tup t r => cases h; exact .inr (.inl ⟨_, t.sq, by rw [r.empty]⟩)
  | lst t r => cases h; exact .inl ⟨_, t.sq, by rw [r.empty]⟩
  | @ref n a e =>
    have h' : (match st[n]? with
    | some (.lst xs) => some (!xs.isEmpty)
    | some (.dct xs) => some (!xs.isEmpty)
    | _ => none) = some k := h
    split at h'
    · rename_i xs q
      cases h'
      obtain ⟨ys, e1, r1⟩ := S.at_ n _ a q e
      exact .inl ⟨ys, .inl (.inl e1), by rw [r1.empty]⟩
    · rename_i xs q
      cases h'
      obtain ⟨ys, e1, r1, r2⟩ := S.at_ n _ a q e
      refine .inr (.inr ⟨ys, e1, ?_⟩)
      cases xs <;> cases ys <;> first | rfl | simp at r1
    · cases h'
  | _ => cases h
def tTru (i : IE) : IT := fun env st => (i env st).bind fun d s => match truD s d with
  | some k => .ok k s
  | none => .bad
theorem PostT.now {Q : Bool → Hp → Prop} {E : XK} {k : Bool} (p : PostT W (.ok k st) Q E) (S : Sim W st) : Q k W.H := p W.ρ W.H k Ext.refl S rfl
/-- an expression's value as a test -/
theorem t_tru {i : IE} (hk : X.K = F.K) (ha : PE X a (TI F i)) (he : ∀ whole, isTrue a X.env whole = (do let v ← whole; standAt a.pos; holding [v] (truthy v)) := by intro _; rfl) : PT X a (TT_ F (tTru i)) :=
  PT.imp (pt_truth ha he) fun σ H Q h => (TX.bind (k := fun d env s => match truD s d with
  | some k => .ok k s
  | none => .bad) h).mono fun x H1 ⟨W, st, env, d, A, r, p⟩ => by
    have p' : PostT W (match truD st d with
      | some k => .ok k st
      | none => .bad) Q (F.at_ σ) := p
    cases e : truD st d with
    | none => rw [e] at p'; exact p'.elim
    | some k =>
      rw [e] at p'
      have t := tru_of A.sim r e
      rw [A.k, ← hk, A.h] at t
      have q := PostT.now p' A.sim
      rw [A.h] at q
      exact ⟨k, t, q⟩
def tNot' (i : IT) : IT := fun env st => (i env st).bind fun k s => .ok (!k) s
def tAnd' (i j : IT) : IT := fun env st => (i env st).bind fun k s => if k = true then j env s else .ok false s
def tOr' (i j : IT) : IT := fun env st => (i env st).bind fun k s => if k = true then .ok true s else j env s
theorem t_not {i : IT} (ha : PT X a (TT_ F i)) : PT X (.UnaryOp .Not a pos) (TT_ F (tNot' i)) := PT.imp (pt_not ha) fun σ H Q h =>
  (TX.bind (k := fun k env s => .ok (!k) s) h).mono fun x H1 ⟨W, st, env, d, A, r, p⟩ => by
    cases (show d = x from r)
    have q := PostT.now p A.sim
    rw [A.h] at q
    exact q
theorem w_and1 {i : IT} (ha : PT X a (TT_ F i)) : PW X (.BoolOp .And [a] pos) (TT_ F i) := pw_and1 ha
theorem w_or1 {i : IT} (ha : PT X a (TT_ F i)) : PW X (.BoolOp .Or [a] pos) (TT_ F i) := pw_or1 ha
theorem w_and {i j : IT} (ha : PT X a (TT_ F i)) (hb : PW X (.BoolOp .And (b :: rest) pos) (TT_ F j)) : PW X (.BoolOp .And (a :: b :: rest) pos) (TT_ F (tAnd' i j)) := PW.imp (pw_and ha hb) fun σ H Q h =>
  (TX.bind (k := fun k env s => if k = true then j env s else .ok false s) h).mono fun x H1 ⟨W, st, env, d, A, r, p⟩ => by
    cases (show d = x from r)
    cases x with
    | true => exact ⟨W, st, env, A, p⟩
    | false =>
      have q := PostT.now p A.sim
      rw [A.h] at q
      exact q
theorem w_or {i j : IT} (ha : PT X a (TT_ F i)) (hb : PW X (.BoolOp .Or (b :: rest) pos) (TT_ F j)) : PW X (.BoolOp .Or (a :: b :: rest) pos) (TT_ F (tOr' i j)) := PW.imp (pw_or ha hb) fun σ H Q h =>
  (TX.bind (k := fun k env s => if k = true then .ok true s else j env s) h).mono fun x H1 ⟨W, st, env, d, A, r, p⟩ => by
    cases (show d = x from r)
    cases x with
    | false => exact ⟨W, st, env, A, p⟩
    | true =>
      have q := PostT.now p A.sim
      rw [A.h] at q
      exact q
/-! ### and, or, not as values -/
def iAnd (i j : IE) : IE := fun env st => (i env st).bind fun d s => match truD s d with
  | some true => j env s
  | some false => .ok d s
  | none => .bad
def iOr (i j : IE) : IE := fun env st => (i env st).bind fun d s => match truD s d with
  | some true => .ok d s
  | some false => j env s
  | none => .bad
def kNot (d : D) (s : Sto) : R D := match truD s d with
  | some k => .ok (.bl (!k)) s
  | none => .bad
def iNot (i : IE) : IE := fun env st => (i env st).bind kNot
theorem e_one {op} {i : IE} (h : PE X a (TI F i)) : PE X (.BoolOp op [a] pos) (TI F i) := pe_one h
theorem e_and {i j : IE} (hk : X.K = F.K) (ha : PE X a (TI F i)) (hb : PE X (.BoolOp .And (b :: rest) pos) (TI F j)) : PE X (.BoolOp .And (a :: b :: rest) pos) (TI F (iAnd i j)) := PE.imp (pe_andT ha hb) fun σ H Q h =>
  (TX.bind (k := fun d env s => match truD s d with
  | some true => j env s
  | some false => .ok d s
  | none => .bad) h).mono fun x H1 ⟨W, st, env, d, A, r, p⟩ => by
    have p' : PostE W (match truD st d with
      | some true => j env st
      | some false => .ok d st
      | none => .bad) Q (F.at_ σ) := p
    cases e : truD st d with
    | none => rw [e] at p'; exact p'.elim
    | some k =>
      rw [e] at p'
      have t := tru_of A.sim r e
      rw [A.k, ← hk, A.h] at t
      refine ⟨k, t, ?_⟩
      cases k with
      | true => exact ⟨W, st, env, A, p'⟩
      | false =>
        have q := p' W.ρ W.H x Ext.refl A.sim r
        rw [A.h] at q
        exact q
theorem e_not {i : IE} (hk : X.K = F.K) (ha : PE X a (TI F i)) : PE X (.UnaryOp .Not a pos) (TI F (iNot i)) := PE.imp (pe_notT ha) fun σ H Q h =>
  (TX.bind (k := fun d env s => kNot d s) h).mono fun x H1 ⟨W, st, env, d, A, r, p⟩ => by
    have p' : PostE W (kNot d st) Q (F.at_ σ) := p
    unfold kNot at p'
    cases e : truD st d with
    | none => rw [e] at p'; exact p'.elim
    | some k =>
      rw [e] at p'
      have t := tru_of A.sim r e
      rw [A.k, ← hk, A.h] at t
      have q := p' W.ρ W.H (.bl (!k)) Ext.refl A.sim (.bl _)
      rw [A.h] at q
      exact ⟨k, t, q⟩
def iIf (c : IT) (i j : IE) : IE := fun env st => (c env st).bind fun k s => if k = true then i env s else j env s
theorem e_if {t : IT} {i j : IE} (hc : PT X c (TT_ F t)) (ha : PE X a (TI F i)) (hb : PE X b (TI F j)) : PE X (.IfExp c a b pos) (TI F (iIf t i j)) := PE.imp (pe_ifExp hc ha hb) fun σ H Q h =>
  (TX.bind (k := fun k env s => if k = true then i env s else j env s) h).mono fun x H1 ⟨W, st, env, d, A, r, p⟩ => by
    cases (show d = x from r)
    cases x with
    | true => exact ⟨W, st, env, A, p⟩
    | false => exact ⟨W, st, env, A, p⟩

/-! ### arguments, displays -/
def aNil : IA := fun _ st => .ok [] st
def aCons (i : IE) (j : IA) : IA := fun env st => (i env st).bind fun d s => (j env s).bind fun ds s2 => .ok (d :: ds) s2
theorem a_nil : PA X [] (TA_ F aNil) := PA.imp pa_nil fun σ H Q ⟨W, st, env, A, p⟩ => by
  have q := p W.ρ W.H [] Ext.refl A.sim .nil
  rw [A.h] at q
  exact q
theorem a_cons {e : Expr} {es : List Expr} {i : IE} {j : IA} (ha : PE X e (TI F i)) (hr : PA X es (TA_ F j)) (hs : starEach (e :: es) X.env = (false, eval e X.env) :: starEach es X.env := by rfl) : PA X (e :: es) (TA_ F (aCons i j)) :=
  PA.imp (pa_cons ha hr hs) fun σ H Q h => (TX.bind (k := fun d env s => (j env s).bind fun ds s2 => .ok (d :: ds) s2) h).mono fun x H1 h1 =>
    (TK.bind (i := j) (k := fun d ds env s2 => .ok (d :: ds) s2) (fun x r => RV.mono x r) h1).mono fun y H2 ⟨W, st, env, a, b, A, ra, rb, p⟩ => by
      have q := p W.ρ W.H (x :: y) Ext.refl A.sim (.cons ra rb)
      rw [A.h] at q
      exact q
def iN (f : OpN) (j : IA) : IE := fun env st => (j env st).bind fun ds s => ofO (f ds s)
theorem n_rN {f : OpN} {j : IA} {σ : L2.St} {H : Hp} {Q : VK} (h : TI F (iN f j) σ H Q) : TA_ F j σ H fun vs H1 => rN F f vs H1 Q :=
  (TX.bind (k := fun ds env s => ofO (f ds s)) h).mono fun x H1 ⟨W, st, env, d, A, r, p⟩ => ⟨W, st, d, A.in_, r, PostO.of p⟩
def opTup : OpN := fun ds st => if ds.length ≤ sizeLine then some (.tup ds, st) else none
def opLst : OpN := fun ds st => if ds.length ≤ sizeLine then some (.ref st.length, st ++ [.lst ds]) else none
theorem e_tup {es : List Expr} {j : IA} {x1} (h : PA X es (TA_ F j)) : PE X (.Tuple es x1 pos) (TI F (iN opTup j)) := PE.imp (pe_tup h) fun σ H Q h => (n_rN h).mono fun vs H1 ⟨W, st, ds, I, r, p⟩ => by
  unfold opTup at p
  split at p
  · rename_i c
    have eH := I.h
    subst eH
    exact ⟨by rw [← r.length]; exact c, fun q hq => p.tuple I.sim r hq⟩
  · exact p.elim
theorem e_lst {es : List Expr} {j : IA} (h : PA X es (TA_ F j)) : PE X (.List es pos) (TI F (iN opLst j)) := PE.imp (pe_lst h) fun σ H Q h => (n_rN h).mono fun vs H1 ⟨W, st, ds, I, r, p⟩ => by
  unfold opLst at p
  split at p
  · rename_i c
    have eH := I.h
    subst eH
    exact ⟨by rw [← r.length]; exact c, fun q hq => p.list I.sim r hq⟩
  · exact p.elim

/-! ### built-in functions -/
theorem e_callB {e : Expr} {es : List Expr} {x : Str} {p : Pos} {id : String} {f : OpN} {j : IA} (hc : CallR X (.builtin id) (rN F f)) (hg : Gl X x) (hm : X.mg x = none) (hv : bootBuiltins x = some (.builtin id)) (ha : PA X (e :: es) (TA_ F j)) (hn : x ≠ "__name__" := by decide) (hdb : (x == ("__debug__" : Str)) = false := by decide)
    (he : starEach (e :: es) X.env = (false, eval e X.env) :: starEach es X.env := by rfl) (hpl : (backTo pos (starEach es X.env)).any (·.1) = false := by rfl) : PE X (.Call (.Name x p) (e :: es) [] pos) (TI F (iN f j)) :=
  PE.imp (pe_callB hc hg hm hv ha hn hdb he hpl) fun σ H Q h => n_rN h
theorem e_callTy {e : Expr} {es : List Expr} {x : Str} {p : Pos} {id : String} {f : OpN} {j : IA} (hc : CallR X (.type id) (rN F f)) (hg : Gl X x) (hm : X.mg x = none) (hv : bootBuiltins x = some (.type id)) (ha : PA X (e :: es) (TA_ F j)) (hn : x ≠ "__name__" := by decide) (hdb : (x == ("__debug__" : Str)) = false := by decide)
    (he : starEach (e :: es) X.env = (false, eval e X.env) :: starEach es X.env := by rfl) (hpl : (backTo pos (starEach es X.env)).any (·.1) = false := by rfl) : PE X (.Call (.Name x p) (e :: es) [] pos) (TI F (iN f j)) :=
  PE.imp (pe_callTy hc hg hm hv ha hn hdb he hpl) fun σ H Q h => n_rN h
theorem rv1 {W : Vw} {d : D} {vs : List V} (r : RVs W [d] vs) : ∃ v, vs = [v] ∧ RV W d v := by
  cases r with
  | cons h r => cases r; exact ⟨_, rfl, h⟩
theorem rv2 {W : Vw} {d e : D} {vs : List V} (r : RVs W [d, e] vs) : ∃ v u, vs = [v, u] ∧ RV W d v ∧ RV W e u := by
  cases r with
  | cons h r =>
    obtain ⟨u, rfl, q⟩ := rv1 r
    exact ⟨_, _, rfl, h, q⟩
def lenD (st : Sto) : D → Option Nat
  | .str x => if x.length ≤ sizeLine then some x.length else none
  | d => (aseq st d).map (·.length)
def opLen : OpN := fun ds st => match ds with
  | [d] => (lenD st d).map fun n => (.int n, st)
  | _ => none
theorem cr_len (hk : X.K = F.K) : CallR X (.builtin "len") (rN F opLen) := CallR.imp call_len fun xs H Q ⟨W, st, ds, I, r, p⟩ => by
  unfold opLen at p
  split at p
  · rename_i d
    obtain ⟨v, rfl, rv⟩ := rv1 r
    cases e : lenD st d with
    | none => rw [e] at p; exact p.elim
    | some n =>
      rw [e] at p
      have q := I.now p (.int _)
      refine ⟨v, n, rfl, ?_, q⟩
      have seq : ∀ xs, aseq st d = some xs → n = xs.length → LenV X.K v H n := fun xs hx hn => by
        obtain ⟨a, ys, rfl, hs, ry⟩ := aseq_at I.sim hx rv
        rw [I.k, ← hk, I.h] at hs
        rcases hs with hs | hs
        · exact .inl ⟨ys, hs, by rw [hn, ry.length]⟩
        · exact .inr ⟨ys, hs, by rw [hn, ry.length]⟩
      have fin : lenD st d = (aseq st d).map (·.length) → LenV X.K v H n := fun z => by
        rw [z] at e
        obtain ⟨xs, hx, hn⟩ := Option.map_eq_some_iff.mp e
        exact seq xs hx hn.symm
      cases d with
      | str x =>
        cases rv
        have e' : (if x.length ≤ sizeLine then some x.length else none) = some n := e
        split at e'
        · cases e'; exact ⟨by assumption, rfl⟩
        · cases e'
      | _ => exact fin rfl
  · exact p.elim
def opAbs : OpN := fun ds st => match ds with
  | [.int i] => some (.int (if i < 0 then -i else i), st)
  | _ => none
theorem cr_abs : CallR X (.builtin "abs") (rN F opAbs) := CallR.imp call_abs fun xs H Q ⟨W, st, ds, I, r, p⟩ => by
  unfold opAbs at p
  split at p
  · obtain ⟨v, rfl, rv⟩ := rv1 r
    cases rv
    exact ⟨_, rfl, I.now p (.int _)⟩
  · exact p.elim
def opMax : OpN := fun ds st => match ds with
  | [.int i, .int j] => some (.int (if j > i then j else i), st)
  | _ => none
theorem cr_max (hc : X.calm = true) : CallR X (.builtin "max") (rN F opMax) := CallR.imp (call_max2 hc) fun xs H Q ⟨W, st, ds, I, r, p⟩ => by
  unfold opMax at p
  split at p
  · obtain ⟨v, u, rfl, rv, ru⟩ := rv2 r
    cases rv
    cases ru
    exact ⟨_, _, rfl, I.now p (.int _)⟩
  · exact p.elim
def opMin : OpN := fun ds st => match ds with
  | [.int i, .int j] => some (.int (if j < i then j else i), st)
  | _ => none
theorem cr_min (hc : X.calm = true) : CallR X (.builtin "min") (rN F opMin) := CallR.imp (call_min2 hc) fun xs H Q ⟨W, st, ds, I, r, p⟩ => by
  unfold opMin at p
  split at p
  · obtain ⟨v, u, rfl, rv, ru⟩ := rv2 r
    cases rv
    cases ru
    exact ⟨_, _, rfl, I.now p (.int _)⟩
  · exact p.elim
def opInt : OpN := fun ds st => match ds with
  | [.int i] => some (.int i, st)
  | [.bl k] => some (.int (if k then 1 else 0), st)
  | _ => none
theorem cr_int : CallR X (.type "int") (rN F opInt) := CallR.imp call_int1 fun xs H Q ⟨W, st, ds, I, r, p⟩ => by
  unfold opInt at p
  split at p
  · obtain ⟨v, rfl, rv⟩ := rv1 r
    cases rv
    exact .inl ⟨_, rfl, I.now p (.int _)⟩
  · obtain ⟨v, rfl, rv⟩ := rv1 r
    cases rv
    exact .inr ⟨_, rfl, I.now p (.int _)⟩
  · exact p.elim
def opStr : OpN := fun ds st => match ds with
  | [.int i] => if i.natAbs.log2 < 1920 then some (.str (toString i), st) else none
  | _ => none
theorem cr_str : CallR X (.type "str") (rN F opStr) := CallR.imp call_str_int fun xs H Q ⟨W, st, ds, I, r, p⟩ => by
  unfold opStr at p
  split at p
  · split at p
    · obtain ⟨v, rfl, rv⟩ := rv1 r
      cases rv
      exact ⟨_, rfl, by assumption, I.now p (.str _)⟩
    · exact p.elim
  · exact p.elim
def opTuple : OpN := fun ds st => match ds with
  | [.tup xs] => some (.tup xs, st)
  | [d] => (alst st d).map fun xs => (.tup xs, st)
  | _ => none
theorem cr_tuple (hk : X.K = F.K) : CallR X (.type "tuple") (rN F opTuple) := CallR.imp call_tuple_of fun xs H Q ⟨W, st, ds, I, r, p⟩ => by
  unfold opTuple at p
  split at p
  · obtain ⟨v, rfl, rv⟩ := rv1 r
    obtain ⟨a, ys, rfl, hs, ry⟩ := tup_at rv
    rw [I.k, ← hk, I.h] at hs
    exact ⟨a, ys, rfl, .inr ⟨hs, I.now p rv⟩⟩
  · rename_i d _
    obtain ⟨v, rfl, rv⟩ := rv1 r
    cases e : alst st d with
    | none => rw [e] at p; exact p.elim
    | some xs =>
      rw [e] at p
      obtain ⟨a, ys, rfl, hs, ry⟩ := alst_at I.sim e rv
      have eH := I.h
      subst eH
      rw [I.k, ← hk] at hs
      exact ⟨a, ys, rfl, .inl ⟨hs, fun l hl => p.tuple I.sim ry hl⟩⟩
  · exact p.elim
/-! ### subscripts -/
theorem atI_rel {W : Vw} {xs : List D} {ys : List V} {i : Int} {d : D} (r : RVs W xs ys) (h : atI xs i = some d) : ∃ v, atI ys i = some v ∧ RV W d v := by
  unfold atI at h ⊢
  rw [← r.length]
  obtain ⟨j, hj, h2⟩ := Option.bind_eq_some_iff.mp h
  obtain ⟨v, hv, rv⟩ := r.get h2
  exact ⟨v, by rw [hj]; exact hv, rv⟩
def opIx : Op2 := fun a b st => match a, b with
  | .str z, .int i => if z.length ≤ sizeLine then (atI z.cps.toList i).map fun c => (.str ⟨#[c]⟩, st) else none
  | a, .int i => match aseq st a with
    | some xs => (atI xs i).map fun d => (d, st)
    | none => none
  | _, _ => none
theorem IxR.imp {r r' : R2} (a : IxR X r) (h : ∀ x y H Q, r' x y H Q → r x y H Q) : IxR X r' := fun e f p s σ H x y v u Q I rx ry q hs => a e f p s σ H x y v u Q I rx ry (h x y H Q q) hs
theorem ir_ix (hk : X.K = F.K) : IxR X (r2 F opIx) := IxR.imp ix_seq fun x y H Q ⟨W, st, a, b, I, ra, rb, p⟩ => by
  unfold opIx at p
  split at p
  · rename_i z i
    cases ra
    cases rb
    split at p
    · rename_i c
      cases e : atI z.cps.toList i with
      | none => rw [e] at p; exact p.elim
      | some c' =>
        rw [e] at p
        exact .inr (.inr ⟨z, i, c', rfl, rfl, c, e, I.now p (.str _)⟩)
    · exact p.elim
  · rename_i i _
    cases rb
    cases e : aseq st a with
    | none => rw [e] at p; exact p.elim
    | some xs =>
      rw [e] at p
      cases e2 : atI xs i with
      | none =>
        have p' : PostO W ((atI xs i).map fun d => (d, st)) Q := p
        rw [e2] at p'; exact p'.elim
      | some d =>
        have p' : PostO W ((atI xs i).map fun d => (d, st)) Q := p
        rw [e2] at p'
        obtain ⟨q, ys, rfl, hs, ry⟩ := aseq_at I.sim e ra
        obtain ⟨v, hv, rv⟩ := atI_rel ry e2
        rw [I.k, ← hk, I.h] at hs
        have z := I.now p' rv
        rcases hs with hs | hs
        · exact .inl ⟨q, ys, i, v, rfl, rfl, hs, hv, z⟩
        · exact .inr (.inl ⟨q, ys, i, v, rfl, rfl, hs, hv, z⟩)
  · exact p.elim
theorem e_ix {i j : IE} (hk : X.K = F.K) (ha : PE X a (TI F i)) (hb : PE X b (TI F j)) (hs : PlainIx b := by exact fun _ _ => rfl) : PE X (.Subscript a b pos) (TI F (iBin opIx i j)) :=
  PE.imp (pe_ix (ir_ix hk) ha hb hs) fun _ _ _ h => bin_r2 h
end
end M
/-! M5: statements, targets, while, for. -/
namespace M
open PySem PySem.Spec PyProof.Rows L2

def liftS {α : Type} (r : R α) (env : Env) (k : α → Sto → RS) : RS := match r with
  | .ok a st => k a st
  | .exc C fs st => .exc C fs env st
  | .bad => .bad
/-- a target's store -/
abbrev IG := D → Env → Sto → R Env
def PE_ (W : Vw) (env : Env) (σ : L2.St) : Prop := EnvR W env σ
def TG_ (F : Fx) (g : IG) : TG := fun v σ H Q => ∃ W st env d, At F W st env σ H ∧ RV W d v ∧ Post W PE_ (g d env st) Q (F.at_ σ)
theorem EnvR.set {W : Vw} {env : Env} {σ : L2.St} {d : D} {v : V} (h : EnvR W env σ) (r : RV W d v) (i : Nat) : EnvR W (env.set i (some d)) (σ.set i (some v)) := by
  refine ⟨by simp [h.len], fun j e q => ?_⟩
  by_cases hj : j = i
  · subst hj
    by_cases hl : j < env.length
    · rw [List.getElem?_set_self hl] at q
      cases q
      exact ⟨v, List.getElem?_set_self (by rw [← h.len]; exact hl), r⟩
    · rw [List.getElem?_eq_none (by simpa using hl)] at q; cases q
  · rw [List.getElem?_set_ne (Ne.symm hj)] at q
    obtain ⟨u, e1, r1⟩ := h.at_ j e q
    exact ⟨u, by rw [List.getElem?_set_ne (Ne.symm hj)]; exact e1, r1⟩

section
variable {X : Cx} {F : Fx} {pos : Pos} {st : Stmt} {rest : List Stmt} {e : Expr}
theorem PostS.nx {W : Vw} {s : Sto} {env : Env} {σ : L2.St} {N : Ends} {E : WX} (p : PostS W (.nx env s) N E) (S : Sim W s) (e : EnvR W env σ) : N.nx σ W.H := p W.ρ W.H σ Ext.refl S e
theorem PostS.mono {W : Vw} {r : RS} {N N' : Ends} {E : WX} (p : PostS W r N E) (h1 : ∀ σ H, N.nx σ H → N'.nx σ H) (h2 : ∀ v H, N.rt v H → N'.rt v H) (h3 : ∀ σ H, N.bk σ H → N'.bk σ H) (h4 : ∀ σ H, N.ct σ H → N'.ct σ H) : PostS W r N' E := by
  cases r with
  | nx a st => exact fun ρ2 H2 b x s y => h1 _ _ (p ρ2 H2 b x s y)
  | ret a st => exact fun ρ2 H2 b x s y => h2 _ _ (p ρ2 H2 b x s y)
  | bk a st => exact fun ρ2 H2 b x s y => h3 _ _ (p ρ2 H2 b x s y)
  | ct a st => exact fun ρ2 H2 b x s y => h4 _ _ (p ρ2 H2 b x s y)
  | exc C fs e st => exact p
  | bad => exact p
/-- an expression first -/
theorem TX.bindS {α β : Type} {P : Vw → α → β → Prop} {i : Env → Sto → R α} {k : α → Env → Sto → RS} {σ : L2.St} {H : Hp} {N : Ends}
    (h : TS_ F (fun env st => liftS (i env st) env fun a s => k a env s) N σ H) : TX P F i σ H fun b H' => ∃ W st env a, At F W st env σ H' ∧ P W a b ∧ PostS W (k a env st) N F.E := by
  obtain ⟨W, s, env, A, p⟩ := h
  refine ⟨W, s, env, A, ?_⟩
  have p' : PostS W (liftS (i env s) env fun a s => k a env s) N F.E := p
  cases r : i env s with
  | ok a s1 =>
    rw [r] at p'
    exact fun ρ' H' b x S q => ⟨W.to ρ' H', s1, env, a, A.next x S, q, PostS.ext x p'⟩
  | exc C fs s1 =>
    rw [r] at p'
    exact fun ρ' H' d x S q => p' ρ' H' σ d x S (A.env.mono x) q
  | bad => rw [r] at p'; exact p'
/-! ### blocks -/
def sNil : IS := fun env st => .nx env st
def kSeq (j : IS) : RS → RS
  | .nx env st => j env st
  | r => r
def sSeq (i j : IS) : IS := fun env st => kSeq j (i env st)
theorem s_nil : PSs X [] (TS_ F sNil) := PSs.imp pss_nil fun N σ H ⟨W, s, env, A, p⟩ => by
  have q := PostS.nx p A.sim A.env
  rw [A.h] at q
  exact q
theorem TS_.seq {i j : IS} {N : Ends} {σ : L2.St} {H : Hp} (h : TS_ F (sSeq i j) N σ H) : TS_ F i { N with nx := TS_ F j N } σ H := by
  obtain ⟨W, s, env, A, p⟩ := h
  refine ⟨W, s, env, A, ?_⟩
  have p' : PostS W (kSeq j (i env s)) N F.E := p
  cases r : i env s with
  | nx e2 s2 => rw [r] at p'; exact fun ρ' H' σ' x S q => ⟨W.to ρ' H', s2, e2, ⟨A.k, A.g, rfl, S, q⟩, PostS.ext x p'⟩
  | ret d s2 => rw [r] at p'; exact p'
  | bk e2 s2 => rw [r] at p'; exact p'
  | ct e2 s2 => rw [r] at p'; exact p'
  | exc C fs e2 s2 => rw [r] at p'; exact p'
  | bad => rw [r] at p'; exact p'
theorem s_cons {i j : IS} (h1 : PS X st (TS_ F i)) (h2 : PSs X rest (TS_ F j)) : PSs X (st :: rest) (TS_ F (sSeq i j)) := PSs.imp (pss_cons h1 h2) fun _ _ _ h => h.seq
theorem s_one {i : IS} (h1 : PS X st (TS_ F i)) : PSs X [st] (TS_ F i) := pss_one h1
def sBreak : IS := fun env st => .bk env st
def sCont : IS := fun env st => .ct env st
def sExpr (i : IE) : IS := fun env st => liftS (i env st) env fun _ s => .nx env s
theorem s_expr {i : IE} (he : PE X e (TI F i)) (hs : swapsWith e none pos.line X.env = pure false := by rfl) : PS X (.Expr e pos) (TS_ F (sExpr i)) := PS.imp (ps_expr he hs) fun N σ H h =>
  (TX.bindS (k := fun _ env s => .nx env s) h).mono fun x H1 ⟨W, s, env, a, A, r, p⟩ => by
    have q := PostS.nx p A.sim A.env
    rw [A.h] at q
    exact q
def sRet (i : IE) : IS := fun env st => liftS (i env st) env fun d s => .ret d s
theorem s_ret {i : IE} (he : PE X e (TI F i)) : PS X (.Return (some e) pos) (TS_ F (sRet i)) := PS.imp (ps_ret he) fun N σ H h =>
  (TX.bindS (k := fun d env s => .ret d s) h).mono fun x H1 ⟨W, s, env, a, A, r, p⟩ => by
    have q := p W.ρ W.H x Ext.refl A.sim r
    rw [A.h] at q
    exact q
def sRetN : IS := fun env st => .ret .non st
def sIf (c : IT) (i j : IS) : IS := fun env st => liftS (c env st) env fun k s => if k = true then i env s else j env s
theorem s_if {c : Expr} {a b : List Stmt} {t : IT} {i j : IS} (hc : PT X c (TT_ F t)) (ha : PSs X a (TS_ F i)) (hb : PSs X b (TS_ F j)) : PS X (.If c a b pos) (TS_ F (sIf t i j)) := PS.imp (ps_if hc ha hb) fun N σ H h =>
  (TX.bindS (k := fun k env s => if k = true then i env s else j env s) h).mono fun x H1 ⟨W, s, env, a, A, r, p⟩ => by
    cases (show a = x from r)
    cases x with
    | true => exact ⟨W, s, env, A, p⟩
    | false => exact ⟨W, s, env, A, p⟩
/-! ### targets, assignments -/
def gVar (i : Nat) : IG := fun d env st => .ok (env.set i (some d)) st
theorem g_name {i : Nat} {x : Str} (hN : X.N.Nodup) (hi : X.N[i]? = some x) (hx : Loc X.env.scope x) (hf : X.fn x = true ∨ X.env.scope.names.lookup x = some .local := by first | exact .inl rfl | exact .inr rfl | assumption) : PG X (.Name x pos) (TG_ F (gVar i)) := by
  refine ⟨fun pins s σ H v u Q I r h => (pg_name (X := X) (pos := pos) hN hi hx hf).run pins s σ H v u Q I r ?_⟩
  obtain ⟨W, s, env, d, A, rv, p⟩ := h
  have q := p W.ρ W.H (σ.set i (some v)) Ext.refl A.sim (A.env.set rv i)
  rw [A.h] at q
  exact q
def sSet (i : Nat) (e : IE) : IS := fun env st => liftS (e env st) env fun d s => .nx (env.set i (some d)) s
theorem s_set {i : Nat} {x : Str} {j : IE} {pos' : Pos} (hN : X.N.Nodup) (hi : X.N[i]? = some x) (hx : Loc X.env.scope x) (he : PE X e (TI F j)) (hs : swapsWith e (some (.Name x pos')) pos.line X.env = pure false := by rfl) (hf : X.fn x = true ∨ X.env.scope.names.lookup x = some .local := by first | exact .inl rfl | exact .inr rfl | assumption) :
    PS X (.Assign [.Name x pos'] e pos) (TS_ F (sSet i j)) := PS.imp (ps_set hN hi hx he hs hf) fun N σ H h =>
  (TX.bindS (k := fun d env s => .nx (env.set i (some d)) s) h).mono fun v H1 ⟨W, s, env, a, A, r, p⟩ => by
    have q := PostS.nx p A.sim (A.env.set r i)
    rw [A.h] at q
    exact q
/-- x, y = a, b: both first -/
def sPar (i k : Nat) (a : IA) : IS := fun env st => liftS (a env st) env fun ds s => match ds with
  | [d, e] => .nx ((env.set i (some d)).set k (some e)) s
  | _ => .bad
theorem s_par {i j : Nat} {x y : Str} {a b : Expr} {ta : IA} {px py pt : Pos} {kt k2 pt2} (hc : X.calm = true) (hN : X.N.Nodup) (hi : X.N[i]? = some x) (hj : X.N[j]? = some y) (hij : i ≠ j)
    (hx : X.env.scope.names.lookup x = some .local) (hy : X.env.scope.names.lookup y = some .local) (ha : PA X [a, b] (TA_ F ta))
    (hw : swappedStores [.Tuple [.Name x px, .Name y py] kt pt] (.Tuple [a, b] k2 pt2) X.env = pure (some [x, y]))
    (hs : swapsWithSole [.Tuple [.Name x px, .Name y py] kt pt] (.Tuple [a, b] k2 pt2) pos.line X.env = pure false := by rfl) :
    PS X (.Assign [.Tuple [.Name x px, .Name y py] kt pt] (.Tuple [a, b] k2 pt2) pos) (TS_ F (sPar i j ta)) := PS.imp (ps_par hc hN hi hj hij hx hy ha hw hs) fun N σ H h =>
  (TX.bindS (k := fun ds env s => match ds with
  | [d, e] => .nx ((env.set i (some d)).set j (some e)) s
  | _ => .bad) h).mono fun vs H1 ⟨W, s, env, ds, A, r, p⟩ => by
    split at p
    · obtain ⟨v, u, rfl, r1, r2⟩ := rv2 r
      have q := PostS.nx p A.sim ((A.env.set r1 i).set r2 j)
      rw [A.h] at q
      exact ⟨v, u, rfl, q⟩
    · exact p.elim
/-- target = e -/
def sAsg (g : IG) (e : IE) : IS := fun env st => liftS (e env st) env fun d s => liftS (g d env s) env fun env' s' => .nx env' s'
theorem s_asg {tg : Expr} {g : IG} {j : IE} (he : PE X e (TI F j)) (hg : PG X tg (TG_ F g)) (hs : swapsWithSole [tg] e pos.line X.env = pure false := by rfl) (hw : swappedStores [tg] e X.env = pure none := by rfl)
    (h1 : (assignEach [tg] X.env).map (·.2) = [assign tg X.env] := by rfl) : PS X (.Assign [tg] e pos) (TS_ F (sAsg g j)) := PS.imp (ps_asg he hg hs hw h1) fun N σ H h =>
  (TX.bindS (k := fun d env s => liftS (g d env s) env fun env' s' => .nx env' s') h).mono fun v H1 ⟨W, s, env, a, A, r, p⟩ => by
    refine ⟨W, s, env, a, A, r, ?_⟩
    have p' : PostS W (liftS (g a env s) env fun env' s' => .nx env' s') N F.E := p
    cases q : g a env s with
    | ok e2 s2 => rw [q] at p'; exact p'
    | exc C fs s2 =>
      rw [q] at p'
      exact fun ρ' H' d x S z => p' ρ' H' σ d x S (A.env.mono x) z
    | bad => rw [q] at p'; exact p'
/-! ### targets that are tuples -/
abbrev IGs := List D → Env → Sto → R Env
def TGs_ (F : Fx) (g : IGs) : TGs := fun vs σ H Q => ∃ W st env ds, At F W st env σ H ∧ RVs W ds vs ∧ Post W PE_ (g ds env st) Q (F.at_ σ)
def gsNil : IGs := fun ds env st => match ds with
  | [] => .ok env st
  | _ => .bad
def gsVar (i : Nat) (r : IGs) : IGs := fun ds env st => match ds with
  | d :: ds => r ds (env.set i (some d)) st
  | _ => .bad
end
section
variable {X : Cx} {F : Fx} {pos : Pos}
theorem gs_nil : PGs X [] (TGs_ F gsNil) := by
  refine ⟨fun pins s σ H vs us Q I r h => (pgs_nil (X := X)).run pins s σ H vs us Q I r ?_⟩
  obtain ⟨W, s, env, ds, A, rv, p⟩ := h
  unfold gsNil at p
  split at p
  · cases rv
    have q := p W.ρ W.H σ Ext.refl A.sim A.env
    rw [A.h] at q
    exact ⟨rfl, q⟩
  · exact p.elim
theorem gs_name {i : Nat} {x : Str} {es : List Expr} {g : IGs} (hN : X.N.Nodup) (hi : X.N[i]? = some x) (hx : Loc X.env.scope x) (h2 : PGs X es (TGs_ F g)) (ne : ∀ ds env st C fs s, g ds env st ≠ .exc C fs s)
    (hs : (assignEach (.Name x pos :: es) X.env).map (·.2) = assign (.Name x pos) X.env :: (assignEach es X.env).map (·.2) := by rfl) (hf : X.fn x = true ∨ X.env.scope.names.lookup x = some .local := by first | exact .inl rfl | exact .inr rfl | assumption) :
    PGs X (.Name x pos :: es) (TGs_ F (gsVar i g)) := by
  refine ⟨fun pins s σ H vs us Q I r h => (pgs_cons (X := X) (pg_name (pos := pos) hN hi hx hf) h2 hs).run pins s σ H vs us Q I r ?_⟩
  obtain ⟨W, s, env, ds, A, rv, p⟩ := h
  unfold gsVar at p
  split at p
  · rename_i d ds
    cases rv with
    | cons h1 h3 =>
      refine ⟨_, _, rfl, W, s, env.set i (some d), ds, ⟨A.k, A.g, A.h, A.sim, A.env.set h1 i⟩, h3, ?_⟩
      cases q : g ds (env.set i (some d)) s with
      | ok e2 s2 => rw [q] at p; exact p
      | exc C fs s2 => exact absurd q (ne _ _ _ _ _ _)
      | bad => rw [q] at p; exact p
  · exact p.elim
theorem gsNil_ne : ∀ ds env st C fs s, gsNil ds env st ≠ .exc C fs s := fun ds env st C fs s h => by
  unfold gsNil at h
  split at h <;> cases h
theorem gsVar_ne {i : Nat} {g : IGs} (ne : ∀ ds env st C fs s, g ds env st ≠ .exc C fs s) : ∀ ds env st C fs s, gsVar i g ds env st ≠ .exc C fs s := fun ds env st C fs s h => by
  unfold gsVar at h
  split at h
  · exact ne _ _ _ _ _ _ h
  · cases h
/-- (a, b, ..) = a tuple of n -/
def gTup' (n : Nat) (g : IGs) : IG := fun d env st => match d with
  | .tup xs => if xs.length = n then g xs env st else .bad
  | .lst xs => if xs.length = n then g xs env st else .bad
  | _ => .bad
/-- a tuple or a list of n -/
def gTL (K : PySem.W.Frag) (n : Nat) (t : TGs) : TG := fun v σ H Q => L2.gTup K n t v σ H Q ∨ L2.gLst K n t v σ H Q
theorem pg_tl {es : List Expr} {k n : Nat} {t : TGs} (hc : X.calm = true) (h : PGs X es t)
    (hn : (assignEach es X.env).length = n := by rfl) (hst : (assignEach es X.env).findIdx? (·.1) = none := by rfl) : PG X (.Tuple es k pos) (gTL X.K n t) :=
  ⟨fun pins s σ H v u Q I r hw => hw.elim (fun z => (pg_tup (X := X) (k := k) (pos := pos) hc h hn hst).run pins s σ H v u Q I r z) fun z => (pg_lst (X := X) (k := k) (pos := pos) hc h hn hst).run pins s σ H v u Q I r z⟩
theorem g_tup {es : List Expr} {k n : Nat} {g : IGs} (hk : X.K = F.K) (hc : X.calm = true) (h : PGs X es (TGs_ F g))
    (hn : (assignEach es X.env).length = n := by rfl) (hst : (assignEach es X.env).findIdx? (·.1) = none := by rfl) : PG X (.Tuple es k pos) (TG_ F (gTup' n g)) := by
  refine ⟨fun pins s σ H v u Q I r hw => (pg_tl (X := X) (k := k) (pos := pos) hc h hn hst).run pins s σ H v u Q I r ?_⟩
  obtain ⟨W, s, env, d, A, rv, p⟩ := hw
  unfold gTup' at p
  split at p
  · rename_i xs
    split at p
    · rename_i c
      obtain ⟨a, ys, rfl, hs, ry⟩ := tup_at rv
      rw [A.k, ← hk, A.h] at hs
      exact .inl ⟨a, ys, rfl, hs, by rw [← ry.length]; exact c, W, s, env, xs, A, ry, p⟩
    · exact p.elim
  · rename_i xs
    split at p
    · rename_i c
      obtain ⟨a, ys, rfl, hs, ry⟩ := alst_at (st := s) A.sim (d := .lst xs) (xs := xs) rfl rv
      rw [A.k, ← hk, A.h] at hs
      exact .inr ⟨a, ys, rfl, hs, by rw [← ry.length]; exact c, W, s, env, xs, A, ry, p⟩
    · exact p.elim
  · exact p.elim
/-! ### while -/
def kWhile (b : IS) (again : IS) : RS → RS
  | .nx env st => again env st
  | .ct env st => again env st
  | .bk env st => .nx env st
  | r => r
def sWhileN (c : IT) (b : IS) : Nat → IS
  | 0 => fun _ _ => .bad
  | n + 1 => fun env st => liftS (c env st) env fun k s => if k = true then kWhile b (sWhileN c b n) (b env s) else .nx env s
/-- while, with a bound of the turns read off the state at its start -/
def sWhile (m : Env → Sto → Nat) (c : IT) (b : IS) : IS := fun env st => sWhileN c b (m env st) env st
theorem s_while {m : Env → Sto → Nat} {c : Expr} {body : List Stmt} {t : IT} {b : IS} (hp : PassesOwn (model X.prog X.w) X.A X.env X.xe) (hc : PT X c (TT_ F t)) (hb : PSs X body (TS_ F b)) : PS X (.While c body [] pos) (TS_ F (sWhile m t b)) := by
  refine PS.imp (ps_while hp hc hb) fun N σ H ⟨W, s, env, A, p⟩ => ?_
  refine ⟨fun n σ H => TS_ F (sWhileN t b n) N σ H, ⟨m env s, W, s, env, A, p⟩, fun n σ H h => ?_⟩
  cases n with
  | zero =>
    obtain ⟨W, s, env, A, p⟩ := h
    exact p.elim
  | succ n =>
    refine (TX.bindS (k := fun k env s => if k = true then kWhile b (sWhileN t b n) (b env s) else .nx env s) h).mono fun x H1 ⟨W, s, env, a, A, r, p⟩ => ?_
    cases (show a = x from r)
    cases x with
    | false =>
      have q := PostS.nx p A.sim A.env
      rw [A.h] at q
      exact q
    | true =>
      rw [if_pos rfl]
      refine ⟨TS_ F (sWhileN t b n) N, fun σ' H' h => ⟨n, Nat.lt_succ_self n, h⟩, W, s, env, A, ?_⟩
      have p' : PostS W (kWhile b (sWhileN t b n) (b env s)) N F.E := p
      cases q : b env s with
      | nx e2 s2 => rw [q] at p'; exact fun ρ' H' σ' x S z => ⟨W.to ρ' H', s2, e2, ⟨A.k, A.g, rfl, S, z⟩, PostS.ext x p'⟩
      | ct e2 s2 => rw [q] at p'; exact fun ρ' H' σ' x S z => ⟨W.to ρ' H', s2, e2, ⟨A.k, A.g, rfl, S, z⟩, PostS.ext x p'⟩
      | bk e2 s2 => rw [q] at p'; exact p'
      | ret d s2 => rw [q] at p'; exact p'
      | exc C fs e2 s2 => rw [q] at p'; exact p'
      | bad => rw [q] at p'; exact p'
/-! ### for -/
/-- later: what is out of reach may have changed -/
structure VE (W : Vw) (ρ' : List Addr) (H' : Hp) : Prop where
  pre : W.ρ <+: ρ'
  new : ∀ a ∈ ρ', a ∈ W.ρ ∨ W.H a = none
  keep : ∀ a o, W.H a = some o → W.fro a → H' a = some o
  frz : ∀ a o u, W.H a = some (.frz o u) → H' a = some (.frz o u)
theorem Ext.ve {W : Vw} {ρ' : List Addr} {H' : Hp} (x : Ext W ρ' H') : VE W ρ' H' := ⟨x.pre, x.new, fun a o h f => x.keep a o h f.1, x.frz⟩
theorem VE.notin {W : Vw} {ρ' : List Addr} {H' : Hp} (x : VE W ρ' H') {a : Addr} {o : HO} (h : W.H a = some o) (n : a ∉ W.ρ) : a ∉ ρ' := fun m => by
  rcases x.new a m with q | q
  · exact n q
  · rw [h] at q; cases q
/-- a later view, of which new things may be out of reach -/
structure VX (W V : Vw) : Prop where
  k : V.K = W.K
  g : V.g = W.g
  x : VE W V.ρ V.H
  z : ∀ a, V.Z a → W.Z a ∨ W.H a = none
theorem VX.of {W : Vw} {ρ' : List Addr} {H' : Hp} (x : Ext W ρ' H') : VX W (W.to ρ' H') := ⟨rfl, rfl, x.ve, fun _ h => .inl h⟩
section
variable {W V : Vw}
theorem VX.fro (x : VX W V) {a : Addr} {o : HO} (h : W.H a = some o) (f : W.fro a) : V.fro a := ⟨x.x.notin h f.1, fun z => (x.z a z).elim f.2 fun e => by rw [h] at e; cases e⟩
theorem Vw.Tup.vx (x : VX W V) {a : Addr} {ys : List L2.V} (h : W.Tup a ys) : V.Tup a ys := by
  rcases h with ⟨h | ⟨o, h⟩, f⟩ | h
  · exact .inl ⟨.inl (x.x.keep _ _ h f), x.fro h f⟩
  · exact .inl ⟨.inr ⟨o, x.x.keep _ _ h f⟩, x.fro h f⟩
  · exact .inr (by rw [x.k]; exact h)
theorem Vw.Tpl.vx (x : VX W V) {a : Addr} {ys : List L2.V} (h : W.Tpl a ys) : V.Tpl a ys := let ⟨⟨o, e, d⟩, f⟩ := h; ⟨⟨o, x.x.keep _ _ e f, d⟩, x.fro e f⟩
theorem Vw.Lst.vx (x : VX W V) {a : Addr} {ys : List L2.V} (h : W.Lst a ys) : V.Lst a ys := by
  rcases h with ⟨h | ⟨o, h⟩, f⟩ | h
  · exact .inl ⟨.inl (x.x.keep _ _ h f), x.fro h f⟩
  · exact .inl ⟨.inr ⟨o, x.x.keep _ _ h f⟩, x.fro h f⟩
  · exact .inr (by rw [x.k]; exact h)
theorem rd_vx (x : VX W V) {a : Addr} {u : HO} (h : Rd W.H a u) (f : W.fro a) : Rd V.H a u ∧ V.fro a := by
  rcases h with h | ⟨o, h⟩
  · exact ⟨.inl (x.x.keep _ _ h f), x.fro h f⟩
  · exact ⟨.inr ⟨o, x.x.keep _ _ h f⟩, x.fro h f⟩
mutual
theorem RV.vx (x : VX W V) : ∀ {d : D} {v : L2.V}, RV W d v → RV V d v
  | _, _, .non => .non
  | _, _, .bl b => .bl b
  | _, _, .int i => .int i
  | _, _, .str s => .str s
  | _, _, .ty n => .ty n
  | _, _, .glo s => by rw [← x.g]; exact .glo s
  | _, _, .tup h r => .tup (h.vx x) (r.vx x)
  | _, _, .lst h r => .lst (h.vx x) (r.vx x)
  | _, _, .dct h f e r => .dct (rd_vx x h f).1 (rd_vx x h f).2 e (r.vx x)
  | _, _, .obj h f r => .obj (by rw [x.g]; exact x.x.keep _ _ h f) (x.fro h f) (r.vx x)
  | _, _, .exc h f a b r => .exc (by rw [x.g]; exact x.x.keep _ _ h f) (x.fro h f) a (fun dx e => ⟨x.x.keep _ _ (b dx e).1 (b dx e).2, x.fro (b dx e).1 (b dx e).2⟩) (r.vx x)
  | _, _, .ref h => .ref (pre_get x.x.pre h)
  | _, _, .tpl h r => .tpl (h.vx x) (r.vx x)
  | _, _, .adr h f r => .adr (x.x.keep _ _ h f) (x.fro h f) (r.vx x)
theorem RVs.vx (x : VX W V) : ∀ {d : List D} {v : List L2.V}, RVs W d v → RVs V d v
  | _, _, .nil => .nil
  | _, _, .cons h r => .cons (h.vx x) (r.vx x)
theorem RFs.vx (x : VX W V) : ∀ {d : List (Str × D)} {v : List (Str × L2.V)}, RFs W d v → RFs V d v
  | _, _, .nil => .nil
  | _, _, .cons h r => .cons (h.vx x) (r.vx x)
end
end
/-- what a loop walks: at the turn i, the store as it is: stuck, the end, an item -/
abbrev Nx := Nat → Sto → Option (Option D)
structure ItOk (W : Vw) (a : Nx × Nat) (J : It) : Prop where
  go : ∀ V st i d, VX W V → Sim V st → a.1 i st = some (some d) → J.go i V.H ∧ ∀ x H2, J.yld i V.H x H2 → Ext V V.ρ H2 ∧ Sim (V.to V.ρ H2) st ∧ RV (V.to V.ρ H2) d x
  stop : ∀ V st i, VX W V → Sim V st → a.1 i st = some none → J.stop i V.H
abbrev IW := Env → Sto → R (Nx × Nat)
abbrev TW (F : Fx) (i : IW) : L2.TI := fun σ H Q => TX ItOk F i σ H Q
def forL (nx : Nx) (g : IG) (b : IS) : Nat → Nat → IS
  | 0, i => fun env st => match nx i st with
    | some none => .nx env st
    | _ => .bad
  | m + 1, i => fun env st => match nx i st with
    | some none => .nx env st
    | some (some d) => liftS (g d env st) env fun env1 s1 => kWhile b (forL nx g b m (i + 1)) (b env1 s1)
    | none => .bad
def sFor (w : IW) (g : IG) (b : IS) : IS := fun env st => liftS (w env st) env fun a s => forL a.1 g b a.2 0 env s
theorem s_for {tg iter : Expr} {body : List Stmt} {w : IW} {g : IG} {b : IS} (hp : PassesOwn (model X.prog X.w) X.A X.env X.xe) (hc : X.calm = true) (hi : PI X tg iter (TW F w)) (hg : PG X tg (TG_ F g)) (hb : PSs X body (TS_ F b))
    (hs : ∀ x, foldedSetIterable iter X.env x = pure x := by intro _; rfl) : PS X (.For tg iter body [] pos) (TS_ F (sFor w g b)) := by
  refine PS.imp (ps_for hp hc hi hg hb hs) fun N σ H h => ?_
  refine (TX.bindS (k := fun a env s => forL a.1 g b a.2 0 env s) h).mono fun J H1 ⟨W0, s, env, a, A, r, p⟩ => ?_
  obtain ⟨nx, m⟩ := a
  refine ⟨fun i m σ H => ∃ ρ' st env, At F (W0.to ρ' H) st env σ H ∧ Ext W0 ρ' H ∧ PostS (W0.to ρ' H) (forL nx g b m i env st) N F.E, ⟨m, W0.ρ, s, env, ?_⟩, fun i m σ H ⟨ρ', st, env, A, x, p⟩ => ?_⟩
  · have eH := A.h
    subst eH
    exact ⟨A, Ext.refl, p⟩
  · have S := A.sim
    have p' : PostS (W0.to ρ' H) (forL nx g b m i env st) N F.E := p
    cases m with
    | zero =>
      unfold forL at p'
      split at p'
      · rename_i e
        exact .inl ⟨r.stop (W0.to ρ' H) st i (.of x) S e, PostS.nx p' S A.env⟩
      · exact p'.elim
    | succ m =>
    unfold forL at p'
    split at p'
    · rename_i e
      exact .inl ⟨r.stop (W0.to ρ' H) st i (.of x) S e, PostS.nx p' S A.env⟩
    · rename_i d e
      obtain ⟨h1, h2⟩ := r.go (W0.to ρ' H) st i d (.of x) S e
      refine .inr ⟨h1, fun σ' H' => ∃ ρ' st env, At F (W0.to ρ' H') st env σ' H' ∧ Ext W0 ρ' H' ∧ PostS (W0.to ρ' H') (forL nx g b m (i + 1) env st) N F.E, fun σ' H' h => ⟨m, Nat.lt_succ_self m, h⟩, fun v H2 hy => ?_⟩
      obtain ⟨x2, S2, rv⟩ := h2 v H2 hy
      refine ⟨W0.to ρ' H2, st, env, d, ⟨A.k, A.g, rfl, S2, A.env.mono x2⟩, rv, ?_⟩
      have p2 := PostS.ext x2 p'
      have xx : Ext W0 ρ' H2 := x.trans x2
      cases q : g d env st with
      | bad => rw [q] at p2; exact p2
      | exc C fs s2 =>
        rw [q] at p2
        exact fun ρ3 H3 d x S z => p2 ρ3 H3 σ d x S ((A.env.mono x2).mono x) z
      | ok e2 s2 =>
        rw [q] at p2
        intro ρ3 H3 σ3 x3 S3 z3
        refine ⟨W0.to ρ3 H3, s2, e2, ⟨A.k, A.g, rfl, S3, z3⟩, ?_⟩
        have p3 : PostS (W0.to ρ3 H3) (kWhile b (forL nx g b m (i + 1)) (b e2 s2)) N F.E := PostS.ext (W := W0.to ρ' H2) x3 p2
        have x4 : Ext W0 ρ3 H3 := xx.trans x3
        cases q : b e2 s2 with
        | nx e3 s3 => rw [q] at p3; exact fun ρ5 H5 σ5 x5 S5 z => ⟨ρ5, s3, e3, ⟨A.k, A.g, rfl, S5, z⟩, x4.trans x5, PostS.ext (W := W0.to ρ3 H3) x5 p3⟩
        | ct e3 s3 => rw [q] at p3; exact fun ρ5 H5 σ5 x5 S5 z => ⟨ρ5, s3, e3, ⟨A.k, A.g, rfl, S5, z⟩, x4.trans x5, PostS.ext (W := W0.to ρ3 H3) x5 p3⟩
        | bk e3 s3 => rw [q] at p3; exact p3
        | ret d s3 => rw [q] at p3; exact p3
        | exc C fs e3 s3 => rw [q] at p3; exact p3
        | bad => rw [q] at p3; exact p3
    · exact p'.elim
/-! ### what is walked -/
def nxL (xs : List D) : Nx := fun i _ => some xs[i]?
def nxM (n : Nat) : Nx := fun i st => (lstAt st n).map fun xs => xs[i]?
def kSeqW (d : D) (s : Sto) : R (Nx × Nat) := match d with
  | .lst xs => .ok (nxL xs, xs.length) s
  | .ref n => match lstAt s n with
    | some xs => .ok (nxM n, xs.length) s
    | none => .bad
  | _ => .bad
def kTupW (d : D) (s : Sto) : R (Nx × Nat) := match d with
  | .tup xs => .ok (nxL xs, xs.length) s
  | _ => .bad
def wSeq (i : IE) : IW := fun env st => (i env st).bind kSeqW
def wTup (i : IE) : IW := fun env st => (i env st).bind kTupW
theorem PI.imp {tg e : Expr} {t t' : L2.TI} (h : PI X tg e t) (w : ∀ σ H Q, t' σ H Q → t σ H Q) : PI X tg e t' := ⟨fun p s σ H Q I q => h.run p s σ H Q I (w σ H Q q)⟩
theorem itok_tup {W : Vw} {a : Addr} {xs : List D} {ys : List V} {m : Nat} (t : W.Tup a ys) (r : RVs W xs ys) : ItOk W (nxL xs, m) (Itt W.K a) where
  go := fun V st i d x S e => by
    have e' : xs[i]? = some d := Option.some.inj e
    have t' := (t.vx x).sq
    have r' := r.vx x
    rw [x.k] at t'
    obtain ⟨v, hv, rv⟩ := r'.get e'
    refine ⟨⟨ys, v, t', hv⟩, fun y H2 ⟨e2, f⟩ => ?_⟩
    subst e2
    have q := f ys t'
    rw [hv] at q
    cases q
    exact ⟨Ext.refl, S, rv⟩
  stop := fun V st i x S e => by
    have e' : xs[i]? = none := Option.some.inj e
    refine ⟨ys, by rw [← x.k]; exact (t.vx x).sq, ?_⟩
    rw [← r.length]
    exact List.getElem?_eq_none_iff.mp e'
theorem itok_lst {W : Vw} {a : Addr} {xs : List D} {ys : List V} {m : Nat} (t : W.Lst a ys) (r : RVs W xs ys) : ItOk W (nxL xs, m) (Itl W.K a) where
  go := fun V st i d x S e => by
    have e' : xs[i]? = some d := Option.some.inj e
    have t' := (t.vx x).sq
    have r' := r.vx x
    rw [x.k] at t'
    obtain ⟨v, hv, rv⟩ := r'.get e'
    refine ⟨⟨ys, v, t', hv⟩, fun y H2 ⟨e2, f⟩ => ?_⟩
    subst e2
    have q := f ys t'
    rw [hv] at q
    cases q
    exact ⟨Ext.refl, S, rv⟩
  stop := fun V st i x S e => by
    have e' : xs[i]? = none := Option.some.inj e
    refine ⟨ys, by rw [← x.k]; exact (t.vx x).sq, ?_⟩
    rw [← r.length]
    exact List.getElem?_eq_none_iff.mp e'
theorem itok_ref {W : Vw} {a : Addr} {n m : Nat} (h : W.ρ[n]? = some a) : ItOk W (nxM n, m) (Itl W.K a) where
  go := fun V st i d x S e => by
    obtain ⟨xs, hx, e'⟩ := Option.map_eq_some_iff.mp (show (lstAt st n).map (fun xs => xs[i]?) = some (some d) from e)
    obtain ⟨ys, h1, r1⟩ := S.at_ n _ a (lstAt_eq hx) (pre_get x.x.pre h)
    obtain ⟨v, hv, rv⟩ := r1.get e'
    refine ⟨⟨ys, v, .inl (.inl h1), hv⟩, fun y H2 ⟨e2, f⟩ => ?_⟩
    subst e2
    have q := f ys (.inl (.inl h1))
    rw [hv] at q
    cases q
    exact ⟨Ext.refl, S, rv⟩
  stop := fun V st i x S e => by
    obtain ⟨xs, hx, e'⟩ := Option.map_eq_some_iff.mp (show (lstAt st n).map (fun xs => xs[i]?) = some none from e)
    obtain ⟨ys, h1, r1⟩ := S.at_ n _ a (lstAt_eq hx) (pre_get x.x.pre h)
    exact ⟨ys, .inl (.inl h1), by rw [← r1.length]; exact List.getElem?_eq_none_iff.mp e'⟩
theorem w_tup {tg l : Expr} {i : IE} (hk : X.K = F.K) (hl : PE X l (TI F i)) : PI X tg l (TW F (wTup i)) := PI.imp (pi_tup hl) fun σ H Q h =>
  (TX.bind (k := fun d env s => kTupW d s) h).mono fun x H1 ⟨W, s, env, d, A, r, p⟩ => by
    have p' : Post W ItOk (kTupW d s) Q (F.at_ σ) := p
    unfold kTupW at p'
    split at p'
    · rename_i xs
      cases r with
      | tup t r =>
        have q := p' W.ρ W.H _ Ext.refl A.sim (itok_tup t r)
        have t' := t.sq
        rw [A.k, ← hk] at q t'
        rw [A.h] at q t'
        exact ⟨_, rfl, ⟨_, t'⟩, q⟩
    · exact p'.elim
theorem w_seq {tg l : Expr} {i : IE} (hk : X.K = F.K) (hl : PE X l (TI F i)) : PI X tg l (TW F (wSeq i)) := PI.imp (pi_list hl) fun σ H Q h =>
  (TX.bind (k := fun d env s => kSeqW d s) h).mono fun x H1 ⟨W, s, env, d, A, r, p⟩ => by
    have p' : Post W ItOk (kSeqW d s) Q (F.at_ σ) := p
    unfold kSeqW at p'
    split at p'
    · rename_i xs
      cases r with
      | lst t r =>
        have q := p' W.ρ W.H _ Ext.refl A.sim (itok_lst t r)
        have t' := t.sq
        rw [A.k, ← hk] at q t'
        rw [A.h] at q t'
        exact ⟨_, rfl, ⟨_, t'⟩, q⟩
    · rename_i n
      cases e : lstAt s n with
      | none => rw [e] at p'; exact p'.elim
      | some xs =>
        rw [e] at p'
        cases r with
        | ref h =>
          have q := p' W.ρ W.H _ Ext.refl A.sim (itok_ref h)
          obtain ⟨ys, h1, r1⟩ := A.sim.at_ n _ _ (lstAt_eq e) h
          rw [A.k, ← hk] at q
          rw [A.h] at q h1
          exact ⟨_, rfl, ⟨ys, .inl (.inl h1)⟩, q⟩
    · exact p'.elim
def nxR (lo : Int) (n : Nat) : Nx := fun i _ => if i < n then some (some (.int (lo + i))) else some none
theorem itok_rng {W : Vw} {lo : Int} {n m : Nat} : ItOk W (nxR lo n, m) (Itr lo n) where
  go := fun V st i d x S e => by
    have e' : (if i < n then some (some (D.int (lo + i))) else some none) = some (some d) := e
    split at e'
    · rename_i c
      cases e'
      exact ⟨c, fun y H2 ⟨e2, f⟩ => by subst e2; subst f; exact ⟨Ext.refl, S, .int _⟩⟩
    · cases e'
  stop := fun V st i x S e => by
    have e' : (if i < n then some (some (D.int (lo + i))) else some none) = some none := e
    split at e'
    · cases e'
    · rename_i c
      exact Nat.not_lt.mp c
def kRng1 (ds : List D) (s : Sto) : R (Nx × Nat) := match ds with
  | [.int j] => if -(2 ^ 62) ≤ j ∧ j < 2 ^ 62 then .ok (nxR 0 j.toNat, j.toNat) s else .bad
  | _ => .bad
def wRng1 (i : IA) : IW := fun env st => (i env st).bind kRng1
theorem w_rng1 {tg a : Expr} {p pos : Pos} {i : IA} (hg : Gl X "range") (hm : X.mg "range" = none) (ha : PA X [a] (TA_ F i)) (hs : starEach [a] X.env = [(false, eval a X.env)] := by rfl) : PI X tg (.Call (.Name "range" p) [a] [] pos) (TW F (wRng1 i)) := PI.imp (pi_range1 hg hm ha hs) fun σ H Q h =>
  (TX.bind (k := fun d env s => kRng1 d s) h).mono fun x H1 ⟨W, s, env, d, A, r, p⟩ => by
    have p' : Post W ItOk (kRng1 d s) Q (F.at_ σ) := p
    unfold kRng1 at p'
    split at p'
    · split at p'
      · rename_i c
        obtain ⟨v, rfl, rv⟩ := rv1 r
        cases rv
        have q := p' W.ρ W.H _ Ext.refl A.sim itok_rng
        rw [A.h] at q
        exact ⟨_, rfl, c.1, c.2, q⟩
      · exact p'.elim
    · exact p'.elim
end
end M
/-! M6: list comprehensions. -/
namespace M
open PySem PySem.Spec PyProof.Rows L2

/-- an error in a comprehension is not carried -/
def R.nox {α : Type} : R α → R α
  | .exc _ _ _ => .bad
  | r => r
abbrev Fx.quiet (F : Fx) : Fx := { F with E := fun _ _ _ _ => False }
/-- a target of a comprehension: one slot, or a tuple of slots -/
inductive Pat where
  | one (i : Nat)
  | tup (is : List Nat)
def Pat.slots : Pat → List Nat
  | .one i => [i]
  | .tup is => is
def setAll : List Nat → List D → Env → Option Env
  | [], [], env => some env
  | i :: is, d :: ds, env => setAll is ds (env.set i (some d))
  | _, _, _ => none
def Pat.bind : Pat → D → Env → Option Env
  | .one i, d, env => some (env.set i (some d))
  | .tup is, .tup xs, env => setAll is xs env
  | .tup is, .lst xs, env => setAll is xs env
  | _, _, _ => none
def wipeE (env : Env) : List Nat → Env
  | [] => env
  | v :: vs => (wipeE env vs).set v none
def tYes' : IT := fun _ st => .ok true st

theorem EnvR.clear {W : Vw} {env : Env} {σ : L2.St} (h : EnvR W env σ) (i : Nat) : EnvR W (env.set i none) (σ.set i none) := by
  refine ⟨by simp [h.len], fun j e q => ?_⟩
  by_cases hj : j = i
  · subst hj
    by_cases hl : j < env.length
    · rw [List.getElem?_set_self hl] at q; cases q
    · rw [List.getElem?_eq_none (by simpa using hl)] at q; cases q
  · rw [List.getElem?_set_ne (Ne.symm hj)] at q
    obtain ⟨u, e1, r1⟩ := h.at_ j e q
    exact ⟨u, by rw [List.getElem?_set_ne (Ne.symm hj)]; exact e1, r1⟩
theorem EnvR.wipe {W : Vw} {env : Env} {σ : L2.St} (h : EnvR W env σ) : ∀ vs : List Nat, EnvR W (wipeE env vs) (L2.wipe σ vs)
  | [] => h
  | v :: vs => (h.wipe vs).clear v
theorem wipe_set {i : Nat} {x : Option V} : ∀ {vs : List Nat} {σ : L2.St}, i ∈ vs → L2.wipe (σ.set i x) vs = L2.wipe σ vs
  | v :: vs, σ, h => by
    unfold L2.wipe
    by_cases hi : i ∈ vs
    · rw [wipe_set hi]
    · have e : i = v := by
        rcases List.mem_cons.mp h with e | e
        · exact e
        · exact absurd e hi
      subst e
      have aux : ∀ {vs : List Nat} {σ : L2.St}, i ∉ vs → L2.wipe (σ.set i x) vs = (L2.wipe σ vs).set i x := by
        intro vs
        induction vs with
        | nil => intro σ _; rfl
        | cons u us ih =>
          intro σ hn
          have h1 : i ≠ u := fun e => hn (by simp [e])
          have h2 : i ∉ us := fun e => hn (by simp [e])
          unfold L2.wipe
          rw [ih h2, List.set_comm _ _ h1]
      rw [aux hi, List.set_set]
theorem wipe_wipe (σ : L2.St) : ∀ vs : List Nat, L2.wipe (L2.wipe σ vs) vs = L2.wipe σ vs := by
  have aux : ∀ (us vs : List Nat), (∀ i ∈ us, i ∈ vs) → L2.wipe (L2.wipe σ us) vs = L2.wipe σ vs := by
    intro us vs
    induction us with
    | nil => intro _; rfl
    | cons u us ih =>
      intro h
      rw [show L2.wipe σ (u :: us) = (L2.wipe σ us).set u none from rfl, wipe_set (h u (by simp)), ih fun i hi => h i (by simp [hi])]
  exact fun vs => aux vs vs fun _ h => h

section
variable {X : Cx} {F : Fx} {pos : Pos}
/-- how a target's reading stands for a pattern -/
structure PatOk (K : PySem.W.Frag) (p : Pat) (g : TG) : Prop where
  go : ∀ (W : Vw) (d : D) (v : V) (env env' : Env) (σ : L2.St) (Q : L2.St → Hp → Prop), W.K = K → RV W d v → EnvR W env σ → p.bind d env = some env' → (∀ σ', EnvR W env' σ' → L2.wipe σ' p.slots = L2.wipe σ p.slots → Q σ' W.H) → g v σ W.H Q
theorem patOk_one {K : PySem.W.Frag} {i : Nat} : PatOk K (.one i) (gName i) := ⟨fun W d v env env' σ Q _ r e b h => by
  cases b
  exact h _ (e.set r i) (wipe_set (by simp [Pat.slots]))⟩
def gsOf : List Nat → TGs
  | [] => gNil
  | i :: is => gCons (gName i) (gsOf is)
theorem gsOf_ok {W : Vw} {Q : L2.St → Hp → Prop} {sl : List Nat} : ∀ {is : List Nat} {ds : List D} {vs : List V} {env env' : Env} {σ : L2.St}, (∀ i ∈ is, i ∈ sl) → RVs W ds vs → EnvR W env σ → setAll is ds env = some env' → (∀ σ', EnvR W env' σ' → L2.wipe σ' sl = L2.wipe σ sl → Q σ' W.H) → gsOf is vs σ W.H Q
  | [], _, _, _, _, _, _, .nil, e, b, h => by cases b; exact ⟨rfl, h _ e rfl⟩
  | [], _, _, _, _, _, _, .cons _ _, e, b, h => by cases b
  | _ :: _, _, _, _, _, _, _, .nil, e, b, h => by cases b
  | i :: is, _, _, _, _, _, hs, .cons h1 r, e, b, h =>
    ⟨_, _, rfl, gsOf_ok (fun j hj => hs j (by simp [hj])) r (e.set h1 i) b fun σ' e' w => h σ' e' (by rw [w, wipe_set (hs i (by simp))])⟩
theorem setAll_len : ∀ {is : List Nat} {ds : List D} {env env' : Env}, setAll is ds env = some env' → ds.length = is.length
  | [], [], _, _, _ => rfl
  | [], _ :: _, _, _, h => by cases h
  | _ :: _, [], _, _, h => by cases h
  | i :: is, d :: ds, _, _, h => by rw [List.length_cons, List.length_cons, setAll_len (is := is) (ds := ds) h]
theorem patOk_tup {K : PySem.W.Frag} {is : List Nat} {n : Nat} (hn : is.length = n) : PatOk K (.tup is) (gTL K n (gsOf is)) := ⟨fun W d v env env' σ Q hk r e b h => by
  cases d with
  | tup xs =>
    obtain ⟨a, ys, rfl, t, ry⟩ := tup_at r
    rw [hk] at t
    exact .inl ⟨a, ys, rfl, t, by rw [← ry.length, setAll_len b, hn], gsOf_ok (fun _ h => h) ry e b h⟩
  | lst xs =>
    have z : ∃ a ys, v = .ref a ∧ SqL W.K W.H a ys ∧ RVs W xs ys := by
      cases r with
      | lst h1 r1 => exact ⟨_, _, rfl, h1.sq, r1⟩
    obtain ⟨a, ys, rfl, t, ry⟩ := z
    rw [hk] at t
    exact .inr ⟨a, ys, rfl, t, by rw [← ry.length, setAll_len b, hn], gsOf_ok (fun _ h => h) ry e b h⟩
  | _ => cases b⟩
theorem ts_nil : PTs X [] (TT_ F tYes') := ⟨fun pins s σ H Q I h => (pts_nil (X := X)).run pins s σ H Q I (by
  obtain ⟨W, st, env, A, p⟩ := h
  have q := PostT.now p A.sim
  rw [A.h] at q
  exact q)⟩
end
end M
/-! M7: defs and their calls. -/
namespace M
open PySem PySem.Spec PyProof.Rows L2

/-- what a def is: arguments and store in, result out -/
abbrev Fn := List D → Sto → R D
/-- its promise -/
def SPx (K : PySem.W.Frag) (g : GG) (f : Fn) : Sp := fun vs H Q E => ∃ W st ds, W.K = K ∧ W.g = g ∧ W.H = H ∧ Sim W st ∧ RVs W ds vs ∧ PostE W (f ds st) Q E
/-- how a body ends -/
def endB : RS → R D
  | .nx _ st => .ok .non st
  | .ret d st => .ok d st
  | .exc C fs _ st => .exc C fs st
  | _ => .bad
/-- a def by its body: n slots, p parameters -/
def runB (b : IS) (n p : Nat) : Fn := fun ds st => if ds.length = p then endB (b (ds.map some ++ List.replicate (n - p) none) st) else .bad
theorem env_start {W : Vw} {ds : List D} {vs : List V} {N : List Str} {p : Nat} (r : RVs W ds vs) (hl : ds.length = p) : EnvR W (ds.map some ++ List.replicate (N.length - p) none) (L2.start N vs) := by
  unfold L2.start
  refine ⟨by simp [r.length, ← hl], fun i d e => ?_⟩
  by_cases hi : i < ds.length
  · rw [List.getElem?_append_left (by simpa using hi), List.getElem?_map] at e
    cases q : ds[i]? with
    | none => rw [q] at e; cases e
    | some d' =>
      rw [q] at e
      cases e
      obtain ⟨v, hv, rv⟩ := r.get q
      exact ⟨v, by rw [List.getElem?_append_left (by rw [List.length_map, ← r.length]; exact hi), List.getElem?_map, hv]; rfl, rv⟩
  · rw [List.getElem?_append_right (by simpa using hi), List.getElem?_replicate] at e
    split at e <;> cases e
section
variable {P : Program} {w : World} {K : PySem.W.Frag} {mg : Str → Option Value} {base : Heap} {g : GG}
abbrev Fx.of (K : PySem.W.Frag) (g : GG) (E : XK) : Fx := ⟨K, g, fun c d _ H => E c d H⟩
/-- a def's promise, where no repr is under way -/
structure FnG (P : Program) (w : World) (K : PySem.W.Frag) (mg : Str → Option Value) (base : Heap) (k : Nat) (f : Addr) (fd : FuncData) (ps : List Str) (sp : Sp) : Prop where
  len : ∀ vs H Q E, sp vs H Q E → vs.length = ps.length
  run : ∀ (A : Around) (outer : List PySem.Env) (s : Shared) (H : Hp) (args : Args) (us : List Value) (vs : List V) (Q : VK) (E : XK), Room k A → A.guards = some [] → Env0 P w K mg base A outer s H → BindsTo s fd args (ps.zip us) → Vals vs us → sp vs H Q E →
    codeAny (model P w) A (.call (.ref f) args) (CR (L2N.CX P w) outer P w H s Q E) s
theorem FnG.of {k : Nat} {f : Addr} {fd : FuncData} {ps : List Str} {sp : Sp} (G : FnOk P w K mg base (L2N.CX P w) k f fd ps sp) : FnG P w K mg base k f fd ps sp := ⟨G.len, fun A o s H a us vs Q E hr _ => G.run A o s H a us vs Q E hr⟩
theorem FnG.imp {k : Nat} {f : Addr} {fd : FuncData} {ps : List Str} {sp sp' : Sp} (G : FnG P w K mg base k f fd ps sp) (h : ∀ vs H Q E, sp' vs H Q E → sp vs H Q E) : FnG P w K mg base k f fd ps sp' :=
  ⟨fun vs H Q E q => G.len vs H Q E (h _ _ _ _ q), fun A o s H a us vs Q E hr hg e b v q => G.run A o s H a us vs Q E hr hg e b v (h _ _ _ _ q)⟩
theorem FnG.mono {j k : Nat} {f : Addr} {fd : FuncData} {ps : List Str} {sp : Sp} (G : FnG P w K mg base j f fd ps sp) (h : j ≤ k) : FnG P w K mg base k f fd ps sp := ⟨G.len, fun A o s H a us vs Q E hr => G.run A o s H a us vs Q E (hr.mono h)⟩
/-- THE RULE for a def: its body's walk -/
theorem fn_ok {x qual : Str} {params : Arguments} {body : List Stmt} {scope : Scope} {dvs : List V} {kws : List (Str × V)} {f : Addr} {fd : FuncData} {N ps : List Str} {k : Nat} {b : IS} (Fd : FunD K x qual params body scope dvs kws f fd) (S : FnScope N ps scope)
    (hb : ∀ (cdv : Value) (A : Around) (outer : List PySem.Env) (s : Shared) (H : Hp) (E : XK), Room k (A.deeper (envOfC qual scope s.heap.objs.size f cdv)) → A.guards = some [] → PSs (cxOf (L2N.CX P w) P w K mg base N qual scope f cdv A outer s H E) body (TS_ (Fx.of K g E) b)) :
    FnG P w K mg base (k + 1) f fd ps (SPx K g (runB b N.length ps.length)) := by
  have len : ∀ vs H Q E, SPx K g (runB b N.length ps.length) vs H Q E → vs.length = ps.length := fun vs H Q E ⟨W, st, ds, _, _, _, _, r, p⟩ => by
    unfold runB at p
    split at p
    · rename_i c
      rw [← r.length, c]
    · exact p.elim
  refine ⟨len, fun A outer s H args us vs Q E hr hgd e0 hbi rv hsp => ?_⟩
  obtain ⟨oc, od, dV, kV, doc, pm, an, cdv, ct, osl, rfl, lk, hcd, _, _⟩ := Fd.ex
  have hl := len _ _ _ _ hsp
  have kin : K.In s.heap := e0.mod.kin.keeps fun b o e => (e0.bs b o e).1
  have kinds : ∀ y ∈ ps.zip us, scope.names.lookup y.1 = some .local ∨ (scope.names.lookup y.1 = some .cell ∧ ((cellsFrom (s.heap.objs.size + 1) scope.names []).lookup y.1).isSome = true) := fun ⟨n, v⟩ hy =>
    (S.par n (List.of_mem_zip hy).1).elim .inl fun q => .inr ⟨q, PySem.W.cellsFrom_some _ _ _ (.inl q)⟩
  refine codeAny_call_function hr.depth (kin _ _ lk) rfl S.co S.gen rfl (PySem.W.codeRec_of kin hcd) (hbi _ _ _ _ (wpAny_newFunctionEnv_cells S.kind kinds fun env he s1 x => ?_))
  subst he
  refine ⟨(e0.mod.nolimit.keeps fun b o e => (e0.bs b o e).1).keeps x.toInCall.keep, codeAny_func ?_⟩
  have wk : TS_ (Fx.of K g E) b { nx := fun _ H' => Q .non H', rt := Q } (L2.start N vs) H := by
    obtain ⟨W, st, ds, hk, hg, hh, S, r, p⟩ := hsp
    unfold runB at p
    split at p
    · rename_i c
      refine ⟨W, st, _, ⟨hk, hg, hh, S, env_start r c⟩, ?_⟩
      cases q : b (ds.map some ++ List.replicate (N.length - ps.length) none) st with
      | nx e s => rw [q] at p; exact fun ρ' H' σ' x S z => p ρ' H' .non x S .non
      | ret d s => rw [q] at p; exact p
      | bk e s => rw [q] at p; exact p.elim
      | ct e s => rw [q] at p; exact p.elim
      | exc C fs e s => rw [q] at p; exact fun ρ' H' σ' d x S z => p ρ' H' d x S
      | bad => rw [q] at p; exact p.elim
    · exact p.elim
  have I0 : Inv (cxOf (L2N.CX P w) P w K mg base N qual scope f cdv A outer s H E) [] (L2.start N vs) H s1 := inv_start S hr.hd e0 hl rv x
  refine wpAny_mono ((hb cdv A outer s H E (hr.deeper _) hgd).run [] s1 _ H _ I0 wk) (fun fl s' hs => ?_) fun e s' hs => hs
  have fin : ∀ {σ' : L2.St} {H' : Hp} {v : V} {u : Value}, Inv (cxOf (L2N.CX P w) P w K mg base N qual scope f cdv A outer s H E) [] σ' H' s' → RelV v u → Q v H' → CE outer P w H s Q u s' :=
    fun J r q => ⟨_, _, J.os, J.bare, J.base, J.hok, r, q⟩
  cases fl with
  | ret u => obtain ⟨v, σ', H', J, r, q⟩ := hs; exact fin J r q
  | next => obtain ⟨σ', H', J, q⟩ := hs; exact fin (v := V.non) (u := Value.none) J rfl q
  | brk => obtain ⟨_, _, _, q⟩ := hs; exact q.elim
  | cont => obtain ⟨_, _, _, q⟩ := hs; exact q.elim
end

/-! ### calls -/
def iCall (f : Fn) (dd : List D) (j : IA) : IE := fun env st => (j env st).bind fun ds s => f (ds ++ dd) s
section
variable {X : Cx} {F : Fx} {k : Nat} {f : Addr} {fd : FuncData} {ps : List Str} {ds : List Value} {dvs : List V} {x : Str} {p pos : Pos} {e : Expr} {es : List Expr} {fs : Fn} {j : IA} {dd : List D}
theorem sp_of {σ : L2.St} {H : Hp} {Q : VK} {vs : List V} (hdd : ∀ W : Vw, W.K = F.K → W.g = F.g → RVs W dd dvs) (h : TK RVs RV F (fun ds env s => fs (ds ++ dd) s) vs σ H Q) : SPx F.K F.g fs (vs ++ dvs) H Q (F.at_ σ) := by
  obtain ⟨W, st, env, ds, A, r, p⟩ := h
  exact ⟨W, st, ds ++ dd, A.k, A.g, A.h, A.sim, r.append (hdd W A.k A.g), p⟩
/-- the callee runs -/
theorem run_g {pins : List (Addr × Obj)} {σ : L2.St} {H : Hp} {s : Shared} {Q : VK} {us : List Value} {vs : List V} {sp : Sp} (G : FnG X.prog X.w X.K X.mg X.base k f fd ps sp) (hr : Room k X.A) (hgd : X.A.guards = some []) (hb : Binds X.K fd ps ds) (hd : Vals dvs ds) (tk : L2N.Takes X F.E)
    (I : Inv X pins σ H s) (r : Vals vs us) (h : sp (vs ++ dvs) H Q (F.at_ σ)) : wpAny (model X.prog X.w) X.A (call (.ref f) us) (EP X pins σ Q) X.xe s := by
  have r2 : Vals (vs ++ dvs) (us ++ ds) := r.append hd
  refine wpAny_call (codeAny_mono (G.run X.A X.stack s H ⟨us, []⟩ (us ++ ds) (vs ++ dvs) Q (F.at_ σ) hr hgd I.env0 (hb s us I.kIn (r2.length.symm.trans (G.len _ _ _ _ h))) r2 h) fun r s' hq => ?_)
  cases r with
  | error e => exact tk e s' (L2N.XE.of_call I (fun _ _ _ h => h) hq)
  | ok fl =>
    cases fl with
    | ret u => exact I.after hq
    | next => exact hq.elim
    | brk => exact hq.elim
    | cont => exact hq.elim
theorem e_call (G : FnG X.prog X.w X.K X.mg X.base k f fd ps (SPx F.K F.g fs)) (hr : Room k X.A) (hgd : X.A.guards = some []) (hg : Gl X x) (hm : X.mg x = some (.ref f)) (hk : PySem.W.keepIn X.K (.ref f) = true) (hb : Binds X.K fd ps ds) (hd : Vals dvs ds) (hdd : ∀ W : Vw, W.K = F.K → W.g = F.g → RVs W dd dvs) (tk : L2N.Takes X F.E)
    (ha : PA X (e :: es) (TA_ F j)) (hdb : (x == ("__debug__" : Str)) = false := by decide) (he : starEach (e :: es) X.env = (false, eval e X.env) :: starEach es X.env := by rfl) (hpl : (backTo pos (starEach es X.env)).any (·.1) = false := by rfl) :
    PE X (.Call (.Name x p) (e :: es) [] pos) (TI F (iCall fs dd j)) := by
  refine ⟨fun pins s σ H Q I h => ?_⟩
  refine wpAny_Call_Name_kw (ld_glob I hg hm (PySem.W.callWith_K (h₀ := X.base) I.ok.mod.kin hk (thn (ha.run pos pins s σ H _ I (TX.bind (k := fun ds env s => fs (ds ++ dd) s) h)) fun us s1 ⟨vs, H1, I1, r, q⟩ => ⟨I1.kIn, ?_⟩) he hpl) hdb)
  exact run_g G hr hgd hb hd tk I1 r (sp_of hdd q)
end

/-! ### defs that look at nothing of the store -/
mutual
def noRef : D → Bool
  | .tup xs => noRefs xs
  | .tpl xs => noRefs xs
  | .lst xs => noRefs xs
  | .dct _ xs => noRefs xs
  | .obj _ fs => noRefF fs
  | .exc _ fs => noRefF fs
  | .ref _ => false
  | .adr _ _ _ _ _ => false
  | .non => true
  | .bl _ => true
  | .int _ => true
  | .str _ => true
  | .ty _ => true
  | .glo _ => true
def noRefs : List D → Bool
  | [] => true
  | x :: xs => noRef x && noRefs xs
def noRefF : List (Str × D) → Bool
  | [] => true
  | x :: xs => noRef x.2 && noRefF xs
end
def allF (f : D → Option D) : List (Str × D) → Option (List (Str × D))
  | [] => some []
  | (x, d) :: xs => match f d, allF f xs with
    | some p, some ps => some ((x, p) :: ps)
    | _, _ => none
/-- nobody changes it any more -/
def frz (st : Sto) : Nat → D → Option D
  | 0, _ => none
  | n + 1, d => match d with
    | .tup xs => (allP (frz st n) xs).map .tup
    | .tpl xs => (allP (frz st n) xs).map .tpl
    | .lst xs => (allP (frz st n) xs).map .lst
    | .dct ks xs => (allP (frz st n) xs).map (.dct ks)
    | .obj C fs => (allF (frz st n) fs).map (.obj C)
    | .exc C fs => (allF (frz st n) fs).map (.exc C)
    | .ref k => match st[k]? with
      | some (.lst xs) => (allP (frz st n) xs).map .lst
      | some (.ins C fs) => (allF (frz st n) fs).map (.obj C)
      | some (.dct kvs) => (allP (frz st n) (kvs.map (·.2))).map (.dct (kvs.map (·.1)))
      | _ => none
    | .adr _ _ _ _ _ => none
    | d => some d
section
variable {W W' : Vw} {st : Sto}
/-- what may be said of W's things in W' -/
structure Into (W W' : Vw) : Prop where
  k : W'.K = W.K
  g : W'.g = W.g
  h : W'.H = W.H
  fro : ∀ a, W.fro a → W'.fro a
  ref : ∀ a ∈ W.ρ, W'.fro a
theorem Vw.Tup.into (i : Into W W') {a : Addr} {ys : List V} (h : W.Tup a ys) : W'.Tup a ys := by
  rcases h with ⟨h, f⟩ | h
  · exact .inl ⟨by rw [i.h]; exact h, i.fro a f⟩
  · exact .inr (by rw [i.k]; exact h)
theorem Vw.Tpl.into (i : Into W W') {a : Addr} {ys : List V} (h : W.Tpl a ys) : W'.Tpl a ys := let ⟨⟨o, e, d⟩, f⟩ := h; ⟨⟨o, by rw [i.h]; exact e, d⟩, i.fro a f⟩
theorem Vw.Lst.into (i : Into W W') {a : Addr} {ys : List V} (h : W.Lst a ys) : W'.Lst a ys := by
  rcases h with ⟨h, f⟩ | h
  · exact .inl ⟨by rw [i.h]; exact h, i.fro a f⟩
  · exact .inr (by rw [i.k]; exact h)
end
/-- a def that knows no thing of the store: it is run upon an empty one, what it hands back is frozen -/
def pureA (f : Fn) : Fn := fun ds st => if noRefs ds = true then (match f ds [] with
  | .ok d s => match frz s 70 d with
    | some d' => .ok d' st
    | none => .bad
  | .exc C fs s => match allF (frz s 70) fs with
    | some fs' => .exc C fs' st
    | none => .bad
  | .bad => .bad) else .bad
section
variable {P : Program} {w : World} {K : PySem.W.Frag} {mg : Str → Option Value} {base : Heap} {g : GG} {k : Nat} {fa : Addr} {fd : FuncData} {ps : List Str} {f : Fn}
end

/-! ### the law's call -/
section
variable {P : Program} {w : World} {K : PySem.W.Frag} {mg mb : Str → Option Value} {k : Nat} {fa a : Addr} {fd : FuncData} {x : Str} {sp : Sp} {s1 : Shared} {vs : List Value} {ns : List Int}
/-- what is to be shown of the call -/
abbrev LawEnd (s1 : Shared) (r : Result) (s' : Shared) : Prop := r = .ok (.ret (.bool true)) ∧ OldK s1.heap s'.heap ∧ s'.os = s1.os ∧ AllBare s'.gens
end
end M
/-! M8: exceptions of the program's own classes, over any of the built-in bases, made by position and by name. -/
namespace M
open PySem PySem.Spec PyProof.Rows L2
open PySem.HandSPX (excO)

/-- a base: its name, its makers, its mro, and what the library says of it -/
structure XB (B newId initId : String) (tail : List Value) : Prop where
  f : ExcBaseFacts B newId initId tail
  pass : ∀ self : Value, refuseLoop self "__setattr__" tail = pure ()
  obj : tail.contains (.type "object") = true
  ne : tail.isEmpty = false
theorem over_cases (tail : List Value) : ∀ l : List Value, over tail l = true → (∃ c r, l = .ref c :: r ∧ over tail r = true) ∨ l = tail
  | [], e => .inr (beq_iff_eq.mp e)
  | v :: r, e => by
    cases v with
    | ref c => exact .inl ⟨c, r, rfl, e⟩
    | _ => exact .inr (beq_iff_eq.mp e)
section
variable {B newId initId : String} {tail : List Value}
theorem XB.passes (b : XB B newId initId tail) (self : Value) (l : List Value) (h : over tail l = true) : refuseLoop self "__setattr__" l = pure () := by
  induction l with
  | nil =>
    rcases over_cases tail [] h with ⟨c, r, e, _⟩ | e
    · cases e
    · rw [e]; exact b.pass self
  | cons a r ih =>
    rcases over_cases tail (a :: r) h with ⟨c, r', e, q⟩ | e
    · cases e
      rw [refuseLoop_ref]
      exact ih q
    · rw [e]; exact b.pass self
theorem over_contains (X : String) (l : List Value) (h : over tail l = true) : l.contains (.type X) = tail.contains (.type X) := by
  induction l with
  | nil =>
    rcases over_cases tail [] h with ⟨c, r, e, _⟩ | e
    · cases e
    · rw [e]
  | cons a r ih =>
    rcases over_cases tail (a :: r) h with ⟨c, r', e, q⟩ | e
    · cases e
      rw [List.contains_cons, ih q]; rfl
    · rw [e]
theorem XB.nonempty (b : XB B newId initId tail) {l : List Value} (h : over tail l = true) : l.isEmpty = false := by
  cases l with
  | nil =>
    rcases over_cases tail [] h with ⟨c, r, e, _⟩ | e
    · cases e
    · rw [e]; exact b.ne
  | cons a r => rfl
end
theorem xbV : XB "ValueError" "ValueError.__new__" "ValueError.__init__" [.type "ValueError", .type "Exception", .type "BaseException", .type "object"] := ⟨F.excBase_ValueError, F.store_ValueError.passes, by decide +kernel, rfl⟩
theorem xbL : XB "LookupError" "LookupError.__new__" "LookupError.__init__" [.type "LookupError", .type "Exception", .type "BaseException", .type "object"] := ⟨F.excBase_LookupError, F.store_LookupError.passes, by decide +kernel, rfl⟩
theorem xbR : XB "RuntimeError" "RuntimeError.__new__" "RuntimeError.__init__" [.type "RuntimeError", .type "Exception", .type "BaseException", .type "object"] := ⟨F.excBase_RuntimeError, F.store_RuntimeError.passes, by decide +kernel, rfl⟩

/-! ### the call of such a class, keywords too -/
section
open Builtin Builtin.ObjectAttr PySem.W
variable {h : Heap} {g : Array GenState} {d : Drawn} {t : Nat} {os : OsState}
variable {nm q : Str} {C N : Addr} {bs bm bmB : List Value} {hdct : Bool} {sn : List Str} {sub : List Value} {ab : Bool} {col : Option Bool} {dd : Option Addr} {k0 k1 k2 k3 k5 : Option Value} {B newId initId : String}
variable (F : ExcBaseFacts B newId initId bmB) (hT : ∀ X : String, bm.contains (.type X) = bmB.contains (.type X))
include F hT
theorem checkK {M : Model} {A : Around} {E : Value → Shared → Prop} {rest : List Value} {kw : List (Str × Value)} {Q : Unit → Shared → Prop}
    (hC : h.get? C = some (excClassObj nm q C N bs bm hdct sn sub ab col dd k0 k1 k2 k3 k5 newId)) (hq : Q () ⟨h, g, d, t, os⟩) : wpAny M A (checkBuiltinCall newId ⟨.ref C :: rest, kw⟩) Q E ⟨h, g, d, t, os⟩ := by
  have c1 : (Value.ref C :: bm).contains (.type B) = true := by rw [List.contains_cons, hT, F.hasB, Bool.or_true]
  have c2 := F.noStar
  simp only [checkBuiltinCall, F.newKind, F.newSplit, F.newRow]
  repeat (first | refine wpAny_loadPart_at hC ?_ | (refine wpAny_isSubtype_exc hC ?_; rw [c1]) | refine wpAny_staticBase_exc hC ?_ | refine wpAny_madeBy_exc hC ?_ | simp only [bne_self_eq_false, Bool.false_eq_true, if_false] | wp_step)
  exact hq
theorem newK {prog : Program} {w : World} {A : Around} {R : Result → Shared → Prop} {rest : List Value} {kw : List (Str × Value)}
    (hC : h.get? C = some (excClassObj nm q C N bs bm hdct sn sub ab col dd k0 k1 k2 k3 k5 newId))
    (hq : R (.ok (.ret (.ref (h.objs.size + 1)))) ⟨(h.push { cls := .type "tuple", data := .seq rest.toArray }).push { cls := .ref C, data := .fields #[.ref h.objs.size, .none, .none, .none, .bool false, .none] }, g, d, t, os⟩) (hrest : rest.length ≤ sizeLine) :
    codeAny (model prog w) A (.builtin newId ⟨.ref C :: rest, kw⟩) R ⟨h, g, d, t, os⟩ := by
  have e0 := F.ends
  have c1 : (Value.ref C :: bm).contains (.type B) = true := by rw [List.contains_cons, hT, F.hasB, Bool.or_true]
  have c2 : (Value.ref C :: bm).contains (.type "AttributeError") = false := by rw [List.contains_cons, hT, F.noAttr]; rfl
  have c3 : (Value.ref C :: bm).contains (.type "NameError") = false := by rw [List.contains_cons, hT, F.noName]; rfl
  refine codeAny_builtinAt F.entry (by
    unfold Builtin.«BaseException.__new__»
    refine PySem.wpAt_bind ?_
    show PySem.wpAt _ _ _ (stack >>= _) _ _ _
    refine PySem.wpAt_bind (PySem.wpAt_stack fun p below => PySem.wpAt_of_wpAny ?_)
    wp_walk
    refine PySem.wpAt_of_wpAny ?_
    rw [F.owner]
    repeat (first | with_reducible refine wpAny_madeHere_exc F.canon hC ?_ | with_reducible refine wpAny_loadPart_at hC ?_ | (with_reducible refine wpAny_isSubtype_exc hC ?_; first | rw [c1] | rw [c2] | rw [c3]) | wp_step)
    show R _ _
    rw [Heap.size_push]
    exact hq)
theorem typeCallK {prog : Program} {w : World} {A : Around} {E : Value → Shared → Prop} {rest : List Value} {kw : List (Str × Value)} {fI : Addr} {Q : Fin → Shared → Prop}
    (hC : h.get? C = some (excClassObj nm q C N bs bm hdct sn sub ab col dd k0 k1 k2 k3 k5 newId))
    (hi : W.Looks (model prog w) h (typeLookup (.ref C) "__init__") (some (.ref fI))) (hb : ∀ self, W.Looks (model prog w) h (bindSpecial (.ref fI) self) (.ref fI, [self])) (hrest : rest.length ≤ sizeLine)
    (hq : codeAny (model prog w) A (.call (.ref fI) ⟨.ref (h.objs.size + 1) :: rest, kw⟩)
      (fun r s' => match r with | .ok (.ret v) => v = .none ∧ Q (.done (.ret (.ref (h.objs.size + 1)))) s' | .ok _ => False | .error e => E e s')
      ⟨(h.push (W.kdv_tup rest)).push (excO C h.objs.size), g, d, t, os⟩) :
    wpAny (model prog w) A (Builtin.«type.__call__» ⟨.ref C :: rest, kw⟩) Q E ⟨h, g, d, t, os⟩ := by
  repeat (first | with_reducible refine wpAny_loadPart_at hC ?_ | with_reducible refine wpAny_madeBy_exc hC ?_ | wp_step)
  refine codeAny_call_builtin_code (Code.quiet_builtin _ F.quiet) (checkK F hT hC (newK F hT hC ?_ hrest))
  show wpAny _ _ _ _ _ _
  have kp : ∀ b o, h.get? b = some o → ((h.push (W.kdv_tup rest)).push (excO C h.objs.size)).get? b = some o := fun b o e => Heap.get?_push_of_some _ (Heap.get?_push_of_some _ e)
  have hC1 := kp _ _ hC
  have at1 : ((h.push (W.kdv_tup rest)).push (excO C h.objs.size)).get? (h.objs.size + 1) = some (excO C h.objs.size) := by heap_get
  have own : (Value.ref C :: bm).contains (.ref C) = true := by simp
  have j1 := hi.keeps kp
  have j2 := (hb (.ref (h.objs.size + 1))).keeps kp
  unfold isInstance
  repeat (first | with_reducible refine wpAny_loadPart_at at1 ?_ | (with_reducible refine wpAny_isSubtype_exc hC1 ?_; rw [own]) | wp_step)
  show wpAny _ _ (typeLookup (.ref C) _) _ _ _
  refine j1.at (wpAny_holding (wpAny_bind (j2.at (wpAny_bind (wpAny_call (codeAny_mono hq fun r s' z => ?_))))))
  rcases r with e | (v | _ | _ | _) <;> first | exact z | exact z.elim | skip
  obtain ⟨rfl, z⟩ := z
  first
    | exact wpAny_pure (wpAny_pure z)
    | (wp_walk; exact z)
theorem callK {prog : Program} {w : World} {A : Around} {R : Result → Shared → Prop} {rest : List Value} {kw : List (Str × Value)} {fI : Addr}
    (hC : h.get? C = some (excClassObj nm q C N bs bm hdct sn sub ab col dd k0 k1 k2 k3 k5 newId))
    (hi : W.Looks (model prog w) h (typeLookup (.ref C) "__init__") (some (.ref fI))) (hb : ∀ self, W.Looks (model prog w) h (bindSpecial (.ref fI) self) (.ref fI, [self])) (hrest : rest.length ≤ sizeLine)
    (hq : codeAny (model prog w) (A.under (.builtin "type.__call__" ⟨.ref C :: rest, kw⟩)) (.call (.ref fI) ⟨.ref (h.objs.size + 1) :: rest, kw⟩) (W.InitBack (h.objs.size + 1) R)
      ⟨(h.push (W.kdv_tup rest)).push (excO C h.objs.size), g, d, t, os⟩) :
    codeAny (model prog w) A (.call (.ref C) ⟨rest, kw⟩) R ⟨h, g, d, t, os⟩ := by
  have a1 := tc_lookup
  have a2 := tc_bind (.ref C)
  have a3 : (⟨h, g, d, t, os⟩ : Shared).TypeIs (.ref C) "type" := ⟨_, hC, rfl⟩
  refine codeAny_of_tree (show wpAny _ _ (callAny (.ref C) _) _ _ _ from ?_)
  repeat (any_goals (first | assumption | with_reducible refine wpAny_loadPart_at hC ?_ | wp_step))
  refine ⟨rfl, codeAny_call_builtin_at (Code.quiet_builtin _ (by decide +kernel)) entry_typeCall (wpAny_check_type_call_sub hC (typeCallK F hT hC hi hb hrest (codeAny_mono hq fun r s' z => ?_)))⟩
  rcases r with e | (v | _ | _ | _) <;> exact z
end

/-! ### self.f = v in such an exception -/
section
open Builtin Builtin.ObjectAttr PySem.W
variable {prog : Program} {w : World} {A : Around} {R : Result → Shared → Prop} {hp : Heap} {g : Array GenState} {d : Drawn} {t : Nat} {os : OsState}
variable {B newId initId : String} {tail : List Value} {K : W.Frag} {name : Str} {tk : Tok} {v : Value} {x C : Addr} {fv : Array Value} {cd : ClassData}
/-- what the store begins with -/
theorem osaRun (b : XB B newId initId tail) {dx : Option Addr} {od : Option Obj} (X : K.In hp) (I : W.InstAt hp x { cls := .ref C, dict := dx, data := .fields fv } C od) (hcd : W.clsIn K C = some cd) (hm : over tail cd.mro = true) (ha : W.findIn K (.ref C) name = some none)
    (go : wpAny (model prog w) A.in1 (storeInOwnDict (.ref x) (.ref C) (.str name tk) name v false) (fun fin s' => match fin with | .done f => R (.ok f) s' | .again c' => c'.quiet = true ∧ codeAny (model prog w) A c' R s') (fun e s' => R (.error e) s') ⟨hp, g, d, t, os⟩) :
    codeAny (model prog w) A (.call (.builtin "object.__setattr__") ⟨[.ref x, .str name tk, v], []⟩) R ⟨hp, g, d, t, os⟩ := by
  have SF := F.store_object
  have h1 : cd.mro.contains (.type "object") = true := (over_contains "object" _ hm).trans b.obj
  have sub : W.Looks (model prog w) hp (isInstance (.ref x) (.type "object")) true := I.type.andThen (W.looks_mroIn X (by unfold W.mroIn; rw [hcd, Option.bind_some, if_neg (by rw [b.nonempty hm]; decide), h1]))
  have h2 : W.Looks (model prog w) hp (mroOf (.ref C)) cd.mro := (W.looks_clsIn X hcd).andThen .now
  have h3 : W.Looks (model prog w) hp (storeTaker? none) none := .now
  refine codeAny_call_builtin SF.slot.plain SF.entry (@W.check_slot (model prog w) _ _ ⟨hp, g, d, t, os⟩ "object.__setattr__" "object" "__setattr__" (.ref x) [.str name tk, v] [] _ SF.kind SF.split sub (SF.args (.ref x) (.str name tk) v) ?_)
  rw [W.osa_eq, refuse_eq]
  refine wpAny_bind (wpAny_bind (I.type.at (wpAny_bind (h2.at ?_))))
  rw [b.passes _ _ hm]
  exact wpAny_pure (wpAny_bind (I.type.at (wpAny_bind ((W.looks_findIn X ha).at (wpAny_bind (h3.at go))))))
theorem osaNew (b : XB B newId initId tail) (X : K.In hp) (hx : hp.get? x = some { cls := .ref C, data := .fields fv }) (hcd : W.clsIn K C = some cd) (hm : over tail cd.mro = true) (hh : cd.hasDict = true) (ha : W.findIn K (.ref C) name = some none)
    (hq : ∀ h' tk' dx, (∀ b o, b ≠ x → hp.get? b = some o → h'.get? b = some o) → hp.objs.size ≤ dx → dx ≠ x → h'.get? x = some { cls := .ref C, dict := some dx, data := .fields fv } →
      h'.Ns1 dx (fun y => if y = name then some v else none) → R (.ok (.ret .none)) ⟨h', g, d, tk', os⟩) :
    codeAny (model prog w) A (.call (.builtin "object.__setattr__") ⟨[.ref x, .str name tk, v], []⟩) R ⟨hp, g, d, t, os⟩ := by
  refine osaRun (od := none) b X ⟨hx, rfl, rfl, trivial⟩ hcd hm ha ?_
  have ns : x ≠ hp.objs.size := Nat.ne_of_lt (Heap.lt_size hx)
  have lk : W.Looks (model prog w) hp (classData C) cd := W.looks_clsIn X hcd
  obtain ⟨nm, bs, mro, nsx, qn, hd, sn, sb, ab, col, del⟩ := cd
  cases (show hd = true from hh)
  unfold storeInOwnDict ownDictForStores
  repeat (first | with_reducible refine PySem.HandSPX.store_in_new ?_ ?_ | with_reducible refine wpAny_loadPart_at hx ?_ | with_reducible refine lk.at ?_ | wp_step)
  · exact ⟨_, #[], _, (Heap.get?_update_ne _ _ _ _ ns.symm).trans (Heap.get?_push_at rfl rfl), rfl, fun e he => absurd he (by simp), fun _ => rfl⟩
  · intro h' tk' hn' hs
    have hx1 : (hp.push { cls := .type "dict", data := .dict #[] }).get? x = some { cls := .ref C, data := .fields fv } := Heap.get?_push_of_some _ hx
    exact hq h' tk' hp.objs.size (fun b o hb ho => (hs.2 b (Nat.ne_of_lt (Heap.lt_size ho))).trans ((Heap.get?_update_ne _ _ _ _ hb).trans (Heap.get?_push_of_some _ ho))) (Nat.le_refl _) ns.symm ((hs.2 x ns).trans (Heap.get?_update_self _ hx1 rfl)) hn'
theorem osaOld (b : XB B newId initId tail) {dx : Addr} {m0 : Str → Option Value} {nl : List Str} (X : K.In hp) (hx : hp.get? x = some { cls := .ref C, dict := some dx, data := .fields fv }) (hns : hp.Ns1 dx m0) (hw : Within m0 nl) (hz : nl.length ≤ 1000) (hcd : W.clsIn K C = some cd) (hm : over tail cd.mro = true) (hh : cd.hasDict = true)
    (ha : W.findIn K (.ref C) name = some none)
    (hq : ∀ h' tk', (∀ b o, b ≠ dx → hp.get? b = some o → h'.get? b = some o) → h'.Ns1 dx (fun y => if y = name then some v else m0 y) → R (.ok (.ret .none)) ⟨h', g, d, tk', os⟩) :
    codeAny (model prog w) A (.call (.builtin "object.__setattr__") ⟨[.ref x, .str name tk, v], []⟩) R ⟨hp, g, d, t, os⟩ := by
  obtain ⟨oD, _, _, hoD, _, _⟩ := hns.count hw
  refine osaRun b (od := some oD) X ⟨hx, rfl, rfl, hoD⟩ hcd hm ha ?_
  have lk : W.Looks (model prog w) hp (classData C) cd := W.looks_clsIn X hcd
  obtain ⟨nm, bs, mro, nsx, qn, hd, sn, sb, ab, col, del⟩ := cd
  cases (show hd = true from hh)
  unfold storeInOwnDict ownDictForStores
  repeat (first | with_reducible refine PySem.OEX.store_in_old hns hw hz ?_ | with_reducible refine wpAny_loadPart_at hx ?_ | with_reducible refine lk.at ?_ | wp_step)
  intro h' tk' hn' hs
  exact hq h' tk' (fun b o hb ho => (hs.2 b hb).trans ho) hn'
end

/-- what the written part says of an exception class of the program -/
structure XC (K : PySem.W.Frag) (C : Addr) : Prop where
  cls : ∃ B newId initId tail, XB B newId initId tail ∧ ∃ nm q N bs bm sn sub ab col dd k0 k1 k2 k3 k5, K.lookup C = some (excClassObj nm q C N bs bm true sn sub ab col dd k0 k1 k2 k3 k5 newId) ∧ over tail bm = true
  sa : PySem.W.findIn K (.ref C) "__setattr__" = some (some (.builtin "object.__setattr__"))
  exC : PySem.W.subIn K (.ref C) (.type "BaseException") = some true
  tyC : PySem.W.typeIn K (.ref C) = some (.type "type")
  kC : PySem.W.keepIn K (.ref C) = true
section
variable {X : Cx} {pins : List (Addr × Obj)} {σ : L2.St} {H : Hp} {s : Shared} {a C dx : Addr} {f : Str} {y : V} {u : Value} {fs : List (Str × V)} {Q : Unit → Shared → Prop} {E : Value → Shared → Prop} {A : Around}
theorem xst_new (T : XC X.K C) (I : Inv X pins σ H s) (e : H a = some (exo a C none)) (hno : PySem.W.findIn X.K (.ref C) f = some none) (ry : RelV y u)
    (h : ∀ dx s', H dx = none → dx ≠ a → Inv X pins σ (upd (upd H dx (exd dx [(f, y)])) a (exo a C (some dx))) s' → Q () s') : wpAny (model X.prog X.w) A (setAttr (.ref a) f u) Q E s := by
  obtain ⟨B, newId, initId, tail, b, nm, q, N, bs, bm, sn, sub, ab, col, dd, k0, k1, k2, k3, k5, hC, hbm⟩ := T.cls
  have hcl : PySem.W.clsIn X.K C = some { name := nm, bases := bs, mro := .ref C :: bm, ns := N, qualname := q, hasDict := true, slotNames := sn, subclasses := sub, abstract := ab, collection := col, hasDel := false } := by unfold PySem.W.clsIn; rw [hC] <;> rfl
  obtain ⟨t1, ho⟩ := exo_at I.hok e
  obtain ⟨hp, g, d, t, os⟩ := s
  refine PySem.W.set_plain I.kIn (ox := { cls := .ref C, dict := none, data := .fields #[.ref t1, .none, .none, .none, .bool false, .none] }) (od := none) ⟨ho, rfl, rfl, trivial⟩ T.sa (osaNew b I.kIn ho hcl (show over tail (.ref C :: bm) = true from hbm) rfl hno fun h' tk' dx k dn dne hx hn => ?_)
  have hnd : H dx = none := I.hok.fresh dn
  have n1 : ∀ {b : Addr} {o : Obj}, hp.get? b = some o → b ≠ dx := fun {b o} q => Nat.ne_of_lt (Nat.lt_of_lt_of_le (Heap.lt_size q) dn)
  have n2 : ∀ {b : Addr}, H b = none → b ≠ a := fun {b} n z => by rw [z, e] at n; cases n
  have U : Un X.fs [] H (upd (upd H dx (exd dx [(f, y)])) a (exo a C (some dx))) hp h' := {
    keep := fun b o q n _ _ => k b o (n2 n) q
    slot := fun b o q n _ _ => ⟨o.slots, k b o (n2 n) q⟩
    free := fun b o q n _ => by rw [upd_ne (n2 n), upd_ne (n1 q)]; exact n
    there := fun b o q _ => by
      by_cases hb : b = a
      · exact ⟨_, by rw [hb]; exact hx⟩
      · exact ⟨o, k b o hb q⟩
    tups := fun b xs q => by rw [upd_ne (at_ne e q exo_tup), upd_ne (ne_of_none q hnd)]; exact q
    frzs := fun b o v q => by rw [upd_ne (at_ne e q exo_frz), upd_ne (ne_of_none q hnd)]; exact q
    tbls := fun b ps q => ⟨#[], by rw [upd_ne (at_ne e q exo_tbl), upd_ne (ne_of_none q hnd), q]; simp⟩ }
  refine h dx _ hnd dne (I.un (t' := tk') U fun b o q => ?_)
  by_cases hb : b = a
  · subst hb
    rw [upd_same] at q
    cases q
    exact exo_ok hx
  · rw [upd_ne hb] at q
    by_cases hd : b = dx
    · subst hd
      rw [upd_same] at q
      cases q
      exact exd_ok hn (relO_put (fs := []) ry fun g => True.intro)
    · rw [upd_ne hd] at q
      refine (I.hok b o q).stay (fun c v hc z => k c v ?_ z) (fun c hc => by rw [upd_ne (at_ne e hc exo_own), upd_ne (ne_of_none hc hnd)]; exact hc) (fun c xs hc => by rw [upd_ne (at_ne e hc exo_tup), upd_ne (ne_of_none hc hnd)]; exact hc)
      rcases hc with hc | hc
      · rw [hc]; exact hb
      · exact at_ne e hc exo_own
theorem xst_old (T : XC X.K C) (I : Inv X pins σ H s) (e : H a = some (exo a C (some dx))) (ed : H dx = some (exd dx fs)) (hl : fs.length ≤ 900) (hno : PySem.W.findIn X.K (.ref C) f = some none) (ry : RelV y u)
    (h : ∀ s', Inv X pins σ (upd H dx (exd dx ((f, y) :: fs))) s' → Q () s') : wpAny (model X.prog X.w) A (setAttr (.ref a) f u) Q E s := by
  obtain ⟨B, newId, initId, tail, b, nm, q, N, bs, bm, sn, sub, ab, col, dd, k0, k1, k2, k3, k5, hC, hbm⟩ := T.cls
  have hcl : PySem.W.clsIn X.K C = some { name := nm, bases := bs, mro := .ref C :: bm, ns := N, qualname := q, hasDict := true, slotNames := sn, subclasses := sub, abstract := ab, collection := col, hasDel := false } := by unfold PySem.W.clsIn; rw [hC] <;> rfl
  obtain ⟨t1, ho⟩ := exo_at I.hok e
  obtain ⟨mA, hns, rel⟩ := exd_at I.hok ed
  have hw := within_of rel
  obtain ⟨hp, g, d, t, os⟩ := s
  obtain ⟨oD, _, _, hoD, _, _⟩ := hns.count hw
  refine PySem.W.set_plain I.kIn (ox := { cls := .ref C, dict := some dx, data := .fields #[.ref t1, .none, .none, .none, .bool false, .none] }) (od := some oD) ⟨ho, rfl, rfl, hoD⟩ T.sa (osaOld b I.kIn ho hns hw (by rw [List.length_map]; omega) hcl (show over tail (.ref C :: bm) = true from hbm) rfl hno fun h' tk' k hn => ?_)
  have hd : ∃ o, h'.get? dx = some o := by
    obtain ⟨o, _, _, e', _⟩ := hn
    exact ⟨o, e'⟩
  exact h _ (I.write (t' := tk') (x := dx) (e := dx) (o := exd dx ((f, y) :: fs)) (by rw [ed]; exact True.intro) (.inl rfl) k hd (exd_ok hn (relO_put ry rel)))
end
end M
/-! M9: making exceptions as values; their fields. -/
namespace M
open PySem PySem.Spec PyProof.Rows L2

/-! ### __init__ of one and of two fields -/
/-- self.f = e, by the heap -/
def tXst (K : PySem.W.Frag) (f : Str) (to te : TE) : TS := fun D σ H => te σ H fun y H1 => to σ H1 fun x H2 => ∃ a C : Addr, x = .ref a ∧ XC K C ∧ PySem.W.findIn K (.ref C) f = some none ∧
  ((H2 a = some (exo a C none) ∧ ∀ dx, H2 dx = none → dx ≠ a → D.nx σ (upd (upd H2 dx (exd dx [(f, y)])) a (exo a C (some dx)))) ∨
    ∃ (dx : Addr) (fs : List (Str × V)), H2 a = some (exo a C (some dx)) ∧ H2 dx = some (exd dx fs) ∧ fs.length ≤ 900 ∧ D.nx σ (upd H2 dx (exd dx ((f, y) :: fs))))
theorem ps_xst {X : Cx} {o e : Expr} {to te : TE} {f : Str} {p' pos : Pos} (ho : PE X o to) (he : PE X e te) (hs : swapsWith e (some (.Attribute o f p')) pos.line X.env = pure false := by rfl) : PS X (.Assign [.Attribute o f p'] e pos) (tXst X.K f to te) := by
  refine ⟨fun pins s σ H D I h => plainObj_wpAny_Assign_Attribute (thn (he.run pins s σ H _ I h) fun v s1 ⟨y, H1, I1, r1, q1⟩ => thn (ho.run pins s1 σ H1 _ I1 q1) fun u s2 ⟨x, H2, I2, r2, a, C, ex, T, hno, q⟩ => ?_) hs⟩
  subst ex
  cases (show u = Value.ref a from r2)
  rcases q with ⟨ea, q⟩ | ⟨dx, fs, ea, ed, hl, q⟩
  · exact xst_new T I2 ea hno r1 fun dx s' n ne J => ⟨σ, _, J, q dx n ne⟩
  · exact xst_old T I2 ea ed hl hno r1 fun s' J => ⟨σ, _, J, q⟩
/-- the promise of such an __init__ -/
def spX (K : PySem.W.Frag) (fs : List Str) : Sp := fun vs H Q _ => ∃ (a C : Addr) (ys : List V), vs = .ref a :: ys ∧ ys.length = fs.length ∧ XC K C ∧ (∀ f ∈ fs, PySem.W.findIn K (.ref C) f = some none) ∧ H a = some (exo a C none) ∧
  ∀ d, H d = none → d ≠ a → Q .non (upd (upd H d (exd d (fs.zip ys).reverse)) a (exo a C (some d)))
section
variable {P : Program} {w : World} {K : PySem.W.Frag} {mg : Str → Option Value} {base : Heap} {qual : Str} {params : Arguments} {scope : Scope} {dvs : List V} {kws : List (Str × V)} {f : Addr} {fd : FuncData} {k : Nat} {p1 p2 p3 p4 q1 q2 q3 q4 : Pos} {CX : CXT}
theorem ok_init1 {x1 : Str} (Fd : FunD K "__init__" qual params [.Assign [.Attribute (.Name "self" p1) x1 p2] (.Name x1 p3) p4] scope dvs kws f fd) (S : FnScope ["self", x1] ["self", x1] scope) (v0 : scope.names.lookup ("self" : Str) = some .local) (v1 : scope.names.lookup x1 = some .local)
    (d1 : (x1 == ("__debug__" : Str)) = false) (c1 : (x1 == ("__classdict__" : Str)) = false) : FnOk P w K mg base CX (k + 1) f fd ["self", x1] (spX K [x1]) := by
  refine Fd.ok S (fun vs H Q E h => ?_) (fun cdv A outer s H vs Q E hr h => ⟨_, pss_one (ps_xst (pe_var (i := 0) rfl (.inl v0)) (pe_var (i := 1) rfl (.inl v1) d1 c1)), ?_⟩)
  · obtain ⟨a, C, ys, rfl, hl, _⟩ := h
    rw [List.length_cons, hl]; rfl
  · obtain ⟨a, C, ys, rfl, hl, T, hf, ea, q⟩ := h
    match ys, hl with
    | [y], _ => exact ⟨y, rfl, .ref a, rfl, a, C, rfl, T, hf _ (by simp), .inl ⟨ea, fun d hd ne => q d hd ne⟩⟩
theorem upd_comm {H : Hp} {a b : Addr} {o u : HO} (h : a ≠ b) : upd (upd H a o) b u = upd (upd H b u) a o := by
  funext c
  by_cases e : c = a
  · rw [e, upd_ne h, upd_same, upd_same]
  · by_cases e2 : c = b
    · rw [e2, upd_same, upd_ne h.symm, upd_same]
    · rw [upd_ne e2, upd_ne e, upd_ne e, upd_ne e2]
end

/-! ### C(..) as a value -/
section
variable {X : Cx} {CX : CXT} {k n : Nat} {fI C : Addr} {fd : FuncData} {ps ks : List Str} {E : Value → Shared → Prop}
theorem exq_ok2 {P : Program} {w : World} {H : Hp} {h : Heap} {a C : Addr} {d : Option Addr} {o : Obj} {vs : Array Value} (e : h.get? a = some o) (c : o.cls = .ref C) (hd : o.dict = d) (dt : o.data = .fields vs) (h2 : vs[2]? = some .none) : ObjOk P w H h a (exq a C d) :=
  ⟨⟨o, vs, e, c, hd, dt, h2⟩, ⟨_, e⟩, fun h1 h2 ⟨o, v, q, r⟩ k => ⟨o, v, k _ q, r⟩⟩
theorem passLN {X : Cx} : Passes (L2N.CX X.prog X.w) X (fun _ _ _ => False) := fun _ _ _ _ _ _ _ h => by
  obtain ⟨_, _, _, _, _, _, _, _, _, _, _, _, z⟩ := h
  exact z.elim
end

/-! ### .. in the embedding -/
theorem kbn_plain {K : PySem.W.Frag} {x qual : Str} {params : Arguments} {body : List Stmt} {scope : Scope} {kws : List (Str × V)} {f : Addr} {fd : FuncData} {ps : List Str} (F : FunD K x qual params body scope [] kws f fd) (n : Nat) (ks : List Str) (g : {α : Type} → List α → List α → List α)
    (hrel : ∀ {vs zs : List V} {us ws : List Value}, Vals vs us → Vals zs ws → Vals (g vs zs) (g us ws))
    (h : ∀ (kV doc pm : Value) (an : Option Addr) (cdv ct : Value) (us ws : List Value), us.length = n → ws.length = ks.length → bindArgs (PySem.W.fnOf x qual params body scope .none kV doc pm an cdv ct) ⟨us, ks.zip ws⟩ = pure (ps.zip (g us ws))) : KBn K fd ps n ks (fun us ws => g us ws) (fun vs zs => g vs zs) := by
  obtain ⟨oc, od, dV, kV, doc, pm, an, cdv, ct, osl, rfl, lk, hcd, hD, hK⟩ := F.ex
  rcases hD with ⟨_, rfl⟩ | ⟨e, _⟩
  · exact ⟨fun s us ws X l1 l2 => .of_eq (h kV doc pm an cdv ct us ws l1 l2), fun r1 r2 => hrel r1 r2⟩
  · exact absurd rfl e
/-- what is known of an exception class with its __init__ -/
structure XI (X : Cx) (k n : Nat) (C : Addr) (fs ks : List Str) (gV : List V → List V → List V) : Prop where
  cls : XC X.K C
  nf : ∀ f ∈ fs, PySem.W.findIn X.K (.ref C) f = some none
  ini : ∃ (fI : Addr) (fd : FuncData) (ps : List Str) (g : List Value → List Value → List Value), PySem.W.findIn X.K (.ref C) "__init__" = some (some (.ref fI)) ∧ PySem.W.typeIn X.K (.ref fI) = some (.type "function") ∧
    FnOk X.prog X.w X.K X.mg X.base (L2N.CX X.prog X.w) k fI fd ps (spX X.K fs) ∧ KBn X.K fd ps (n + 1) ks g gV
/-- how the fields' values come of the arguments -/
structure Perm (gD : List D → List D → List D) (gV : List V → List V → List V) (n m : Nat) (fs : List Str) : Prop where
  rel : ∀ (W : Vw) ds es vs zs, RVs W ds vs → RVs W es zs → ds.length = n → es.length = m → ∃ ys, (∀ a, gV (.ref a :: vs) zs = .ref a :: ys) ∧ ys.length = fs.length ∧ RVs W (gD ds es) ys
theorem zip_rf {W : Vw} : ∀ {fs : List Str} {ds : List D} {vs : List V}, RVs W ds vs → RFs W (fs.zip ds) (fs.zip vs)
  | [], _, _, _ => .nil
  | _ :: _, _, _, .nil => .nil
  | f :: fs, _, _, .cons h r => .cons h (zip_rf r)
theorem rf_append {W : Vw} : ∀ {ds ds' : List (Str × D)} {vs vs' : List (Str × V)}, RFs W ds vs → RFs W ds' vs' → RFs W (ds ++ ds') (vs ++ vs')
  | _, _, _, _, .nil, q => q
  | _, _, _, _, .cons h r, q => .cons h (rf_append r q)
theorem rf_reverse {W : Vw} : ∀ {ds : List (Str × D)} {vs : List (Str × V)}, RFs W ds vs → RFs W ds.reverse vs.reverse
  | _, _, .nil => .nil
  | _, _, .cons h r => by rw [List.reverse_cons, List.reverse_cons]; exact rf_append (rf_reverse r) (.cons h .nil)
section
variable {X : Cx} {F : Fx} {k n : Nat} {C x : Str} {fs ks : List Str} {gV : List V → List V → List V} {gD : List D → List D → List D} {p pos : Pos} {e : Expr} {es : List Expr} {kws : List Keyword} {j jk : IA}
theorem k_nil : PK X [] (TA_ F aNil) := ⟨fun pos pins s σ H Q I h => (pk_nil (X := X)).run pos pins s σ H Q I (by
  obtain ⟨W, st, env, A, p⟩ := h
  have q := p W.ρ W.H [] Ext.refl A.sim .nil
  rw [A.h] at q
  exact q)⟩
theorem k_cons {nm : Option Str} {kpos : Pos} {i : IE} {j : IA} (ha : PE X e (TI F i)) (hr : PK X kws (TA_ F j)) : PK X (⟨nm, e, kpos⟩ :: kws) (TA_ F (aCons i j)) := ⟨fun pos pins s σ H Q I h => (pk_cons (nm := nm) (kpos := kpos) ha hr).run pos pins s σ H Q I
  ((TX.bind (k := fun d env s => (j env s).bind fun ds s2 => .ok (d :: ds) s2) h).mono fun x H1 h1 =>
    (TK.bind (i := j) (k := fun d ds env s2 => .ok (d :: ds) s2) (fun x r => RV.mono x r) h1).mono fun y H2 ⟨W, st, env, a, b, A, ra, rb, p⟩ => by
      have q := p W.ρ W.H (x :: y) Ext.refl A.sim (.cons ra rb)
      rw [A.h] at q
      exact q)⟩
end
end M
/-! M10: frozen lists and dicts, slices, stores in lists, repr, isinstance, an exception's field, names. -/
namespace M
open PySem PySem.Spec PyProof.Rows L2

section
variable {X : Cx} {F : Fx} {pos : Pos} {W : Vw} {st : Sto}
/-! ### displays nobody changes -/
def opLstF : OpN := fun ds st => if ds.length ≤ sizeLine then some (.lst ds, st) else none
theorem e_lstF {es : List Expr} {j : IA} (h : PA X es (TA_ F j)) : PE X (.List es pos) (TI F (iN opLstF j)) := PE.imp (pe_lst h) fun σ H Q h => (n_rN h).mono fun vs H1 ⟨W, st, ds, I, r, p⟩ => by
  unfold opLstF at p
  split at p
  · rename_i c
    have eH := I.h
    subst eH
    exact ⟨by rw [← r.length]; exact c, fun q hq => p.listF I.sim r hq⟩
  · exact p.elim
theorem e_dct0 : PE X (.Dict [] [] pos) (TI F (iC (.dct [] []))) := PE.imp pe_dnewK fun σ H Q ⟨W, st, env, A, p⟩ q hq => by
  have eH := A.h
  subst eH
  exact p W.ρ _ _ (ext_new0 hq) (A.sim.new0 hq) (.dct (.inl upd_same) (new_fro A.sim hq) rfl .nil)
def opListF : OpN := fun ds st => match ds with
  | [d] => (aseq st d).map fun xs => (.lst xs, st)
  | _ => none
theorem cr_listF (hk : X.K = F.K) : CallR X (.type "list") (rN F opListF) := CallR.imp call_list_of fun xs H Q ⟨W, st, ds, I, r, p⟩ => by
  unfold opListF at p
  split at p
  · rename_i d
    obtain ⟨v, rfl, rv⟩ := rv1 r
    cases e : aseq st d with
    | none => rw [e] at p; exact p.elim
    | some xs =>
      rw [e] at p
      obtain ⟨a, ys, rfl, hs, ry⟩ := aseq_at I.sim e rv
      have eH := I.h
      subst eH
      rw [I.k, ← hk] at hs
      exact ⟨a, ys, rfl, hs, fun l hl => p.listF I.sim ry hl⟩
  · exact p.elim

/-! ### names -/
theorem e_glo {x : Str} (hg : Gl X x) (hm : X.mg x = some (.ref (F.g x))) (hd : (x == ("__debug__" : Str)) = false := by decide) : PE X (.Name x pos) (TI F (iC (.glo x))) := e_con (pe_glob hg hm (v := .ref (F.g x)) rfl hd) fun W _ e => by rw [← e]; exact .glo x
theorem e_gint {x : Str} {i : Int} (hg : Gl X x) (hm : ∃ t, X.mg x = some (.int i t)) (hd : (x == ("__debug__" : Str)) = false := by decide) : PE X (.Name x pos) (TI F (iC (.int i))) := by
  obtain ⟨t, hm⟩ := hm
  exact e_con (pe_glob hg hm (v := .int i) ⟨t, rfl⟩ hd) fun W _ _ => .int i
theorem e_bty {x : Str} {n : String} (hg : Gl X x) (hm : X.mg x = none) (hv : bootBuiltins x = some (.type n)) (hn : x ≠ "__name__" := by decide) (hd : (x == ("__debug__" : Str)) = false := by decide) : PE X (.Name x pos) (TI F (iC (.ty n))) := e_con (pe_bltn hg hm hv (v := .ty n) rfl hn hd) fun W _ _ => .ty n

/-! ### all -/
def asB : D → Option Bool
  | .bl b => some b
  | _ => none
def opAll : OpN := fun ds st => match ds with
  | [d] => match alst st d with
    | some xs => (allP asB xs).map fun bs => (.bl (bs.all id), st)
    | none => none
  | _ => none
theorem asB_rv : ∀ {xs : List D} {bs : List Bool} {ys : List V}, allP asB xs = some bs → RVs W xs ys → ys = bs.map V.bl
  | [], _, _, h, .nil => by cases h; rfl
  | x :: xs, _, _, h, .cons r rs => by
    obtain ⟨p, q, e1, e2, rfl⟩ := allP_cons h
    rw [asB_rv e2 rs]
    cases r <;> cases e1
    rfl
theorem cr_allL (hk : X.K = F.K) (hc : X.calm = true) : CallR X (.builtin "all") (rN F opAll) := CallR.imp (cr_all hc) fun xs H Q ⟨W, st, ds, I, r, p⟩ => by
  unfold opAll at p
  split at p
  · rename_i d
    obtain ⟨v, rfl, rv⟩ := rv1 r
    split at p
    · rename_i xs e
      obtain ⟨a, ys, rfl, hs, ry⟩ := alst_at I.sim e rv
      rw [I.k, ← hk, I.h] at hs
      cases e2 : allP asB xs with
      | none => rw [e2] at p; exact p.elim
      | some bs =>
        rw [e2] at p
        rw [asB_rv e2 ry] at hs
        exact ⟨a, bs, rfl, hs, I.now p (.bl _)⟩
    · exact p.elim
  · exact p.elim

/-! ### repr -/
def rpr (st : Sto) : D → Option Str
  | .dct [] [] => some (dictText [])
  | d => match toP st 64 d with
    | some p => if p.showable = true ∧ p.shown.length ≤ sizeLine then some p.shown else none
    | none => none
def opRepr : OpN := fun ds st => match ds with
  | [d] => (rpr st d).map fun x => (.str x, st)
  | _ => none
theorem cr_repr (hk : X.K = F.K) (hgd : X.A.guards = some []) (hu : X.A.units + (64 + 1) < cLine) : CallR X (.builtin "repr") (rN F opRepr) := fun pins s σ H vs us Q I r ⟨W, st, ds, J, rd, p⟩ => by
  unfold opRepr at p
  split at p
  · rename_i d
    obtain ⟨v, rfl, rv⟩ := rv1 rd
    obtain ⟨u, rfl, ru⟩ := vals1 r
    have eK := J.k
    have eH := J.h
    cases e : rpr st d with
    | none => rw [e] at p; exact p.elim
    | some x =>
      rw [e] at p
      have q := J.now p (.str x)
      have keep : ∀ (h' : Heap) (tk : Nat), (∀ b o, s.heap.get? b = some o → h'.get? b = some o) → Inv X pins σ H { s with heap := h', toks := tk } := fun h' tk k => I.kept k
      have heap : ∀ {a : Addr} {pd : PyData} {as : List Addr}, Reads s.heap (.ref a) pd as → pd.showable = true → (pd.hasDict = true → sysModules ∉ as) → pd.depth ≤ 64 → pd.shown.length ≤ sizeLine → pd.shown = x → wpAny (model X.prog X.w) X.A (call (.builtin "repr") [.ref a]) (EP X pins σ Q) X.xe s := fun {a pd as} rr h1 h2 h3 h4 h5 =>
        repr_of_reads' rr h1 h2 hgd (by omega) (fun b o z => z) (fun h' t tk k => ⟨.str x, H, keep h' tk k, ⟨t, by rw [h5]⟩, q⟩) h4
      unfold rpr at e
      split at e
      · cases e
        cases rv with
        | @dct a _ _ ys h1 h2 h3 h4 =>
          cases ru
          cases ys with
          | cons y ys => cases h4
          | nil =>
          obtain ⟨_, hs, vs2, kvr, o, es, ep, ho, hx, hd, _, hp, _⟩ := (show ObjOk X.prog X.w H s.heap a (.dK []) from Rd.ok (by rw [← eH]; exact h1) I.hok)
          have e0 : vs2 = [] := by
            cases vs2 with
            | nil => rfl
            | cons z zs => cases kvr
          subst e0
          have e1 : es.toList = [] := by
            generalize es.toList = el at hp
            cases hp
            rfl
          refine heap (pd := .dict []) (as := [a] ++ []) (.dict (as := []) (bs := []) ho hx.1 hd (by rw [e1]; exact .nil) (by rw [e1]; exact .nil)) rfl (fun _ m => ?_) (by decide) (by decide) rfl
          have m' : sysModules = a := by simpa using m
          rw [← m'] at hs
          simp at hs
      · split at e
        · rename_i pd hp
          split at e
          · rename_i c
            cases e
            obtain ⟨a1, a2, a3⟩ := toP_good J.sim _ _ _ hp
            have x1 := a3 _ rv
            rw [eK, ← hk, eH] at x1
            obtain ⟨as, rr⟩ := Dp.reads I pd v u x1 ru
            cases rr with
            | none => exact PySem.P.repr_of_none ⟨.str _, H, I.tok _, ⟨_, rfl⟩, q⟩
            | bool b => exact PySem.P.repr_of_bool ⟨.str _, H, I.tok _, ⟨_, rfl⟩, q⟩
            | int i t => exact PySem.P.repr_of_int (by simpa [PyData.showable] using c.1) ⟨.str _, H, I.tok _, ⟨_, rfl⟩, q⟩
            | str z t => exact PySem.P.repr_of_str ⟨.str _, H, I.tok _, ⟨_, rfl⟩, q⟩ c.2
            | list h1 h2 h3 h4 => exact heap (.list h1 h2 h3 h4) c.1 (fun z => by rw [PyData.hasDict_of_canLay _ a1] at z; cases z) a2 c.2 rfl
            | tuple h1 h2 h3 h4 => exact heap (.tuple h1 h2 h3 h4) c.1 (fun z => by rw [PyData.hasDict_of_canLay _ a1] at z; cases z) a2 c.2 rfl
            | dict h1 h2 h3 h4 h5 => exact heap (.dict h1 h2 h3 h4 h5) c.1 (fun z => by rw [PyData.hasDict_of_canLay _ a1] at z; cases z) a2 c.2 rfl
          · cases e
        · cases e
  · exact p.elim
end
end M
/-! M11: slices, stores in lists, isinstance, an exception's field. -/
namespace M
open PySem PySem.Spec PyProof.Rows L2

section
variable {X : Cx} {F : Fx} {pos p2 : Pos} {W : Vw} {st : Sto}
/-! ### slices -/
def PN (_ : Vw) (a b : Option Int) : Prop := a = b
abbrev IO := Env → Sto → R (Option Int)
abbrev TO_ (F : Fx) (i : IO) : L2.TO := TX PN F i
def oNone : IO := fun _ st => .ok none st
def kPart (d : D) (s : Sto) : R (Option Int) := match d with
  | .int i => .ok (some i) s
  | _ => .bad
def oSome (i : IE) : IO := fun env st => (i env st).bind kPart
theorem o_none : PO X none (TO_ F oNone) := ⟨fun pins s σ H Q I h => (po_none (X := X)).run pins s σ H Q I (by
  obtain ⟨W, st, env, A, p⟩ := h
  have q := p W.ρ W.H none Ext.refl A.sim rfl
  rw [A.h] at q
  exact q)⟩
theorem o_some {e : Expr} {i : IE} (he : PE X e (TI F i)) : PO X (some e) (TO_ F (oSome i)) := ⟨fun pins s σ H Q I h => (po_some he).run pins s σ H Q I ((TX.bind (k := fun d env s => kPart d s) h).mono fun x H1 ⟨W, st, env, d, A, r, p⟩ => by
  unfold kPart at p
  cases r with
  | int i =>
    have q := p W.ρ W.H (some i) Ext.refl A.sim rfl
    rw [A.h] at q
    exact ⟨i, rfl, q⟩
  | _ => exact p.elim)⟩
def cutL {α : Type} (xs : List α) (lo hi : Option Int) : List α := (xs.drop (HT.sIx xs.length 0 lo)).take (HT.sIx xs.length xs.length hi - HT.sIx xs.length 0 lo)
theorem RVs.cut {xs : List D} {ys : List V} (r : RVs W xs ys) (lo hi : Option Int) : RVs W (cutL xs lo hi) (cutV ys lo hi) := by
  unfold cutL cutV
  rw [r.length]
  exact (r.drop _).take _
/-- a slice of a list is a new one that nobody changes -/
def opSl (a : D) (lo hi : Option Int) (st : Sto) : Option (D × Sto) := match a with
  | .str z => if z.length ≤ sizeLine then some (.str (cutS z lo hi), st) else none
  | .tup xs => if HT.sIx xs.length 0 lo = 0 ∧ HT.sIx xs.length xs.length hi = xs.length then none else some (.tup (cutL xs lo hi), st)
  | a => (alst st a).map fun xs => (.lst (cutL xs lo hi), st)
def rS (F : Fx) : V → Option Int → Option Int → Hp → VK → Prop := fun x lo hi H Q => ∃ W st a, In F W st H ∧ RV W a x ∧ PostO W (opSl a lo hi st) Q
theorem SlR.imp {r r' : V → Option Int → Option Int → Hp → VK → Prop} (a : SlR X r) (h : ∀ x l u H Q, r' x l u H Q → r x l u H Q) : SlR X r' := fun p s σ H x v vl vu lo hi sl Q I rx hs pl pu q => a p s σ H x v vl vu lo hi sl Q I rx hs pl pu (h x lo hi H Q q)
theorem sr_sl (hk : X.K = F.K) : SlR X (rS F) := SlR.imp (sl_list.or (sl_tup.or sl_str)) fun x lo hi H Q ⟨W, st, a, I, ra, p⟩ => by
  have eH := I.h
  subst eH
  unfold opSl at p
  split at p
  · cases ra
    split at p
    · exact .inr (.inr ⟨_, rfl, by assumption, p.now I.sim (.str _)⟩)
    · exact p.elim
  · split at p
    · exact p.elim
    · rename_i c
      obtain ⟨q, ys, rfl, hs, ry⟩ := tup_at ra
      rw [I.k, ← hk] at hs
      refine .inr (.inl ⟨q, ys, rfl, hs, by rw [← ry.length]; exact c, fun l hl => p.tuple I.sim (ry.cut lo hi) hl⟩)
  · cases e : alst st a with
    | none => rw [e] at p; exact p.elim
    | some xs =>
      rw [e] at p
      obtain ⟨q, ys, rfl, hs, ry⟩ := alst_at I.sim e ra
      rw [I.k, ← hk] at hs
      exact .inl ⟨q, ys, rfl, hs, fun l hl => p.listF I.sim (ry.cut lo hi) hl⟩
def iSl (i : IE) (lo hi : IO) : IE := fun env st => (i env st).bind fun a s => (lo env s).bind fun l s1 => (hi env s1).bind fun u s2 => ofO (opSl a l u s2)
def P2 (W : Vw) (a : D × Option Int) (b : V × Option Int) : Prop := RV W a.1 b.1 ∧ a.2 = b.2
theorem TK.pair {α β γ δ κ μ : Type} {P : Vw → α → β → Prop} {P' : Vw → γ → δ → Prop} {P2 : Vw → κ → μ → Prop} {σ : L2.St} {H : Hp} {k : α → γ → Env → Sto → R κ} {Q : μ → Hp → Prop} {b : β} {c : δ} (h : ∃ W st env a d, At F W st env σ H ∧ P W a b ∧ P' W d c ∧ Post W P2 (k a d env st) Q (F.at_ σ)) :
    TK (fun W (x : α × γ) (y : β × δ) => P W x.1 y.1 ∧ P' W x.2 y.2) P2 F (fun x env st => k x.1 x.2 env st) (b, c) σ H Q := by
  obtain ⟨W, st, env, a, d, A, r1, r2, p⟩ := h
  exact ⟨W, st, env, (a, d), A, ⟨r1, r2⟩, p⟩
theorem e_sl {a : Expr} {lo hi : Option Expr} {i : IE} {l u : IO} (hk : X.K = F.K) (ha : PE X a (TI F i)) (hl : PO X lo (TO_ F l)) (hu : PO X hi (TO_ F u)) : PE X (.Subscript a (.Slice lo hi none p2) pos) (TI F (iSl i l u)) := PE.imp (pe_slice (sr_sl hk) ha hl hu) fun σ H Q h =>
  (TX.bind (k := fun a env s => (l env s).bind fun x s1 => (u env s1).bind fun y s2 => ofO (opSl a x y s2)) h).mono fun x H1 h1 =>
    (TK.bind (i := l) (k := fun a x env s1 => (u env s1).bind fun y s2 => ofO (opSl a x y s2)) (fun x r => RV.mono x r) h1).mono fun y H2 h2 =>
      (TK.bind (P := fun W (x : D × Option Int) (y : V × Option Int) => RV W x.1 y.1 ∧ PN W x.2 y.2) (i := u) (k := fun a y env s2 => ofO (opSl a.1 a.2 y s2)) (fun x r => ⟨RV.mono x r.1, r.2⟩) (TK.pair (P := RV) (P' := PN) (k := fun a x env s1 => (u env s1).bind fun y s2 => ofO (opSl a x y s2)) h2)).mono fun z H3 ⟨W, st, env, a, b, A, ra, rb, p⟩ => by
        cases (show b = z from rb)
        obtain ⟨ra, e⟩ := ra
        cases (show a.2 = y from e)
        exact ⟨W, st, a.1, A.in_, ra, PostO.of p⟩

/-! ### xs[i] = v -/
def kSet (d o k : D) (env : Env) (st : Sto) : R Env := match o, k with
  | .ref n, .int i => match lstAt st n with
    | some xs => match ixN xs.length i with
      | some j => .ok env (st.set n (.lst (xs.set j d)))
      | none => .bad
    | none => .bad
  | _, _ => .bad
def gIx (i j : IE) : IG := fun d env st => (i env st).bind fun o s => (j env s).bind fun k s2 => kSet d o k env s2
theorem g_ix {o k : Expr} {i j : IE} (ho : PE X o (TI F i)) (hk : PE X k (TI F j))
    (ha : ∀ v, assign (.Subscript o k pos) X.env v = (do let p1 ← holding [v] (eval o X.env); let p2 ← holding [v, p1] (eval k X.env); standAt pos; holding [v, p1, p2] (setItem p1 p2 v); release [v, p1, p2] []) := by intro _; rfl) : PG X (.Subscript o k pos) (TG_ F (gIx i j)) := by
  refine ⟨fun pins s σ H v u Q I r h => (pg_sub ho hk set_list ha).run pins s σ H v u Q I r ?_⟩
  have h0 : TK RV PE_ F (fun d env st => (i env st).bind fun o s => (j env s).bind fun k s2 => kSet d o k env s2) v σ H Q := h
  refine (TK.bind (i := i) (k := fun d o env s => (j env s).bind fun k s2 => kSet d o k env s2) (fun x r => RV.mono x r) h0).mono fun x H1 h1 => ?_
  refine (TK.bind (P := fun W (x : D × D) (y : V × V) => RV W x.1 y.1 ∧ RV W x.2 y.2) (i := j) (k := fun a k env s2 => kSet a.1 a.2 k env s2) (fun x r => ⟨RV.mono x r.1, RV.mono x r.2⟩) (TK.pair (P := RV) (P' := RV) (k := fun d o env s => (j env s).bind fun k s2 => kSet d o k env s2) h1)).mono fun y H2 ⟨W, st, env, a, b, A, ra, rb, p⟩ => ?_
  obtain ⟨ra, ro⟩ := ra
  have eH := A.h
  subst eH
  obtain ⟨d, o'⟩ := a
  have p' : Post W PE_ (kSet d o' b env st) Q (F.at_ σ) := p
  unfold kSet at p'
  split at p'
  · rename_i n i'
    split at p'
    · rename_i xs hx
      split at p'
      · rename_i jx hj
        obtain ⟨m, q, ys, e1, e2, e3, e4, e5, ry⟩ := mlst_at A.sim (d := .ref n) (xs := xs) hx ro
        cases e1
        cases rb
        cases (show x = V.ref q from e2)
        have x7 : Ext W W.ρ (upd W.H q (.lst (ys.set jx v))) := ext_put (List.mem_of_getElem? e3)
        have z : EnvR (W.to W.ρ (upd W.H q (.lst (ys.set jx v)))) env σ := A.env.mono x7
        exact ⟨q, ys, _, jx, rfl, rfl, e5, by rw [← ry.length]; exact hj, p' W.ρ _ σ x7 (A.sim.put e3 ⟨_, upd_same, RVs.mono x7 (ry.set jx ra)⟩) z⟩
      · exact p'.elim
    · exact p'.elim
  · exact p'.elim

/-! ### isinstance -/
def tagD (st : Sto) : D → Option Tg
  | .non => some (.ty "NoneType")
  | .bl _ => some (.ty "bool")
  | .int _ => some (.ty "int")
  | .str _ => some (.ty "str")
  | .tup _ => some (.ty "tuple")
  | .lst _ => some (.ty "list")
  | .dct _ _ => some (.ty "dict")
  | .exc C _ => some (.own C)
  | .ref n => match st[n]? with
    | some (.lst _) => some (.ty "list")
    | some (.dct _) => some (.ty "dict")
    | _ => none
  | _ => none
def clsD : D → Option Tg
  | .ty n => some (.ty n)
  | .glo C => some (.own C)
  | _ => none
/-- what an own exception class must have for isinstance and for fields -/
structure XF (K : PySem.W.Frag) (C : Addr) : Prop where
  fld : XfC K C
  cl : (PySem.W.clsIn K C).isSome = true
  ca : PySem.W.findIn K (.ref C) "__class__" = some (some (.builtin "object.__class__"))
  sp : PySem.W.specialIn K (.builtin "object.__class__") "__get__" = some (some (.builtin "getset_descriptor.__get__"))
  tk : PySem.W.takesIn K (.builtin "object.__class__") = some true
  mr : PySem.W.mroIn K C (.type "object") = some true
/-- the classes of exceptions, and what isinstance says of pairs -/
structure Isa (K : PySem.W.Frag) (g : Str → Addr) (xs : List Str) (tb : Tg → Tg → Option Bool) : Prop where
  xf : ∀ C ∈ xs, XF K (g C)
  tb : ∀ t c b, tb t c = some b → PySem.W.kitOne K (t.val g) (c.val g) = some b
def opIsi (xs : List Str) (tb : Tg → Tg → Option Bool) : OpN := fun ds st => match ds with
  | [.exc C _, c] => if C ∈ xs then (match clsD c with
    | some u => (tb (.own C) u).map fun b => (.bl b, st)
    | none => none) else none
  | [d, c] => match tagD st d, clsD c with
    | some (.ty n), some u => (tb (.ty n) u).map fun b => (.bl b, st)
    | _, _ => none
  | _ => none
theorem clsD_val {c : D} {v : V} {u : Tg} {w : Value} (h : clsD c = some u) (r : RV W c v) (hg : W.g = F.g) (rw_ : RelV v w) : w = u.val F.g := by
  cases r <;> cases h
  · exact rw_
  · rw [← hg]; exact rw_
theorem tag_ty {d : D} {v : V} {n : String} (hk : X.K = F.K) {H : Hp} (I : In F W st H) (h : tagD st d = some (.ty n)) (r : RV W d v) : TyX X.K H v (.type n) := by
  have eH := I.h
  subst eH
  cases r with
  | non => cases h; exact .base .non
  | bl b => cases h; exact .base (.bl _)
  | int b => cases h; exact .base (.int _)
  | str b => cases h; exact .base (.str _)
  | tup t _ =>
    cases h
    rcases t with ⟨t | ⟨o, t⟩, _⟩ | ⟨o, its, n, q, c, _⟩
    · exact .base (.tup t)
    · exact .fTuple t
    · exact .kTuple (by rw [hk, ← I.k]; exact q) c
  | lst t _ =>
    cases h
    rcases t with ⟨t | ⟨o, t⟩, _⟩ | ⟨its, n, q, c⟩
    · exact .base (.lst t)
    · exact .base (.frz t)
    · exact .kList (by rw [hk, ← I.k]; exact q) rfl
  | dct t _ _ _ =>
    cases h
    rcases t with t | ⟨o, t⟩
    · exact .base (.dK t)
    · exact .fDict t
  | @ref m a e =>
    have h' : (match st[m]? with
    | some (.lst _) => some (Tg.ty "list")
    | some (.dct _) => some (Tg.ty "dict")
    | _ => none) = some (.ty n) := h
    split at h'
    · rename_i xs q
      cases h'
      obtain ⟨ys, h1, _⟩ := I.sim.at_ _ _ _ q e
      exact .base (.lst h1)
    · rename_i xs q
      cases h'
      obtain ⟨ys, h1, _⟩ := I.sim.at_ _ _ _ q e
      exact .base (.dK h1)
    · cases h'
  | _ => cases h
theorem exc_inst {H : Hp} {pins : List (Addr × Obj)} {σ : L2.St} {s : Shared} {C : Str} {fs : List (Str × D)} {v : V} {u : Value} (J : In F W st H) (I : Inv X pins σ H s) (r : RV W (.exc C fs) v) (ru : RelV v u) : ∃ (a : Addr) (ox : Obj) (od : Option Obj), u = .ref a ∧ v = .ref a ∧ PySem.W.InstAt s.heap a ox (F.g C) od ∧
    ∃ gs, RFs W fs gs ∧ ∀ f x, gs.lookup f = some x → ∃ oo y, od = some oo ∧ PySem.W.lookIn f oo = some (some y) ∧ RelV x y := by
  have eH := J.h
  have eg := J.g
  subst eH
  cases r with
  | @exc a d _ _ gs h1 h2 h3 h4 h5 =>
    obtain ⟨⟨o, vs, ho, hc, hd0, hdt, _⟩, _⟩ := I.hok a _ h1
    rw [eg] at hc
    have nc : PySem.W.notCls o = true := by unfold PySem.W.notCls; rw [hdt] <;> rfl
    cases d with
    | none =>
      cases h3 rfl
      exact ⟨a, _, none, ru, rfl, ⟨ho, hc, nc, by rw [hd0]; trivial⟩, [], h5, fun f x z => by cases z⟩
    | some dx =>
      obtain ⟨mA, hns, hr⟩ := (show ObjOk X.prog X.w W.H s.heap dx (.xd gs) from I.hok dx _ (h4 dx rfl).1)
      obtain ⟨od, hod, hl⟩ := lookIn_ns hns
      refine ⟨a, _, some od, ru, rfl, ⟨ho, hc, nc, by rw [hd0]; exact hod⟩, gs, h5, fun f x z => ?_⟩
      obtain ⟨y, hy, ry⟩ := RelO.some_of (v := x) (o := mA f) (by rw [← z]; exact hr f)
      exact ⟨od, y, rfl, by rw [hl, hy], ry⟩
theorem cr_isi {xs : List Str} {tb : Tg → Tg → Option Bool} (hk : X.K = F.K) (T : Isa F.K F.g xs tb) : CallR X (.builtin "isinstance") (rN F (opIsi xs tb)) := fun pins s σ H vs us Q I r ⟨W, st, ds, J, rd, p⟩ => by
  unfold opIsi at p
  split at p
  · rename_i C fs c
    split at p
    · rename_i hC
      obtain ⟨v1, v2, rfl, rv1, rv2⟩ := rv2 rd
      obtain ⟨u1, u2, rfl, ru1, ru2⟩ := vals2 r
      split at p
      · rename_i u hu
        cases e : tb (.own C) u with
        | none => rw [e] at p; exact p.elim
        | some b =>
          rw [e] at p
          obtain ⟨a, ox, od, rfl, rfl, IA, _⟩ := exc_inst J I rv1 ru1
          have e2 := clsD_val hu rv2 J.g ru2
          subst e2
          have q := J.now p (.bl b)
          have Z := T.xf C hC
          have kk := T.tb _ _ _ e
          rw [← hk] at Z kk
          exact PySem.W.kia_one (PySem.W.kitx_exc Z.cl Z.fld.ga Z.fld.gg Z.fld.exC Z.ca Z.sp Z.tk Z.mr) I.kIn IA kk (fun z => nomatch z) fun tk => ⟨.bl b, H, I.tok tk, rfl, q⟩
      · exact p.elim
    · exact p.elim
  · rename_i d c _
    obtain ⟨v1, v2, rfl, rv1, rv2⟩ := rv2 rd
    obtain ⟨u1, u2, rfl, ru1, ru2⟩ := vals2 r
    split at p
    · rename_i n u hn hu
      cases e : tb (.ty n) u with
      | none => rw [e] at p; exact p.elim
      | some b =>
        rw [e] at p
        have e2 := clsD_val hu rv2 J.g ru2
        subst e2
        have q := J.now p (.bl b)
        have kk := T.tb _ _ _ e
        rw [← hk] at kk
        obtain ⟨P, Z, pp, hx⟩ := kit_of I ru1 (tag_ty hk J hn rv1)
        exact PySem.W.kia_one Z I.kIn pp kk hx fun tk => ⟨.bl b, H, I.tok tk, rfl, q⟩
    · exact p.elim
  · exact p.elim

/-! ### e.f of an exception -/
/-- the classes whose instances have f of their own alone -/
structure Fld (K : PySem.W.Frag) (g : Str → Addr) (f : Str) (xs : List Str) : Prop where
  xf : ∀ C ∈ xs, XfC K (g C)
  no : ∀ C ∈ xs, PySem.W.findIn K (.ref (g C)) f = some none
def opFld (xs : List Str) (f : Str) : Op1 := fun d st => match d with
  | .exc C fs => if C ∈ xs then (fs.lookup f).map fun x => (x, st) else none
  | _ => none
theorem rf_lookup {f : Str} : ∀ {fs : List (Str × D)} {gs : List (Str × V)} {d : D}, RFs W fs gs → fs.lookup f = some d → ∃ v, gs.lookup f = some v ∧ RV W d v
  | _, _, _, .nil, h => by cases h
  | _, _, d, .cons (f := n) r rs, h => by
    simp only [List.lookup] at h ⊢
    split at h
    · cases h; exact ⟨_, rfl, r⟩
    · exact rf_lookup rs h
theorem e_fld {e : Expr} {f : Str} {xs : List Str} {i : IE} (hk : X.K = F.K) (T : Fld F.K F.g f xs) (he : PE X e (TI F i)) (hb : attributeBase e f X.env (eval e X.env) = eval e X.env := by rfl) : PE X (.Attribute e f pos) (TI F (iUn (opFld xs f) i)) := by
  refine ⟨fun pins s σ H Q I h => ?_⟩
  refine attr_of hb (thn (he.run pins s σ H _ I (TX.bind (k := fun a env s1 => ofO (opFld xs f a s1)) h)) fun u s1 ⟨v, H1, I1, ru, W, st, env, d, A, rd, p⟩ => ?_)
  replace p := PostO.of p
  unfold opFld at p
  split at p
  · rename_i C fs
    split at p
    · rename_i hC
      cases e : fs.lookup f with
      | none => rw [e] at p; exact p.elim
      | some d =>
        rw [e] at p
        obtain ⟨a, ox, od, rfl, rfl, IA, gs, rg, look⟩ := exc_inst A.in_ I1 rd ru
        obtain ⟨x, hx, rx⟩ := rf_lookup rg e
        obtain ⟨oo, y, rfl, hl, ry⟩ := look f x hx
        have Z := T.xf C hC
        have no := T.no C hC
        rw [← hk] at Z no
        exact PySem.HandSPX.exc_get I1.kIn IA Z.ga Z.gg Z.exC (PySem.W.findObj_own Z.hdC no rfl hl) (handed_of ry) ⟨x, H1, I1.tok _, ry, A.in_.now p rx⟩
    · exact p.elim
  · exact p.elim
end
end M
/-! M12: list comprehensions whose list nobody changes. -/
namespace M
open PySem PySem.Spec PyProof.Rows L2

def compF (nx : Nx) (p : Pat) (t : IT) (e : IE) (env0 : Env) : Nat → Nat → List D → Sto → R (List D)
  | 0, i, acc => fun st => match nx i st with
    | some none => .ok acc st
    | _ => .bad
  | m + 1, i, acc => fun st => match nx i st with
    | some none => .ok acc st
    | some (some d) => match p.bind d env0 with
      | some env => ((t env st).nox).bind fun k s1 => if k = true then ((e env s1).nox).bind fun v s2 => if acc.length < sizeLine then compF nx p t e env0 m (i + 1) (acc ++ [v]) s2 else .bad else compF nx p t e env0 m (i + 1) acc s1
      | none => .bad
    | none => .bad
def iCompF (w : IW) (p : Pat) (t : IT) (e : IE) : IE := fun env st => (w env st).bind fun a s => (compF a.1 p t e (wipeE env p.slots) a.2 0 [] s).bind fun xs s2 => .ok (.lst xs) s2

section
variable {W : Vw} {ρ' : List Addr} {H' : Hp} {q : Addr} {u : HO} {st : Sto}
theorem zfro {a : Addr} (f : W.fro a) (hz : W.Z q) : a ≠ q := fun e => f.2 (e ▸ hz)
/-- what is out of reach may change -/
theorem rd_ne {H : Hp} {a b : Addr} {u v : HO} (n : a ≠ b) (h : Rd H a v) : Rd (upd H b u) a v := by
  rcases h with h | ⟨o, h⟩
  · exact .inl ((upd_ne n).trans h)
  · exact .inr ⟨o, (upd_ne n).trans h⟩
theorem ne_of_rd {H : Hp} {a b : Addr} {v : HO} (h : Rd H a v) (hb : H b = none) : a ≠ b := by
  rcases h with h | ⟨o, h⟩
  · exact ne_of_none h hb
  · exact ne_of_none h hb
theorem Vw.Tup.zput (hz : W.Z q) {a : Addr} {ys : List V} (h : W.Tup a ys) : (W.to W.ρ (upd W.H q u)).Tup a ys := by
  rcases h with ⟨h | ⟨o, h⟩, f⟩ | h
  · exact .inl ⟨.inl ((upd_ne (zfro f hz)).trans h), f⟩
  · exact .inl ⟨.inr ⟨o, (upd_ne (zfro f hz)).trans h⟩, f⟩
  · exact .inr h
theorem Vw.Tpl.zput (hz : W.Z q) {a : Addr} {ys : List V} (h : W.Tpl a ys) : (W.to W.ρ (upd W.H q u)).Tpl a ys := let ⟨⟨o, e, d⟩, f⟩ := h; ⟨⟨o, (upd_ne (zfro f hz)).trans e, d⟩, f⟩
theorem Vw.Key.zput (hz : W.Z q) {t : Bool} {a : Addr} {ys : List V} (h : W.Key t a ys) : (W.to W.ρ (upd W.H q u)).Key t a ys := by
  cases t with
  | true => exact Vw.Tpl.zput hz h
  | false => exact Vw.Tup.zput hz h
theorem Vw.Lst.zput (hz : W.Z q) {a : Addr} {ys : List V} (h : W.Lst a ys) : (W.to W.ρ (upd W.H q u)).Lst a ys := by
  rcases h with ⟨h | ⟨o, h⟩, f⟩ | h
  · exact .inl ⟨.inl ((upd_ne (zfro f hz)).trans h), f⟩
  · exact .inl ⟨.inr ⟨o, (upd_ne (zfro f hz)).trans h⟩, f⟩
  · exact .inr h
mutual
theorem RV.zput (hz : W.Z q) : ∀ {d : D} {v : V}, RV W d v → RV (W.to W.ρ (upd W.H q u)) d v
  | _, _, .non => .non
  | _, _, .bl b => .bl b
  | _, _, .int i => .int i
  | _, _, .str s => .str s
  | _, _, .ty n => .ty n
  | _, _, .glo s => .glo (W := W.to W.ρ (upd W.H q u)) s
  | _, _, .tup h r => .tup (h.zput hz) (r.zput hz)
  | _, _, .lst h r => .lst (h.zput hz) (r.zput hz)
  | _, _, .dct h f e r => .dct (rd_ne (zfro f hz) h) f e (r.zput hz)
  | _, _, .obj h f r => .obj ((upd_ne (zfro f hz)).trans h) f (r.zput hz)
  | _, _, .exc h f a b r => .exc ((upd_ne (zfro f hz)).trans h) f a (fun dx e => ⟨(upd_ne (zfro (b dx e).2 hz)).trans (b dx e).1, (b dx e).2⟩) (r.zput hz)
  | _, _, .ref h => .ref h
  | _, _, .tpl h r => .tpl (h.zput hz) (r.zput hz)
  | _, _, .adr h f r => .adr ((upd_ne (zfro f hz)).trans h) f (r.zput hz)
theorem RVs.zput (hz : W.Z q) : ∀ {d : List D} {v : List V}, RVs W d v → RVs (W.to W.ρ (upd W.H q u)) d v
  | _, _, .nil => .nil
  | _, _, .cons h r => .cons (h.zput hz) (r.zput hz)
theorem RFs.zput (hz : W.Z q) : ∀ {d : List (Str × D)} {v : List (Str × V)}, RFs W d v → RFs (W.to W.ρ (upd W.H q u)) d v
  | _, _, .nil => .nil
  | _, _, .cons h r => .cons (h.zput hz) (r.zput hz)
end
theorem OR.zput (hz : W.Z q) {a : Addr} (n : a ≠ q) : ∀ {o : O}, OR W a o → OR (W.to W.ρ (upd W.H q u)) a o
  | .lst xs, ⟨ys, h, r⟩ => ⟨ys, (upd_ne n).trans h, r.zput hz⟩
  | .dct kvs, ⟨ys, h, k, r⟩ => ⟨ys, (upd_ne n).trans h, k, r.zput hz⟩
  | .ins C fs, ⟨dx, gs, h, r⟩ => ⟨dx, gs, (upd_ne n).trans h, r.zput hz⟩
  | .dcn t kvs, ⟨xs, h, r⟩ => ⟨xs, (upd_ne n).trans h, Paired.mapP r fun p y z => ⟨z.1, z.2.1.zput hz, z.2.2.zput hz⟩⟩
  | .lck t kvs, ⟨od, xs, h, r⟩ => ⟨od, xs, (upd_ne n).trans h, Paired.mapP r fun p y z => ⟨z.1, z.2.1.zput hz, z.2.2.zput hz⟩⟩
  | .dcp lk kvs, ⟨u, xs, h, l, r⟩ => ⟨u, xs, (upd_ne n).trans h, l, Paired.mapP r fun p y z => ⟨z.1, z.2.1.map (fun t => t.zput hz), z.2.2.zput hz⟩⟩
  | .tbl nm _, ⟨ha, ps, h, t, k⟩ => ⟨ha, ps, (upd_ne n).trans h, t, fun pos cv hc => let ⟨c, e, h1, f⟩ := k pos cv hc; ⟨c, e, (upd_ne (zfro f hz)).trans h1, f⟩⟩
theorem Sim.zput (S : Sim W st) (hz : W.Z q) : Sim (W.to W.ρ (upd W.H q u)) st where
  len := S.len
  nd := S.nd
  nz := S.nz
  zt := fun a h => by
    by_cases e : a = q
    · exact ⟨u, by rw [e]; exact upd_same⟩
    · obtain ⟨o, z⟩ := S.zt a h
      exact ⟨o, (upd_ne e).trans z⟩
  at_ := fun n o a h1 h2 => (S.at_ n o a h1 h2).zput hz fun e => S.nz a (List.mem_of_getElem? h2) (show W.Z a by rw [e]; exact hz)
  hot := fun a h => let ⟨C, d, e, f⟩ := S.hot a h; ⟨C, d, (upd_ne (zfro f hz)).trans e, f⟩
theorem EnvR.zput {env : Env} {σ : L2.St} (h : EnvR W env σ) (hz : W.Z q) : EnvR (W.to W.ρ (upd W.H q u)) env σ := ⟨h.len, fun i d e => by obtain ⟨v, e1, r⟩ := h.at_ i d e; exact ⟨v, e1, r.zput hz⟩⟩
/-- the list at q hidden -/
abbrev Vw.hide (W : Vw) (q : Addr) : Vw := { W with Z := fun a => W.Z a ∨ a = q }
theorem Vw.fro.unhide {a : Addr} (f : (W.hide q).fro a) : W.fro a := ⟨f.1, fun z => f.2 (.inl z)⟩
theorem Vw.Tup.unhide {a : Addr} {ys : List V} (h : (W.hide q).Tup a ys) : W.Tup a ys := h.imp (fun h => ⟨h.1, h.2.unhide⟩) id
theorem Vw.Tpl.unhide {a : Addr} {ys : List V} (h : (W.hide q).Tpl a ys) : W.Tpl a ys := ⟨h.1, h.2.unhide⟩
theorem Vw.Key.unhide {t : Bool} {a : Addr} {ys : List V} (h : (W.hide q).Key t a ys) : W.Key t a ys := by
  cases t with
  | true => exact Vw.Tpl.unhide h
  | false => exact Vw.Tup.unhide h
theorem Vw.Lst.unhide {a : Addr} {ys : List V} (h : (W.hide q).Lst a ys) : W.Lst a ys := h.imp (fun h => ⟨h.1, h.2.unhide⟩) id
mutual
theorem RV.unhide : ∀ {d : D} {v : V}, RV (W.hide q) d v → RV W d v
  | _, _, .non => .non
  | _, _, .bl b => .bl b
  | _, _, .int i => .int i
  | _, _, .str s => .str s
  | _, _, .ty n => .ty n
  | _, _, .glo s => .glo (W := W) s
  | _, _, .tup h r => .tup h.unhide r.unhide
  | _, _, .lst h r => .lst h.unhide r.unhide
  | _, _, .dct h f e r => .dct h f.unhide e r.unhide
  | _, _, .obj h f r => .obj h f.unhide r.unhide
  | _, _, .exc h f a b r => .exc h f.unhide a (fun dx e => ⟨(b dx e).1, (b dx e).2.unhide⟩) r.unhide
  | _, _, .ref h => .ref h
  | _, _, .tpl h r => .tpl h.unhide r.unhide
  | _, _, .adr h f r => .adr h f.unhide r.unhide
theorem RVs.unhide : ∀ {d : List D} {v : List V}, RVs (W.hide q) d v → RVs W d v
  | _, _, .nil => .nil
  | _, _, .cons h r => .cons h.unhide r.unhide
theorem RFs.unhide : ∀ {d : List (Str × D)} {v : List (Str × V)}, RFs (W.hide q) d v → RFs W d v
  | _, _, .nil => .nil
  | _, _, .cons h r => .cons h.unhide r.unhide
end
theorem Sim.unhide (S : Sim (W.hide q) st) : Sim W st where
  len := S.len
  nd := S.nd
  nz := fun a m z => S.nz a m (.inl z)
  zt := fun a h => S.zt a (.inl h)
  hot := fun a h => let ⟨C, d, e, f⟩ := S.hot a h; ⟨C, d, e, f.unhide⟩
  at_ := fun n o a h1 h2 => match o, S.at_ n o a h1 h2 with
    | .lst xs, ⟨ys, h, r⟩ => ⟨ys, h, r.unhide⟩
    | .dct kvs, ⟨ys, h, k, r⟩ => ⟨ys, h, k, r.unhide⟩
    | .ins C fs, ⟨dx, gs, h, r⟩ => ⟨dx, gs, h, r.unhide⟩
    | .dcn t kvs, ⟨xs, h, r⟩ => ⟨xs, h, Paired.mapP r fun p y z => ⟨z.1, z.2.1.unhide, z.2.2.unhide⟩⟩
    | .lck t kvs, ⟨od, xs, h, r⟩ => ⟨od, xs, h, Paired.mapP r fun p y z => ⟨z.1, z.2.1.unhide, z.2.2.unhide⟩⟩
    | .dcp lk kvs, ⟨u, xs, h, l, r⟩ => ⟨u, xs, h, l, Paired.mapP r fun p y z => ⟨z.1, z.2.1.map (fun t => t.unhide), z.2.2.unhide⟩⟩
    | .tbl nm _, ⟨ha, ps, h, t, k⟩ => ⟨ha, ps, h, t, fun pos cv hc => let ⟨c, e, h1, f⟩ := k pos cv hc; ⟨c, e, h1, ⟨f.1, fun z => f.2 (.inl z)⟩⟩⟩
theorem Vw.fro.hide {a : Addr} (f : W.fro a) (n : a ≠ q) : (W.hide q).fro a := ⟨f.1, fun z => z.elim f.2 n⟩
end
section
variable {W : Vw} {q : Addr} {st : Sto} (hq : W.H q = none)
theorem Vw.Tup.hideN (hq : W.H q = none) {a : Addr} {ys : List V} (h : W.Tup a ys) : (W.hide q).Tup a ys := by
  rcases h with ⟨h | ⟨o, h⟩, f⟩ | h
  · exact .inl ⟨.inl h, f.hide (ne_of_none h hq)⟩
  · exact .inl ⟨.inr ⟨o, h⟩, f.hide (ne_of_none h hq)⟩
  · exact .inr h
theorem Vw.Tpl.hideN (hq : W.H q = none) {a : Addr} {ys : List V} (h : W.Tpl a ys) : (W.hide q).Tpl a ys := let ⟨⟨o, e, d⟩, f⟩ := h; ⟨⟨o, e, d⟩, f.hide (ne_of_none e hq)⟩
theorem Vw.Key.hideN (hq : W.H q = none) {t : Bool} {a : Addr} {ys : List V} (h : W.Key t a ys) : (W.hide q).Key t a ys := by
  cases t with
  | true => exact Vw.Tpl.hideN hq h
  | false => exact Vw.Tup.hideN hq h
theorem Vw.Lst.hideN (hq : W.H q = none) {a : Addr} {ys : List V} (h : W.Lst a ys) : (W.hide q).Lst a ys := by
  rcases h with ⟨h | ⟨o, h⟩, f⟩ | h
  · exact .inl ⟨.inl h, f.hide (ne_of_none h hq)⟩
  · exact .inl ⟨.inr ⟨o, h⟩, f.hide (ne_of_none h hq)⟩
  · exact .inr h
mutual
theorem RV.hideN (hq : W.H q = none) : ∀ {d : D} {v : V}, RV W d v → RV (W.hide q) d v
  | _, _, .non => .non
  | _, _, .bl b => .bl b
  | _, _, .int i => .int i
  | _, _, .str s => .str s
  | _, _, .ty n => .ty n
  | _, _, .glo s => .glo (W := W.hide q) s
  | _, _, .tup h r => .tup (h.hideN hq) (r.hideN hq)
  | _, _, .lst h r => .lst (h.hideN hq) (r.hideN hq)
  | _, _, .dct h f e r => .dct h (f.hide (ne_of_rd h hq)) e (r.hideN hq)
  | _, _, .obj h f r => .obj h (f.hide (ne_of_none h hq)) (r.hideN hq)
  | _, _, .exc h f a b r => .exc h (f.hide (ne_of_none h hq)) a (fun dx e => ⟨(b dx e).1, (b dx e).2.hide (ne_of_none (b dx e).1 hq)⟩) (r.hideN hq)
  | _, _, .ref h => .ref h
  | _, _, .tpl h r => .tpl (h.hideN hq) (r.hideN hq)
  | _, _, .adr h f r => .adr h (f.hide (ne_of_none h hq)) (r.hideN hq)
theorem RVs.hideN (hq : W.H q = none) : ∀ {d : List D} {v : List V}, RVs W d v → RVs (W.hide q) d v
  | _, _, .nil => .nil
  | _, _, .cons h r => .cons (h.hideN hq) (r.hideN hq)
theorem RFs.hideN (hq : W.H q = none) : ∀ {d : List (Str × D)} {v : List (Str × V)}, RFs W d v → RFs (W.hide q) d v
  | _, _, .nil => .nil
  | _, _, .cons h r => .cons (h.hideN hq) (r.hideN hq)
end
end
section
variable {W : Vw} {q : Addr} {st : Sto} {u : HO}
/-- a new thing is laid at q and hidden at once: what stood for values still does -/
theorem RV.laidH (hq : W.H q = none) {d : D} {v : V} (r : RV W d v) : RV ((W.hide q).to W.ρ (upd W.H q u)) d v := (r.hideN hq).zput (W := W.hide q) (.inr rfl)
theorem Sim.laidH (S : Sim W st) (hq : W.H q = none) : Sim ((W.hide q).to W.ρ (upd W.H q u)) st where
  len := S.len
  nd := S.nd
  nz := fun a m z => z.elim (S.nz a m) fun e => by
    obtain ⟨o, h⟩ := S.tr m
    rw [e, hq] at h
    cases h
  zt := fun a h => by
    by_cases e : a = q
    · exact ⟨u, by rw [e]; exact upd_same⟩
    · obtain ⟨o, z⟩ := S.zt a (h.elim id fun z => absurd z e)
      exact ⟨o, (upd_ne e).trans z⟩
  hot := fun a h => let ⟨C, d, e, f⟩ := S.hot a h; ⟨C, d, (upd_ne (ne_of_none e hq)).trans e, ⟨f.1, fun z => z.elim f.2 (ne_of_none e hq)⟩⟩
  at_ := fun n o a h1 h2 => by
    obtain ⟨v, z⟩ := S.tr (List.mem_of_getElem? h2)
    have ne : a ≠ q := ne_of_none z hq
    match o, S.at_ n o a h1 h2 with
    | .lst xs, ⟨ys, h, r⟩ => exact ⟨ys, (upd_ne ne).trans h, (r.hideN hq).zput (W := W.hide q) (.inr rfl)⟩
    | .dct kvs, ⟨ys, h, k, r⟩ => exact ⟨ys, (upd_ne ne).trans h, k, (r.hideN hq).zput (W := W.hide q) (.inr rfl)⟩
    | .ins C fs, ⟨dx, gs, h, r⟩ => exact ⟨dx, gs, (upd_ne ne).trans h, (r.hideN hq).zput (W := W.hide q) (.inr rfl)⟩
    | .dcn t kvs, ⟨xs, h, r⟩ => exact ⟨xs, (upd_ne ne).trans h, Paired.mapP r fun p y z => ⟨z.1, (z.2.1.hideN hq).zput (W := W.hide q) (.inr rfl), (z.2.2.hideN hq).zput (W := W.hide q) (.inr rfl)⟩⟩
    | .lck t kvs, ⟨od, xs, h, r⟩ => exact ⟨od, xs, (upd_ne ne).trans h, Paired.mapP r fun p y z => ⟨z.1, (z.2.1.hideN hq).zput (W := W.hide q) (.inr rfl), (z.2.2.hideN hq).zput (W := W.hide q) (.inr rfl)⟩⟩
    | .dcp lk kvs, ⟨u, xs, h, l, r⟩ => exact ⟨u, xs, (upd_ne ne).trans h, l, Paired.mapP r fun p y z => ⟨z.1, z.2.1.map (fun t => (t.hideN hq).zput (W := W.hide q) (.inr rfl)), (z.2.2.hideN hq).zput (W := W.hide q) (.inr rfl)⟩⟩
    | .tbl nm _, ⟨ha, ps, h, t, k⟩ => exact ⟨ha, ps, (upd_ne ne).trans h, t, fun pos cv hc => let ⟨c, e, h1, f⟩ := k pos cv hc; ⟨c, e, (upd_ne (ne_of_none h1 hq)).trans h1, f.hide (ne_of_none h1 hq)⟩⟩
theorem EnvR.laidH {env : Env} {σ : L2.St} (h : EnvR W env σ) (hq : W.H q = none) : EnvR ((W.hide q).to W.ρ (upd W.H q u)) env σ := ⟨h.len, fun i d e => by obtain ⟨v, e1, r⟩ := h.at_ i d e; exact ⟨v, e1, r.laidH hq⟩⟩
end
/-! ### the comprehension -/
def PL (W : Vw) (xs : List D) (v : V) : Prop := RV W (.lst xs) v
section
variable {X : Cx} {F : Fx} {pos : Pos}
theorem compF_ok {w : IW} {p : Pat} {t : IT} {e : IE} {g : TG} {σ : L2.St} {H : Hp} {Q : VK} (hp : PatOk F.K p g) (h : TI F (iCompF w p t e) σ H Q) : tLc (TW F w) g (TT_ F.quiet t) (TI F.quiet e) p.slots σ H Q := by
  refine (TX.bind (k := fun a env s => (compF a.1 p t e (wipeE env p.slots) a.2 0 [] s).bind fun xs s2 => R.ok (D.lst xs) s2) h).mono fun J H1 ⟨W0, s, env, a, A, r, q⟩ => ?_
  obtain ⟨nx, m⟩ := a
  intro D hD
  have eH := A.h
  subst eH
  have nz0 : ¬ W0.Z D := fun z => by
    obtain ⟨o, e⟩ := A.sim.zt D z
    rw [hD] at e
    cases e
  let V : List Addr → Hp → Vw := fun ρ H => (W0.hide D).to ρ H
  have q1 : Post W0 PL (compF nx p t e (wipeE env p.slots) m 0 [] s) Q (F.at_ σ) := by
    have q' : PostE W0 ((compF nx p t e (wipeE env p.slots) m 0 [] s).bind fun xs s2 => .ok (.lst xs) s2) Q (F.at_ σ) := q
    cases z : compF nx p t e (wipeE env p.slots) m 0 [] s with
    | ok u s2 => rw [z] at q'; exact q'
    | exc C fs s2 => rw [z] at q'; exact q'
    | bad => rw [z] at q'; exact q'.elim
  have vx : ∀ {ρ' : List Addr} {H' : Hp}, Ext W0 ρ' H' → VX W0 (V ρ' H') := fun x => ⟨rfl, rfl, x.ve, fun a z => z.elim .inl fun e => .inr (by rw [e]; exact hD)⟩
  refine ⟨fun i m H => ∃ ρ' st acc ys, Ext W0 ρ' H ∧ D ∉ ρ' ∧ H D = some (.lst ys) ∧ Sim (V ρ' H) st ∧ EnvR (V ρ' H) (wipeE env p.slots) (L2.wipe σ p.slots) ∧ RVs (V ρ' H) acc ys ∧ Post W0 PL (compF nx p t e (wipeE env p.slots) m i acc st) Q (F.at_ σ),
    ⟨m, W0.ρ, s, [], [], ext_new0 hD, fun z => ?_, upd_same, A.sim.laidH hD, (A.env.wipe p.slots).laidH hD, .nil, q1⟩, fun i m H ⟨ρ', st, acc, ys, x, nD, eD, S, er, ra, q⟩ => ?_⟩
  · obtain ⟨o, e⟩ := A.sim.tr z
    rw [hD] at e
    cases e
  have done : nx i st = some none → Post W0 PL (.ok acc st) Q (F.at_ σ) → J.stop i H ∧ Q (.ref D) H := fun en q => by
    refine ⟨r.stop (V ρ' H) st i (vx x) S en, q ρ' H (.ref D) x (Sim.unhide (W := W0.to ρ' H) S) ?_⟩
    exact .lst (.inl ⟨.inl eD, nD, nz0⟩) (RVs.unhide (W := W0.to ρ' H) ra)
  cases m with
  | zero =>
    unfold compF at q
    split at q
    · exact .inl (done (by assumption) q)
    · exact q.elim
  | succ m =>
    unfold compF at q
    split at q
    · exact .inl (done (by assumption) q)
    · rename_i d en
      obtain ⟨h1, h2⟩ := r.go (V ρ' H) st i d (vx x) S en
      refine .inr ⟨h1, fun H => ∃ ρ' st acc ys, Ext W0 ρ' H ∧ D ∉ ρ' ∧ H D = some (.lst ys) ∧ Sim (V ρ' H) st ∧ EnvR (V ρ' H) (wipeE env p.slots) (L2.wipe σ p.slots) ∧ RVs (V ρ' H) acc ys ∧ Post W0 PL (compF nx p t e (wipeE env p.slots) m (i + 1) acc st) Q (F.at_ σ), fun H' z => ⟨m, Nat.lt_succ_self m, z⟩, fun v H2 hy => ?_⟩
      obtain ⟨x2, S2, rv⟩ := h2 v H2 hy
      -- how a step in the hidden view looks from W0
      have low : ∀ {ρ2 ρ3 : List Addr} {H2 H3 : Hp}, Ext W0 ρ2 H2 → Ext (V ρ2 H2) ρ3 H3 → Ext (W0.to ρ2 H2) ρ3 H3 := fun x y => ⟨y.pre, y.new, y.keep, y.frz⟩
      cases hb : p.bind d (wipeE env p.slots) with
      | none => rw [hb] at q; exact q.elim
      | some env' =>
        rw [hb] at q
        refine hp.go (V ρ' H2) d v _ _ _ _ A.k rv (er.mono x2) hb fun σ' er' ew => ⟨by rw [ew, wipe_wipe], ?_⟩
        have x3 : Ext W0 ρ' H2 := x.trans (low x x2)
        have eD2 : H2 D = some (.lst ys) := x2.keep D _ eD nD
        have q2 : Post W0 PL (((t env' st).nox).bind fun k s1 => if k = true then ((e env' s1).nox).bind fun v s2 => if acc.length < sizeLine then compF nx p t e (wipeE env p.slots) m (i + 1) (acc ++ [v]) s2 else .bad else compF nx p t e (wipeE env p.slots) m (i + 1) acc s1) Q (F.at_ σ) := q
        refine ⟨V ρ' H2, st, env', ⟨A.k, A.g, rfl, S2, er'⟩, ?_⟩
        cases ht : t env' st with
        | bad => rw [ht] at q2; exact q2.elim
        | exc C fs s1 => rw [ht] at q2; exact q2.elim
        | ok k s1 =>
          rw [ht] at q2
          intro ρ3 H3 b x4 S3 eb
          cases (show k = b from eb)
          have x5 : Ext W0 ρ3 H3 := x3.trans (low x3 x4)
          have nD3 : D ∉ ρ3 := x4.notin eD2 nD
          have eD3 : H3 D = some (.lst ys) := x4.keep D _ eD2 nD
          have q3 : Post W0 PL (if k = true then ((e env' s1).nox).bind fun v s2 => if acc.length < sizeLine then compF nx p t e (wipeE env p.slots) m (i + 1) (acc ++ [v]) s2 else .bad else compF nx p t e (wipeE env p.slots) m (i + 1) acc s1) Q (F.at_ σ) := q2
          have er3 : EnvR (V ρ3 H3) (wipeE env p.slots) (L2.wipe σ p.slots) := (er.mono x2).mono x4
          have ra3 : RVs (V ρ3 H3) acc ys := (ra.mono x2).mono x4
          cases k with
          | false => exact ⟨ρ3, s1, acc, ys, x5, nD3, eD3, S3, er3, ra3, q3⟩
          | true =>
            rw [if_pos rfl] at q3 ⊢
            refine ⟨V ρ3 H3, s1, env', ⟨A.k, A.g, rfl, S3, er'.mono x4⟩, ?_⟩
            cases he : e env' s1 with
            | bad => rw [he] at q3; exact q3.elim
            | exc C fs s2 => rw [he] at q3; exact q3.elim
            | ok y s2 =>
              rw [he] at q3
              intro ρ5 H5 yv x6 S5 ry
              have q4 : Post W0 PL (if acc.length < sizeLine then compF nx p t e (wipeE env p.slots) m (i + 1) (acc ++ [y]) s2 else .bad) Q (F.at_ σ) := q3
              have x7 : Ext W0 ρ5 H5 := x5.trans (low x5 x6)
              have nD5 : D ∉ ρ5 := x6.notin eD3 nD3
              have eD5 : H5 D = some (.lst ys) := x6.keep D _ eD3 nD3
              split at q4
              · rename_i c
                have x8 : Ext W0 ρ5 (upd H5 D (.lst (ys ++ [yv]))) := ⟨x7.pre, x7.new, fun a o h n => by rw [upd_ne (ne_of_none h hD)]; exact x7.keep a o h n, fun a o u h => by rw [upd_ne (ne_of_none h hD)]; exact x7.frz a o u h⟩
                refine ⟨ys, eD5, by rw [← ra3.length]; exact c, ρ5, s2, acc ++ [y], ys ++ [yv], x8, nD5, upd_same, Sim.zput (W := V ρ5 H5) S5 (.inr rfl), EnvR.zput (W := V ρ5 H5) (er3.mono x6) (.inr rfl), RVs.zput (W := V ρ5 H5) (.inr rfl) ((ra3.mono x6).append (.cons ry .nil)), q4⟩
              · exact q4.elim
    · exact q.elim
theorem e_lcF {elt tg iter : Expr} {ifs : List Expr} {scope : Scope} {own : List (Str × Nat)} {g : TG} {p : Pat} {w : IW} {t : IT} {e : IE} (hp : PatOk F.K p g) (ho : own.map (·.2) = p.slots) (hc : X.calm = true) (hN : X.N.Nodup) (hi : PI X tg iter (TW F w)) (ok : BlkOk X.N X.env.scope scope own)
    (hg : ∀ (s : Shared) (H : Hp) (C : Addr) (cl : List (Str × Addr)) (fp : List Addr), PG (X.blk s H scope (compEnvC scope cl C X.env) fp) tg g) (ht : ∀ (s : Shared) (H : Hp) (C : Addr) (cl : List (Str × Addr)) (fp : List Addr), PTs (X.blk s H scope (compEnvC scope cl C X.env) fp) ifs (TT_ F.quiet t))
    (he : ∀ (s : Shared) (H : Hp) (C : Addr) (cl : List (Str × Addr)) (fp : List Addr), PE (X.blk s H scope (compEnvC scope cl C X.env) fp) elt (TI F.quiet e)) (hs : ∀ x, foldedSetIterable iter X.env x = pure x := by intro _; rfl) :
    PE X (.ListComp elt [⟨tg, iter, ifs, 0⟩] scope pos) (TI F (iCompF w p t e)) := PE.imp (pe_lc hc hN hi ok hg ht he hs) fun σ H Q h => by rw [ho]; exact compF_ok hp h
end
end M
/-! M13: what the head tells: own exception classes, isinstance's table; the Hook; the law's end. -/
namespace M
open PySem PySem.Spec PyProof.Rows L2

theorem Fam.xb : ∀ f : Fam, XB f.nm f.new f.ini f.tail
  | .v => xbV
  | .l => xbL
  | .r => xbR
section
variable {K : PySem.W.Frag}
open He (eqO eqO_ok ba)
theorem xclsB_ok {f : Fam} {C : Addr} (h : xclsB K f C = true) : ∃ nm q N bs bm sn sub ab col dd k0 k1 k2 k3 k5, K.lookup C = some (excClassObj nm q C N bs bm true sn sub ab col dd k0 k1 k2 k3 k5 f.new) ∧ over f.tail bm = true := by
  unfold xclsB at h
  split at h
  · rename_i t dd cd sl ho
    split at h
    · rename_i c1 bm k0 k1 k2 k3 n k5 hm hs
      obtain ⟨h1, h⟩ := ba h
      obtain ⟨h2, h⟩ := ba h
      obtain ⟨h3, h⟩ := ba h
      obtain ⟨h4, h⟩ := ba h
      obtain ⟨h5, h6⟩ := ba h
      have e1 := of_decide_eq_true h1
      have e2 := of_decide_eq_true h2
      have e3 := of_decide_eq_true h3
      obtain ⟨cn, cb, cm, cns, cq, chd, csn, csub, cab, ccol, cdel⟩ := cd
      have e4 : cdel = false := by simpa using h4
      have e5 : chd = true := h5
      have e6 : cm = .ref c1 :: bm := hm
      subst e1 e2 e3 e4 e5 e6
      have e7 : sl = #[k0, k1, k2, k3, some (.builtin f.new), k5] := by
        obtain ⟨l⟩ := sl
        rw [show l = _ from hs]
      subst e7
      exact ⟨_, _, _, _, bm, _, _, _, _, _, _, _, _, _, _, ho, h6⟩
    · cases h
  · cases h
theorem xcB_ok {f : Fam} {C : Addr} (h : xcB K f C = true) : XC K C := by
  obtain ⟨h1, h⟩ := ba h
  obtain ⟨h2, h⟩ := ba h
  obtain ⟨h3, h⟩ := ba h
  obtain ⟨h4, h5⟩ := ba h
  exact ⟨⟨_, _, _, _, f.xb, xclsB_ok h1⟩, eqO_ok h2, of_decide_eq_true h3, of_decide_eq_true h4, h5⟩
theorem xfAll_ok {C : Addr} (h : xfAll K C = true) : XF K C := by
  obtain ⟨h1, h⟩ := ba h
  obtain ⟨h2, h⟩ := ba h
  obtain ⟨h3, h⟩ := ba h
  obtain ⟨h4, h⟩ := ba h
  obtain ⟨h5, h6⟩ := ba h
  exact ⟨xfB_ok h1, h2, eqO_ok h3, eqO_ok h4, of_decide_eq_true h5, of_decide_eq_true h6⟩
theorem XD.xf {d : XD} (h : d.ok K = true) : XF K (He.ga K d.nm) := xfAll_ok (ba h).1
theorem XD.plain {d : XD} (h : d.ok K = true) (e : d.fs = none) : PySem.W.excIn K (He.ga K d.nm) d.fam.tail d.fam.new = true ∧ PySem.W.keepIn K (.ref (He.ga K d.nm)) = true := by
  have h2 := (ba h).2
  rw [e] at h2
  exact ba h2
theorem XD.made {d : XD} {fs : List Str} (h : d.ok K = true) (e : d.fs = some fs) : XC K (He.ga K d.nm) ∧ (∀ f ∈ fs, PySem.W.findIn K (.ref (He.ga K d.nm)) f = some none) ∧ PySem.W.findIn K (.ref (He.ga K d.nm)) "__init__" = some (some (.ref (He.ma K (He.ga K d.nm) "__init__"))) ∧ PySem.W.typeIn K (.ref (He.ma K (He.ga K d.nm) "__init__")) = some (.type "function") := by
  have h2 := (ba h).2
  rw [e] at h2
  obtain ⟨h3, h⟩ := ba h2
  obtain ⟨h4, h⟩ := ba h
  obtain ⟨h5, h6⟩ := ba h
  exact ⟨xcB_ok h3, fun f hf => eqO_ok (List.all_eq_true.mp h4 f hf), eqO_ok h5, of_decide_eq_true h6⟩
theorem isaT_ok {tb : List (Tg × Tg × Bool)} (h : tb.all (isaB K) = true) (t c : Tg) (b : Bool) (e : isaT tb t c = some b) : PySem.W.kitOne K (t.val (He.ga K)) (c.val (He.ga K)) = some b := by
  obtain ⟨q, hq, eb⟩ := Option.map_eq_some_iff.mp e
  have hm := List.mem_of_find?_eq_some hq
  have hp : (decide (q.1 = t) && decide (q.2.1 = c)) = true := List.find?_some (p := fun q : Tg × Tg × Bool => decide (q.1 = t) && decide (q.2.1 = c)) hq
  obtain ⟨h1, h2⟩ := ba hp
  have z := of_decide_eq_true (List.all_eq_true.mp h q hm)
  have e1 := of_decide_eq_true h1
  have e2 := of_decide_eq_true h2
  rw [← e1, ← e2, ← eb]
  exact z
end

/-! ### the Hook -/
abbrev AlM : Type := Bool × He.AlD
def obsM (B : PySem.W.Frag → Bool) (fa : List He.Fa) (fn : List He.DefD) (K : PySem.W.Frag) : AlM := (B K, He.obsD fa fn K)
def SaysM (B : PySem.W.Frag → Bool) (fa : List He.Fa) (fn : List He.DefD) (K : PySem.W.Frag) : Prop := obsM B fa fn K = (true, He.valD fn)
theorem SaysM.says {B : PySem.W.Frag → Bool} {fa : List He.Fa} {fn : List He.DefD} {K : PySem.W.Frag} (c : SaysM B fa fn K) : He.SaysD fa fn K := congrArg (fun z : AlM => z.2) c
theorem SaysM.b {B : PySem.W.Frag → Bool} {fa : List He.Fa} {fn : List He.DefD} {K : PySem.W.Frag} (c : SaysM B fa fn K) : B K = true := congrArg (fun z : AlM => z.1) c

/-! ### the law's end -/
abbrev gq (P : Program) (w : World) (K : PySem.W.Frag) : GG := ⟨He.ga K, P, w, ttA K, none⟩
end M
/-! M14: the arguments of exceptions. -/
namespace M
open PySem PySem.Spec PyProof.Rows L2
def gCat {α : Type} (a b : List α) : List α := a ++ b
theorem hCat {vs zs : List V} {us ws : List Value} (r : Vals vs us) (q : Vals zs ws) : Vals (gCat vs zs) (gCat us ws) := Vals.append r q
theorem pm_pos {n : Nat} {fs : List Str} (h : n = fs.length := by rfl) : Perm gCat gCat n 0 fs := ⟨fun W ds es vs zs r q l1 l2 => ⟨vs ++ zs, fun a => rfl, by rw [List.length_append, ← r.length, ← q.length, l1, l2, h]; rfl, r.append q⟩⟩
/-- XI without a frame -/
structure XI_ (P : Program) (w : World) (K : PySem.W.Frag) (mg : Str → Option Value) (base : Heap) (k n : Nat) (C : Addr) (fs ks : List Str) (gV : {α : Type} → List α → List α → List α) : Prop where
  cls : XC K C
  nf : ∀ f ∈ fs, PySem.W.findIn K (.ref C) f = some none
  ini : ∃ (fI : Addr) (fd : FuncData) (ps : List Str) (g : List Value → List Value → List Value), PySem.W.findIn K (.ref C) "__init__" = some (some (.ref fI)) ∧ PySem.W.typeIn K (.ref fI) = some (.type "function") ∧ FnOk P w K mg base (L2N.CX P w) k fI fd ps (spX K fs) ∧ KBn K fd ps (n + 1) ks g gV
theorem XI_.of {X : Cx} {k n : Nat} {C : Addr} {fs ks : List Str} {gV : {α : Type} → List α → List α → List α} (h : XI_ X.prog X.w X.K X.mg X.base k n C fs ks gV) : XI X k n C fs ks gV := ⟨h.cls, h.nf, h.ini⟩
/-! ### comparisons as tests -/
section
variable {X : Cx} {F : Fx} {pos : Pos} {a b c : Expr}
def kBl (d : D) (s : Sto) : R Bool := match d with
  | .bl k => .ok k s
  | _ => .bad
def tBl (i : IE) : IT := fun env st => (i env st).bind kBl
theorem tbl_of {i : IE} {σ : L2.St} {H : Hp} {Q : Bool → Hp → Prop} (h : TT_ F (tBl i) σ H Q) : tTest (TI F i) σ H Q := (TX.bind (k := fun d env s => kBl d s) h).mono fun x H1 ⟨W, st, env, d, A, r, p⟩ => by
  unfold kBl at p
  cases r with
  | bl k =>
    have q := PostT.now p A.sim
    rw [A.h] at q
    exact ⟨k, rfl, q⟩
  | _ => exact p.elim
theorem tTest_mono {t t' : TE} {σ : L2.St} {H : Hp} {Q : Bool → Hp → Prop} (m : ∀ Q : VK, t σ H Q → t' σ H Q) (h : tTest t σ H Q) : tTest t' σ H Q := m _ h
theorem t_cmp {op : CmpOp} {f : Op2} {i j : IE} (ho : OpR X (compareOp op) (r2 F f)) (ha : PE X a (TI F i)) (hb : PE X b (TI F j)) (h1 : behindInMarks op b = false := by first | exact nomark _ | rfl) : PT X (.Compare a [op] [b] pos) (TT_ F (tBl (iBin f i j))) :=
  PT.imp (pt_cmpR ho ha hb h1) fun σ H Q h => tTest_mono (fun Q h => bin_r2 h) (tbl_of h)
theorem t_ws {i : IT} (h : PW X a (TT_ F i)) : PT X a (TT_ F i) := h.pt
end
end M
/-! M15: instances of own classes: making, fields, methods. -/
namespace M
open PySem PySem.Spec PyProof.Rows L2

/-! ### C(..) -/
theorem make_guards {A : Around} {C : Addr} {us : List Value} {kw : List (Str × Value)} (h : A.guards = some []) : (A.under (.builtin "type.__call__" ⟨.ref C :: us, kw⟩)).guards = some [] := by
  first | exact h | simp [Around.under, Code.guards, h]
def opNew (C : Str) (f : Fn) (ds : List D) (st : Sto) : R D := match f (.ref st.length :: ds) (st ++ [.ins C []]) with
  | .ok d s => if d.isNon = true then .ok (.ref st.length) s else .bad
  | .exc D fs s => .exc D fs s
  | .bad => .bad
section
variable {X : Cx} {F : Fx} {k n : Nat} {C x : Str} {fI : Addr} {fd : FuncData} {ps ks : List Str} {f : Fn} {dd : List D} {dvs : List V} {ds : List Value} {p pos : Pos} {e : Expr} {es : List Expr} {kws : List Keyword} {j jk : IA}
theorem new_sp {W : Vw} {st : Sto} {H : Hp} {Q : VK} {E : XK} {es : List D} {vs : List V} {a dx : Addr} (J : In F W st H) (ha : H a = none) (hd : H dx = none) (ne : dx ≠ a) (r : RVs W es vs) (p : PostE W (opNew C f es st) Q E) :
    SPx F.K F.g f (.ref a :: vs) (upd (upd H dx (.own a)) a (.ins (F.g C) dx [])) (fun v H2 => v = .non ∧ Q (.ref a) H2) E := by
  have eH := J.h
  subst eH
  have x1 : Ext W W.ρ (upd W.H dx (.own a)) := ext_new0 hd
  have S1 : Sim (W.to W.ρ (upd W.H dx (.own a))) st := J.sim.new0 hd
  have ha1 : (upd W.H dx (.own a)) a = none := by rw [upd_ne ne.symm]; exact ha
  have x2 : Ext (W.to W.ρ (upd W.H dx (.own a))) (W.ρ ++ [a]) (upd (upd W.H dx (.own a)) a (.ins (F.g C) dx [])) := ext_new [a] (fun b m => by rw [List.mem_singleton.mp m]; exact ha1) ha1
  have x := x1.trans x2
  have S2 : Sim (W.to (W.ρ ++ [a]) (upd (upd W.H dx (.own a)) a (.ins (F.g C) dx []))) (st ++ [.ins C []]) := S1.new (W := W.to W.ρ (upd W.H dx (.own a))) ha1 ⟨dx, [], by show (upd (upd W.H dx (.own a)) a (.ins (F.g C) dx [])) a = some (.ins (W.g C) dx []); rw [upd_same, J.g], .nil⟩
  have hr : (W.ρ ++ [a])[st.length]? = some a := by
    rw [List.getElem?_append_right (by rw [J.sim.len]; omega), J.sim.len]
    simp
  refine ⟨W.to (W.ρ ++ [a]) (upd (upd W.H dx (.own a)) a (.ins (F.g C) dx [])), st ++ [.ins C []], .ref st.length :: es, J.k, J.g, rfl, S2, .cons (.ref hr) (r.mono x), ?_⟩
  unfold opNew at p
  cases q : f (.ref st.length :: es) (st ++ [.ins C []]) with
  | bad => rw [q] at p; exact p.elim
  | exc D fs s =>
    rw [q] at p
    exact fun ρ' H' d y S z => p ρ' H' d (x.trans y) S z
  | ok d s =>
    rw [q] at p
    have p' : PostE W (if d.isNon = true then .ok (.ref st.length) s else .bad) Q E := p
    split at p'
    · rename_i c
      intro ρ' H' b y S rb
      refine ⟨?_, p' ρ' H' (.ref a) (x.trans y) S (.ref (pre_get y.pre hr))⟩
      cases rb <;> first | rfl | cases c
    · exact p'.elim
end
end M
/-! M16: fields of instances, properties, own ==. -/
namespace M
open PySem PySem.Spec PyProof.Rows L2

/-- an instance, in the store or frozen -/
def insD (st : Sto) : D → Option (Str × List (Str × D))
  | .ref n => match st[n]? with
    | some (.ins C fs) => some (C, fs)
    | _ => none
  | .obj C fs => some (C, fs)
  | _ => none
theorem insD_at {W : Vw} {st : Sto} (S : Sim W st) {d : D} {v : V} {C : Str} {fs : List (Str × D)} (h : insD st d = some (C, fs)) (r : RV W d v) : ∃ a dx gs, v = .ref a ∧ W.H a = some (.ins (W.g C) dx gs) ∧ RFs W fs gs := by
  cases r with
  | obj h1 _ r1 => cases h; exact ⟨_, _, _, rfl, h1, r1⟩
  | @ref n a e =>
    have h' : (match st[n]? with
    | some (.ins C fs) => some (C, fs)
    | _ => none) = some (C, fs) := h
    split at h'
    · rename_i C' fs' q
      cases h'
      obtain ⟨dx, gs, h1, r1⟩ := S.at_ n _ a q e
      exact ⟨a, dx, gs, rfl, h1, r1⟩
    · cases h'
  | _ => cases h
/-- the classes whose instances have f of their own alone -/
structure Has (K : PySem.W.Frag) (g : Str → Addr) (f : Str) (xs : List Str) : Prop where
  cl : ∀ C ∈ xs, Cls K (g C)
  no : ∀ C ∈ xs, NoAttr K (g C) f
def opGet (xs : List Str) (f : Str) : Op1 := fun d st => match insD st d with
  | some (C, fs) => if C ∈ xs then (fs.lookup f).map fun x => (x, st) else none
  | none => none
def putD (f : Str) (v : D) : List (Str × D) → List (Str × D)
  | [] => [(f, v)]
  | (g, x) :: r => if g = f then (g, v) :: r else (g, x) :: putD f v r
theorem putD_rel {W : Vw} {f : Str} {d : D} {v : V} (r : RV W d v) : ∀ {fs : List (Str × D)} {gs : List (Str × V)}, RFs W fs gs → RFs W (putD f d fs) (putF f v gs)
  | _, _, .nil => .cons r .nil
  | _, _, .cons (f := g) q rs => by
    unfold putD putF
    by_cases h : g = f
    · rw [if_pos h, if_pos h]; exact .cons r rs
    · rw [if_neg h, if_neg h]; exact .cons q (putD_rel r rs)
theorem RFs.length {W : Vw} : ∀ {fs : List (Str × D)} {gs : List (Str × V)}, RFs W fs gs → fs.length = gs.length
  | _, _, .nil => rfl
  | _, _, .cons _ r => by rw [List.length_cons, List.length_cons, r.length]
section
variable {X : Cx} {F : Fx} {pos : Pos} {f : Str} {xs : List Str} {e o : Expr} {i j : IE}
theorem e_get (hk : X.K = F.K) (T : Has F.K F.g f xs) (he : PE X e (TI F i)) (hb : attributeBase e f X.env (eval e X.env) = eval e X.env := by rfl) : PE X (.Attribute e f pos) (TI F (iUn (opGet xs f) i)) := PE.imp (pe_fld he hb) fun σ H Q h =>
  (TX.bind (k := fun a env s1 => ofO (opGet xs f a s1)) h).mono fun x H1 ⟨W, st, env, d, A, r, p⟩ => by
    replace p := PostO.of p
    unfold opGet at p
    split at p
    · rename_i C fs hd
      split at p
      · rename_i hC
        cases q : fs.lookup f with
        | none => rw [q] at p; exact p.elim
        | some y =>
          rw [q] at p
          obtain ⟨a, dx, gs, rfl, ha, rg⟩ := insD_at A.sim hd r
          obtain ⟨v, hv, rv⟩ := rf_lookup rg q
          have z := A.in_.now p rv
          have cl := T.cl C hC
          have no := T.no C hC
          rw [A.g, A.h] at ha
          rw [← hk] at cl no
          exact ⟨a, _, dx, gs, v, rfl, ha, cl, no, hv, z⟩
      · exact p.elim
    · exact p.elim
theorem TKS.bind {α β γ δ : Type} {P : Vw → α → β → Prop} {P' : Vw → γ → δ → Prop} {i : Env → Sto → R γ} {k : α → γ → Env → Sto → RS} {N : Ends} {b : β} {σ : L2.St} {H : Hp} (mo : ∀ {W : Vw} {ρ' : List Addr} {H' : Hp} {a : α} {b : β}, Ext W ρ' H' → P W a b → P (W.to ρ' H') a b)
    (h : ∃ W st env a, At F W st env σ H ∧ P W a b ∧ PostS W (liftS (i env st) env fun c s1 => k a c env s1) N F.E) :
    TX P' F i σ H fun c H' => ∃ W st env a d, At F W st env σ H' ∧ P W a b ∧ P' W d c ∧ PostS W (k a d env st) N F.E := by
  obtain ⟨W, st, env, a, A, p, q⟩ := h
  refine ⟨W, st, env, A, ?_⟩
  cases r : i env st with
  | ok d s1 =>
    rw [r] at q
    exact fun ρ' H' c x s pc => ⟨W.to ρ' H', s1, env, a, d, A.next x s, mo x p, pc, PostS.ext x q⟩
  | exc C fs s1 =>
    rw [r] at q
    exact fun ρ' H' d x S z => q ρ' H' σ d x S (A.env.mono x) z
  | bad => rw [r] at q; exact q
/-! ### properties -/
variable {k : Nat} {C : Str} {pa ga : Addr} {fd : FuncData} {fn : Fn}
end
end M
/-! M17: == and != by an own __eq__. -/
namespace M
open PySem PySem.Spec PyProof.Rows L2

section
variable {prog : Program} {w : World} {A : Around} {E : Value → Shared → Prop} {s : Shared} {K : PySem.W.Frag} {x C f : Addr} {ox : Obj} {od : Option Obj} {b tb : Value}
open Builtin in
theorem ne_entry {Q : Fin → Shared → Prop} (hu : A.units < cLine) (kin : K.In s.heap) (I : PySem.W.InstAt s.heap x ox C od) (hs : PySem.W.findIn K (.ref C) "__eq__" = some (some (.ref f))) (hf : PySem.W.isFn K (.ref f) = true)
    (h : wpAny (model prog w) A (call (.ref f) [.ref x, b]) (fun v s' => ∃ k, v = .bool k ∧ Q (.done (.ret (.bool (!k)))) s') E s) : wpAny (model prog w) A (Builtin.«object.__ne__» ⟨[.ref x, b], []⟩) Q E s := by
  unfold Builtin.«object.__ne__»
  repeat (first
    | with_reducible refine wpAny_cRoomFor hu ?_
    | (refine wpAny_bind (m := callSpecialIfBound? (.ref x) (Str.ofString "__eq__") [b]) (PySem.W.ifBound_K kin I hs hf (wpAny_mono h (fun r s' hr => by
          obtain ⟨k, rfl, hq⟩ := hr
          repeat (first | exact hq | exact wpAny_pure hq | exact wpAny_truthy_bool hq | (refine wpAny_bind (m := truthy (.bool _)) (wpAny_truthy_bool ?_)) | wp_step)) fun _ _ e => e)))
    | wp_step)
theorem ne_bound {Mo : Model} {args : List Value} {Q : Option Value → Shared → Prop} (kin : K.In s.heap) (I : PySem.W.InstAt s.heap x ox C od) (hs : PySem.W.findIn K (.ref C) "__ne__" = some (some (.builtin "object.__ne__")))
    (h : wpAny Mo A (call (.builtin "object.__ne__") (.ref x :: args)) (fun v => Q (some v)) E s) : wpAny Mo A (callSpecialIfBound? (.ref x) "__ne__" args) Q E s := by
  simp only [bindSpecialIfBound?, callSpecialIfBound?]
  have L := (PySem.W.looks_findIn (M := Mo) kin hs)
  refine wpAny_holding (wpAny_bind (wpAny_bind (wpAny_bind (I.type.here (L.here ?_)))))
  refine wpAny_bind (wpAny_askSetting (wpAny_ite ?_))
  have last : wpAny Mo A (call (.builtin "object.__ne__") ([.ref x] ++ args) >>= fun v => pure (some v)) Q E s := wpAny_bind (wpAny_mono h (fun v s2 q => wpAny_pure q) fun _ _ q => q)
  split
  · exact wpAny_bind (wpAny_of_eq (F.cmp_object.ne.bind _) (wpAny_pure (by exact last)))
  · exact wpAny_tryCatch (wpAny_bind (wpAny_of_eq (F.cmp_object.ne.bind _) (wpAny_pure (by exact last))))
theorem neK {Q : Value → Shared → Prop} (hu : A.units + 1 < cLine) (kin : K.In s.heap) (I : PySem.W.InstAt s.heap x ox C od) (hb : PySem.W.Looks (model prog w) s.heap (typeOf b) tb) (hn : PySem.W.notFirst K C tb = true) (hne : PySem.W.findIn K (.ref C) "__ne__" = some (some (.builtin "object.__ne__")))
    (hm : PySem.W.mroIn K C (.type "object") = some true) (hs : PySem.W.findIn K (.ref C) "__eq__" = some (some (.ref f))) (hf : PySem.W.isFn K (.ref f) = true)
    (h : wpAny (model prog w) A.in1 (call (.ref f) [.ref x, b]) (fun v s' => ∃ k, v = .bool k ∧ Q (.bool (!k)) s') E s) : wpAny (model prog w) A (richCompare .NotEq (.ref x) b) Q E s := by
  have one : wpAny (model prog w) A (tryCompare (.ref x) "__ne__" b) (fun r s' => ∃ v, r = some v ∧ Q v s') E s := by
    simp only [tryCompare]
    refine wpAny_bind (ne_bound kin I hne (wpAny_call (codeAny_call_builtin F.cmp_object.ne.plain F.cmpEntry_ne (PySem.W.check_slot F.cmpKind_ne F.cmpSplit_ne (I.type.andThen (PySem.W.looks_mroIn kin hm)) (F.cmpArgs_ne _ _)
      (ne_entry (A := A.in1) (by show A.units + 1 < cLine; exact hu) kin I hs hf (wpAny_mono h (fun v s2 hv => ?_) fun _ _ e => e))))))
    obtain ⟨k, rfl, q⟩ := hv
    first | exact ⟨k, rfl, wpAny_pure ⟨_, rfl, q⟩⟩ | exact ⟨k, rfl, wpAny_pure (wpAny_pure ⟨_, rfl, q⟩)⟩
  unfold richCompare
  simp only [oneThing_ref]
  refine wpAny_holding (wpAny_bind (wpAny_cRoomFor (by omega) ?_))
  rw [cmpInfo_NotEq]
  dsimp only
  refine wpAny_bind (I.type.here ?_)
  refine wpAny_bind (hb.here ?_)
  split
  · rename_i q
    have e : PySem.W.subIn K tb (.ref C) = some false := by
      rcases Bool.or_eq_true_iff.mp hn with e | e
      · rw [beq_iff_eq.mp e] at q; simp at q
      · exact beq_iff_eq.mp e
    refine wpAny_bind ((PySem.W.looks_subIn kin e).here ?_)
    simp only [Bool.false_eq_true, if_false]
    refine wpAny_bind (wpAny_mono one (fun r s2 ⟨v, e1, hq⟩ => by subst e1; exact wpAny_pure hq) fun _ _ e => e)
  · refine wpAny_bind (wpAny_pure ?_)
    simp only [Bool.false_eq_true, if_false]
    refine wpAny_bind (wpAny_mono one (fun r s2 ⟨v, e1, hq⟩ => by subst e1; exact wpAny_pure hq) fun _ _ e => e)
end

/-! ### the operators -/
/-- what is known of the class with its own __eq__ -/
structure EqC (K : PySem.W.Frag) (g : Str → Addr) (C : Str) (fE : Addr) (ts : List String) : Prop where
  eq : PySem.W.findIn K (.ref (g C)) "__eq__" = some (some (.ref fE))
  fn : PySem.W.isFn K (.ref fE) = true
  ne : PySem.W.findIn K (.ref (g C)) "__ne__" = some (some (.builtin "object.__ne__"))
  mr : PySem.W.mroIn K (g C) (.type "object") = some true
  ty : ∀ t ∈ ts, PySem.W.subIn K (.type t) (.ref (g C)) = some false
def optR : R D → Option (D × Sto)
  | .ok d s => some (d, s)
  | _ => none
def kNe : Option (D × Sto) → Option (D × Sto)
  | some (.bl k, s) => some (.bl (!k), s)
  | _ => none
/-- the other side: one of these types, or of the class -/
def okR (C : Str) (ts : List String) (st : Sto) (b : D) : Bool := match insD st b with
  | some (C', _) => decide (C' = C)
  | none => match tagD st b with
    | some (.ty t) => ts.contains t
    | _ => false
def opEqI (C : Str) (ts : List String) (fn : Fn) (neg : Bool) : Op2 := fun a b st => match insD st a with
  | some (C', _) => if C' = C ∧ okR C ts st b = true then (if neg then kNe (optR (fn [a, b] st)) else optR (fn [a, b] st)) else none
  | none => opEq neg a b st
section
variable {X : Cx} {F : Fx} {W : Vw} {st : Sto} {k : Nat} {C : Str} {fE : Addr} {ts : List String} {fd : FuncData} {ps : List Str} {fn : Fn}
theorem okR_look {pins : List (Addr × Obj)} {σ : L2.St} {H : Hp} {s : Shared} {b : D} {v : V} {u : Value} (hk : X.K = F.K) (J : In F W st H) (I : Inv X pins σ H s) (T : EqC F.K F.g C fE ts) (h : okR C ts st b = true) (r : RV W b v) (ru : RelV v u) : ∃ tb, PySem.W.Looks (model X.prog X.w) s.heap (typeOf u) tb ∧ PySem.W.notFirst X.K (F.g C) tb = true := by
  unfold okR at h
  split at h
  · rename_i C' fs hd
    have e := of_decide_eq_true h
    subst e
    obtain ⟨a, dx, gs, rfl, ea, _⟩ := insD_at J.sim hd r
    cases ru
    rw [J.g, J.h] at ea
    obtain ⟨mA, O, _⟩ := ins_get I.hok ea
    obtain ⟨od, JI, _⟩ := O.look
    exact ⟨_, JI.type, by simp [PySem.W.notFirst]⟩
  · split at h
    · rename_i t ht
      obtain ⟨P, Z, pp, _⟩ := kit_of I ru (tag_ty hk J ht r)
      refine ⟨_, Z.ty _ _ I.kIn pp, ?_⟩
      have q := T.ty t (List.contains_iff_mem.mp h)
      rw [← hk] at q
      unfold PySem.W.notFirst
      rw [q]
      simp
    · cases h
theorem eqI_call {A' : Around} {pins : List (Addr × Obj)} {σ : L2.St} {H : Hp} {s : Shared} {Q : VK} {a b : D} {x y : V} {v u : Value} (J : In F W st H) (I : Inv X pins σ H s) (G : FnG X.prog X.w X.K X.mg X.base k fE fd ps (SPx F.K F.g fn)) (hr : Room k A') (hgd : A'.guards = some []) (he : Env0 X.prog X.w X.K X.mg X.base A' X.stack s H) (hb : Binds X.K fd ps [])
    (ra : RV W a x) (rb : RV W b y) (rx : RelV x v) (ry : RelV y u) (p : PostO W (optR (fn [a, b] st)) Q) : wpAny (model X.prog X.w) A' (call (.ref fE) [v, u]) (EP X pins σ Q) X.xe s := by
  have p2 : PostE W (fn [a, b] st) Q (fun _ _ _ => False) := by
    cases q : fn [a, b] st with
    | ok d s2 => rw [q] at p; exact p
    | exc D fs s2 => rw [q] at p; exact p.elim
    | bad => rw [q] at p; exact p.elim
  have sp : SPx F.K F.g fn [x, y] H Q (fun _ _ _ => False) := ⟨W, st, [a, b], J.k, J.g, J.h, J.sim, .cons ra (.cons rb .nil), p2⟩
  have r2 : Vals [x, y] [v, u] := .cons rx (.cons ry .nil)
  have hl := G.len _ _ _ _ sp
  refine wpAny_call (codeAny_mono (G.run A' X.stack s H ⟨[v, u], []⟩ [v, u] [x, y] Q (fun _ _ _ => False) hr hgd he (by simpa using hb s [v, u] I.kIn (by simpa using hl)) r2 sp) fun r s' hq => ?_)
  cases r with
  | error er =>
    obtain ⟨_, _, _, _, _, _, _, _, _, _, _, _, z⟩ := hq
    exact z.elim
  | ok fl =>
    cases fl with
    | ret u => exact I.after hq
    | next => exact False.elim hq
    | brk => exact False.elim hq
    | cont => exact False.elim hq
theorem or_neI (hk : X.K = F.K) (hu : X.A.units + 64 < cLine) (T : EqC F.K F.g C fE ts) (G : FnG X.prog X.w X.K X.mg X.base k fE fd ps (SPx F.K F.g fn)) (hr : Room (k + 1) X.A) (hgd : X.A.guards = some []) (hb : Binds X.K fd ps []) : OpR X (compareOp .NotEq) (r2 F (opEqI C ts fn true)) := fun pins s σ H x y v u Q I rx ry h => by
  obtain ⟨W, st, a, b, J, ra, rb, p⟩ := h
  unfold opEqI at p
  split at p
  · rename_i C' fs hd
    split at p
    · rename_i c
      obtain ⟨rfl, hok⟩ := c
      obtain ⟨q, dx, gs, rfl, ea, _⟩ := insD_at J.sim hd ra
      cases rx
      rw [J.g, J.h] at ea
      obtain ⟨mA, O, _⟩ := ins_get I.hok ea
      obtain ⟨od, JI, _⟩ := O.look
      obtain ⟨tb, hlt, hnf⟩ := okR_look hk J I T hok rb ry
      have T1 := T.eq
      have T2 := T.fn
      have T3 := T.ne
      have T4 := T.mr
      rw [← hk] at T1 T2 T3 T4
      have p1 : PostO W (kNe (optR (fn [a, b] st))) Q := p
      show wpAny (model X.prog X.w) X.A (richCompare .NotEq (.ref q) u) (EP X pins σ Q) X.xe s
      have p2 : PostO W (optR (fn [a, b] st)) (fun z H' => ∃ k, z = .bl k ∧ Q (.bl (!k)) H') := by
        cases z : optR (fn [a, b] st) with
        | none => rw [z] at p1; exact p1.elim
        | some w =>
          obtain ⟨d, s2⟩ := w
          rw [z] at p1
          cases d with
          | bl k =>
            intro ρ' H' v x S r
            cases r
            exact ⟨k, rfl, p1 ρ' H' (.bl (!k)) x S (.bl _)⟩
          | _ => exact p1.elim
      refine neK (by omega) I.kIn JI hlt hnf T3 T4 T1 T2 (wpAny_mono (eqI_call (A' := X.A.in1) J I G hr.in1 hgd I.env0.in1 hb ra rb rfl ry p2) (fun z s' hz => ?_) fun _ _ e => e)
      obtain ⟨d, H', I', rd, k, rfl, q⟩ := hz
      cases rd
      exact ⟨k, rfl, .bl (!k), H', I', rfl, q⟩
    · exact p.elim
  · exact or_ne hk hu pins s σ H x y v u Q I rx ry ⟨W, st, a, b, J, ra, rb, p⟩
end
end M
/-! M18: methods of texts and lists, f-strings, str and repr by own methods. -/
namespace M
open PySem PySem.Spec PyProof.Rows L2

/-! ### methods of texts -/
def rM1 (F : Fx) (f : Op2) : V → List V → Hp → VK → Prop := fun x xs H Q => ∃ y, xs = [y] ∧ r2 F f x y H Q
def isS : D → Bool
  | .str _ => true
  | _ => false
def iM1 (f : Op2) (i j : IE) : IE := fun env st => (i env st).bind fun a s1 => if isS a = true then (j env s1).bind fun b s2 => ofO (f a b s2) else .bad
theorem MtR.imp {X : Cx} {id : String} {r r' : V → List V → Hp → VK → Prop} (a : MtR X id r) (h : ∀ x xs H Q, r' x xs H Q → r x xs H Q) : MtR X id r' := fun p s σ H x xs v us Q I rx rs q => a p s σ H x xs v us Q I rx rs (h x xs H Q q)
section
variable {X : Cx} {F : Fx} {W : Vw} {st : Sto} {pos apos : Pos} {o e : Expr} {i j : IE} {f : Op2} {id : String} {name : Str}
theorem m1_red {σ : L2.St} {H : Hp} {Q : VK} (h : TI F (iM1 f i j) σ H Q) : tM1 (rM1 F f) (TI F i) (TI F j) σ H Q :=
  (TX.bind (k := fun a env s1 => if isS a = true then (j env s1).bind fun b s2 => ofO (f a b s2) else .bad) h).mono fun x H1 ⟨W, st, env, a, A, r, p⟩ => by
    have p' : PostE W (if isS a = true then (j env st).bind fun b s2 => ofO (f a b s2) else .bad) Q (F.at_ σ) := p
    split at p'
    · rename_i c
      have hx : ∃ z, x = .str z := by
        cases r <;> first | exact ⟨_, rfl⟩ | cases c
      have T : TK RV RV F (fun a env s1 => (j env s1).bind fun b s2 => ofO (f a b s2)) x σ H1 Q := ⟨W, st, env, a, A, r, p'⟩
      exact ⟨hx, (TK.bind (i := j) (k := fun a b env s2 => ofO (f a b s2)) (fun x r => RV.mono x r) T).mono fun y H2 ⟨W, st, env, a, b, A, ra, rb, p⟩ => ⟨y, rfl, W, st, a, b, A.in_, ra, rb, PostO.of p⟩⟩
    · exact p'.elim
theorem e_m1 (slot : Slot "str" name id) (ty : typeOf (.builtin id) = pure (.type "method_descriptor")) (rule : MtR X id (rM1 F f)) (ho : PE X o (TI F i)) (he : PE X e (TI F j))
    (hs : starEach [e] X.env = [(false, eval e X.env)] := by rfl) (hbase : attributeBase o name X.env (eval o X.env) = eval o X.env := by rfl) (hline : (apos.endLine == pos.line) = true := by rfl) : PE X (.Call (.Attribute o name apos) [e] [] pos) (TI F (iM1 f i j)) :=
  PE.imp (pe_m1 slot ty rule ho he hs hbase hline) fun _ _ _ h => m1_red h
def opSplit : Op2 := fun a b st => match a, b with
  | .str x, .str y => if (y.length == 0) = false ∧ x.length + 2 ≤ sizeLine then some (.lst ((Txt.split x y).map .str), st) else none
  | _, _ => none
theorem rvs_strs : ∀ ys : List Str, RVs W (ys.map D.str) (ys.map V.str)
  | [] => .nil
  | y :: ys => .cons (.str y) (rvs_strs ys)
theorem mr_split : MtR X "str.split" (rM1 F opSplit) := MtR.imp mt_split fun x xs H Q ⟨y, e, W, st, a, b, J, ra, rb, p⟩ => by
  subst e
  unfold opSplit at p
  split at p
  · split at p
    · rename_i c
      cases ra
      cases rb
      have eH := J.h
      subst eH
      exact ⟨_, _, rfl, rfl, c.1, c.2, fun q hq => p.listF J.sim (rvs_strs _) hq⟩
    · exact p.elim
  · exact p.elim
def opPart : Op2 := fun a b st => match a, b with
  | .str x, .str y => if (y.length == 0) = false ∧ x.length ≤ sizeLine then some (.tup [.str (Txt.partition x y).1, .str (Txt.partition x y).2.1, .str (Txt.partition x y).2.2], st) else none
  | _, _ => none
theorem mr_part : MtR X "str.partition" (rM1 F opPart) := MtR.imp mt_partition fun x xs H Q ⟨y, e, W, st, a, b, J, ra, rb, p⟩ => by
  subst e
  unfold opPart at p
  split at p
  · split at p
    · rename_i c
      cases ra
      cases rb
      have eH := J.h
      subst eH
      exact ⟨_, _, rfl, rfl, c.1, c.2, fun q hq => p.tuple J.sim (.cons (.str _) (.cons (.str _) (.cons (.str _) .nil))) hq⟩
    · exact p.elim
  · exact p.elim
def opTT (g : Str → Str → D) (c : Str → Bool) : Op2 := fun a b st => match a, b with
  | .str x, .str y => if c x = true then some (g x y, st) else none
  | _, _ => none
abbrev opStarts : Op2 := opTT (fun x y => .bl (Txt.startswith x y)) fun _ => true
theorem mr_starts : MtR X "str.startswith" (rM1 F opStarts) := MtR.imp mt_startswith fun x xs H Q ⟨y, e, W, st, a, b, J, ra, rb, p⟩ => by
  subst e
  unfold opStarts opTT at p
  split at p
  · split at p
    · cases ra; cases rb; exact ⟨_, _, rfl, rfl, J.now p (.bl _)⟩
    · exact p.elim
  · exact p.elim
/-! ### methods of lists -/
def isL (st : Sto) : D → Bool
  | .ref n => (lstAt st n).isSome
  | .lst _ => true
  | _ => false
def iMl (f : D → OpN) (i : IE) (j : IA) : IE := fun env st => (i env st).bind fun a s1 => if isL s1 a = true then (j env s1).bind fun ds s2 => ofO (f a ds s2) else .bad
def rMl (F : Fx) (f : D → OpN) : V → List V → Hp → VK → Prop := fun x xs H Q => ∃ W st a ds, In F W st H ∧ RV W a x ∧ RVs W ds xs ∧ PostO W (f a ds st) Q
theorem isL_ty {H : Hp} {a : D} {x : V} (hk : X.K = F.K) (J : In F W st H) (h : isL st a = true) (r : RV W a x) : tyV X.K "list" x H := by
  have eH := J.h
  subst eH
  cases r with
  | lst t _ =>
    have q := t.sq
    rw [J.k, ← hk] at q
    exact .inl ⟨rfl, _, q⟩
  | @ref n a e =>
    obtain ⟨xs, hx⟩ := Option.isSome_iff_exists.mp (show (lstAt st n).isSome = true from h)
    obtain ⟨ys, h1, _⟩ := J.sim.at_ n _ a (lstAt_eq hx) e
    exact .inl ⟨rfl, ys, .inl (.inl h1)⟩
  | _ => cases h
theorem ml_red {f : D → OpN} {j : IA} {σ : L2.St} {H : Hp} {Q : VK} (hk : X.K = F.K) (h : TI F (iMl f i j) σ H Q) : tBM X.K "list" (rMl F f) (TI F i) (TA_ F j) σ H Q :=
  (TX.bind (k := fun a env s1 => if isL s1 a = true then (j env s1).bind fun ds s2 => ofO (f a ds s2) else .bad) h).mono fun x H1 ⟨W, st, env, a, A, r, p⟩ => by
    have p' : PostE W (if isL st a = true then (j env st).bind fun ds s2 => ofO (f a ds s2) else .bad) Q (F.at_ σ) := p
    split at p'
    · rename_i c
      have T : TK RV RV F (fun a env s1 => (j env s1).bind fun ds s2 => ofO (f a ds s2)) x σ H1 Q := ⟨W, st, env, a, A, r, p'⟩
      exact ⟨isL_ty hk A.in_ c r, (TK.bind (i := j) (P' := RVs) (k := fun a ds env s2 => ofO (f a ds s2)) (fun x r => RV.mono x r) T).mono fun y H2 ⟨W, st, env, a, b, A, ra, rb, p⟩ => ⟨W, st, a, b, A.in_, ra, rb, PostO.of p⟩⟩
    · exact p'.elim
theorem e_ml {f : D → OpN} {j : IA} {es : List Expr} (hk : X.K = F.K) (slot : Slot "list" name id) (hty : typeOf (.builtin id) = pure (.type "method_descriptor")) (hm : MtR X id (rMl F f)) (ho : PE X o (TI F i)) (ha : PA X (e :: es) (TA_ F j))
    (hbase : attributeBase o name X.env (eval o X.env) = eval o X.env := by rfl)
    (hfew : ((backTo pos (starEach (e :: es) X.env)).all (fun x => !x.1) && (backToKw pos (keywordEach [] X.env)).all (fun x => x.1.isSome) && decide ((e :: es).length + ([] : List Keyword).length + (if ([] : List Keyword).isEmpty then 0 else 1) < 30)) = true := by rfl)
    (hline : (apos.endLine == pos.line) = true := by rfl) (hs : starEach (e :: es) X.env = (false, eval e X.env) :: starEach es X.env := by rfl) (hplain : (backTo pos (starEach es X.env)).any (·.1) = false := by rfl) :
    PE X (.Call (.Attribute o name apos) (e :: es) [] pos) (TI F (iMl f i j)) := PE.imp (pe_bm PySem.F.plainAttrs_list slot hty hm ho ha hbase hfew hline hs hplain) fun _ _ _ h => ml_red hk h
def opAppend (a : D) : OpN := fun ds st => match a, ds with
  | .ref n, [d] => match lstAt st n with
    | some xs => if xs.length < sizeLine then some (.non, st.set n (.lst (xs ++ [d]))) else none
    | none => none
  | _, _ => none
theorem mr_append : MtR X "list.append" (rMl F opAppend) := MtR.imp mt_append fun x xs H Q ⟨W, st, a, ds, J, ra, rd, p⟩ => by
  unfold opAppend at p
  split at p
  · rename_i n d
    split at p
    · rename_i zs hz
      split at p
      · rename_i c
        obtain ⟨y, rfl, ry⟩ := rv1 rd
        obtain ⟨m, q, ys, e1, e2, e3, e4, e5, r5⟩ := mlst_at J.sim (d := .ref n) (xs := zs) hz ra
        cases e1
        have eH := J.h
        subst eH
        have x7 : Ext W W.ρ (upd W.H q (.lst (ys ++ [y]))) := ext_put (List.mem_of_getElem? e3)
        exact ⟨q, ys, y, e2, rfl, e5, by rw [← r5.length]; exact c, p W.ρ _ .non x7 (J.sim.put e3 ⟨_, upd_same, RVs.mono x7 (r5.append (.cons ry .nil))⟩) .non⟩
      · exact p.elim
    · exact p.elim
  · exact p.elim
/-! ### f-strings -/
def opFmt : Op1 := fun a st => match a with
  | .str y => if y.length ≤ sizeLine then some (.str y, st) else none
  | .int i => if i.natAbs.log2 < 1920 then some (.str (toString i), st) else none
  | _ => none
theorem e_fmt (he : PE X e (TI F i)) : PE X (.FormattedValue e (-1) none pos) (TI F (iUn opFmt i)) := PE.imp (pe_fmt he) fun σ H Q h => (TX.bind (k := fun a env s1 => ofO (opFmt a s1)) h).mono fun x H1 ⟨W, st, env, a, A, r, p⟩ => by
  replace p := PostO.of p
  unfold opFmt at p
  split at p
  · split at p
    · cases r; exact .inl ⟨_, rfl, by assumption, A.in_.now p (.str _)⟩
    · exact p.elim
  · split at p
    · cases r; exact .inr ⟨_, rfl, by assumption, A.in_.now p (.str _)⟩
    · exact p.elim
  · exact p.elim
theorem e_joined1 (he : PE X e (TI F i)) : PE X (.JoinedStr [e] pos) (TI F i) := pe_joined1 he
def kJs (acc : Str) (k : Str → Env → Sto → R D) (d : D) (env : Env) (s : Sto) : R D := match d with
  | .str y => if (acc ++ y).length ≤ sizeLine then k (acc ++ y) env s else .bad
  | _ => .bad
def iJs : List IE → Str → Env → Sto → R D
  | [], acc => fun _ st => .ok (.str acc) st
  | i :: is, acc => fun env st => (i env st).bind fun d s => kJs acc (iJs is) d env s
inductive PJs (X : Cx) (F : Fx) : List Expr → List IE → Prop where
  | nil : PJs X F [] []
  | cons {e : Expr} {i : IE} {es : List Expr} {is : List IE} (h : PE X e (TI F i)) (r : PJs X F es is) : PJs X F (e :: es) (i :: is)
theorem PJs.pj {es : List Expr} {is : List IE} (h : PJs X F es is) : PJ X es (is.map (TI F)) := by
  induction h with
  | nil => exact .nil
  | cons h _ ih => exact .cons h ih
theorem js_red {σ : L2.St} {Q : VK} : ∀ (is : List IE) (acc : Str) (H : Hp), TI F (iJs is acc) σ H Q → tJs (is.map (TI F)) acc σ H fun out H1 => Q (.str out) H1
  | [], acc, H, ⟨W, st, env, A, p⟩ => by
    have q := p W.ρ W.H (.str acc) Ext.refl A.sim (.str _)
    rw [A.h] at q
    exact q
  | i :: is, acc, H, h => (TX.bind (k := fun d env s => kJs acc (iJs is) d env s) h).mono fun x H1 ⟨W, st, env, a, A, r, p⟩ => by
    have p' : PostE W (kJs acc (iJs is) a env st) Q (F.at_ σ) := p
    unfold kJs at p'
    split at p'
    · split at p'
      · rename_i c
        cases r
        exact ⟨_, rfl, c, js_red is _ H1 ⟨W, st, env, A, p'⟩⟩
      · exact p'.elim
    · exact p'.elim
theorem e_joined {v1 v2 : Expr} {rest : List Expr} {is : List IE} (h : PJs X F (v1 :: v2 :: rest) is) : PE X (.JoinedStr (v1 :: v2 :: rest) pos) (TI F (iJs is Str.empty)) := PE.imp (pe_joined h.pj) fun σ H Q h => js_red is _ H h
end
end M
/-! M19: in, starred parts, str and repr by own methods, isinstance of instances, defs as values, divmod, sorted. -/
namespace M
open PySem PySem.Spec PyProof.Rows L2

/-! ### in -/
def flatD : D → Bool
  | .non => true
  | .bl _ => true
  | .int _ => true
  | .str _ => true
  | _ => false
def eqD : D → D → Bool
  | .non, .non => true
  | .bl a, .bl b => a == b
  | .bl a, .int b => (if a then 1 else 0) == b
  | .int a, .bl b => a == (if b then 1 else 0)
  | .int a, .int b => a == b
  | .str a, .str b => a == b
  | _, _ => false
def inD (x : D) (xs : List D) : Bool := xs.any fun y => eqD y x
section
variable {X : Cx} {F : Fx} {W : Vw} {st : Sto} {pos apos p : Pos} {o e : Expr} {es : List Expr} {i : IE} {j : IA}
theorem flat_rv {d : D} {v : V} (h : flatD d = true) (r : RV W d v) : flatV v = true := by cases r <;> first | rfl | cases h
theorem eq_rv {a b : D} {x y : V} (ha : flatD a = true) (hb : flatD b = true) (ra : RV W a x) (rb : RV W b y) : eqV x y = eqD a b := by
  cases ra <;> cases ha <;> cases rb <;> cases hb <;> rfl
theorem flats_rv : ∀ {xs : List D} {ys : List V}, xs.all flatD = true → RVs W xs ys → ys.all flatV = true
  | _, _, _, .nil => rfl
  | x :: xs, _, h, .cons r rs => by
    obtain ⟨h1, h2⟩ := Bool.and_eq_true_iff.mp (show (flatD x && xs.all flatD) = true from h)
    show (_ && _) = true
    rw [flat_rv h1 r, flats_rv h2 rs]; rfl
theorem in_rv {a : D} {x : V} (ha : flatD a = true) (ra : RV W a x) : ∀ {xs : List D} {ys : List V}, xs.all flatD = true → RVs W xs ys → inV x ys = inD a xs
  | _, _, _, .nil => rfl
  | y :: xs, _, h, .cons r rs => by
    obtain ⟨h1, h2⟩ := Bool.and_eq_true_iff.mp (show (flatD y && xs.all flatD) = true from h)
    have ih := in_rv ha ra h2 rs
    unfold inV inD at ih ⊢
    rw [List.any_cons, List.any_cons, ih, eq_rv h1 ha r ra]
def opIn (neg : Bool) : Op2 := fun a b st => match a, b with
  | .str x, .str y => some (.bl (if neg then !(!(Builtin.Str.occurrences y x 0 y.length 1).isEmpty) else !(Builtin.Str.occurrences y x 0 y.length 1).isEmpty), st)
  | a, b => match aseq st b with
    | some xs => if flatD a = true ∧ xs.all flatD = true then some (.bl (if neg then !inD a xs else inD a xs), st) else none
    | none => none
theorem in_red (hk : X.K = F.K) {neg : Bool} {x y : V} {H : Hp} {Q : VK} (h : r2 F (opIn neg) x y H Q) : rIn X.K neg x y H Q ∨ ∃ i j, x = .str i ∧ y = .str j ∧ Q (.bl (if neg then !(!(Builtin.Str.occurrences j i 0 j.length 1).isEmpty) else !(Builtin.Str.occurrences j i 0 j.length 1).isEmpty)) H := by
  obtain ⟨W, st, a, b, I, ra, rb, p⟩ := h
  unfold opIn at p
  split at p
  · cases ra; cases rb
    exact .inr ⟨_, _, rfl, rfl, I.now p (.bl _)⟩
  · split at p
    · rename_i xs hx
      split at p
      · rename_i c
        obtain ⟨q, ys, rfl, hs, ry⟩ := aseq_at I.sim hx rb
        have z := I.now p (.bl _)
        rw [← in_rv c.1 ra c.2 ry] at z
        rw [I.k, ← hk, I.h] at hs
        exact .inl ⟨q, ys, rfl, hs, flat_rv c.1 ra, flats_rv c.2 ry, z⟩
      · exact p.elim
    · exact p.elim
theorem or_in (hk : X.K = F.K) : OpR X (compareOp .In) (r2 F (opIn false)) := OpR.imp (OpR.or op_in_seq op_in_str) fun x y H Q h => in_red hk h
/-! ### *xs in a display or a call -/
/-- the starred list is read before the rest is asked -/
def aStar (i : IE) (j : IA) : IA := fun env st => (i env st).bind fun a s => match aseq s a with
  | some xs => (j env s).bind fun r s2 => .ok (xs ++ r) s2
  | none => .bad
/-! ### str(o), repr(o) -/
variable {k : Nat} {C : Str} {fS : Addr} {fd : FuncData} {ps : List Str} {fn : Fn}
def strR : Option (D × Sto) → Option (D × Sto)
  | some (.str z, s) => some (.str z, s)
  | _ => none
theorem own1_call {A' : Around} {pins : List (Addr × Obj)} {σ : L2.St} {H : Hp} {s : Shared} {Q : VK} {a : D} {x : V} {v : Value} (J : In F W st H) (I : Inv X pins σ H s) (G : FnG X.prog X.w X.K X.mg X.base k fS fd ps (SPx F.K F.g fn)) (hr : Room k A') (hgd : A'.guards = some []) (he : Env0 X.prog X.w X.K X.mg X.base A' X.stack s H) (hb : Binds X.K fd ps [])
    (ra : RV W a x) (rx : RelV x v) (p : PostO W (strR (optR (fn [a] st))) Q) : wpAny (model X.prog X.w) A' (call (.ref fS) [v]) (PySem.W.StrBack (EP X pins σ Q)) X.xe s := by
  have p2 : PostE W (fn [a] st) (fun z H' => (∃ y, z = .str y) ∧ Q z H') (fun _ _ _ => False) := by
    cases q : fn [a] st with
    | ok d s2 =>
      rw [q] at p
      cases d with
      | str y =>
        intro ρ' H' b x S r
        cases r
        exact ⟨⟨_, rfl⟩, p ρ' H' _ x S (.str _)⟩
      | _ => exact p.elim
    | exc D fs s2 => rw [q] at p; exact p.elim
    | bad => rw [q] at p; exact p.elim
  have sp : SPx F.K F.g fn [x] H _ (fun _ _ _ => False) := ⟨W, st, [a], J.k, J.g, J.h, J.sim, .cons ra .nil, p2⟩
  have r2 : Vals [x] [v] := .cons rx .nil
  have hl := G.len _ _ _ _ sp
  refine wpAny_call (codeAny_mono (G.run A' X.stack s H ⟨[v], []⟩ [v] [x] _ (fun _ _ _ => False) hr hgd he (by simpa using hb s [v] I.kIn (by simpa using hl)) r2 sp) fun r s' hq => ?_)
  cases r with
  | error er =>
    obtain ⟨_, _, _, _, _, _, _, _, _, _, _, _, z⟩ := hq
    exact z.elim
  | ok fl =>
    cases fl with
    | ret u =>
      obtain ⟨z, H', I', rz, ⟨y, rfl⟩, q⟩ := I.after hq
      obtain ⟨t, rfl⟩ := rz
      exact ⟨.str y, H', I', ⟨t, rfl⟩, q⟩
    | next => exact False.elim hq
    | brk => exact False.elim hq
    | cont => exact False.elim hq
def opStrI (C : Str) (fn : Fn) : OpN := fun ds st => match ds with
  | [.str a] => some (.str a, st)
  | [.int i] => opStr [.int i] st
  | [d] => match insD st d with
    | some (C', _) => if C' = C then strR (optR (fn [d] st)) else none
    | none => none
  | _ => none
theorem cr_strI (hk : X.K = F.K) (hs : PySem.W.findIn F.K (.ref (F.g C)) "__str__" = some (some (.ref fS))) (hf : PySem.W.isFn F.K (.ref fS) = true) (G : FnG X.prog X.w X.K X.mg X.base k fS fd ps (SPx F.K F.g fn)) (hr : Room (k + 2) X.A) (hgd : X.A.guards = some []) (hb : Binds X.K fd ps []) : CallR X (.type "str") (rN F (opStrI C fn)) := fun pins s σ H xs us Q I r ⟨W, st, ds, J, rd, p⟩ => by
  unfold opStrI at p
  split at p
  · obtain ⟨v, rfl, rv⟩ := rv1 rd
    cases rv
    obtain ⟨u, rfl, t, rfl⟩ := vals1 r
    exact PySem.P.str_of_str ⟨.str _, H, I, ⟨t, rfl⟩, J.now p (.str _)⟩
  · exact cr_str pins s σ H xs us Q I r ⟨W, st, _, J, rd, p⟩
  · rename_i d _ _
    obtain ⟨v, rfl, rv⟩ := rv1 rd
    obtain ⟨u, rfl, ru⟩ := vals1 r
    split at p
    · rename_i C' fs hd
      split at p
      · rename_i hC
        subst hC
        obtain ⟨q, dx, gs, rfl, ea, _⟩ := insD_at J.sim hd rv
        cases ru
        rw [J.g, J.h] at ea
        obtain ⟨mA, O, _⟩ := ins_get I.hok ea
        obtain ⟨od, JI, _⟩ := O.look
        rw [← hk] at hs hf
        have un := hr.units0
        refine PySem.W.kso_call (by have := hr.un; show X.A.units + 1 + 1 < cLine; omega) I.kIn JI hs hf (own1_call (A' := X.A.in1.in1) J I G (hr.in1.in1) hgd I.env0.in1.in1 hb rv rfl p)
      · exact p.elim
    · exact p.elim
  · exact p.elim
end
end M
/-! M20: defs as values, isinstance of instances, divmod, sorted, max. -/
namespace M
open PySem PySem.Spec PyProof.Rows L2

section
variable {X : Cx} {F : Fx} {W : Vw} {st : Sto} {pos apos p : Pos} {o e fe : Expr} {es : List Expr} {i : IE} {j : IA} {k : Nat} {fs : List (Str × Fn)}
/-! ### a value that is a def is called -/
structure HeldG (X : Cx) (F : Fx) (k : Nat) (fs : List (Str × Fn)) : Prop where
  ex : ∀ q ∈ fs, ∃ (fd : FuncData) (ps : List Str), FnG X.prog X.w X.K X.mg X.base k (F.g q.1) fd ps (SPx F.K F.g q.2) ∧ PySem.W.keepIn X.K (.ref (F.g q.1)) = true ∧ Binds X.K fd ps []
def kCallV (fs : List (Str × Fn)) (d : D) (j : IA) (env : Env) (s : Sto) : R D := match d with
  | .glo x => match fs.lookup x with
    | some f => (j env s).bind fun ds s2 => f ds s2
    | none => .bad
  | _ => .bad
def iCallV (fs : List (Str × Fn)) (i : IE) (j : IA) : IE := fun env st => (i env st).bind fun d s => kCallV fs d j env s
/-! ### isinstance, instances too -/
structure InsF (K : PySem.W.Frag) (C : Addr) : Prop where
  cl : Cls K C
  ca : PySem.W.findIn K (.ref C) "__class__" = some (some (.builtin "object.__class__"))
  sp : PySem.W.specialIn K (.builtin "object.__class__") "__get__" = some (some (.builtin "getset_descriptor.__get__"))
  tk : PySem.W.takesIn K (.builtin "object.__class__") = some true
  mr : PySem.W.mroIn K C (.type "object") = some true
def opIsiI (cs : List Str) (xs : List Str) (tb : Tg → Tg → Option Bool) : OpN := fun ds st => match ds with
  | [d, c] => match insD st d with
    | some (C, _) => if C ∈ cs then (match clsD c with
      | some u => (tb (.own C) u).map fun b => (.bl b, st)
      | none => none) else none
    | none => opIsi xs tb [d, c] st
  | _ => none
theorem cr_isiI {cs xs : List Str} {tb : Tg → Tg → Option Bool} (hk : X.K = F.K) (T : Isa F.K F.g xs tb) (TC : ∀ C ∈ cs, InsF F.K (F.g C)) : CallR X (.builtin "isinstance") (rN F (opIsiI cs xs tb)) := fun pins s σ H vs us Q I r ⟨W, st, ds, J, rd, p⟩ => by
  unfold opIsiI at p
  split at p
  · rename_i d c
    split at p
    · rename_i C fs hd
      split at p
      · rename_i hC
        split at p
        · rename_i u hu
          cases e : tb (.own C) u with
          | none => rw [e] at p; exact p.elim
          | some b =>
            rw [e] at p
            obtain ⟨v1, v2, rfl, rv1, rv2⟩ := rv2 rd
            obtain ⟨u1, u2, rfl, ru1, ru2⟩ := vals2 r
            have e2 := clsD_val hu rv2 J.g ru2
            subst e2
            have q := J.now p (.bl b)
            have kk := T.tb _ _ _ e
            obtain ⟨a, dx, gs, rfl, ea, _⟩ := insD_at J.sim hd rv1
            rw [J.g, J.h] at ea
            have Z := TC C hC
            rw [← hk] at Z kk
            exact isinst_ok I ru1 (.ins ea Z.cl Z.ca Z.sp Z.tk Z.mr) kk fun tk => ⟨.bl b, H, I.tok tk, rfl, q⟩
        · exact p.elim
      · exact p.elim
    · exact cr_isi hk T pins s σ H vs us Q I r ⟨W, st, _, J, rd, p⟩
  · exact p.elim

/-! ### divmod -/
end
end M
/-! M21: max, sorted texts. -/
namespace M
open PySem PySem.Spec PyProof.Rows L2

section
variable {X : Cx} {F : Fx} {W : Vw} {st : Sto}
end
end M
/-! M22: sorted texts. -/
namespace M
open PySem PySem.Spec PyProof.Rows L2

section
variable {X : Cx} {F : Fx} {W : Vw} {st : Sto}
end
end M
/-! M23: sets of texts: the set itself. -/
namespace M
open PySem PySem.Spec PyProof.Rows L2

def GoodS (w : World) (e : Int × Value) : Prop := ∃ x tk, e.2 = Value.str x tk ∧ e.1 = hashStr w x
def keyS (e : Int × Value) : Str := match e.2 with | .str x _ => x | _ => Str.empty
/-- the set of the texts l (each once) at a; its table rises and can be walked -/
def SetS (w : World) (h : Heap) (a : Addr) (l : List Str) : Prop :=
  ∃ o es ep t, h.get? a = some o ∧ o.ExactSet ∧ o.data = .set es ep t ∧ (∀ e ∈ es.toList, GoodS w e) ∧ (es.toList.map keyS).Perm l ∧ l.Nodup ∧
    es.size < scanBound ∧ t.fits es.size = true ∧ Ris t.place.toList ∧ (w.params.followText "set-order" = true ∨ t.led = true)
section
variable {P : Program} {w : World} {h h' : Heap} {a : Addr} {l : List Str}
theorem SetS.at (R : SetS w h a l) (k : ∀ o, h.get? a = some o → h'.get? a = some o) : SetS w h' a l := by
  obtain ⟨o, es, ep, t, ho, r⟩ := R
  exact ⟨o, es, ep, t, k o ho, r⟩
theorem SetS.typeIs {s : Shared} (R : SetS w s.heap a l) : s.TypeIs (.ref a) "set" := by
  obtain ⟨o, es, ep, t, ho, hx, _⟩ := R
  exact ⟨o, ho, hx.1⟩
end
section
variable {P : Program} {w : World} {A : Around} {E : Value → Shared → Prop} {s : Shared} {a : Addr} {l : List Str}
end
end M
/-! M24: set(xs) for a list of texts, sorted of a set of texts. -/
namespace M
open PySem PySem.Spec PyProof.Rows L2

section
variable {P : Program} {w : World} {A : Around} {R : Result → Shared → Prop} {I : Addr} {fp wr : List Addr} {G : Array GenState → Array GenState → Prop} {n : Nat} {Pv : Nat → Value → Prop} {St : Nat → Shared → Prop}
end
section
variable {P : Program} {w : World} {A : Around} {E : Value → Shared → Prop} {s : Shared}
end
section
variable {P : Program} {w : World} {A : Around} {E : Value → Shared → Prop} {s : Shared} {a : Addr} {l : List Str}
end
end M
/-! M25: sorted(set(e)), texts. -/
namespace M
open PySem PySem.Spec PyProof.Rows L2

section
variable {X : Cx} {F : Fx} {pos : Pos}
end
end M
/-! M26: sorted({..}), texts. -/
namespace M
open PySem PySem.Spec PyProof.Rows L2

section
variable {P : Program} {w : World} {A : Around} {E : Value → Shared → Prop} {s : Shared} {a : Addr} {l : List Str}
end
section
variable {X : Cx}
end
end M
/-! M27: sorted({..}), texts. -/
namespace M
open PySem PySem.Spec PyProof.Rows L2

section
variable {X : Cx} {F : Fx} {pos : Pos}
end
end M
/-! M28: a text times an int. -/
namespace M
open PySem PySem.Spec PyProof.Rows L2

def okS (x : Str) (k : Int) : Prop := -(2 ^ 63) ≤ k ∧ k < 2 ^ 63 ∧ x.length * k.toNat ≤ sizeLine
instance (x : Str) (k : Int) : Decidable (okS x k) := by unfold okS; infer_instance
section
variable {X : Cx} {F : Fx} {pos : Pos} {W : Vw} {st : Sto}
end
end M
/-! M29: enumerate over tuples and lists. -/
namespace M
open PySem PySem.Spec PyProof.Rows L2
open AutoSeq1 (wpAny_loadPart')

section
variable {prog : Program} {w : World} {A : Around} {E : Value → Shared → Prop} {s : Shared}
theorem nextOf_tup_item {it l : Addr} {i : Nat} {items} {x : Value} {Q : Value → Shared → Prop} (hit : s.heap.IsTupleIter it l i)
    (hl : s.heap.IsTuple l items) (hx : items[i]? = some x)
    (hQ : ∀ h', h'.IsTupleIter it l (i + 1) → Heap.SameBut it s.heap h' → Q x { s with heap := h' }) :
    wpAny (model prog w) A (Builtin.SmallTypes.nextOf (.ref it)) Q E s := by
  obtain ⟨o, ho, hc, hd⟩ := id hit
  obtain ⟨ol, hol, _, nl, hdl⟩ := hl
  unfold Builtin.SmallTypes.nextOf
  refine wpAny_bind (wpAny_callSpecial?_slot (name := Str.ofString "__next__") hit.typeIs F.slot_tuple_iterator_next
    (wpAny_call_entry F.slot_tuple_iterator_next hit.typeIs F.entry_tuple_iterator_next ?_ (F.args_tuple_iterator_next_1 _)))
  show wpAny _ _ (field (.ref it) 0 >>= _) _ _ s
  refine wpAny_bind (wpAny_field ho hd (x := .ref l) rfl ?_)
  show wpAny _ _ (if (Value.ref l == Value.none) = true then _ else _) _ _ s
  rw [if_neg (show ¬ ((Value.ref l == Value.none) = true) from Bool.false_ne_true)]
  show wpAny _ _ (field (.ref it) 1 >>= _) _ _ s
  refine wpAny_bind (wpAny_field ho hd (x := .int i 0) rfl ?_)
  show wpAny _ _ (seqItems? (.ref l) >>= _) _ _ s
  refine wpAny_bind (wpAny_seqItems hol hdl ?_)
  simp only [Int.toNat_natCast, hx]
  refine wpAny_bind (wpAny_setField ho hd (by simp) (wpAny_pure ⟨x, rfl, wpAny_pure (hQ _ ?_ (Heap.SameBut.update ..))⟩))
  exact ⟨_, Heap.get?_update_self _ ho (Obj.isFreed_of_fields (Obj.data_mapFields hd _)), (Obj.cls_mapFields ..).trans hc, by
    rw [Obj.data_mapFields hd]; simp [rawInt]⟩

theorem nextOf_tup_end {it l : Addr} {i : Nat} {items} {Q : Value → Shared → Prop} (hh : A.handled = none)
    (hit : s.heap.IsTupleIter it l i) (hl : s.heap.IsTuple l items) (hx : items[i]? = none)
    (hE : ∀ h' e, Heap.ExtBut it s.heap h' → (∃ o, h'.get? e = some o ∧ o.cls = .type "StopIteration") → E (.ref e) { s with heap := h' }) :
    wpAny (model prog w) A (Builtin.SmallTypes.nextOf (.ref it)) Q E s := by
  obtain ⟨o, ho, hc, hd⟩ := id hit
  obtain ⟨ol, hol, _, nl, hdl⟩ := hl
  unfold Builtin.SmallTypes.nextOf
  refine wpAny_bind (wpAny_callSpecial?_slot (name := Str.ofString "__next__") hit.typeIs F.slot_tuple_iterator_next
    (wpAny_call_entry F.slot_tuple_iterator_next hit.typeIs F.entry_tuple_iterator_next ?_ (F.args_tuple_iterator_next_1 _)))
  show wpAny _ _ (field (.ref it) 0 >>= _) _ _ s
  refine wpAny_bind (wpAny_field ho hd (x := .ref l) rfl ?_)
  show wpAny _ _ (if (Value.ref l == Value.none) = true then _ else _) _ _ s
  rw [if_neg (show ¬ ((Value.ref l == Value.none) = true) from Bool.false_ne_true)]
  show wpAny _ _ (field (.ref it) 1 >>= _) _ _ s
  refine wpAny_bind (wpAny_field ho hd (x := .int i 0) rfl ?_)
  show wpAny _ _ (seqItems? (.ref l) >>= _) _ _ s
  refine wpAny_bind (wpAny_seqItems hol hdl ?_)
  simp only [Int.toNat_natCast, hx]
  refine wpAny_bind (wpAny_rule (wpAny_bind (wpAny_setField ho hd (by simp) ?_)))
  show wpAny _ _ (newExc (.type "StopIteration") [] >>= _) _ _ _
  refine wpAny_bind ?_
  simp only [newExc, newTuple]
  refine wpAny_bind (wpAny_newObj_type ?_ (by size_fits))
  refine wpAny_bind (m := firstArgMember _ _) (wpAny_of_eq (a := Value.none) (by first | rfl | (simp only [firstArgMember]; rfl)) ?_)
  refine wpAny_newObj_type ?_ (by size_fits)
  simp only [raiseNew]
  refine wpAny_bind (wpAny_handled ?_)
  first | rw [show A.in1.handled = none from hh] | rw [hh]
  refine wpAny_bind (wpAny_pure (wpAny_throw ?_))
  exact hE _ _ (((Heap.SameBut.update ..).extBut.push _).push _) ⟨_, Heap.get?_push_size _ rfl, rfl⟩


theorem draws_tup {prog : Program} {w : World} {A : Around} (hh : A.handled = none) (it l : Addr) (hne : l ≠ it) (items : Array Value) :
    Draws prog w A it [it, l] items.size (fun i v => items[i]? = some v) (fun i h => h.IsTupleIter it l i ∧ h.IsTuple l items) where
  live := fun _ _ st => let ⟨o, ho, _⟩ := st.1; ⟨o, ho⟩
  frame := fun _ _ _ st hk => ⟨st.1.at fun o e => hk it (by simp) o e, st.2.at fun o e => hk l (by simp) o e⟩
  item := fun i s Q E hi st hQ => by
    refine nextOf_tup_item st.1 st.2 (x := items[i]) (by simp [hi]) fun h' hit' hs' => ?_
    exact hQ _ h' s.toks (by simp [hi]) ⟨hit', st.2.extBut hs'.extBut hne⟩ hs'
  done := fun s Q E st hE => nextOf_tup_end hh st.1 st.2 (by simp) hE

theorem meets_enumT (l : Addr) (items : Array Value) (n : Nat) (dct : Option Addr) (sl : Array (Option Value)) :
    Meets (Builtin.«enumerate.__new__» ⟨[.type "enumerate", .ref l], []⟩) (fun _ R s => s.heap.get? l = some { cls := .type "tuple", dict := dct, data := .seq items n, slots := sl } ∧
      R (.ok (.ret (.ref (s.heap.push { cls := .type "tuple_iterator", data := .fields #[.ref l, .int 0 0] }).objs.size)))
        { s with heap := (s.heap.push { cls := .type "tuple_iterator", data := .fields #[.ref l, .int 0 0] }).push { cls := .type "enumerate", data := .fields #[.none, .bool false, .ref s.heap.objs.size, rawInt 0, .none, .none] } }) :=
  .of_wp fun prog w A R s h => by
    obtain ⟨hp, g, d, tk, os⟩ := s; obtain ⟨hl, h⟩ := h
    have hsub := sub_enumerate
    have hL : Heap.IsTuple (Shared.heap ⟨hp, g, d, tk, os⟩) l items := ⟨_, hl, rfl, n, rfl⟩
    wp_walk using wpAny_loadPart' hl
    refine wpAny_stack_any fun st => wpAny_pure ?_
    split
    · rename_i c _ _ _ _ _
      cases (c == Value.type "enumerate")
      · wp_walk using wpAny_loadPart' hl, wpAny_pyIter_tuple hL
        exact ⟨_, rfl, h⟩
      · wp_walk using wpAny_loadPart' hl, wpAny_pyIter_tuple hL
        exact ⟨_, rfl, h⟩
    · wp_walk using wpAny_loadPart' hl, wpAny_pyIter_tuple hL
      exact ⟨_, rfl, h⟩


theorem call_enumT {l : Addr} {items : Array Value} {Q : Value → Shared → Prop} (hL : s.heap.IsTuple l items)
    (h : ∀ h', IsEnum h' (s.heap.objs.size + 1) s.heap.objs.size 0 .none → h'.IsTupleIter s.heap.objs.size l 0 → h'.objs.size = s.heap.objs.size + 2 →
      (∀ b o, s.heap.get? b = some o → h'.get? b = some o) → Q (.ref (s.heap.objs.size + 1)) { s with heap := h' }) :
    wpAny (model prog w) A (call (.type "enumerate") [.ref l]) Q E s := by
  obtain ⟨⟨c, dct, dt, sl⟩, hl, hc, n, hd⟩ := hL
  replace hc : c = .type "tuple" := hc
  replace hd : dt = .seq items n := hd
  subst hc hd
  refine callType_new F.called_enumerate (by decide) (F.typeCall_enumerate_1 _) (F.newCall_enumerate_1 _) (fun obj => F.args_object_init_2 obj _) F.entry_enumerate_new
    (meets_enumT l items n dct sl) ⟨hl, ?_⟩
  have hz : (s.heap.push { cls := .type "tuple_iterator", data := .fields #[.ref l, .int 0 0] }).objs.size = s.heap.objs.size + 1 := Heap.size_push ..
  show _ ∧ _
  rw [hz]
  have he : IsEnum ((s.heap.push { cls := .type "tuple_iterator", data := .fields #[.ref l, .int 0 0] }).push
      { cls := .type "enumerate", data := .fields #[.none, .bool false, .ref s.heap.objs.size, rawInt 0, .none, .none] }) (s.heap.objs.size + 1) s.heap.objs.size 0 .none := by
    have := Heap.get?_push_size (s.heap.push { cls := .type "tuple_iterator", data := .fields #[.ref l, .int 0 0] })
      (o := { cls := .type "enumerate", data := .fields #[.none, .bool false, .ref s.heap.objs.size, rawInt 0, .none, .none] }) rfl
    rw [hz] at this; exact this
  refine ⟨⟨_, he, rfl⟩, h _ he ⟨_, Heap.get?_push_of_some _ (Heap.get?_push_size _ rfl), rfl, rfl⟩ (by rw [Heap.size_push, hz]) fun b o x => Heap.get?_push_of_some _ (Heap.get?_push_of_some _ x)⟩


theorem wpAny_pyNext_enum_endI {e it l : Addr} {i : Nat} {items : Array Value} {old : Value} {Q : Option Value → Shared → Prop} (hh : A.handled = none)
    (he : IsEnum s.heap e it i old) (hit : s.heap.IsTupleIter it l i) (hl : s.heap.IsTuple l items) (hx : items[i]? = none)
    (hQ : ∀ h', Heap.ExtBut it s.heap h' → Q none { s with heap := h' }) : wpAny (model prog w) A (pyNext (.ref e)) Q E s := by
  have hT : s.TypeIs (.ref e) "enumerate" := ⟨_, he, rfl⟩
  unfold pyNext
  refine wpAny_bind (wpAny_attempt (wpAny_callSpecial?_slot (name := Str.ofString "__next__") hT F.slot_enumerate_next
    (wpAny_call_entry F.slot_enumerate_next hT F.entry_enumerate_next ?_ (F.args_enumerate_next_1 _))))
  show wpAny _ _ (field (.ref e) 2 >>= _) _ _ _
  refine wpAny_bind (wpAny_field he rfl (x := .ref it) rfl ?_)
  refine wpAny_bind (nextOf_tup_end hh hit hl hx fun h' x he' hx' => ?_)
  obtain ⟨o, ho, hc⟩ := hx'
  refine wpAny_bind (wpAny_isInstance (T := "StopIteration") (b := true) ⟨o, ho, hc⟩ isSubtype_stop ?_)
  exact wpAny_pure (hQ _ he')
end
/-- the tuple at a as it stands at each turn, each item in a new pair -/
def Itu (K : PySem.W.Frag) (a : Addr) : It :=
  ⟨fun i H => ∃ (xs : List V) (x : V), SqT K H a xs ∧ xs[i]? = some x, fun i H v H' => ∃ T x, v = .ref T ∧ H T = none ∧ H' = upd H T (.tup [.int (i : Nat), x]) ∧ ∀ xs, SqT K H a xs → xs[i]? = some x, fun i H => ∃ xs : List V, SqT K H a xs ∧ xs.length ≤ i⟩
theorem turn_enumT {P : Program} {w : World} {K : PySem.W.Frag} {elts : List Expr} {kk : Nat} {tpos : Pos} (a e it : Addr) :
    Turn P w K (.Tuple elts kk tpos) (Itu K a) [e, it] e (fun i h => (∃ old, IsEnum h e it ((i : Nat) : Int) old) ∧ h.IsTupleIter it a i ∧ e ≠ it) where
  mem := by simp
  obj := fun i h st b hb => by
    obtain ⟨⟨old, he⟩, ⟨o, ho, hc, hd⟩, _⟩ := st
    have e' : b = e ∨ b = it := by simpa using hb
    rcases e' with z | z
    · rw [z]; exact ⟨_, he, fun v q => nomatch q⟩
    · rw [z]; exact ⟨o, ho, fun v q => by rw [hd] at q; cases q⟩
  keep := fun i h h' st k => let ⟨⟨old, he⟩, hi, hne⟩ := st; ⟨⟨old, k e (by simp) _ he⟩, hi.at fun o q => k it (by simp) o q, hne⟩
  item := by
    intro X hP hw hK hc i pins s σ H E I hf st hg
    subst hP hw hK
    obtain ⟨⟨old, he⟩, hit, hne⟩ := st
    obtain ⟨xs, x, hq, hx⟩ := hg
    obtain ⟨its, rv, p, hz⟩ := I.tuple hq
    obtain ⟨u, hu, ru⟩ := rv.get hx
    have hel : e < s.heap.objs.size := Heap.lt_size he
    have hil : it < s.heap.objs.size := by obtain ⟨_, q, _⟩ := hit; exact Heap.lt_size q
    have hlt : i < its.toArray.size := by
      have := (List.getElem?_eq_some_iff.mp hu).1
      simpa using this
    have hxu : its.toArray[i]? = some u := by simpa using hu
    have hae : a ≠ e := fun z => by
      obtain ⟨o, ho, hc, _⟩ := id (show s.heap.IsTuple a its.toArray from p)
      rw [z, he] at ho
      cases ho
      exact absurd (Value.type.inj hc) (by decide)
    have hai : a ≠ it := fun z => by
      obtain ⟨o, ho, hc, _⟩ := id (show s.heap.IsTuple a its.toArray from p)
      obtain ⟨o2, ho2, hc2, _⟩ := id hit
      rw [z, ho2] at ho
      cases ho
      rw [hc2] at hc
      exact absurd (Value.type.inj hc) (by decide)
    refine wpAny_pyNext_enum_itemD (n := its.toArray.size) (draws_tup (A := X.A.in1) (I.ok.hd hc) it a hai its.toArray) he ⟨hit, p⟩ hlt hne (by simp; exact ⟨hne, fun z => hae z.symm⟩) fun u' h' tk hu' ho hst' hT hsz hk => ?_
    obtain ⟨hit', _⟩ := hst'
    rw [hxu] at hu'
    cases hu'
    refine ⟨_, rfl, wpAny_letOwnedTupleGo_enum (s := { s with heap := h', toks := tk + 1 }) ho fun h'' he' sb => ?_⟩
    have hT2 : h''.get? s.heap.objs.size = some { cls := .type "tuple", data := .seq #[.int i tk, u] } := (sb.2 _ (Nat.ne_of_gt hel)).trans hT
    have new : ObjOk X.prog X.w (upd H s.heap.objs.size (.tup [.int (i : Nat), x])) h'' s.heap.objs.size (.tup [.int (i : Nat), x]) :=
      ⟨by show 2 ≤ sizeLine; decide, [.int i tk, u], .cons ⟨_, rfl⟩ (.cons ru .nil), ⟨_, hT2, rfl, _, rfl⟩⟩
    have I1 : Inv X pins σ (upd H s.heap.objs.size (.tup [.int (i : Nat), x])) { s with heap := h'', toks := tk + 1 } :=
      I.turnedNew (ch := [e, it]) (fun b ob hb q => (sb.2 b (fun z => hb (by simp [z]))).trans (hk b ob (fun z => hb (by simp [z])) (fun z => hb (by simp [z])) q)) hf (Nat.le_refl _) new
    refine ⟨.ref s.heap.objs.size, _, I1, rfl, ⟨_, x, rfl, I.hok.fresh (Nat.le_refl _), rfl, fun ys hy => by rw [I.tuple_inj hy hq]; exact hx⟩, ⟨⟨u, ?_⟩, hit'.at fun o q => (sb.2 it (Ne.symm hne)).trans q, hne⟩, fun b hb => ?_⟩
    · have e1 : ((i + 1 : Nat) : Int) = (i : Int) + 1 := by omega
      rw [e1]; exact he'
    · have hb' : b < s.heap.objs.size := by
        have e' : b = e ∨ b = it := by simpa using hb
        rcases e' with z | z
        · rw [z]; exact hel
        · rw [z]; exact hil
      rw [upd_ne (Nat.ne_of_lt hb')]
      exact (hf b hb).1
  done := by
    intro X hP hw hK hc i pins s σ H E I hf st hg
    subst hP hw hK
    obtain ⟨⟨old, he⟩, hit, hne⟩ := st
    obtain ⟨xs, hq, hx⟩ := hg
    obtain ⟨its, rv, p, hz⟩ := I.tuple hq
    obtain ⟨f0, f1, f2, f3, f4, f5⟩ := hf it (by simp)
    have hl := rv.length
    have hai : a ≠ it := fun z => by
      obtain ⟨o, ho, hc, _⟩ := id (show s.heap.IsTuple a its.toArray from p)
      obtain ⟨o2, ho2, hc2, _⟩ := id hit
      rw [z, ho2] at ho
      cases ho
      rw [hc2] at hc
      exact absurd (Value.type.inj hc) (by decide)
    have hsz : its.toArray.size ≤ i := by simp; omega
    refine wpAny_pyNext_enum_endI (I.ok.hd hc) he hit (show s.heap.IsTuple a its.toArray from p) (by simp; omega) fun h' eb => ⟨rfl, I.turned (t' := s.toks) (fun b o hb q => eb b o hb q) f0 f1 f3 f4 f5⟩
  self := fun A i s Q E st h => let ⟨⟨_, he⟩, _⟩ := st; wpAny_pyIter_enum he h
end M
/-! M30: loops over enumerate(e). -/
namespace M
open PySem PySem.Spec PyProof.Rows L2

def iEnumT (K : PySem.W.Frag) (ta : TA) : L2.TI := fun σ H R => ta σ H fun vs H1 => ∃ a, vs = [.ref a] ∧ ((∃ xs, SqL K H1 a xs ∧ R (Ite K a) H1) ∨ ∃ xs, SqT K H1 a xs ∧ R (Itu K a) H1)
theorem pi_enumT {X : Cx} {e : Expr} {ta : TA} {p pos tpos : Pos} {elts : List Expr} {kk : Nat} (hg : Gl X "enumerate") (hm : X.mg "enumerate" = none) (ha : PA X [e] ta) (hs : starEach [e] X.env = [(false, eval e X.env)] := by rfl) :
    PI X (.Tuple elts kk tpos) (.Call (.Name "enumerate" p) [e] [] pos) (iEnumT X.K ta) := by
  refine ⟨fun pins s σ H R I h => ?_⟩
  refine Call_ (ld_blt I hg hm boot_enumerate (PyProof.Rows.callWith_type1 (thn (ha.run pos pins s σ H _ I h) fun us s1 ⟨vs, H1, I1, r1, q1⟩ => ?_) hs rfl))
  obtain ⟨a, ex, q1⟩ := q1
  subst ex
  cases r1 with
  | cons r rr =>
    cases rr
    cases r
    have fp : ∀ b ∈ [s1.heap.objs.size + 1, s1.heap.objs.size], FpOk X pins H1 b := fun b hb => by
      have e' : b = s1.heap.objs.size + 1 ∨ b = s1.heap.objs.size := by simpa using hb
      have hle : s1.heap.objs.size ≤ b := by
        rcases e' with z | z
        · rw [z]; exact Nat.le_add_right _ _
        · rw [z]; exact Nat.le_refl _
      exact I1.fpOk hle (I1.hok.fresh hle)
    rcases q1 with ⟨xs, hq, q⟩ | ⟨xs, hq, q⟩
    · obtain ⟨its, rv, p', hz⟩ := I1.list hq
      refine call_enumerate_list p'.isList fun h' he hit hsz hk => wpAny_pyIter_enum he ?_
      exact ⟨s1.heap.objs.size + 1, [s1.heap.objs.size + 1, s1.heap.objs.size], _, _, H1, rfl, I1.kept (t' := s1.toks) hk, turn_enum a (s1.heap.objs.size + 1) s1.heap.objs.size, ⟨⟨.none, he⟩, hit, Nat.succ_ne_self _⟩, fp, q⟩
    · obtain ⟨its, rv, p', hz⟩ := I1.tuple hq
      refine call_enumT (show s1.heap.IsTuple a its.toArray from p') fun h' he hit hsz hk => wpAny_pyIter_enum he ?_
      exact ⟨s1.heap.objs.size + 1, [s1.heap.objs.size + 1, s1.heap.objs.size], _, _, H1, rfl, I1.kept (t' := s1.toks) hk, turn_enumT a (s1.heap.objs.size + 1) s1.heap.objs.size, ⟨⟨.none, he⟩, hit, Nat.succ_ne_self _⟩, fp, q⟩
def nxE (xs : List D) : Nx := fun i st => match xs[i]? with
  | some d => some (some (.tup [.int i, d]))
  | none => some none
def kEnumW : List D → Sto → R (Nx × Nat) := fun ds s => match ds with
  | [.tup xs] => .ok (nxE xs, xs.length) s
  | [.lst xs] => .ok (nxE xs, xs.length) s
  | _ => .bad
def wEnum (j : IA) : IW := fun env st => (j env st).bind kEnumW
section
variable {W : Vw} {X : Cx} {F : Fx} {pos : Pos}
theorem pair_new {V : Vw} {st : Sto} {T : Addr} {i : Nat} {d : D} {v : L2.V} (S : Sim V st) (hT : V.H T = none) (rv : RV V d v) :
    Ext V V.ρ (upd V.H T (.tup [.int (i : Nat), v])) ∧ Sim (V.to V.ρ (upd V.H T (.tup [.int (i : Nat), v]))) st ∧ RV (V.to V.ρ (upd V.H T (.tup [.int (i : Nat), v]))) (.tup [.int i, d]) (.ref T) :=
  ⟨ext_new0 hT, S.new0 hT, .tup (.inl ⟨.inl upd_same, new_fro S hT⟩) (.cons (.int i) (.cons (rv.mono (ext_new0 hT)) .nil))⟩
theorem itok_enumT {a : Addr} {xs : List D} {ys : List L2.V} {m : Nat} (t : W.Tup a ys) (r : RVs W xs ys) : ItOk W (nxE xs, m) (Itu W.K a) where
  go := fun V st i d x S e => by
    have e0 : nxE xs i st = some (some d) := e
    unfold nxE at e0
    split at e0
    · rename_i z e'
      cases e0
      have t' := (t.vx x).sq
      have r' := r.vx x
      rw [x.k] at t'
      obtain ⟨v, hv, rv⟩ := r'.get e'
      refine ⟨⟨ys, v, t', hv⟩, fun y H2 ⟨T, u, ey, hT, e2, f⟩ => ?_⟩
      subst ey
      subst e2
      have q := f ys t'
      rw [hv] at q
      cases q
      exact pair_new S hT rv
    · cases e0
  stop := fun V st i x S e => by
    have e0 : nxE xs i st = some none := e
    unfold nxE at e0
    split at e0
    · cases e0
    · rename_i e'
      refine ⟨ys, by rw [← x.k]; exact (t.vx x).sq, ?_⟩
      rw [← r.length]
      exact List.getElem?_eq_none_iff.mp e'
theorem itok_enumL {a : Addr} {xs : List D} {ys : List L2.V} {m : Nat} (t : W.Lst a ys) (r : RVs W xs ys) : ItOk W (nxE xs, m) (Ite W.K a) where
  go := fun V st i d x S e => by
    have e0 : nxE xs i st = some (some d) := e
    unfold nxE at e0
    split at e0
    · rename_i z e'
      cases e0
      have t' := (t.vx x).sq
      have r' := r.vx x
      rw [x.k] at t'
      obtain ⟨v, hv, rv⟩ := r'.get e'
      refine ⟨⟨ys, v, t', hv⟩, fun y H2 ⟨T, u, ey, hT, e2, f⟩ => ?_⟩
      subst ey
      subst e2
      have q := f ys t'
      rw [hv] at q
      cases q
      exact pair_new S hT rv
    · cases e0
  stop := fun V st i x S e => by
    have e0 : nxE xs i st = some none := e
    unfold nxE at e0
    split at e0
    · cases e0
    · rename_i e'
      refine ⟨ys, by rw [← x.k]; exact (t.vx x).sq, ?_⟩
      rw [← r.length]
      exact List.getElem?_eq_none_iff.mp e'
/-- for x, y in enumerate(e) -/
theorem w_enum {elts : List Expr} {kk : Nat} {tpos p : Pos} {e : Expr} {j : IA} (hk : X.K = F.K) (hg : Gl X "enumerate") (hm : X.mg "enumerate" = none) (ha : PA X [e] (TA_ F j)) (hs : starEach [e] X.env = [(false, eval e X.env)] := by rfl) :
    PI X (.Tuple elts kk tpos) (.Call (.Name "enumerate" p) [e] [] pos) (TW F (wEnum j)) := PI.imp (pi_enumT hg hm ha hs) fun σ H Q h =>
  (TX.bind (k := fun ds env s => kEnumW ds s) h).mono fun x H1 ⟨W, s, env, ds, A, r, p⟩ => by
    have p' : Post W ItOk (kEnumW ds s) Q (F.at_ σ) := p
    unfold kEnumW at p'
    split at p'
    · rename_i xs
      obtain ⟨v, rfl, rv⟩ := rv1 r
      cases rv with
      | tup t r2 =>
        have q := p' W.ρ W.H _ Ext.refl A.sim (itok_enumT t r2)
        have t' := t.sq
        rw [A.k, ← hk] at q t'
        rw [A.h] at q t'
        exact ⟨_, rfl, .inr ⟨_, t', q⟩⟩
    · rename_i xs
      obtain ⟨v, rfl, rv⟩ := rv1 r
      cases rv with
      | lst t r2 =>
        have q := p' W.ρ W.H _ Ext.refl A.sim (itok_enumL t r2)
        have t' := t.sq
        rw [A.k, ← hk] at q t'
        rw [A.h] at q t'
        exact ⟨_, rfl, .inl ⟨_, t', q⟩⟩
    · exact p'.elim
end
end M
/-! M31: x, y, z = a, b, c. -/
namespace M
open PySem PySem.Spec PyProof.Rows L2
section
variable {X : Cx} {F : Fx} {pos : Pos}
/-- x, y, z = a, b, c: all three first -/
def sPar3 (i j l : Nat) (a : IA) : IS := fun env st => liftS (a env st) env fun ds s => match ds with
  | [d, e, f] => .nx (((env.set i (some d)).set j (some e)).set l (some f)) s
  | _ => .bad
end
end M
/-! M32: any target ahead in a tuple of targets. -/
namespace M
open PySem PySem.Spec PyProof.Rows L2
section
variable {X : Cx} {F : Fx} {pos : Pos}
def gsCons (g : IG) (h : IGs) : IGs := fun ds env st => match ds with
  | d :: ds => (g d env st).bind fun env' s => h ds env' s
  | [] => .bad
theorem gs_cons {e : Expr} {es : List Expr} {g : IG} {h : IGs} (h1 : PG X e (TG_ F g)) (h2 : PGs X es (TGs_ F h)) (ne : ∀ ds env st C fs s, h ds env st ≠ .exc C fs s)
    (hs : (assignEach (e :: es) X.env).map (·.2) = assign e X.env :: (assignEach es X.env).map (·.2) := by rfl) : PGs X (e :: es) (TGs_ F (gsCons g h)) := by
  refine ⟨fun pins s σ H vs us Q I r w => (pgs_cons (X := X) h1 h2 hs).run pins s σ H vs us Q I r ?_⟩
  obtain ⟨W, s, env, ds, A, rv, p⟩ := w
  unfold gsCons at p
  split at p
  · rename_i d ds
    cases rv with
    | cons r1 r3 =>
      refine ⟨_, _, rfl, W, s, env, d, A, r1, ?_⟩
      cases q : g d env s with
      | bad => rw [q] at p; exact p
      | exc C fs s2 => rw [q] at p; exact p
      | ok e2 s2 =>
        rw [q] at p
        intro ρ' H' σ' x S er
        refine ⟨W.to ρ' H', s2, e2, ds, ⟨A.k, A.g, rfl, S, er⟩, r3.mono x, ?_⟩
        have p2 : Post W PE_ (h ds e2 s2) Q (F.at_ σ) := p
        have p3 := Post.ext x p2
        cases z : h ds e2 s2 with
        | ok e3 s3 => rw [z] at p3; exact p3
        | exc C fs s3 => exact absurd z (ne _ _ _ _ _ _)
        | bad => rw [z] at p3; exact p3
  · exact p.elim
end
end M
/-! M33: recursion by fuel: with no fuel nothing is promised. -/
namespace M
open PySem PySem.Spec PyProof.Rows L2
end M
/-! M34: tuples of the module, walks of texts, of anything; str of a text; own classes' facts; the Hook with properties. -/
namespace M
open PySem PySem.Spec PyProof.Rows L2

/-! ### a tuple written at the module's top -/
section
variable {X : Cx} {F : Fx} {pos : Pos}
/-! ### walks -/
def nxS (x : Str) : Nx := fun i _ => match x.cps[i]? with
  | some c => some (some (.str ⟨#[c]⟩))
  | none => some none
theorem itok_str {W : Vw} {x : Str} {m : Nat} : ItOk W (nxS x, m) (Its x) where
  go := fun V st i d vx S e => by
    have e' : (match x.cps[i]? with
      | some c => some (some (D.str ⟨#[c]⟩))
      | none => some none) = some (some d) := e
    cases q : x.cps[i]? with
    | none => rw [q] at e'; cases e'
    | some c =>
      rw [q] at e'
      cases e'
      refine ⟨(Array.getElem?_eq_some_iff.mp q).1, fun y H2 ⟨e2, c', h1, h2⟩ => ?_⟩
      rw [q] at h1
      cases h1
      subst h2 e2
      exact ⟨Ext.refl, S, .str _⟩
  stop := fun V st i vx S e => by
    have e' : (match x.cps[i]? with
      | some c => some (some (D.str ⟨#[c]⟩))
      | none => some none) = some none := e
    cases q : x.cps[i]? with
    | none => exact Array.getElem?_eq_none_iff.mp q
    | some c => rw [q] at e'; cases e'
def kStrW (d : D) (s : Sto) : R (Nx × Nat) := match d with
  | .str x => .ok (nxS x, x.cps.size) s
  | _ => .bad
def wStr (i : IE) : IW := fun env st => (i env st).bind kStrW
theorem w_str {tg l : Expr} {i : IE} (hl : PE X l (TI F i)) : PI X tg l (TW F (wStr i)) := PI.imp (pi_str hl) fun σ H Q h =>
  (TX.bind (k := fun d env s => kStrW d s) h).mono fun x H1 ⟨W, s, env, d, A, r, p⟩ => by
    have p' : Post W ItOk (kStrW d s) Q (F.at_ σ) := p
    unfold kStrW at p'
    split at p'
    · cases r
      have q := p' W.ρ W.H _ Ext.refl A.sim itok_str
      rw [A.h] at q
      exact ⟨_, rfl, q⟩
    · exact p'.elim
end
end M
/-! M35: str of a text or an int; own classes' facts; the Hook with properties. -/
namespace M
open PySem PySem.Spec PyProof.Rows L2
open He (eqO eqO_ok ba)

section
variable {X : Cx} {F : Fx} {W : Vw} {st : Sto} {pos : Pos}
/-- walks of tuples, lists, texts -/
def kAnyW (d : D) (s : Sto) : R (Nx × Nat) := match d with
  | .tup _ => kTupW d s
  | .str _ => kStrW d s
  | _ => kSeqW d s
def wAny (i : IE) : IW := fun env st => (i env st).bind kAnyW
theorem PI.or {tg e : Expr} {t t' : L2.TI} (h : PI X tg e t) (h' : PI X tg e t') : PI X tg e (fun σ H R => t σ H R ∨ t' σ H R) := ⟨fun p s σ H Q I q => q.elim (h.run p s σ H Q I) (h'.run p s σ H Q I)⟩
end
/-! ### own classes -/
theorem insB_ok {K : PySem.W.Frag} {x : Str} (h : insB K x = true) : InsF K (He.ga K x) := by
  obtain ⟨h1, h⟩ := ba h
  obtain ⟨h2, h⟩ := ba h
  obtain ⟨h3, h⟩ := ba h
  obtain ⟨h4, h5⟩ := ba h
  exact ⟨He.cls_ok h1, eqO_ok h2, eqO_ok h3, of_decide_eq_true h4, of_decide_eq_true h5⟩
theorem eqcB_ok {K : PySem.W.Frag} {x : Str} {ts : List String} (h : eqcB K x ts = true) : EqC K (He.ga K) x (He.ma K (He.ga K x) "__eq__") ts := by
  obtain ⟨h1, h⟩ := ba h
  obtain ⟨h2, h⟩ := ba h
  obtain ⟨h3, h⟩ := ba h
  obtain ⟨h4, h5⟩ := ba h
  exact ⟨eqO_ok h1, h2, eqO_ok h3, of_decide_eq_true h4, fun t ht => of_decide_eq_true (List.all_eq_true.mp h5 t ht)⟩
theorem slotB_ok {K : PySem.W.Frag} {x m : Str} (h : slotB K x m = true) : PySem.W.findIn K (.ref (He.ga K x)) m = some (some (.ref (He.ma K (He.ga K x) m))) ∧ PySem.W.isFn K (.ref (He.ma K (He.ga K x) m)) = true := ⟨eqO_ok (ba h).1, (ba h).2⟩
structure StatOf (K : PySem.W.Frag) (C : Addr) (f : Str) (p g : Addr) : Prop where
  rd : PySem.W.readsIn K C (.type "type") = true
  ga : PySem.W.specialIn K (.ref C) "__getattribute__" = some (some (.builtin "type.__getattribute__"))
  at_ : PySem.W.findCls K (.ref C) (.type "type") f = some (.get (.builtin "staticmethod.__get__") (.ref p) .none (.ref C))
  rc : ∃ rest, PySem.W.recIn K p "staticmethod" = some (.ref g :: rest)
theorem statB_ok {K : PySem.W.Frag} {x f : Str} (h : statB K x f = true) : StatOf K (He.ga K x) f (ppA K x f) (sfA K x f) := by
  obtain ⟨h1, h⟩ := ba h
  obtain ⟨h2, h⟩ := ba h
  obtain ⟨h3, h4⟩ := ba h
  refine ⟨h1, eqO_ok h2, ?_, ?_⟩
  · split at h3
    · rename_i g p D e
      obtain ⟨k1, k⟩ := ba h3
      obtain ⟨k2, k3⟩ := ba k
      rw [e, of_decide_eq_true k1, of_decide_eq_true k2, of_decide_eq_true k3]
    · cases h3
  · unfold isRef at h4
    split at h4
    · rename_i a r e
      rw [of_decide_eq_true h4] at e
      exact ⟨r, e⟩
    · cases h4
theorem PD.funD {K : PySem.W.Frag} {d : PD} (e : fnA K (d.adr K) = d.val) (c : d.ok K = true) : ∃ fd, FunD K d.name d.qual d.params d.body d.scope [] [] (d.adr K) fd := by
  obtain ⟨_, c⟩ := ba c
  obtain ⟨kp, c2⟩ := ba c
  unfold fnA at e
  cases q : K.lookup (d.adr K) with
  | none =>
    rw [q] at c2
    cases c2
  | some o =>
    obtain ⟨oc, od, dt, osl⟩ := o
    rw [q] at c2 e
    cases dt with
    | func fd =>
      obtain ⟨n1, n2, n3, n4, n5, n6, n7, n8, n9, n10, n11, n12, n13, n14, n15⟩ := fd
      have e2 : (some (n1, n2, n3, n4, n5, n6, n7, n15) : He.FnW) = some (d.name, d.qual, d.params, .stmts d.body, d.scope, mainGlobals, [], builtinsNs) := e
      simp only [Option.some.injEq, Prod.mk.injEq] at e2
      obtain ⟨h1, h2, h3, h4, h5, h6, h7, h8⟩ := e2
      subst h1 h2 h3 h4 h5 h6 h7 h8
      have c3 : (PySem.W.codeIn K n13 d.qual && (He.dflB K n8 [] && He.kwdB K n9 [])) = true := c2
      obtain ⟨k1, k2⟩ := ba c3
      obtain ⟨k3, k4⟩ := ba k2
      exact ⟨_, ⟨oc, od, n8, n9, n10, n11, n12, n13, n14, osl, rfl, q, k1, He.dflB_ok k3, He.kwdB_ok k4⟩, kp⟩
    | _ => cases c2
/-! ### the Hook -/
section
variable {n : Nat} {B : PySem.W.Frag → Bool} {fa : List He.Fa} {fn : List He.DefD} {pd : List PD} {K : PySem.W.Frag}
theorem SaysP.says (c : SaysP B fa fn pd K) : He.SaysD fa fn K := congrArg (fun z : AlP => z.2.1) c
theorem SaysP.bb (c : SaysP B fa fn pd K) : (B K && pd.all (fun d => d.ok K)) = true := congrArg (fun z : AlP => z.1) c
theorem SaysP.b (c : SaysP B fa fn pd K) : B K = true := (ba c.bb).1
theorem SaysP.pdd (c : SaysP B fa fn pd K) (i : Nat) {d : PD} (h : pd[i]? = some d) : d.ok K = true ∧ ∃ fd, FunD K d.name d.qual d.params d.body d.scope [] [] (d.adr K) fd := by
  have c1 := List.all_eq_true.mp (ba c.bb).2 d (List.mem_of_getElem? h)
  have e : pd.map (fun d => fnA K (d.adr K)) = pd.map PD.val := congrArg (fun z : AlP => z.2.2) c
  have e2 : (pd.map fun d => fnA K (d.adr K))[i]? = (pd.map PD.val)[i]? := by rw [e]
  rw [List.getElem?_map, List.getElem?_map, h] at e2
  exact ⟨c1, PD.funD (Option.some.inj e2) c1⟩
theorem SaysP.stat (c : SaysP B fa fn pd K) (i : Nat) {d : PD} (h : pd[i]? = some d := by rfl) (hs : d.stat = true := by rfl) : StatOf K (He.ga K d.cls) d.fld (ppA K d.cls d.fld) (sfA K d.cls d.fld) ∧ ∃ fd, FunD K d.name d.qual d.params d.body d.scope [] [] (sfA K d.cls d.fld) fd := by
  obtain ⟨c1, c2⟩ := c.pdd i h
  unfold PD.adr at c2
  unfold PD.ok at c1
  rw [hs] at c1 c2
  exact ⟨statB_ok (ba c1).1, c2⟩
end
end M
/-! M36: walks of anything; lists of both kinds added, extended; defs that read the store and hand back plain values. -/
namespace M
open PySem PySem.Spec PyProof.Rows L2
section
variable {X : Cx} {F : Fx} {W : Vw} {st : Sto} {pos : Pos}
theorem w_any {tg l : Expr} {i : IE} (hk : X.K = F.K) (hl : PE X l (TI F i)) : PI X tg l (TW F (wAny i)) := PI.imp (PI.or (w_tup hk hl) (PI.or (w_str hl) (w_seq hk hl))) fun σ H Q ⟨W, st, env, A, p⟩ => by
  have p' : Post W ItOk ((i env st).bind kAnyW) Q (F.at_ σ) := p
  cases e : i env st with
  | bad => rw [e] at p'; exact p'.elim
  | exc C fs s =>
    rw [e] at p'
    refine .inr (.inr ⟨W, st, env, A, ?_⟩)
    show Post W ItOk ((i env st).bind kSeqW) Q (F.at_ σ)
    rw [e]; exact p'
  | ok d s =>
    rw [e] at p'
    have p2 : Post W ItOk (kAnyW d s) Q (F.at_ σ) := p'
    unfold kAnyW at p2
    split at p2
    · refine .inl ⟨W, st, env, A, ?_⟩
      show Post W ItOk ((i env st).bind kTupW) Q (F.at_ σ)
      rw [e]; exact p2
    · refine .inr (.inl ⟨W, st, env, A, ?_⟩)
      show Post W ItOk ((i env st).bind kStrW) Q (F.at_ σ)
      rw [e]; exact p2
    · refine .inr (.inr ⟨W, st, env, A, ?_⟩)
      show Post W ItOk ((i env st).bind kSeqW) Q (F.at_ σ)
      rw [e]; exact p2
/-! ### lists added -/
theorem alst_lse (S : Sim W st) {d : D} {v : V} {xs : List D} (h : alst st d = some xs) (r : RV W d v) : ∃ a ys, v = .ref a ∧ LsE W.K W.H a ys ∧ RVs W xs ys := by
  cases d with
  | lst zs => cases h; exact lst_at r
  | ref n =>
    obtain ⟨_, a, ys, _, rfl, _, _, e, r2⟩ := mlst_at S (d := .ref n) (xs := xs) h r
    exact ⟨a, ys, rfl, .inl (.inl e), r2⟩
  | _ => cases h
/-- a new list -/
def opAddM : Op2 := fun a b st => match alst st a, alst st b with
  | some xs, some ys => if xs.length + ys.length ≤ sizeLine then some (.ref st.length, st ++ [.lst (xs ++ ys)]) else none
  | _, _ => none
theorem or_addM (hk : X.K = F.K) : OpR X (binaryOp .Add) (r2 F opAddM) := OpR.imp op_catL fun x y H Q ⟨W, st, a, b, I, ra, rb, p⟩ => by
  unfold opAddM at p
  split at p
  · rename_i xs ys h1 h2
    split at p
    · rename_i c
      obtain ⟨q, xs', rfl, t1, r⟩ := alst_lse I.sim h1 ra
      obtain ⟨u, ys', rfl, t2, r'⟩ := alst_lse I.sim h2 rb
      have eH := I.h
      subst eH
      rw [I.k, ← hk] at t1 t2
      exact ⟨q, u, _, _, rfl, rfl, t1, t2, by rw [← r.length, ← r'.length]; exact c, fun z hz => p.list I.sim (r.append r') hz⟩
    · exact p.elim
  · exact p.elim
end
/-! ### a def that reads the store and hands back a plain value -/
def plainD : Nat → D → Bool
  | 0, _ => false
  | n + 1, d => match d with
    | .non => true
    | .bl _ => true
    | .int _ => true
    | .str _ => true
    | .tup xs => xs.all (plainD n)
    | _ => false
def pureT (f : Fn) : Fn := fun ds st => match allP (frz st 70) ds with
  | some ds' => (match f ds' [] with
    | .ok d _ => if plainD 20 d = true then .ok d st else .bad
    | _ => .bad)
  | none => .bad
section
variable {P : Program} {w : World} {K : PySem.W.Frag} {mg : Str → Option Value} {base : Heap} {g : GG} {k : Nat} {fa : Addr} {fd : FuncData} {ps : List Str} {f : Fn}
end
end M
/-! M37: what the printed walks lean on. -/
namespace M
open PySem PySem.Spec PyProof.Rows L2
section
variable {K : PySem.W.Frag} {x qual : Str} {params : Arguments} {body : List Stmt} {scope : Scope} {f : Addr} {fd : FuncData} {ps ks : List Str} {v : Value} {ws : List Value} {s : Shared}
end
end M
/-! M38: defs called where an exception is handled, that look at none of it. -/
namespace M
open PySem PySem.Spec PyProof.Rows L2
section
variable {P : Program} {w : World} {K : PySem.W.Frag} {mg : Str → Option Value} {base : Heap} {g : GG}
/-- a def's promise, be an exception handled or not -/
structure FnW (P : Program) (w : World) (K : PySem.W.Frag) (mg : Str → Option Value) (base : Heap) (k : Nat) (f : Addr) (fd : FuncData) (ps : List Str) (sp : Sp) : Prop where
  len : ∀ vs H Q E, sp vs H Q E → vs.length = ps.length
  run : ∀ (A : Around) (outer : List PySem.Env) (s : Shared) (H : Hp) (args : Args) (us : List Value) (vs : List V) (Q : VK) (E : XK), L2H.RoomH k A → A.guards = some [] → Env0 P w K mg base A outer s H → BindsTo s fd args (ps.zip us) → Vals vs us → sp vs H Q E →
    codeAny (model P w) A (.call (.ref f) args) (CR (L2N.CX P w) outer P w H s Q E) s
theorem FnW.mono {j k : Nat} {f : Addr} {fd : FuncData} {ps : List Str} {sp : Sp} (G : FnW P w K mg base j f fd ps sp) (h : j ≤ k) : FnW P w K mg base k f fd ps sp := ⟨G.len, fun A o s H a us vs Q E hr => G.run A o s H a us vs Q E (hr.mono h)⟩
theorem FnW.imp {k : Nat} {f : Addr} {fd : FuncData} {ps : List Str} {sp sp' : Sp} (G : FnW P w K mg base k f fd ps sp) (h : ∀ vs H Q E, sp' vs H Q E → sp vs H Q E) : FnW P w K mg base k f fd ps sp' :=
  ⟨fun vs H Q E q => G.len vs H Q E (h _ _ _ _ q), fun A o s H a us vs Q E hr hg e b v q => G.run A o s H a us vs Q E hr hg e b v (h _ _ _ _ q)⟩
/-- the context of such a def's body -/
abbrev cxW (CX : CXT) (P : Program) (w : World) (K : PySem.W.Frag) (mg : Str → Option Value) (base : Heap) (N : List Str) (qual : Str) (scope : Scope) (f : Addr) (cd : Value) (A : Around) (outer : List PySem.Env) (s : Shared) (H : Hp) (E : XK) : Cx :=
  { cxOf CX P w K mg base N qual scope f cd A outer s H E with calm := false }
theorem inv_startW {CX : CXT} {N ps : List Str} {qual : Str} {scope : Scope} {f : Addr} {cd : Value} {A : Around} {outer : List PySem.Env} {s s1 : Shared} {H : Hp} {E : XK} {us : List Value} {vs : List V}
    (S : FnScope N ps scope) (e0 : Env0 P w K mg base A outer s H) (hl : vs.length = ps.length) (r : Vals vs us)
    (x : InCallC s s.heap.objs.size (bindL (envOfC qual scope s.heap.objs.size f cd).kindOf (ps.zip us) fun _ => none) (cellsFrom (s.heap.objs.size + 1) scope.names []) (bindC (envOfC qual scope s.heap.objs.size f cd).kindOf (ps.zip us) fun _ => none) s1) :
    Inv (cxW CX P w K mg base N qual scope f cd A outer s H E) [] (L2.start N vs) H s1 := by
  have hpl : ps.length ≤ N.length := by have := congrArg List.length S.pre; rw [List.length_take] at this; omega
  obtain ⟨h1, tk, rfl, hk⟩ := x.done
  have noA : ∀ b : Addr, b ∉ (cxW CX P w K mg base N qual scope f cd A outer s H E).ex := fun b z => absurd (show b ∈ ([] : List Addr) from z) (by simp)
  refine ⟨⟨e0.mod, S.kind, rfl, rfl, Nat.le_refl _, fun y z c h1 h2 => ?_, fun y hy => ?_, fun y c _ h => ?_, (fun z => Bool.noConfusion (show false = true from z)), Around.frames_deeper e0.frames, .inr ⟨rfl, rfl⟩, fun b z => absurd z (noA b), e0.bs, e0.bsz, fun b _ _ => noA b, fun b z => absurd z (noA b), e0.funs, e0.frf⟩,
    rfl, e0.bare, Un.kept hk, ⟨_, x.toInCall.ns, fun i y v h1 h2 h3 => ?_⟩, fun y c h => ⟨_, x.cell y c h⟩, e0.hok.fresh (Nat.le_refl _), fun y c h => ?_, fun q hq => absurd (show q ∈ ([] : List (Addr × Obj)) from hq) (by simp), e0.hok.kept hk, ?_⟩
  · exact name_of_addr x.apart (PySem.mem_of_lookup h1) (PySem.mem_of_lookup h2)
  · have hy : scope.names.lookup y = some .cell ∨ scope.names.lookup y = some .free := hy
    rcases hy with hy | hy
    · exact cell_has hy
    · exact absurd rfl (S.nofree _ (PySem.mem_of_lookup hy))
  · exact Nat.le_of_lt (x.above y c (PySem.mem_of_lookup h))
  · have hi : i < vs.length := by
      unfold L2.start at h2
      by_cases hi : i < vs.length
      · exact hi
      · rw [List.getElem?_append_right (by simpa using hi)] at h2
        rw [List.getElem?_replicate] at h2
        split at h2 <;> cases h2
    have ha : vs[i]? = some v := by
      unfold L2.start at h2
      rw [List.getElem?_append_left (by simpa using hi), List.getElem?_map] at h2
      cases e : vs[i]? with
      | none => rw [e] at h2; cases h2
      | some a => rw [e] at h2; cases h2; rfl
    obtain ⟨u, hu, rv⟩ := r.get ha
    have hp : ps[i]? = some y := by
      rw [← S.pre, List.getElem?_take_of_lt (by omega)]; exact h1
    have ndP : ps.Nodup := by rw [← S.pre]; exact S.nd.sublist (List.take_sublist _ _)
    refine ⟨u, rv, ?_⟩
    rcases S.par y (List.mem_of_getElem? hp) with k | k
    · exact .inl ⟨k, bindL_get ndP hp hu k⟩
    · obtain ⟨c, e⟩ := cell_has (n := s.heap.objs.size + 1) k
      refine .inr ⟨.inl k, c, e, ?_⟩
      have q := x.cell y c e
      rw [bindC_get ndP hp hu (by show scope.names.lookup y ≠ _; rw [k]; decide)] at q
      exact q
  · exact e0.hok.fresh (Nat.le_of_lt (x.above y c (PySem.mem_of_lookup h)))
  · unfold L2.start
    show _ = N.length
    rw [List.length_append, List.length_map, List.length_replicate]
    omega
end
/-! ### calls of such defs -/
section
variable {X : Cx} {F : Fx} {k : Nat} {f : Addr} {fd : FuncData} {ps : List Str} {ds : List Value} {dvs : List V} {x : Str} {p pos : Pos} {e : Expr} {es : List Expr} {fs : Fn} {j : IA} {dd : List D}
end
end M
/-! M39: an exception is made and raised. -/
namespace M
open PySem PySem.Spec PyProof.Rows L2
section
variable {X : Cx} {CX : CXT} {k n : Nat} {fI C : Addr} {fd : FuncData} {ps : List Str}
theorem del_upd {H : Hp} {a d : Addr} {o1 o2 u : HO} (na : H a = none) (ne : d ≠ a) : upd (L2.del (upd (upd H d o1) a o2) a) d u = upd H d u := by
  funext b
  by_cases e : b = d
  · rw [e, upd_same, upd_same]
  · rw [upd_ne e, upd_ne e]
    by_cases e2 : b = a
    · rw [e2, del_same, na]
    · rw [del_ne e2, upd_ne e2, upd_ne e]
theorem mk_endN {pins : List (Addr × Obj)} {σ : L2.St} {H1 H2 : Hp} {Q : XK} {hp hp2 h2 : Heap} {g1 g2 : Array GenState} {d1 d2 : Drawn} {t1 t2 : Nat} {os1 os2 : OsState} {a C d : Addr} {fs : List (Str × V)} (T : Raises X (.ref C)) (I1 : Inv X pins σ H1 ⟨hp, g1, d1, t1, os1⟩)
    (ha : hp.objs.size ≤ a) (k : ∀ b o, hp.get? b = some o → hp2.get? b = some o) (un : Un (frs X.stack) [] (upd H1 a (exo a C none)) H2 hp2 h2) (hok : HOk X.prog X.w H2 h2) (ho : os2 = os1) (hb : AllBare g2)
    (ea : H2 a = some (exo a C (some d))) (ed : H2 d = some (exd d fs)) (hd1 : H1 d = none) (q : Q (.ref C) (some d) (upd (L2.del H2 a) d (.xd fs))) : L2N.MkP X pins σ Q (.ref a) ⟨h2, g2, d2, t2, os2⟩ := by
  obtain ⟨t0, G, J, kG, ge, hoe, na⟩ := mk_end0 (d2 := d2) (t2 := t2) I1 ha k un hok ho hb ea ed hd1
  exact ⟨a, _, _, ⟨G, g2, d2, t2, os2⟩, _, .ref C, some d, rfl, J, kG, ge, hoe, ⟨rfl, rfl, fun vs e => by cases e; rfl⟩, rfl, rfl, na, rfl, hb, T, q⟩
theorem run_mkr {pins : List (Addr × Obj)} {σ : L2.St} {H : Hp} {s : Shared} {Q : XK} {us : List Value} {vs ys : List V} {g : List Value → List Value → List Value} {gV : List V → List V → List V} {fs : List Str} (T : XC X.K C) (rs : Raises X (.ref C)) (iC : PySem.W.findIn X.K (.ref C) "__init__" = some (some (.ref fI))) (tI : PySem.W.typeIn X.K (.ref fI) = some (.type "function"))
    (F1 : FnOk X.prog X.w X.K X.mg X.base CX k fI fd ps (spX X.K fs)) (hr : Room (k + 1) X.A) (hb : KBn X.K fd ps (n + 1) [] g gV) (hx : Passes CX X (fun _ _ _ => False)) (I : Inv X pins σ H s) (r : Vals vs us) (hl : vs.length ≤ 1000) (l1 : vs.length = n)
    (hg : ∀ a, gV (.ref a :: vs) [] = .ref a :: ys) (hy : ys.length = fs.length) (hf : ∀ f ∈ fs, PySem.W.findIn X.K (.ref C) f = some none)
    (q : ∀ d, H d = none → Q (.ref C) (some d) (upd H d (.xd (fs.zip ys).reverse))) :
    wpAny (model X.prog X.w) X.A (call (.ref C) us []) (L2N.MkP X pins σ Q) X.xe s := by
  obtain ⟨B, newId, initId, tail, b, nm, qn, N, bs, bm, sn, sub, ab, col, dd, k0, k1, k2, k3, k5, hC, hbm⟩ := T.cls
  obtain ⟨hp, g0, dr, tk, os⟩ := s
  have hsz : hp.objs.size ≤ hp.objs.size + 1 := Nat.le_succ _
  have hn : H (hp.objs.size + 1) = none := I.hok.fresh hsz
  have kk : ∀ b o, hp.get? b = some o → ((hp.push (PySem.W.kdv_tup us)).push (PySem.HandSPX.excO C hp.objs.size)).get? b = some o := fun b o e => Heap.get?_push_of_some _ (Heap.get?_push_of_some _ e)
  have hget : ((hp.push (PySem.W.kdv_tup us)).push (PySem.HandSPX.excO C hp.objs.size)).get? (hp.objs.size + 1) = some (PySem.HandSPX.excO C hp.objs.size) := by heap_get
  have I2 : Inv X pins σ (upd H (hp.objs.size + 1) (exo (hp.objs.size + 1) C none)) ⟨(hp.push (PySem.W.kdv_tup us)).push (PySem.HandSPX.excO C hp.objs.size), g0, dr, tk, os⟩ :=
    I.laid (t' := tk) (a := hp.objs.size + 1) (o := exo (hp.objs.size + 1) C none) (h' := (hp.push (PySem.W.kdv_tup us)).push (PySem.HandSPX.excO C hp.objs.size)) kk hsz (exo_ok hget)
  have r1 : Vals (V.ref (hp.objs.size + 1) :: vs) (Value.ref (hp.objs.size + 1) :: us) := .cons rfl r
  have r2 := hb.rel r1 (.nil : Vals [] [])
  have hsp : spX X.K fs (gV (.ref (hp.objs.size + 1) :: vs) []) (upd H (hp.objs.size + 1) (exo (hp.objs.size + 1) C none)) (fun v H' => v = .non ∧ ∃ d, H d = none ∧ d ≠ hp.objs.size + 1 ∧ H' = upd (upd H d (exd d (fs.zip ys).reverse)) (hp.objs.size + 1) (exo (hp.objs.size + 1) C (some d))) (fun _ _ _ => False) := by
    refine ⟨hp.objs.size + 1, C, ys, hg _, hy, T, hf, upd_same, fun d hd ne => ⟨rfl, d, ?_, ne, ?_⟩⟩
    · rw [upd_ne ne] at hd
      exact hd
    · rw [upd_comm (a := hp.objs.size + 1) (b := d) ne.symm, upd_upd]
  have n1 : (Value.ref (hp.objs.size + 1) :: us).length = n + 1 := by rw [List.length_cons, ← r.length, l1]
  have hus : us.length ≤ sizeLine := by rw [← Paired.length r, sizeLine_eq]; omega
  have bnd := hb.to ⟨(hp.push (PySem.W.kdv_tup us)).push (PySem.HandSPX.excO C hp.objs.size), g0, dr, tk, os⟩ (Value.ref (hp.objs.size + 1) :: us) [] I2.kIn n1 rfl
  refine wpAny_call (callK b.f (fun Y => over_contains Y bm hbm) (I.kIn _ _ hC) (PySem.W.looks_findIn I.kIn iC) (fun self => PySem.W.bind_fn I.kIn self tI) hus
    (codeAny_mono (F1.run _ X.stack _ _ ⟨Value.ref (hp.objs.size + 1) :: us, []⟩ (g (Value.ref (hp.objs.size + 1) :: us) []) _ _ (fun _ _ _ => False) (hr.make C us []) (I2.env0.make C us []) bnd r2 hsp) fun r s' hq' => ?_))
  cases r with
  | error er => exact hx pins σ _ _ er s' I2 hq'
  | ok fl =>
    cases fl with
    | ret u =>
      obtain ⟨v, H2, os2, bare2, un2, hok2, rv, ev, d, hd, ne, eH2⟩ := hq'
      subst ev
      obtain ⟨h2, g2, d2, t2, os'⟩ := s'
      have ea : H2 (hp.objs.size + 1) = some (exo (hp.objs.size + 1) C (some d)) := by rw [eH2, upd_same]
      have ed : H2 d = some (exd d (fs.zip ys).reverse) := by rw [eH2, upd_ne ne, upd_same]
      have fin := mk_endN (d2 := d2) (t2 := t2) (Q := Q) rs I hsz kk un2 hok2 os2 bare2 ea ed hd (by
        rw [eH2, del_upd hn ne]
        exact q d hd)
      exact ⟨rv, fin⟩
    | next => exact False.elim hq'
    | brk => exact False.elim hq'
    | cont => exact False.elim hq'
end
/-! ### in the embedding -/
def sRaise (C : Str) (n : Nat) (fs : List Str) (gD : List D → List D → List D) (j : IA) : IS := fun env st => liftS (j env st) env fun ds s => if ds.length = n ∧ n ≤ 1000 then .exc C (fs.zip (gD ds [])).reverse env s else .bad
section
variable {X : Cx} {F : Fx} {k n : Nat} {C x : Str} {fs : List Str} {gV : List V → List V → List V} {gD : List D → List D → List D} {p pos pos' : Pos} {e : Expr} {es : List Expr} {j : IA}
theorem s_raise (hc : X.calm = true) (tk : L2N.Takes X F.E) (T : XI X k n (F.g C) fs [] gV) (rs : Raises X (.ref (F.g C))) (pm : Perm gD gV n 0 fs) (hr : Room (k + 1) X.A) (hg : Gl X x) (hm : X.mg x = some (.ref (F.g C))) (ha : PA X (e :: es) (TA_ F j)) (hdb : (x == ("__debug__" : Str)) = false := by decide)
    (he : starEach (e :: es) X.env = (false, eval e X.env) :: starEach es X.env := by rfl) (hpl : (backTo pos (starEach es X.env)).any (·.1) = false := by rfl) : PS X (.Raise (some (.Call (.Name x p) (e :: es) [] pos)) none pos') (TS_ F (sRaise C n fs gD j)) := by
  refine PS.imp (L2N.ps_raise (t := fun σ H Q => TA_ F j σ H fun vs H1 => ∃ W st env ds, At F W st env σ H1 ∧ RVs W ds vs ∧ ds.length = n ∧ n ≤ 1000 ∧ ∀ ρ' H' d, Ext W ρ' H' → Sim (W.to ρ' H') st → XR (W.to ρ' H') (fs.zip (gD ds [])).reverse d → Q (.ref (F.g C)) d H') hc tk ?_) fun N σ H h => ?_
  · intro pins s σ H Q I h
    refine wpAny_Call_Name_kw (ld_glob I hg hm (PySem.W.callWith_K (h₀ := X.base) I.ok.mod.kin T.cls.kC (thn (ha.run pos pins s σ H _ I h) fun us s1 ⟨vs, H1, I1, r, W, st, env, ds, A, rd, l1, l2, q⟩ => ⟨I1.kIn, ?_⟩) he hpl) hdb)
    obtain ⟨ys, e1, e2, ry⟩ := pm.rel W ds [] vs [] rd .nil l1 rfl
    obtain ⟨fI, fd, ps, g, iC, tI, F1, hb⟩ := T.ini
    have lv : vs.length = n := by rw [← rd.length]; exact l1
    have eH := A.h
    subst eH
    refine run_mkr (CX := L2N.CX X.prog X.w) T.cls rs iC tI F1 hr hb passLN I1 r (by rw [lv]; exact l2) lv e1 e2 T.nf fun d hd => ?_
    have x : Ext W W.ρ (upd W.H d (.xd (fs.zip ys).reverse)) := ext_new0 hd
    refine q W.ρ _ (some d) x (A.sim.new0 hd) ⟨(fs.zip ys).reverse, rf_reverse (zip_rf (ry.mono x)), (fun z => by cases z), fun dx z => ?_⟩
    cases z
    exact ⟨upd_same, new_fro A.sim hd⟩
  · obtain ⟨W, st, env, A, p⟩ := h
    refine ⟨W, st, env, A, ?_⟩
    have p' : PostS W (liftS (j env st) env fun ds s => if ds.length = n ∧ n ≤ 1000 then RS.exc C (fs.zip (gD ds [])).reverse env s else .bad) N F.E := p
    cases q : j env st with
    | ok ds s =>
      rw [q] at p'
      have p2 : PostS W (if ds.length = n ∧ n ≤ 1000 then RS.exc C (fs.zip (gD ds [])).reverse env s else .bad) N F.E := p'
      intro ρ' H' vs xx S rv
      split at p2
      · rename_i c
        refine ⟨W.to ρ' H', s, env, ds, A.next xx S, rv, c.1, c.2, fun ρ2 H2 d x2 S2 xr => ?_⟩
        have := p2 ρ2 H2 σ d (xx.trans x2) S2 (A.env.mono (xx.trans x2)) xr
        rw [A.g] at this
        exact this
      · exact p2.elim
    | exc D gs s =>
      rw [q] at p'
      have p2 : PostS W (RS.exc D gs env s) N F.E := p'
      intro ρ' H' d xx S xr
      exact p2 ρ' H' σ d xx S (A.env.mono xx) xr
    | bad => rw [q] at p'; exact p'.elim
end
end M
/-! M40: try: .. except (A, B, C) as e: ..; the exception caught is one that nobody changes. -/
namespace M
open PySem PySem.Spec PyProof.Rows L2
section
variable {X : Cx} {pins : List (Addr × Obj)} {σ : L2.St} {H : Hp} {s : Shared}
theorem adopt {a C : Addr} {d : Option Addr} {o : Obj} {vs : Array Value} (I : Inv X pins σ H s) (ha : s.heap.get? a = some o) (hc : o.cls = .ref C) (hd : o.dict = d) (dt : o.data = .fields vs) (d2 : vs[2]? = some .none) (na : H a = none) (nL : a ≠ X.env.locals) (nP : ∀ p ∈ X.pn ++ pins, p.1 ≠ a) (n0 : X.s_0.heap.get? a = none) : Inv X pins σ (upd H a (exq a C d)) s := by
  refine ⟨I.ok, I.os, I.bare, ⟨I.base.keep, I.base.slot, fun b o e n hx => ?_, I.base.there, fun b xs e => ?_, fun b o xs e => ?_, fun b ps e => ?_⟩, I.loc, I.cell, ?_, fun x c e => ?_, fun p hp => ?_, I.hok.laidN (fun _ _ q => q) na (exq_ok2 ha hc hd dt d2), I.len⟩
  · have nb : b ≠ a := fun z => by rw [z, n0] at e; cases e
    rw [upd_ne nb]
    exact I.base.free b o e n hx
  · have q := I.base.tups b xs e
    rw [upd_ne (ne_of_none q na)]; exact q
  · have q := I.base.frzs b o xs e
    rw [upd_ne (ne_of_none q na)]; exact q
  · obtain ⟨m, q⟩ := I.base.tbls b ps e
    exact ⟨m, by rw [upd_ne (ne_of_none q na)]; exact q⟩
  · rw [upd_ne (Ne.symm nL)]; exact I.free
  · obtain ⟨v, z⟩ := I.cell x c e
    have nc : c ≠ a := fun q => by
      subst q
      obtain ⟨oc, e1, e2⟩ := z
      rw [ha] at e1
      cases e1
      rw [dt] at e2
      cases e2
    rw [upd_ne nc]; exact I.freeC x c e
  · obtain ⟨e1, e2, e3⟩ := I.pin p hp
    exact ⟨e1, by rw [upd_ne (nP p hp)]; exact e2, e3⟩
theorem fl_keeps {B : Heap} {l : List PySem.Env} {a : Addr} {Z : Obj → Prop} {h h' : Heap} (k : ∀ b o, h.get? b = some o → h'.get? b = some o) (f : HandSPX.FlyingZ B l a Z h) : HandSPX.FlyingZ B l a Z h' := by
  obtain ⟨f1, f2, f3, oe, vs, T, oT, ts, g1, g2, g3, g4, g5, g6, g7, g8, g9⟩ := f
  exact ⟨fun b o e => k b o (f1 b o e), f2, Heap.FunFrames.of_keeps (fun b o e _ => ⟨o, k b o e, rfl⟩) f3, oe, vs, T, oT, ts, k _ _ g1, g2, g3, g4, g5, g6, k _ _ g7, g8, g9⟩
end
/-- a test of an except clause: what it answers, by the class -/
def TstOk (X : Cx) (te : Expr) (tf : Value → Option Bool) : Prop := ∀ (a : Addr) (cls : Value) (b : Bool) (pins : List (Addr × Obj)) (σ : L2.St) (H : Hp) (s : Shared) (Q : Bool → Shared → Prop) (E : Value → Shared → Prop),
  Inv (X.suite a X.pn) pins σ H s → PySem.W.Looks (model X.prog X.w) s.heap (typeOf (.ref a)) cls → tf cls = some b → (∀ h', (∀ b o, s.heap.get? b = some o → h'.get? b = some o) → Q b { s with heap := h' }) →
  wpAny (model X.prog X.w) (X.A.mark (some (.ref a))) (eval te X.env) (fun c s1 => wpAny (model X.prog X.w) (X.A.mark (some (.ref a))) (excMatches (.ref a) c) Q E s1) E s
section
variable {X : Cx} {n : Str} {i : Nat} {te : Expr} {tf : Value → Option Bool} {body suite : List Stmt} {b₀ : Stmt} {pos pos' : Pos} {tb : WX → TS} {ts : Addr → TS} {Wout : WX}
end
/-! ### the tests -/
section
variable {X : Cx} {x1 x2 x3 : Str} {c1 c2 c3 : Value} {p1 p2 p3 tpos : Pos} {kk : Nat}
theorem tst_one (h1 : Names X x1 c1) : TstOk X (.Name x1 p1) (fun cls => PySem.W.exmOne X.K cls c1) := fun a cls b pins σ H s Q E I LT hb q => by
  have LM := PySem.W.exm_one (M := model X.prog X.w) I.kIn LT hb
  obtain ⟨hg, hdbg, hm | ⟨hm, hv, hnn⟩⟩ := h1
  · exact ld_glob (X := X.suite a X.pn) I hg hm (LM.here (q s.heap fun _ _ z => z)) hdbg
  · exact ld_blt (X := X.suite a X.pn) I hg hm hv (LM.here (q s.heap fun _ _ z => z)) hnn hdbg
end
end M
/-! M41: try in the embedding. -/
namespace M
open PySem PySem.Spec PyProof.Rows L2
def clrS (i : Nat) : RS → RS
  | .nx env st => .nx (env.set i none) st
  | .bk env st => .bk (env.set i none) st
  | .ct env st => .ct (env.set i none) st
  | .ret d st => .ret d st
  | _ => .bad
section
variable {X : Cx} {F : Fx} {n : Str} {i : Nat} {te : Expr} {tf : Value → Option Bool} {tfD : Str → Option Bool} {body suite : List Stmt} {b₀ : Stmt} {pos pos' : Pos} {b su : IS}
end
end M
/-! M42: count and index of a list of truths. -/
namespace M
open PySem PySem.Spec PyProof.Rows L2
section
variable {X : Cx} {F : Fx}
end
end M
/-! M43: defs that let nothing out; what a text of a program wants of raise and try. -/
namespace M
open PySem PySem.Spec PyProof.Rows L2
theorem roomH_markM {k : Nat} {A : Around} (r : Room k A) (h : Option Value) : L2H.RoomH k (A.mark h) := ⟨r.dp, r.un⟩
theorem raisesX {X : Cx} {C : Addr} (T : XC X.K C) : Raises X (.ref C) := raises_own T.exC T.tyC
theorem exmT_ok {K : PySem.W.Frag} {cs : List Str} {tb : List (Str × Bool)} (h : tb.all (exmB K cs) = true) (C : Str) (b : Bool) (e : exmT tb C = some b) : PySem.W.exmAny K (.ref (He.ga K C)) (cs.map fun c => Value.ref (He.ga K c)) = some b := by
  have : ∀ tb : List (Str × Bool), tb.all (exmB K cs) = true → exmT tb C = some b → PySem.W.exmAny K (.ref (He.ga K C)) (cs.map fun c => Value.ref (He.ga K c)) = some b := by
    intro tb
    induction tb with
    | nil => intro _ e; cases e
    | cons q r ih =>
      intro h e
      rw [List.all_cons, Bool.and_eq_true] at h
      unfold exmT at e
      rw [show q = (q.1, q.2) from rfl, List.lookup_cons] at e
      split at e
      · rename_i hq
        cases e
        have : C = q.1 := by simpa using hq
        rw [this]
        exact of_decide_eq_true h.1
      · exact ih h.2 e
  exact this tb h e
end M
/-! M44: max of three. -/
namespace M
open PySem PySem.Spec PyProof.Rows L2
section
variable {X : Cx} {F : Fx}
end
end M
/-! M45: index of a list of texts. -/
namespace M
open PySem PySem.Spec PyProof.Rows L2
section
variable {X : Cx} {F : Fx}
end
end M
/-! M46: the least of a list of ints. -/
namespace M
open PySem PySem.Spec PyProof.Rows L2
section
variable {X : Cx} {F : Fx} {W : Vw} {st : Sto}
end
end M
/-! M47: tuple * int. -/
namespace M
open PySem PySem.Spec PyProof.Rows L2
theorem tuple_mul1 (l : Addr) (items : Array Value) (n : Nat) (dd : Option Addr) (sl : Array (Option Value)) (u : Tok) :
    Meets (Builtin.«tuple.__mul__» ⟨[.ref l, .int 1 u], []⟩) (fun _ R s => s.heap.get? l = some { cls := .type "tuple", dict := dd, data := .seq items n, slots := sl } ∧ R (.ok (.ret (Value.ref l))) s) :=
  .of_wp fun prog w A R s h => by
    obtain ⟨hp, g, d, tk, os⟩ := s
    obtain ⟨hl, h⟩ := h
    have f1 := AutoSeq1.idx_int
    wp_walk using wpAny_loadPart' hl
    repeat (first
      | (refine wpAny_ite_true (decide_eq_true (by simp)) ?_; wp_walk using wpAny_loadPart' hl)
      | (refine wpAny_ite_true (by simp) ?_; wp_walk using wpAny_loadPart' hl))
    all_goals first | exact ⟨_, rfl, h⟩ | skip
section
variable {X : Cx} {F : Fx} {W : Vw} {st : Sto}
theorem op_rep1 : OpR X (binaryOp .Mult) (fun x y H Q => ∃ l xs, x = .ref l ∧ y = .int 1 ∧ SqT X.K H l xs ∧ Q (.ref l) H) := by
  intro pins s σ H x y v u Q I rx ry h
  obtain ⟨l, xs, rfl, rfl, hT, q⟩ := h
  cases rx
  obtain ⟨t, rfl⟩ := ry
  obtain ⟨its, r, ⟨⟨cls, dd, data, sl⟩, ho, hc, n, hd⟩, hs⟩ := I.tuple hT
  simp only at hc hd
  subst hc hd
  refine wpAny_binaryOp_repeat_ref (T := "tuple") (U := "int") (by decide) ⟨_, ho, rfl⟩ (fun s' => typeIs_int s' 1 t) noFill_tuple_mul F.fills_int_mul F.slot_int_rmul repeat_tuple F.slot_int_index.lookup
    (call_meets F.slot_int_rmul (typeIs_int s 1 t) F.entry_int_rmul (F.args_int_rmul_2 _ _) (int_rmul_tuple 1 t l its.toArray n dd sl)
      ⟨ho, rfl, ⟨_, ho, rfl⟩, call_meets F.slot_tuple_mul ⟨_, ho, rfl⟩ F.entry_tuple_mul (F.args_tuple_mul_2 _ _) (tuple_mul1 l its.toArray n dd sl t) ⟨ho, ?_⟩⟩)
  exact ⟨.ref l, H, I, rfl, q⟩
def opMulU : Op2 := fun a b st => match a, b with
  | .tup xs, .int k => if k = 1 ∨ (xs ≠ [] ∧ 2 ≤ k ∧ k ≤ 1000 ∧ xs.length ≤ 1000) then some (.tup (List.replicate k.toNat xs).flatten, st) else none
  | _, _ => none
instance (xs : List D) : Decidable (xs ≠ []) := match xs with
  | [] => isFalse fun h => h rfl
  | _ :: _ => isTrue fun h => nomatch h
theorem or_mulU (hk : X.K = F.K) : OpR X (binaryOp .Mult) (r2 F opMulU) := OpR.imp (OpR.or op_rep1 op_repT) fun x y H Q ⟨W, st, a, b, I, ra, rb, p⟩ => by
  unfold opMulU at p
  split at p
  · rename_i xs k
    split at p
    · rename_i c
      cases rb
      have eH := I.h
      subst eH
      obtain ⟨a, ys, rfl, t1, r⟩ := tup_at ra
      rw [I.k, ← hk] at t1
      by_cases h1 : k = 1
      · subst h1
        refine .inl ⟨a, ys, rfl, rfl, t1, ?_⟩
        have e : (List.replicate (1 : Int).toNat xs).flatten = xs := by simp
        rw [e] at p
        exact p.now I.sim ra
      · rcases c with c | c
        · exact absurd c h1
        · refine .inr ⟨a, k, ys, rfl, rfl, t1, fun e => ?_, c.2.1, c.2.2.1, by rw [← r.length]; exact c.2.2.2, fun q hq => ?_⟩
          · subst e
            cases r
            exact c.1 rfl
          · exact p.tuple I.sim (r.rep _) hq
    · exact p.elim
  · exact p.elim
end
end M
/-! M48: loops over zip of two tuples. -/
namespace M
open PySem PySem.Spec PyProof.Rows L2 RZ
def nxZ (xs ys : List D) : Nx := fun i st => match xs[i]?, ys[i]? with
  | some x, some y => some (some (.tup [x, y]))
  | _, _ => some none
section
variable {W : Vw} {X : Cx} {F : Fx} {pos : Pos}
theorem pair_new2 {V : Vw} {st : Sto} {T : Addr} {c d : D} {u v : L2.V} (S : Sim V st) (hT : V.H T = none) (ru : RV V c u) (rv : RV V d v) :
    Ext V V.ρ (upd V.H T (.tup [u, v])) ∧ Sim (V.to V.ρ (upd V.H T (.tup [u, v]))) st ∧ RV (V.to V.ρ (upd V.H T (.tup [u, v]))) (.tup [c, d]) (.ref T) :=
  ⟨ext_new0 hT, S.new0 hT, .tup (.inl ⟨.inl upd_same, new_fro S hT⟩) (.cons (ru.mono (ext_new0 hT)) (.cons (rv.mono (ext_new0 hT)) .nil))⟩
end
end M
/-! M49: list comprehensions of two clauses whose list nobody changes. -/
namespace M
open PySem PySem.Spec PyProof.Rows L2

theorem VE.trans {W : Vw} {ρ' ρ'' : List Addr} {H' H'' : Hp} {st : Sto} (x : VE W ρ' H') (S : Sim (W.to ρ' H') st) (y : Ext (W.to ρ' H') ρ'' H'') : VE W ρ'' H'' where
  pre := x.pre.trans y.pre
  new := fun a m => by
    rcases y.new a m with q | q
    · exact x.new a q
    · by_cases m2 : a ∈ W.ρ
      · exact .inl m2
      · refine .inr ?_
        cases e : W.H a with
        | none => rfl
        | some o =>
          have q' : H' a = none := q
          by_cases hz : W.Z a
          · obtain ⟨u, hu⟩ := S.zt a hz
            have hu' : H' a = some u := hu
            rw [q'] at hu'
            cases hu'
          · have z := x.keep a o e ⟨m2, hz⟩
            rw [q'] at z
            cases z
  keep := fun a o h f => y.keep a o (x.keep a o h f) (x.notin h f.1)
  frz := fun a o u h => y.frz a o u (x.frz a o u h)
theorem VE.zput {W : Vw} {ρ' : List Addr} {H' : Hp} {q : Addr} {u : HO} (x : VE W ρ' H') (hz : W.Z q) (nf : NoFrz W.H q) : VE W ρ' (upd H' q u) where
  pre := x.pre
  new := x.new
  keep := fun a o h f => by
    rw [upd_ne (zfro f hz)]
    exact x.keep a o h f
  frz := fun a o v h => by
    rw [upd_ne (fun e => by rw [e] at h; exact nf _ _ h)]
    exact x.frz a o v h
theorem VE.refl {W : Vw} : VE W W.ρ W.H := Ext.refl.ve
section
variable {X : Cx} {F : Fx} {pos : Pos}
end
end M
/-! M50: in a range; a written dict; repr of a list with a dict. -/
namespace M
open PySem PySem.Spec PyProof.Rows L2
section
variable {X : Cx} {F : Fx} {pos : Pos}
end
/-! ### a written dict -/
section
variable {X : Cx} {F : Fx} {pos : Pos} {W : Vw} {st : Sto}
/-! ### repr of a number and a dict in a list -/
def keyP : Key → PyData
  | .inl i => .int i
  | .inr x => .str x
theorem keyP_reads {h : Heap} {k : Key} {v : Value} (q : keyIs k v = true) : Reads h v (keyP k) [] := by
  rcases keyIs_shape q with ⟨i, t, e1, e2⟩ | ⟨x, t, e1, e2⟩
  · rw [e1, e2]; exact .int i t
  · rw [e1, e2]; exact .str x t
/-! ### split as a list that is changed later -/
end
end M
/-! M51: places as targets never raise (k15). -/
namespace M
open PySem PySem.W Builtin Builtin.Str
end M
/-! M52: a for in a generator's body. -/
namespace L2
open PySem PySem.Spec PyProof.Rows GenW
section
variable {M : Model} {A : Around} {R : GenEnd} {Y : Protocol} {n : Nat} {s₀ : Shared} {c : Code} {fs : List Frame} {s : Shared} {env : Env}
  {K : Flow → Sem Fin} {H : Value → Sem Fin} {gd : Bool → Bool} {lv : List Value → List Value}
end
section
variable {prog : Program} {w : World} {A : Around} {R : GenEnd} {Y : Protocol} {n : Nat} {s₀ : Shared} {fs : List Frame} {s : Shared} {env : Env}
end
section
variable {X : Cx}
end
end L2
/-! M53: defs that may be called amid a repr, or by a generator. -/
namespace M
open PySem PySem.Spec PyProof.Rows L2
section
variable {P : Program} {w : World} {K : PySem.W.Frag} {mg : Str → Option Value} {base : Heap} {g : GG}
/-- a def's promise, be a repr under way or not -/
structure FnO (P : Program) (w : World) (K : PySem.W.Frag) (mg : Str → Option Value) (base : Heap) (k : Nat) (f : Addr) (fd : FuncData) (ps : List Str) (sp : Sp) : Prop where
  len : ∀ vs H Q E, sp vs H Q E → vs.length = ps.length
  run : ∀ (A : Around) (outer : List PySem.Env) (s : Shared) (H : Hp) (args : Args) (us : List Value) (vs : List V) (Q : VK) (E : XK), Room k A → Env0 P w K mg base A outer s H → BindsTo s fd args (ps.zip us) → Vals vs us → sp vs H Q E →
    codeAny (model P w) A (.call (.ref f) args) (CR (L2N.CX P w) outer P w H s Q E) s
theorem FnO.toG {k : Nat} {f : Addr} {fd : FuncData} {ps : List Str} {sp : Sp} (G : FnO P w K mg base k f fd ps sp) : FnG P w K mg base k f fd ps sp := ⟨G.len, fun A o s H a us vs Q E hr _ => G.run A o s H a us vs Q E hr⟩
theorem FnO.imp {k : Nat} {f : Addr} {fd : FuncData} {ps : List Str} {sp sp' : Sp} (G : FnO P w K mg base k f fd ps sp) (h : ∀ vs H Q E, sp' vs H Q E → sp vs H Q E) : FnO P w K mg base k f fd ps sp' :=
  ⟨fun vs H Q E q => G.len vs H Q E (h _ _ _ _ q), fun A o s H a us vs Q E hr e b v q => G.run A o s H a us vs Q E hr e b v (h _ _ _ _ q)⟩
theorem FnO.mono {j k : Nat} {f : Addr} {fd : FuncData} {ps : List Str} {sp : Sp} (G : FnO P w K mg base j f fd ps sp) (h : j ≤ k) : FnO P w K mg base k f fd ps sp := ⟨G.len, fun A o s H a us vs Q E hr => G.run A o s H a us vs Q E (hr.mono h)⟩
theorem fno_ok {x qual : Str} {params : Arguments} {body : List Stmt} {scope : Scope} {dvs : List V} {kws : List (Str × V)} {f : Addr} {fd : FuncData} {N ps : List Str} {k : Nat} {b : IS} (Fd : FunD K x qual params body scope dvs kws f fd) (S : FnScope N ps scope)
    (hb : ∀ (cdv : Value) (A : Around) (outer : List PySem.Env) (s : Shared) (H : Hp) (E : XK), Room k (A.deeper (envOfC qual scope s.heap.objs.size f cdv)) → PSs (cxOf (L2N.CX P w) P w K mg base N qual scope f cdv A outer s H E) body (TS_ (Fx.of K g E) b)) :
    FnO P w K mg base (k + 1) f fd ps (SPx K g (runB b N.length ps.length)) := by
  have len : ∀ vs H Q E, SPx K g (runB b N.length ps.length) vs H Q E → vs.length = ps.length := fun vs H Q E ⟨W, st, ds, _, _, _, _, r, p⟩ => by
    unfold runB at p
    split at p
    · rename_i c
      rw [← r.length, c]
    · exact p.elim
  refine ⟨len, fun A outer s H args us vs Q E hr e0 hbi rv hsp => ?_⟩
  obtain ⟨oc, od, dV, kV, doc, pm, an, cdv, ct, osl, rfl, lk, hcd, _, _⟩ := Fd.ex
  have hl := len _ _ _ _ hsp
  have kin : K.In s.heap := e0.mod.kin.keeps fun b o e => (e0.bs b o e).1
  have kinds : ∀ y ∈ ps.zip us, scope.names.lookup y.1 = some .local ∨ (scope.names.lookup y.1 = some .cell ∧ ((cellsFrom (s.heap.objs.size + 1) scope.names []).lookup y.1).isSome = true) := fun ⟨n, v⟩ hy =>
    (S.par n (List.of_mem_zip hy).1).elim .inl fun q => .inr ⟨q, PySem.W.cellsFrom_some _ _ _ (.inl q)⟩
  refine codeAny_call_function hr.depth (kin _ _ lk) rfl S.co S.gen rfl (PySem.W.codeRec_of kin hcd) (hbi _ _ _ _ (wpAny_newFunctionEnv_cells S.kind kinds fun env he s1 x => ?_))
  subst he
  refine ⟨(e0.mod.nolimit.keeps fun b o e => (e0.bs b o e).1).keeps x.toInCall.keep, codeAny_func ?_⟩
  have wk : TS_ (Fx.of K g E) b { nx := fun _ H' => Q .non H', rt := Q } (L2.start N vs) H := by
    obtain ⟨W, st, ds, hk, hg, hh, S, r, p⟩ := hsp
    unfold runB at p
    split at p
    · rename_i c
      refine ⟨W, st, _, ⟨hk, hg, hh, S, env_start r c⟩, ?_⟩
      cases q : b (ds.map some ++ List.replicate (N.length - ps.length) none) st with
      | nx e s => rw [q] at p; exact fun ρ' H' σ' x S z => p ρ' H' .non x S .non
      | ret d s => rw [q] at p; exact p
      | bk e s => rw [q] at p; exact p.elim
      | ct e s => rw [q] at p; exact p.elim
      | exc C fs e s => rw [q] at p; exact fun ρ' H' σ' d x S z => p ρ' H' d x S
      | bad => rw [q] at p; exact p.elim
    · exact p.elim
  have I0 : Inv (cxOf (L2N.CX P w) P w K mg base N qual scope f cdv A outer s H E) [] (L2.start N vs) H s1 := inv_start S hr.hd e0 hl rv x
  refine wpAny_mono ((hb cdv A outer s H E (hr.deeper _)).run [] s1 _ H _ I0 wk) (fun fl s' hs => ?_) fun e s' hs => hs
  have fin : ∀ {σ' : L2.St} {H' : Hp} {v : V} {u : Value}, Inv (cxOf (L2N.CX P w) P w K mg base N qual scope f cdv A outer s H E) [] σ' H' s' → RelV v u → Q v H' → CE outer P w H s Q u s' :=
    fun J r q => ⟨_, _, J.os, J.bare, J.base, J.hok, r, q⟩
  cases fl with
  | ret u => obtain ⟨v, σ', H', J, r, q⟩ := hs; exact fin J r q
  | next => obtain ⟨σ', H', J, q⟩ := hs; exact fin (v := V.non) (u := Value.none) J rfl q
  | brk => obtain ⟨_, _, _, q⟩ := hs; exact q.elim
  | cont => obtain ⟨_, _, _, q⟩ := hs; exact q.elim
end


section
variable {X : Cx} {F : Fx} {k : Nat} {f : Addr} {fd : FuncData} {ps : List Str} {ds : List Value} {dvs : List V} {x : Str} {p pos : Pos} {e : Expr} {es : List Expr} {fs : Fn} {j : IA} {dd : List D}
/-- the callee runs -/
theorem run_o {pins : List (Addr × Obj)} {σ : L2.St} {H : Hp} {s : Shared} {Q : VK} {us : List Value} {vs : List V} {sp : Sp} (G : FnO X.prog X.w X.K X.mg X.base k f fd ps sp) (hr : Room k X.A) (hb : Binds X.K fd ps ds) (hd : Vals dvs ds) (tk : L2N.Takes X F.E)
    (I : Inv X pins σ H s) (r : Vals vs us) (h : sp (vs ++ dvs) H Q (F.at_ σ)) : wpAny (model X.prog X.w) X.A (call (.ref f) us) (EP X pins σ Q) X.xe s := by
  have r2 : Vals (vs ++ dvs) (us ++ ds) := r.append hd
  refine wpAny_call (codeAny_mono (G.run X.A X.stack s H ⟨us, []⟩ (us ++ ds) (vs ++ dvs) Q (F.at_ σ) hr I.env0 (hb s us I.kIn (r2.length.symm.trans (G.len _ _ _ _ h))) r2 h) fun r s' hq => ?_)
  cases r with
  | error e => exact tk e s' (L2N.XE.of_call I (fun _ _ _ h => h) hq)
  | ok fl =>
    cases fl with
    | ret u => exact I.after hq
    | next => exact hq.elim
    | brk => exact hq.elim
    | cont => exact hq.elim
theorem e_callO (G : FnO X.prog X.w X.K X.mg X.base k f fd ps (SPx F.K F.g fs)) (hr : Room k X.A) (hg : Gl X x) (hm : X.mg x = some (.ref f)) (hk : PySem.W.keepIn X.K (.ref f) = true) (hb : Binds X.K fd ps ds) (hd : Vals dvs ds) (hdd : ∀ W : Vw, W.K = F.K → W.g = F.g → RVs W dd dvs) (tk : L2N.Takes X F.E)
    (ha : PA X (e :: es) (TA_ F j)) (hdb : (x == ("__debug__" : Str)) = false := by decide) (he : starEach (e :: es) X.env = (false, eval e X.env) :: starEach es X.env := by rfl) (hpl : (backTo pos (starEach es X.env)).any (·.1) = false := by rfl) :
    PE X (.Call (.Name x p) (e :: es) [] pos) (TI F (iCall fs dd j)) := by
  refine ⟨fun pins s σ H Q I h => ?_⟩
  refine wpAny_Call_Name_kw (ld_glob I hg hm (PySem.W.callWith_K (h₀ := X.base) I.ok.mod.kin hk (thn (ha.run pos pins s σ H _ I (TX.bind (k := fun ds env s => fs (ds ++ dd) s) h)) fun us s1 ⟨vs, H1, I1, r, q⟩ => ⟨I1.kIn, ?_⟩) he hpl) hdb)
  exact run_o G hr hb hd tk I1 r (sp_of hdd q)
end


section
variable {P : Program} {w : World} {K : PySem.W.Frag} {mg : Str → Option Value} {base : Heap} {g : GG} {k : Nat} {fa : Addr} {fd : FuncData} {ps : List Str} {f : Fn}
end
end M
/-! M54: generators whose consumer owns more than the list that it fills. -/
namespace LG
open PySem PySem.Spec PyProof.Rows GenW L2
/-- asleep: the consumer has put v behind the list at S, what stands at Ls is its own; all else stays -/
structure Slept (S : Addr) (Ls : List Addr) (v : Value) (s s' : Shared) : Prop where
  os : s'.os = s.os
  bare : AllBare s'.gens
  keep : ∀ b o, b ≠ S → b ∉ Ls → s.heap.get? b = some o → s'.heap.get? b = some o
  own : ∀ acc c, s.heap.get? S = some (lstObj acc c) → ∃ c', s'.heap.get? S = some (lstObj (acc.push v) c')
  ownL : ∀ b ∈ Ls, ∃ o, s'.heap.get? b = some o ∧ ∀ u, o.data ≠ .cell u
def GI (X : Cx) (S : Addr) (Ls : List Addr) (ip : List (Addr × Obj)) (ys : List V) (σ : L2.St) (H : Hp) (s₀ s : Shared) : Prop :=
  ∃ (acc : Array Value) (c : Nat) (pl : List (Addr × Obj)), pl.map (·.1) = Ls ∧ (∀ p ∈ pl, s₀.heap.get? p.1 = some p.2) ∧ Vals ys acc.toList ∧ Inv X ((S, lstObj acc c) :: (pl ++ ip)) σ H s
/-- of none of the generator's own things -/
def Off (S : Addr) (Ls : List Addr) (ip : List (Addr × Obj)) : Prop := ∀ p ∈ ip, p.1 ≠ S ∧ p.1 ∉ Ls
/-! ### the protocol -/
def GY (X : Cx) (S : Addr) (Ls : List Addr) : Protocol := fun n s₀ v s kap =>
  ∃ ys x ip σ H, n + 1 + ys.length = sizeLine ∧ RelV x v ∧ GI X S Ls ip ys σ H s₀ s ∧ ∀ s', Slept S Ls v s s' → kap (.send .none) s'
def GSP (X : Cx) (S : Addr) (Ls : List Addr) (ip : List (Addr × Obj)) (D : GEnds) (ys : List V) (f : Flow) (s₀ s : Shared) : Prop :=
  match f with
  | .next => ∃ σ H, GI X S Ls ip ys σ H s₀ s ∧ D.nx ys σ H
  | .brk => ∃ σ H, GI X S Ls ip ys σ H s₀ s ∧ D.bk ys σ H
  | .cont => ∃ σ H, GI X S Ls ip ys σ H s₀ s ∧ D.ct ys σ H
  | .ret u => ∃ v σ H, GI X S Ls ip ys σ H s₀ s ∧ RelV v u ∧ D.rt ys v H
structure GC (X : Cx) (S : Addr) (Ls : List Addr) (ip : List (Addr × Obj)) (A : Around) (c : Code) (fs : List Frame) (gd : Bool → Bool) : Prop where
  pn : Off S Ls X.pn
  ip : Off S Ls ip
  apart : Apart X S
  apartL : ∀ b ∈ Ls, Apart X b
  over : A.over c fs = X.A
  split : splitAtGen fs = none
  guard : fs.any Frame.guarded = false
  gd : gd false = false
structure GK (X : Cx) (S : Addr) (Ls : List Addr) (ip : List (Addr × Obj)) (A : Around) (R : GenEnd) (c : Code) (fs : List Frame) (K : Flow → Sem PySem.Fin) (J : Value → Sem PySem.Fin) (D : GEnds) : Prop where
  ok : ∀ (n : Nat) (ys : List V) (s₀ s : Shared) (f : Flow), n + ys.length = sizeLine → GSP X S Ls ip D ys f s₀ s → Seg (model X.prog X.w) A R (GY X S Ls) n s₀ c (K f) fs s
  exc : ∀ (n : Nat) (s₀ : Shared) (e : Value) (s : Shared), X.xe e s → Seg (model X.prog X.w) A R (GY X S Ls) n s₀ c (J e) fs s
structure GS (X : Cx) (st : Stmt) (t : TGn) : Prop where
  run : ∀ (A : Around) (S : Addr) (Ls : List Addr) (ip : List (Addr × Obj)) (R : GenEnd) (n : Nat) (ys : List V) (s₀ : Shared) (c : Code) (fs : List Frame) (K : Flow → Sem PySem.Fin) (J : Value → Sem PySem.Fin) (gd : Bool → Bool) (lv : List Value → List Value) (s : Shared) (σ : L2.St) (H : Hp) (D : GEnds),
    GC X S Ls ip A c fs gd → n + ys.length = sizeLine → GK X S Ls ip A R c fs K J D → GI X S Ls ip ys σ H s₀ s → t D ys σ H →
    Seg (model X.prog X.w) A R (GY X S Ls) n s₀ c ((exec st X.env).wrap K J gd lv) fs s
structure GSs (X : Cx) (st : List Stmt) (t : TGn) : Prop where
  run : ∀ (A : Around) (S : Addr) (Ls : List Addr) (ip : List (Addr × Obj)) (R : GenEnd) (n : Nat) (ys : List V) (s₀ : Shared) (c : Code) (fs : List Frame) (K : Flow → Sem PySem.Fin) (J : Value → Sem PySem.Fin) (gd : Bool → Bool) (lv : List Value → List Value) (s : Shared) (σ : L2.St) (H : Hp) (D : GEnds),
    GC X S Ls ip A c fs gd → n + ys.length = sizeLine → GK X S Ls ip A R c fs K J D → GI X S Ls ip ys σ H s₀ s → t D ys σ H →
    Seg (model X.prog X.w) A R (GY X S Ls) n s₀ c ((execs st X.env).wrap K J gd lv) fs s
section
variable {X : Cx} {st : Stmt} {rest : List Stmt}
end
end LG
/-! M55: a generator def's promise to any such consumer. -/
namespace LG
open PySem PySem.Spec PyProof.Rows GenW L2
/-- what stands at Ls is as it was when the generator was woken -/
def Kept (Ls : List Addr) (s₀ s : Shared) : Prop := ∀ b ∈ Ls, ∀ o, s₀.heap.get? b = some o → s.heap.get? b = some o
def REnd (P : Program) (w : World) (outer : List Env) (H : Hp) (s : Shared) (ex : List Addr) (S : Addr) (Ls : List Addr) (a : Addr) (g : Nat) (Q : List V → Hp → Prop) (E : XK) : GenEnd := fun n s₀ r s1 =>
  ((r = .ok (.ret .none) ∨ r = .ok .next) ∧ Kept Ls s₀ s1 ∧ ∃ H' ys acc c, s1.os = s.os ∧ AllBare s1.gens ∧ Un (frs outer) ex H H' s.heap s1.heap ∧ HOk P w H' s1.heap ∧ H' S = none ∧ (∀ b ∈ Ls, H' b = none) ∧ s1.heap.get? S = some (lstObj acc c) ∧ Vals ys acc.toList ∧ ys.length ≤ sizeLine ∧ Q ys H') ∨
  ∃ e, r = .error e ∧ CX P w outer H s E e s1 ∧ s1.heap.IsGen a g
def YItem (s : Shared) (S : Addr) (Ls : List Addr) (a : Addr) (g : Nat) : Protocol := fun n s₀ v s1 kap =>
  s1.os = s.os ∧ AllBare s1.gens ∧ s1.heap.NoLimit ∧ s1.heap.IsGen a g ∧ Kept Ls s₀ s1 ∧ (∃ (acc : Array Value) (c : Nat), s1.heap.get? S = some (lstObj acc c) ∧ n + 1 + acc.size = sizeLine) ∧ ∀ s', Slept S Ls v s1 s' → kap (.send .none) s'
def Wakes (P : Program) (w : World) (k : Nat) (outer : List Env) (H : Hp) (s : Shared) (ex : List Addr) (Q : List V → Hp → Prop) (E : XK) (a : Addr) (g : Nat) (c : Code) (s' : Shared) : Prop :=
  ∀ (A : Around) (S : Addr) (Ls : List Addr) (s2 : Shared), Room k A → A.frames = some outer → s'.heap.objs.size ≤ S → (∀ b ∈ Ls, s'.heap.objs.size ≤ b) → (∀ b o, s'.heap.get? b = some o → s2.heap.get? b = some o) → (∃ c, s2.heap.get? S = some (lstObj #[] c)) →
    (∀ b ∈ Ls, ∃ o, s2.heap.get? b = some o ∧ ∀ u, o.data ≠ .cell u) → s2.os = s.os → AllBare s2.gens → Seg (model P w) A (REnd P w outer H s ex S Ls a g Q E) (YItem s S Ls a g) sizeLine s2 c ((model P w).den c) [] s2
def GMade (P : Program) (w : World) (k : Nat) (outer : List Env) (H : Hp) (s : Shared) (ex : List Addr) (Q : List V → Hp → Prop) (E : XK) (u : Value) (s' : Shared) : Prop :=
  ∃ (a : Addr) (g : Nat) (c : Code), u = .ref a ∧ s.heap.objs.size ≤ a ∧ a < s'.heap.objs.size ∧ s'.heap.IsGen a g ∧ s'.gens[g]? = some (.fresh c) ∧ s'.os = s.os ∧ AllBare s'.gens ∧ s'.heap.NoLimit ∧ (∀ b o, s.heap.get? b = some o → s'.heap.get? b = some o) ∧ Wakes P w k outer H s ex Q E a g c s'
/-- a consumer that owns its list alone -/
theorem GMade.alone {P : Program} {w : World} {k : Nat} {outer : List Env} {H : Hp} {s : Shared} {ex : List Addr} {Q : List V → Hp → Prop} {E : XK} {u : Value} {s' : Shared} (h : GMade P w k outer H s ex Q E u s') : L2.GMade P w k outer H s ex Q E u s' := by
  obtain ⟨a, g, c, h1, h2, h3, h4, h5, h6, h7, h8, h9, h10⟩ := h
  refine ⟨a, g, c, h1, h2, h3, h4, h5, h6, h7, h8, h9, fun A S s2 hr hf hS hk hc ho hb => seg_imp (fun n s₀ r s hR => ?_) (fun n s₀ v s kap kap' hkk hY => ?_) _ (h10 A S [] s2 hr hf hS (fun b hb => nomatch hb) hk hc (fun b hb => nomatch hb) ho hb)⟩
  · rcases hR with ⟨q1, _, H', ys, acc, c', q2, q3, q4, q5, q6, _, q7⟩ | q
    · exact .inl ⟨q1, H', ys, acc, c', q2, q3, q4, q5, q6, q7⟩
    · exact .inr q
  · obtain ⟨q1, q2, q3, q4, _, q5, q6⟩ := hY
    exact ⟨q1, q2, q3, q4, q5, fun s'' z => hkk _ _ (q6 s'' ⟨z.os, z.bare, fun b o hb _ => z.keep b o hb, z.own, fun b hb => nomatch hb⟩)⟩
structure GFn (P : Program) (w : World) (K : PySem.W.Frag) (mg : Str → Option Value) (base : Heap) (k : Nat) (f : Addr) (fd : FuncData) (ps : List Str) (sp : SpG) : Prop where
  len : ∀ vs H Q E, sp vs H Q E → vs.length = ps.length
  run : ∀ (A : Around) (outer : List Env) (s : Shared) (H : Hp) (args : Args) (us : List Value) (vs : List V) (Q : List V → Hp → Prop) (E : XK), Room k A → Env0 P w K mg base A outer s H → BindsTo s fd args (ps.zip us) → Vals vs us → sp vs H Q E →
    codeAny (model P w) A (.call (.ref f) args) (fun r s' => match r with | .ok (.ret u) => GMade P w k outer H s [] Q E u s' | _ => False) s
theorem GFn.alone {P : Program} {w : World} {K : PySem.W.Frag} {mg : Str → Option Value} {base : Heap} {k : Nat} {f : Addr} {fd : FuncData} {ps : List Str} {sp : SpG} (G : GFn P w K mg base k f fd ps sp) : L2.GFn P w K mg base k f fd ps sp :=
  ⟨G.len, fun A o s H a us vs Q E hr he hb hv hsp => codeAny_mono (G.run A o s H a us vs Q E hr he hb hv hsp) fun r s' h => by
    cases r with
    | error e => exact h
    | ok fl =>
      cases fl with
      | ret u => exact GMade.alone h
      | next => exact h
      | brk => exact h
      | cont => exact h⟩
end LG
/-! M56: generators. -/
namespace M
open PySem PySem.Spec PyProof.Rows L2
/-- how a generator's statement ends; the list: what was handed out -/
inductive RG where
  | nx (env : Env) (st : Sto) (acc : List D)
  | exc (C : Str) (fs : List (Str × D)) (env : Env) (st : Sto)
  | bad
  deriving Inhabited
abbrev IGB := Env → Sto → List D → RG
def PostG (W : Vw) (r : RG) (D : GEnds) (E : WX) : Prop := match r with
  | .nx env st acc => ∀ ρ' H' σ' ys, Ext W ρ' H' → Sim (W.to ρ' H') st → EnvR (W.to ρ' H') env σ' → RVs (W.to ρ' H') acc ys → D.nx ys σ' H'
  | .exc C fs env st => ∀ ρ' H' σ' d, Ext W ρ' H' → Sim (W.to ρ' H') st → EnvR (W.to ρ' H') env σ' → XR (W.to ρ' H') fs d → E (.ref (W.g C)) d σ' H'
  | .bad => False
theorem PostG.ext {W : Vw} {ρ' : List Addr} {H' : Hp} {r : RG} {D : GEnds} {E : WX} (x : Ext W ρ' H') (h : PostG W r D E) : PostG (W.to ρ' H') r D E := by
  cases r with
  | nx e s a => exact fun ρ2 H2 b ys y => h ρ2 H2 b ys (x.trans y)
  | exc C fs e s => exact fun ρ2 H2 b d y => h ρ2 H2 b d (x.trans y)
  | bad => exact h
theorem PostG.here {W : Vw} {env : Env} {st : Sto} {acc : List D} {D : GEnds} {E : WX} {σ : L2.St} {ys : List V} (h : PostG W (.nx env st acc) D E) (S : Sim W st) (e : EnvR W env σ) (r : RVs W acc ys) : D.nx ys σ W.H := h W.ρ W.H σ ys Ext.refl S e r
def gNil : IGB := fun env st acc => .nx env st acc
def kG (j : IGB) : RG → RG
  | .nx e s a => j e s a
  | r => r
section
variable {X : Cx} {F : Fx} {st : Stmt} {rest : List Stmt} {pos : Pos}
end
/-! ### generator defs -/
abbrev FnGn := List D → Sto → R (List D)
section
variable {P : Program} {w : World} {K : PySem.W.Frag} {mg : Str → Option Value} {base : Heap} {g : GG}
end
end M
/-! M57: list(g), tuple(range(n)), tests that are chains. -/
namespace M
open PySem PySem.Spec PyProof.Rows L2
section
variable {X : Cx} {F : Fx} {pos : Pos}
theorem chain_of {r r' : Op2} {i j k : IE} {σ : L2.St} {H : Hp} {Q : VK} (h : TI F (iChain r r' i j k) σ H Q) : tChain (r2 F r) (r2 F r') (TI F i) (TI F j) (TI F k) σ H Q := by
  refine (TX.bind (k := fun a env s1 => (j env s1).bind fun b s2 => (ofO (r a b s2)).bind (kChain r' k b env)) h).mono fun x H1 h1 => ?_
  refine (TK.bind (i := j) (k := fun a b env s2 => (ofO (r a b s2)).bind (kChain r' k b env)) (fun x r => RV.mono x r) h1).mono fun y H2 ⟨W, st, env, a, b, A, ra, rb, p⟩ => ?_
  refine ⟨W, st, a, b, A.in_, ra, rb, ?_⟩
  have p1 : PostE W ((ofO (r a b st)).bind (kChain r' k b env)) Q (F.at_ σ) := p
  cases e : r a b st with
  | none => rw [e] at p1; exact p1
  | some z =>
    obtain ⟨d, s3⟩ := z
    rw [e] at p1
    intro ρ' H' v x s r
    have p2 : PostE W (kChain r' k b env d s3) Q (F.at_ σ) := p1
    cases r with
    | bl t =>
      refine ⟨t, rfl, ?_⟩
      cases t with
      | false => exact p2 ρ' H' _ x s (.bl false)
      | true =>
        have T : TK RV RV F (fun b env s3 => (k env s3).bind fun c s4 => ofO (r' b c s4)) y σ H' Q := ⟨W.to ρ' H', s3, env, b, A.next x s, rb.mono x, Post.ext x p2⟩
        exact (TK.bind (i := k) (k := fun b c env s4 => ofO (r' b c s4)) (fun x r => RV.mono x r) T).mono fun z H3 ⟨W, st, env, a, b, A, ra, rb, p⟩ => ⟨W, st, a, b, A.in_, ra, rb, PostO.of p⟩
    | _ => exact p2.elim
theorem t_chain {op op' : CmpOp} {f g : Op2} {i j k : IE} {a b c : Expr} (ho : OpR X (compareOp op) (r2 F f)) (ho' : OpR X (compareOp op') (r2 F g)) (ha : PE X a (TI F i)) (hb : PE X b (TI F j)) (hc : PE X c (TI F k))
    (hm : lastMarks [op, op'] [b, c] = false := by with_unfolding_all rfl) : PT X (.Compare a [op, op'] [b, c] pos) (TT_ F (tBl (iChain f g i j k))) :=
  PT.imp (pt_chain ho ho' ha hb hc hm) fun σ H Q h => chain_of (tbl_of h)
variable {k : Nat} {f : Addr} {fd : FuncData} {ps : List Str} {x : Str} {p p2 pos2 : Pos} {e : Expr} {es : List Expr} {fl : FnGn} {cs : List Str} {j : IA}
end
end M
/-! M58: repr of a list or a tuple of one instance. -/
namespace PySem
open Sem (wp)
/-- amid a builtin function's run -/
structure Amid (A A' : Around) : Prop where
  hd : A'.handled = A.handled
  fr : A'.frames = A.frames
  dp : A'.depth ≤ A.depth + 4
  un : A'.units ≤ A.units + 8
theorem Amid.refl (A : Around) : Amid A A := ⟨rfl, rfl, by omega, by omega⟩
theorem pushEnvs_nil (x : Option (List Env)) : pushEnvs [] x = x := by rw [pushEnvs_eq]; cases x <;> rfl
theorem amid_loop (A : Around) (args : Args) : Amid A (A.under (.builtin "list.__repr__.loop" args)) := by
  have e : (Code.builtin "list.__repr__.loop" args).weight = 1 := by kernel_rfl
  have u : (Code.builtin "list.__repr__.loop" args).cUnits = 1 := by kernel_rfl
  refine ⟨rfl, pushEnvs_nil _, ?_, ?_⟩
  · show A.depth + (Code.builtin "list.__repr__.loop" args).weight ≤ _
    rw [e]; omega
  · show A.units + (Code.builtin "list.__repr__.loop" args).cUnits ≤ _
    rw [u]; omega
section
variable {prog : Program} {w : World} {A : Around} {E : Value → Shared → Prop} {s : Shared} {x : Addr} {ox : Obj} {C f : Addr} {od : Option Obj} {K : W.Frag}
/-- a text's characters, as a repr hands them on -/
def charD (r : Value) : Sem Str := match r with
  | .str s _ => pure s
  | .ref a => do
    let .prim (.str s _) := (← load a).data | unsupported "internal:str-result-without-characters"
    rule "str-result.instance-of-a-subclass.its-characters"
    letGo [r]
    pure s
  | _ => unsupported "internal:str-result-without-characters"
/-- an instance inside of something whose repr is under way -/
theorem repr_item {b : Nat} {Q : Str → Shared → Prop} (hb : b ≤ sizeLine) (hu : A.units < cLine) (X : K.In s.heap) (I : W.InstAt s.heap x ox C od) (hs : W.findIn K (.ref C) "__repr__" = some (some (.ref f))) (hf : W.isFn K (.ref f) = true)
    (h : wpAny (model prog w) A (call (.ref f) [.ref x]) (fun v s' => ∃ z t, v = .str z t ∧ Q z s') E s) : wpAny (model prog w) A (pyReprUnder b (.ref x)) Q E s := by
  unfold pyReprUnder
  rw [if_neg (by omega)]
  show wpAny (model prog w) A (do let r ← pyReprObjUnder b (.ref x); charD r) Q E s
  refine wpAny_bind ?_
  unfold pyReprObjUnder pyReprObjBy
  refine wpAny_bind (wpAny_cRoomFor hu ?_)
  refine wpAny_bind (wpAny_bind (I.type.here ((W.looks_findIn X hs).here ?_)))
  show wpAny _ _ (if (some (Value.ref f)).isNone = true then _ else _) _ _ _
  rw [if_neg (by simp)]
  unfold callSpecialIfBoundBy?
  refine wpAny_bind (wpAny_holding ?_)
  simp only [bindSpecialIfBound?]
  refine wpAny_bind (wpAny_bind (wpAny_bind (I.type.here ((W.looks_findIn X hs).here ?_))))
  have rest : ∀ (v : Value) (s' : Shared), (∃ z t, v = .str z t ∧ Q z s') → wpAny (model prog w) A (do let c ← isInstance v (.type "str"); if c = true then pure v else do let n ← typeNameOf v; raiseErrorMade "TypeError" (toString "__repr__ returned non-string (type " ++ toString n ++ toString ")")) (fun a s' => wpAny (model prog w) A (charD a) Q E s') E s' := fun v s' ⟨z, t, e, q⟩ => by
    subst e
    refine wpAny_bind (wpAny_isInstance (typeIs_str _ _ _) isSubtype_str_str ?_)
    rw [if_pos rfl]
    exact wpAny_pure (wpAny_pure q)
  have fin : wpAny (model prog w) A (do let r ← call (.ref f) ([.ref x] ++ []); pure (some r)) (fun a s' => wpAny (model prog w) A (match a with
      | some r => do let c ← isInstance r (.type "str"); if c = true then pure r else do let n ← typeNameOf r; raiseErrorMade "TypeError" (toString "__repr__ returned non-string (type " ++ toString n ++ toString ")")
      | none => unsupported "repr:special-get-raises") (fun a s' => wpAny (model prog w) A (charD a) Q E s') E s') E s :=
    wpAny_bind (wpAny_mono h (fun v s' h' => wpAny_pure (rest v s' h')) fun _ _ h' => h')
  refine wpAny_bind (wpAny_askSetting (wpAny_ite ?_))
  split
  · exact wpAny_bind ((W.bind_fn X _ (beq_iff_eq.mp hf)).here (wpAny_pure (by exact fin)))
  · exact wpAny_tryCatch (wpAny_bind ((W.bind_fn X _ (beq_iff_eq.mp hf)).here (wpAny_pure (by exact fin))))
end
section
open Builtin Builtin.List
variable {prog : Program} {w : World} {A : Around} {E : Value → Shared → Prop} {s : Shared} {a : Addr} {x : Value} {oa : Obj} {na : Nat} {g : List Code}
/-- the list that holds the parts -/
abbrev partsO (c : Nat) : Obj := { cls := .type "list", dict := none, data := .seq #[] c, slots := #[] }
theorem call_list_repr1 {Q : Value → Shared → Prop} (hTy : s.TypeIs (.ref a) "list") (hg : A.guards = some g) (hno : ∀ v rest kw, Code.builtin "list.__repr__.loop" ⟨v :: rest, kw⟩ ∈ g → Builtin.List.listSameRef v (.ref a) = false)
    (ha : s.heap.get? a = some oa) (hda : oa.data = .seq [x].toArray na)
    (hit : ∀ (A' : Around) (c tk : Nat), Amid A A' → wpAny (model prog w) A' (pyReprUnder 1 x) (fun z s2 => z.length ≤ 1000000 ∧ s2.heap.get? s.heap.objs.size = some (partsO c) ∧ (∃ oa' its n', s2.heap.get? a = some oa' ∧ oa'.data = .seq its n' ∧ its.size = 1) ∧
      ∀ h' u tk', (∀ b o, b ≠ s.heap.objs.size → s2.heap.get? b = some o → h'.get? b = some o) → Q (.str (listText [z]) u) { s2 with heap := h', toks := tk' }) E { s with heap := s.heap.push (partsO c), toks := tk }) :
    wpAny (model prog w) A (call (.builtin "list.__repr__") [.ref a]) Q E s := by
  refine wpAny_call (codeAny_call_builtin F.slot_list_repr.plain F.entry_list_repr (F.slot_list_repr.check _ _ _ _ _ _ _ _ hTy (F.args_list_repr_1 _) ?_))
  show wpAny (model prog w) A.in1 (Builtin.listReprAt 0 ⟨[.ref a], []⟩) _ _ s
  refine wpAny_list_repr_head (A := A.in1) hg hno ha hda ?_
  refine wpAny_bind (m := newList []) (wpAny_newObj_type ?_)
  refine wpAny_pure ⟨F.quiet_list_repr_loop _, ?_⟩
  refine codeAny_builtin F.entry_list_repr_loop ?_
  show wpAny _ _ («list.__repr__.loop» ⟨[.ref a, .int 0 0, .ref s.heap.objs.size, .int 0 0], []⟩) _ _ _
  rw [repr_loop_tree]
  refine wpAny_bind (wpAny_listItems (Heap.get?_push_of_some _ ha) hda ?_)
  show wpAny _ _ (do
      let z ← holding [x] (pyReprUnder 1 x)
      let signs := 0 + (z.length + 2)
      let r ← mkStr z
      listUpdate (.ref s.heap.objs.size) (·.push r)
      again (.builtin "list.__repr__.loop" ⟨[.ref a, rawInt (0 + 1), .ref s.heap.objs.size, rawInt signs], []⟩)) _ _ _
  refine wpAny_bind (wpAny_holding (wpAny_mono (hit _ _ _ (amid_loop A _)) (fun z s2 h => ?_) fun e s' h => h))
  obtain ⟨hz, hP, ⟨oa', its, n', ha', hd', hsz⟩, hQ⟩ := h
  have big : 1000000 ≤ sizeLine := by decide
  refine wpAny_bind (wpAny_mkStr ?_ (by omega))
  refine wpAny_bind ?_
  show wpAny _ _ (updateSeq s.heap.objs.size _) _ _ _
  refine wpAny_updateSeq hP rfl (wpAny_pure ⟨F.quiet_list_repr_loop _, ?_⟩) (by simp)
  have hne : s.heap.objs.size ≠ a := fun e => by
    have := Heap.lt_size ha
    rw [← e] at this
    exact Nat.lt_irrefl _ this
  refine codeAny_builtin F.entry_list_repr_loop ?_
  show wpAny _ _ («list.__repr__.loop» ⟨[.ref a, .int 1 0, .ref s.heap.objs.size, .int ((0 + (z.length + 2) : Nat) : Int) 0], []⟩) _ _ _
  rw [repr_loop_tree]
  refine wpAny_bind (wpAny_listItems ((Heap.get?_update_other _ _ hne).trans ha') hd' ?_)
  have hnone : its[(1 : Int).toNat]? = none := by simp [hsz]
  simp only [hnone]
  unfold reprEnd
  refine wpAny_bind (wpAny_listItems (Heap.get?_update_self _ hP rfl) rfl ?_)
  rw [show (#[].push (Value.str z s2.toks)).toList = strValues [(z, s2.toks)] from rfl, repr_fold]
  refine wpAny_bind (wpAny_pure ?_)
  have hl : (listText [z]).length ≤ sizeLine := by
    have e : (listText [z]).length = 1 + z.length + 1 := by
      show (("[" : Str) ++ (if (0 : Nat) > 0 then ", " else "" : String) ++ z ++ "]").length = _
      rw [strLen_append, strLen_append, strLen_append]
      have e1 : (("[" : String) : Str).length = 1 := by kernel_rfl
      have e2 : (((if (0 : Nat) > 0 then ", " else "" : String)) : Str).length = 0 := by kernel_rfl
      have e3 : (("]" : String) : Str).length = 1 := by kernel_rfl
      rw [e1, e2, e3]
    have : 10000000 ≤ sizeLine := by decide
    omega
  refine wpAny_bind (wpAny_mkStr (wpAny_pure ?_) hl)
  exact hQ _ _ _ fun b o hb e => (Heap.get?_update_other _ _ (fun h => hb h.symm)).trans e
theorem amid_tup (A : Around) (args : Args) : Amid A (A.under (.builtin "tuple.__repr__" args)) := by
  have e : (Code.builtin "tuple.__repr__" args).weight = 1 := by kernel_rfl
  have u : (Code.builtin "tuple.__repr__" args).cUnits = 1 := by kernel_rfl
  refine ⟨rfl, pushEnvs_nil _, ?_, ?_⟩
  · show A.depth + (Code.builtin "tuple.__repr__" args).weight ≤ _
    rw [e]; omega
  · show A.units + (Code.builtin "tuple.__repr__" args).cUnits ≤ _
    rw [u]; omega
theorem call_tuple_repr1 {Q : Value → Shared → Prop} (hTy : s.TypeIs (.ref a) "tuple") (hg : A.guards = some g) (hno : ∀ c ∈ g, tupGuardF (.ref a) (c, default) = false)
    (ha : s.heap.get? a = some oa) (hda : oa.data = .seq [x].toArray na)
    (hit : ∀ (A' : Around), Amid A A' → wpAny (model prog w) A' (pyReprUnder 1 x) (fun z s2 => z.length ≤ 1000000 ∧ ∀ u tk', Q (.str (tupleText [z]) u) { s2 with toks := tk' }) E s) :
    wpAny (model prog w) A (call (.builtin "tuple.__repr__") [.ref a]) Q E s := by
  refine wpAny_call (codeAny_call_builtin_own (Code.quiet_builtin _ (by decide +kernel)) F.entry_tuple_repr (F.slot_tuple_repr.check _ _ _ _ _ _ _ _ hTy (F.args_tuple_repr_1 _) ?_))
  show wpOwn (model prog w) A _ (Builtin.tupleReprAt 0 ⟨[.ref a], []⟩) _ _ s
  rw [tuple_repr_tree, tupleReprUnderWay_eq]
  refine wpOwn_bind (wpOwn_stackTailAny hg (tupGuardF_off _) (tupGuardF_pos _) ?_)
  have hn : (g.any fun c => tupGuardF (.ref a) (c, default)) = false := by
    rw [List.any_eq_false]
    intro c hc
    rw [hno c hc]
    exact Bool.false_ne_true
  rw [hn]
  refine wpOwn_of_wpAny ?_
  show wpAny _ _ (tupleReprRest 0 (.ref a)) _ _ s
  unfold tupleReprRest Builtin.Tuple.tupleItemsOf
  refine wpAny_bind (wpAny_bind (wpAny_seqItems ha hda (wpAny_pure ?_)))
  rw [← Array.forIn_toList]
  rw [show (#[x] : Array Value).toList = [x] from rfl, List.forIn_cons]
  refine wpAny_bind (wpAny_bind (wpAny_bind (wpAny_mono (hit _ (amid_tup A _)) (fun z s2 h => ?_) fun e s' h => h)))
  obtain ⟨hz, hQ⟩ := h
  refine wpAny_pure ?_
  simp only [List.forIn_nil]
  refine wpAny_pure ?_
  have hl : (tupleText [z]).length ≤ sizeLine := by
    have e : (tupleText [z]).length = 1 + z.length + 2 := by
      show ((("(" : Str) ++ Str.join ", " [z]) ++ ((if [z].length == 1 then ",)" else ")" : String) : Str)).length = _
      rw [strLen_append, strLen_append]
      have e1 : (("(" : String) : Str).length = 1 := by kernel_rfl
      have e2 : (((if [z].length == 1 then ",)" else ")" : String)) : Str).length = 2 := by kernel_rfl
      have e3 : (Str.join ", " [z]).length = z.length := by simp [Str.join]
      rw [e1, e2, e3]
    have : 10000000 ≤ sizeLine := by decide
    omega
  exact wpAny_bind (wpAny_mkStr (wpAny_pure (hQ _ _)) hl)
end
end PySem
/-! M59: repr of a list or a tuple of one instance, in the embedding. -/
namespace M
open PySem PySem.Spec PyProof.Rows L2
def kOne (tx : Str → Str) : Option (D × Sto) → Option (D × Sto)
  | some (.str z, s) => if z.length ≤ 1000000 then some (.str (tx z), s) else none
  | _ => none
def opReprO (C : Str) (fn : Fn) : OpN := fun ds st => match ds with
  | [.tup [.ref q]] => (match insD st (.ref q) with
    | some (C', _) => if C' = C then kOne (fun z => tupleText [z]) (optR (fn [.ref q] st)) else none
    | none => opRepr [.tup [.ref q]] st)
  | [.lst [.ref q]] => (match insD st (.ref q) with
    | some (C', _) => if C' = C then kOne (fun z => listText [z]) (optR (fn [.ref q] st)) else none
    | none => opRepr [.lst [.ref q]] st)
  | ds => opRepr ds st
theorem repr_slot {M0 : World} {prog : Program} {A : Around} {E : Value → Shared → Prop} {s : Shared} {v : Value} {T id : String} {Q : Value → Shared → Prop} (hT : s.TypeIs v T) (sl : Slot T "__repr__" id) (hu : A.in1.units < cLine)
    (h : wpAny (model prog M0) A.in1 (call (.builtin id) [v]) (PySem.W.StrBack Q) E s) : wpAny (model prog M0) A (call (.builtin "repr") [v]) Q E s := by
  refine Calls.call_function_entry PySem.F.kind_repr PySem.F.plain_repr PySem.F.entry_repr (PySem.F.args_repr1 _) ?_
  unfold Builtin.«repr»
  refine wpAny_bind (m := oneArg "repr" _) (wpAny_pure ?_)
  refine wpAny_bind (wpAny_cRoomFor hu ?_)
  refine wpAny_bind (wpAny_specialOf (name := Str.ofString "__repr__") hT sl.lookup ?_)
  show wpAny _ _ (if (some (Value.builtin id)).isNone = true then _ else _) _ _ _
  rw [if_neg (by simp)]
  refine wpAny_bind (m := callSpecialIfBound? v (Str.ofString "__repr__") _) (wpAny_callSpecialIfBound?_slot (name := Str.ofString "__repr__") hT sl (wpAny_mono h (fun r s' hr => ?_) fun _ _ y => y))
  cases r <;> first | exact hr.elim | skip
  refine wpAny_bind (wpAny_isInstance (typeIs_str _ _ _) isSubtype_str_str ?_)
  first
    | exact wpAny_pure ⟨_, rfl, hr⟩
    | (rw [if_pos rfl]; exact wpAny_pure ⟨_, rfl, hr⟩)
    | (simp only [if_true]; exact wpAny_pure ⟨_, rfl, hr⟩)
theorem repr_slotG {M0 : World} {prog : Program} {A : Around} {E : Value → Shared → Prop} {s : Shared} {v : Value} {T id : String} {Q : Value → Shared → Prop} (hT : s.TypeIs v T) (sl : SlotG T "__repr__" id) (hu : A.in1.units < cLine)
    (h : wpAny (model prog M0) A.in1 (call (.builtin id) [v]) (PySem.W.StrBack Q) E s) : wpAny (model prog M0) A (call (.builtin "repr") [v]) Q E s := by
  refine Calls.call_function_entry PySem.F.kind_repr PySem.F.plain_repr PySem.F.entry_repr (PySem.F.args_repr1 _) ?_
  unfold Builtin.«repr»
  refine wpAny_bind (m := oneArg "repr" _) (wpAny_pure ?_)
  refine wpAny_bind (wpAny_cRoomFor hu ?_)
  refine wpAny_bind (wpAny_specialOf (name := Str.ofString "__repr__") hT sl.lookup ?_)
  show wpAny _ _ (if (some (Value.builtin id)).isNone = true then _ else _) _ _ _
  rw [if_neg (by simp)]
  refine wpAny_bind (m := callSpecialIfBound? v (Str.ofString "__repr__") _) (wpAny_callSpecialIfBound?_slotG (name := Str.ofString "__repr__") hT sl (wpAny_mono h (fun r s' hr => ?_) fun _ _ y => y))
  cases r <;> first | exact hr.elim | skip
  refine wpAny_bind (wpAny_isInstance (typeIs_str _ _ _) isSubtype_str_str ?_)
  first
    | exact wpAny_pure ⟨_, rfl, hr⟩
    | (rw [if_pos rfl]; exact wpAny_pure ⟨_, rfl, hr⟩)
    | (simp only [if_true]; exact wpAny_pure ⟨_, rfl, hr⟩)
section
variable {X : Cx} {F : Fx} {fS : Addr} {C : Str} {fn : Fn}
theorem cr_reprO (hk : X.K = F.K) (hgd : X.A.guards = some []) (hu : X.A.units + (64 + 1) < cLine) (hs : PySem.W.findIn F.K (.ref (F.g C)) "__repr__" = some (some (.ref fS))) (hf : PySem.W.isFn F.K (.ref fS) = true)
    (ans : ∀ (A' : Around), A'.handled = X.A.handled → A'.frames = X.A.frames → A'.depth ≤ X.A.depth + 4 → A'.units ≤ X.A.units + 9 → ∀ (pins : List (Addr × Obj)) (σ : L2.St) (s : Shared) (H : Hp) (b : Addr) (Q : VK), Inv X pins σ H s → SPx F.K F.g fn [V.ref b] H Q (fun _ _ _ => False) →
      wpAny (model X.prog X.w) A' (call (.ref fS) [.ref b]) (EP X pins σ Q) X.xe s) : CallR X (.builtin "repr") (rN F (opReprO C fn)) := fun pins s σ H xs us Q I r ⟨W, st, ds, J, rd, p⟩ => by
  have un : X.A.units + 20 < cLine := by omega
  -- the item's own repr
  have item : ∀ {A' : Around} {s1 : Shared} {pins1 : List (Addr × Obj)} {q : Nat} {b : Addr} {fs : List (Str × D)} {Q1 : VK}, Amid X.A.in1 A' → Inv X pins1 σ H s1 → insD st (.ref q) = some (C, fs) → RV W (.ref q) (.ref b) → PostE W (fn [.ref q] st) Q1 (fun _ _ _ => False) →
      (∀ v H', Q1 v H' → ∃ z, v = .str z) → wpAny (model X.prog X.w) A' (pyReprUnder 1 (.ref b)) (fun z s2 => ∃ t, EP X pins1 σ Q1 (.str z t) s2) X.xe s1 := fun {A' s1 pins1 q b fs Q1} am I1 hd rv pq hz => by
    obtain ⟨a', dx, gs, e, ea, _⟩ := insD_at J.sim hd rv
    cases e
    rw [J.g, J.h] at ea
    obtain ⟨mA, O, _⟩ := ins_get I1.hok ea
    obtain ⟨od, JI, _⟩ := O.look
    rw [← hk] at hs hf
    have un' : A'.units ≤ X.A.units + 9 := by have := am.un; show A'.units ≤ _; simp only [Around.in1_units] at this; omega
    refine repr_item (by decide) (by omega) I1.kIn JI hs hf (wpAny_mono (ans A' am.hd am.fr (by have := am.dp; simpa using this) un' pins1 σ s1 H b Q1 I1 ⟨W, st, [.ref q], J.k, J.g, J.h, J.sim, .cons rv .nil, pq⟩) (fun v s2 h => ?_) fun _ _ y => y)
    obtain ⟨x, H', I', rx, qx⟩ := h
    obtain ⟨z, rfl⟩ := hz x H' qx
    obtain ⟨t, rfl⟩ := rx
    exact ⟨z, t, rfl, t, .str z, H', I', ⟨t, rfl⟩, qx⟩
  unfold opReprO at p
  split at p
  · -- a tuple
    rename_i q
    obtain ⟨v, rfl, rv⟩ := rv1 rd
    obtain ⟨u, rfl, ru⟩ := vals1 r
    obtain ⟨a, ys, rfl, t1, ry⟩ := tup_at rv
    cases ru
    split at p
    · rename_i C' fs hd
      split at p
      · rename_i hC
        subst hC
        rw [J.k, ← hk, J.h] at t1
        cases ry with
        | cons r1 r2 =>
        cases r2
        rename_i y
        obtain ⟨its, rits, ⟨o, ho, hc, n, hdt⟩, _⟩ := I.tuple t1
        cases rits with
        | cons ri r2 =>
        cases r2
        rename_i yi
        obtain ⟨b, rfl⟩ : ∃ b, y = V.ref b := by cases r1 with | ref _ => exact ⟨_, rfl⟩
        cases ri
        have hT : s.TypeIs (.ref a) "tuple" := ⟨o, ho, hc⟩
        refine repr_slotG hT PySem.F.slot_tuple_repr (by show X.A.units + 1 < cLine; omega) ?_
        refine call_tuple_repr1 (A := X.A.in1) (g := []) hT hgd (fun c hc => by simp at hc) ho hdt fun A' am => ?_
        have pq : PostE W (fn [.ref q] st) (fun v H' => ∃ z : Str, v = .str z ∧ z.length ≤ 1000000 ∧ Q (.str (tupleText [z])) H') (fun _ _ _ => False) := by
          cases e : fn [.ref q] st with
          | ok d s2 =>
            rw [e] at p
            cases d with
            | str z =>
              have p' : PostO W (if z.length ≤ 1000000 then some (.str (tupleText [z]), s2) else none) Q := p
              split at p'
              · rename_i hl
                intro ρ' H' b x S r
                cases r
                exact ⟨z, rfl, hl, p' ρ' H' _ x S (.str _)⟩
              · exact p'.elim
            | _ => exact p.elim
          | exc D fs s2 => rw [e] at p; exact p.elim
          | bad => rw [e] at p; exact p.elim
        refine wpAny_mono (item am I hd r1 pq fun v H' ⟨z, e, _⟩ => ⟨z, e⟩) (fun z s2 h => ?_) fun _ _ y => y
        obtain ⟨t, x, H', I', rx, z', e, hl, qx⟩ := h
        subst e
        obtain ⟨t', e⟩ := rx
        cases e
        refine ⟨hl, fun u tk' => ?_⟩
        show EP X pins σ Q (.str (tupleText [z]) u) { s2 with toks := tk' }
        exact ⟨.str (tupleText [z]), H', I'.kept (t' := tk') fun _ _ e => e, ⟨u, rfl⟩, qx⟩
      · exact p.elim
    · exact cr_repr hk hgd hu pins s σ H _ _ Q I r ⟨W, st, _, J, rd, p⟩
  · -- a list
    rename_i q
    obtain ⟨v, rfl, rv⟩ := rv1 rd
    obtain ⟨u, rfl, ru⟩ := vals1 r
    have rv0 := rv
    cases rv with
    | @lst a _ ys t1 ry =>
    cases ru
    split at p
    · rename_i C' fs hd
      split at p
      · rename_i hC
        subst hC
        cases ry with
        | cons r1 r2 =>
        cases r2
        rename_i y
        have t2 : SqL X.K H a [y] := by
          have := t1.sq
          rw [J.k, ← hk, J.h] at this
          exact this
        obtain ⟨its, rits, ⟨o, n, ho, hc, _, hdt⟩, _⟩ := I.list t2
        cases rits with
        | cons ri r2 =>
        cases r2
        obtain ⟨b, rfl⟩ : ∃ b, y = V.ref b := by cases r1 with | ref _ => exact ⟨_, rfl⟩
        cases ri
        have hT : s.TypeIs (.ref a) "list" := ⟨o, ho, hc⟩
        refine repr_slot hT PySem.F.slot_list_repr (by show X.A.units + 1 < cLine; omega) ?_
        refine call_list_repr1 (A := X.A.in1) (g := []) hT hgd (fun v rest kw hc => by simp at hc) ho hdt fun A' c tk am => ?_
        have I1 : Inv X pins σ H { s with heap := s.heap.push (partsO c), toks := tk } := I.kept fun b o e => Heap.get?_push_of_some _ e
        have hf0 : FpOk X pins H s.heap.objs.size := I.fpOk (Nat.le_refl _) (I.hok.fresh (Nat.le_refl _))
        have I2 : Inv X (pins ++ [(s.heap.objs.size, partsO c)]) σ H { s with heap := s.heap.push (partsO c), toks := tk } := I1.pins_of fun p hp => (List.mem_append.mp hp).elim (fun z => I1.pin p (List.mem_append_right _ z)) fun z => by
          rw [List.mem_singleton.mp z]
          exact ⟨Heap.get?_push_size _ rfl, hf0.1, hf0.2.1, hf0.2.2.1, fun v q => by cases q⟩
        have pq : PostE W (fn [.ref q] st) (fun v H' => ∃ z : Str, v = .str z ∧ z.length ≤ 1000000 ∧ SqL X.K H' a [V.ref b] ∧ Q (.str (listText [z])) H') (fun _ _ _ => False) := by
          cases e : fn [.ref q] st with
          | ok d s2 =>
            rw [e] at p
            cases d with
            | str z =>
              have p' : PostO W (if z.length ≤ 1000000 then some (.str (listText [z]), s2) else none) Q := p
              split at p'
              · rename_i hl
                intro ρ' H' bb x S r
                cases r
                have t3 := (Vw.Lst.mono x t1).sq
                rw [show (W.to ρ' H').K = X.K from J.k.trans hk.symm] at t3
                exact ⟨z, rfl, hl, t3, p' ρ' H' _ x S (.str _)⟩
              · exact p'.elim
            | _ => exact p.elim
          | exc D fs s2 => rw [e] at p; exact p.elim
          | bad => rw [e] at p; exact p.elim
        refine wpAny_mono (item am I2 hd r1 pq fun v H' ⟨z, e, _⟩ => ⟨z, e⟩) (fun z s2 h => ?_) fun _ _ y => y
        obtain ⟨t, x, H', I', rx, z', e, hl, hsq, qx⟩ := h
        subst e
        obtain ⟨t', e⟩ := rx
        cases e
        have pinP := I'.pin (s.heap.objs.size, partsO c) (List.mem_append_right _ (List.mem_append_right _ (List.mem_singleton.mpr rfl)))
        have I3 : Inv X pins σ H' s2 := I'.unpinned
        obtain ⟨its', rits', ⟨o', n', ho', hc', _, hdt'⟩, _⟩ := I3.list hsq
        refine ⟨hl, pinP.1, ⟨o', its'.toArray, n', ho', hdt', by have := rits'.length; simpa using this.symm⟩, fun h' u tk' hk' => ?_⟩
        obtain ⟨_, q1, q2, q3, q4, q5⟩ := hf0
        show EP X pins σ Q (.str (listText [z]) u) { s2 with heap := h', toks := tk' }
        exact ⟨.str (listText [z]), H', I3.turned (it := s.heap.objs.size) hk' pinP.2.1 q1 q3 q4 q5, ⟨u, rfl⟩, qx⟩
      · exact p.elim
    · exact cr_repr hk hgd hu pins s σ H _ _ Q I r ⟨W, st, _, J, .cons rv0 .nil, p⟩
  · exact cr_repr hk hgd hu pins s σ H _ _ Q I r ⟨W, st, _, J, rd, p⟩
end
end M
/-! M62: open defs as values; binding by keywords alone. -/
namespace M
open PySem PySem.Spec PyProof.Rows L2
section
variable {X : Cx} {F : Fx} {W : Vw} {st : Sto} {pos apos p : Pos} {o e fe : Expr} {es : List Expr} {i : IE} {j : IA} {k : Nat} {fs : List (Str × Fn)}
structure HeldO (X : Cx) (F : Fx) (k : Nat) (fs : List (Str × Fn)) : Prop where
  ex : ∀ q ∈ fs, ∃ (fd : FuncData) (ps : List Str), FnO X.prog X.w X.K X.mg X.base k (F.g q.1) fd ps (SPx F.K F.g q.2) ∧ PySem.W.keepIn X.K (.ref (F.g q.1)) = true ∧ Binds X.K fd ps []
end
section
variable {K : PySem.W.Frag} {x qual : Str} {params : Arguments} {body : List Stmt} {scope : Scope} {f : Addr} {fd : FuncData} {ps ks : List Str} {ws : List Value} {s : Shared}
end
end M
/-! M63: dicts whose keys are tuples of numbers, texts and None: what stands; {}, get, d[k] = v. -/
namespace M
open PySem PySem.Spec PyProof.Rows L2
/-! ### keys -/
/-! ### pairs -/
section
variable {W : Vw} {t : Bool} {kvs : List (List Leaf × D)} {xs : List (List Leaf × Addr × V)} {vs : List (List Leaf × Addr × Value)} {k : List Leaf}
end
/-! ### the object -/
section
variable {X : Cx} {pins : List (Addr × Obj)} {σ : L2.St} {H : Hp} {s : Shared} {W : Vw} {t : Bool} {a b : Addr} {kvs : List (List Leaf × D)} {xs : List (List Leaf × Addr × V)} {k : List Leaf}
end
section
variable {X : Cx} {F : Fx} {pos apos p : Pos} {o e : Expr} {es : List Expr} {i j : IE} {ja : IA} {name : Str} {id : String}
/-! ### {} -/
/-! ### methods of a dict -/
/-! ### get -/
end
end M
/-! M64: d[k] = v and list(d.items()) of such dicts. -/
namespace M
open PySem PySem.Spec PyProof.Rows L2
section
variable {X : Cx} {F : Fx} {pos apos p : Pos} {o e : Expr} {es : List Expr} {i j : IE} {ja : IA} {name : Str} {id : String}
/-! ### d[k] = v -/
/-! ### list(d.items()) -/
end
end M
/-! M65: tuples of which more is known; their index; list(range(a, b)). -/
namespace M
open PySem PySem.Spec PyProof.Rows L2
section
variable {X : Cx} {F : Fx} {W : Vw} {st : Sto} {pos apos p : Pos} {o e : Expr} {es : List Expr} {i j : IE} {ja : IA} {name : Str} {id : String}
/-! ### such a tuple taken as a tuple -/
/-! ### tuple(xs) -/
/-! ### tuple(range(n)) -/
/-! ### list(range(a, b)) -/
/-! ### methods of such a tuple -/
instance : PySem.W.Datum Leaf where
  toD k := match k with
    | .none => .none
    | .num i => .int i
    | .text x => .str x
  plain k := by cases k <;> rfl
  eqv a b := by
    cases a <;> cases b <;> simp [PyData.eqv] <;> (rw [Bool.eq_iff_iff]; simp)
  depth := 0
  depth_le k := by cases k <;> exact Nat.le_refl _
end
end M
/-! M66: sum of a list of ints, xs[::-1], calls with positional values and keywords. -/
namespace M
open PySem PySem.Spec PyProof.Rows L2
section
variable {X : Cx} {F : Fx} {W : Vw} {st : Sto}
end
/-! ### calls with positional values and keywords -/
/-- the values at these places -/
def gPick {α : Type} (perm : List Nat) (l : List α) : List α := perm.filterMap fun i => l[i]?
theorem vals_get : ∀ {vs : List V} {us : List Value}, Vals vs us → ∀ i : Nat, (vs[i]? = none ∧ us[i]? = none) ∨ ∃ v u, vs[i]? = some v ∧ us[i]? = some u ∧ RelV v u
  | _, _, .nil, i => .inl ⟨by simp, by simp⟩
  | _, _, .cons r rs, 0 => .inr ⟨_, _, rfl, rfl, r⟩
  | _, _, .cons r rs, i + 1 => by simpa using vals_get rs i
theorem rvs_get {W : Vw} : ∀ {ds : List D} {vs : List V}, RVs W ds vs → ∀ i : Nat, (ds[i]? = none ∧ vs[i]? = none) ∨ ∃ d v, ds[i]? = some d ∧ vs[i]? = some v ∧ RV W d v
  | _, _, .nil, i => .inl ⟨by simp, by simp⟩
  | _, _, .cons r rs, 0 => .inr ⟨_, _, rfl, rfl, r⟩
  | _, _, .cons r rs, i + 1 => by simpa using rvs_get rs i
theorem vals_pick {vs : List V} {us : List Value} (r : Vals vs us) : ∀ perm : List Nat, Vals (gPick perm vs) (gPick perm us)
  | [] => .nil
  | i :: perm => by
    have ih := vals_pick r perm
    unfold gPick at ih ⊢
    rcases vals_get r i with ⟨e1, e2⟩ | ⟨v, u, e1, e2, q⟩
    · rw [List.filterMap_cons_none e1, List.filterMap_cons_none e2]; exact ih
    · rw [List.filterMap_cons_some e1, List.filterMap_cons_some e2]; exact .cons q ih
theorem rvs_pick {W : Vw} {ds : List D} {vs : List V} (r : RVs W ds vs) : ∀ perm : List Nat, RVs W (gPick perm ds) (gPick perm vs)
  | [] => .nil
  | i :: perm => by
    have ih := rvs_pick r perm
    unfold gPick at ih ⊢
    rcases rvs_get r i with ⟨e1, e2⟩ | ⟨v, u, e1, e2, q⟩
    · rw [List.filterMap_cons_none e1, List.filterMap_cons_none e2]; exact ih
    · rw [List.filterMap_cons_some e1, List.filterMap_cons_some e2]; exact .cons q ih
section
variable {K : PySem.W.Frag} {x qual : Str} {params : Arguments} {body : List Stmt} {scope : Scope} {dvs : List V} {kws : List (Str × V)} {f : Addr} {fd : FuncData} {ps : List Str}
theorem kbn_pick0 (F : FunD K x qual params body scope [] kws f fd) (n : Nat) (ks : List Str) (perm : List Nat)
    (h : ∀ (kV doc pm : Value) (an : Option Addr) (cdv ct : Value) (us ws : List Value), us.length = n → ws.length = ks.length → bindArgs (PySem.W.fnOf x qual params body scope .none kV doc pm an cdv ct) ⟨us, ks.zip ws⟩ = pure (ps.zip (gPick perm (us ++ ws)))) :
    ∃ its : List Value, KBn K fd ps n ks (fun us ws => gPick perm (us ++ (its ++ ws))) (fun vs zs => gPick perm (vs ++ ([] ++ zs))) := by
  obtain ⟨oc, od, dV, kV, doc, pm, an, cdv, ct, osl, rfl, lk, hcd, hD, hK⟩ := F.ex
  rcases hD with ⟨_, rfl⟩ | ⟨e, _⟩
  · exact ⟨[], ⟨fun s us ws X l1 l2 => .of_eq (h kV doc pm an cdv ct us ws l1 l2), fun r1 r2 => vals_pick (r1.append r2) perm⟩⟩
  · exact absurd rfl e
end
section
variable {X : Cx} {F : Fx} {k n : Nat} {f : Addr} {fd : FuncData} {ps ks : List Str} {fs : Fn} {x : Str} {p pos : Pos} {e : Expr} {es : List Expr} {kws : List Keyword} {j jk : IA} {g : List Value → List Value → List Value} {dvs : List V} {dd : List D} {perm : List Nat}
def kPick (fs : Fn) (n m : Nat) (perm : List Nat) (dd ds zs : List D) (st : Sto) : R D := if ds.length = n ∧ zs.length = m then fs (gPick perm (ds ++ (dd ++ zs))) st else .bad
theorem run_gN {pins : List (Addr × Obj)} {σ : L2.St} {H : Hp} {s : Shared} {Q : VK} {us ws : List Value} {vs zs : List V} {sp : Sp} {gV : List V → List V → List V} (G : FnG X.prog X.w X.K X.mg X.base k f fd ps sp) (hr : Room k X.A) (hgd : X.A.guards = some []) (hb : KBn X.K fd ps n ks g gV) (tk : L2N.Takes X F.E)
    (I : Inv X pins σ H s) (r : Vals vs us) (rz : Vals zs ws) (l1 : vs.length = n) (l2 : zs.length = ks.length) (h : sp (gV vs zs) H Q (F.at_ σ)) : wpAny (model X.prog X.w) X.A (call (.ref f) us (ks.zip ws)) (EP X pins σ Q) X.xe s := by
  have r2 := hb.rel r rz
  refine wpAny_call (codeAny_mono (G.run X.A X.stack s H ⟨us, ks.zip ws⟩ (g us ws) (gV vs zs) Q (F.at_ σ) hr hgd I.env0 (hb.to s us ws I.kIn (r.length.symm.trans l1) (rz.length.symm.trans l2)) r2 h) fun r s' hq => ?_)
  cases r with
  | error e => exact tk e s' (L2N.XE.of_call I (fun _ _ _ h => h) hq)
  | ok fl =>
    cases fl with
    | ret u => exact I.after hq
    | next => exact hq.elim
    | brk => exact hq.elim
    | cont => exact hq.elim
theorem pick_sp {W : Vw} {st : Sto} {env : Env} {σ : L2.St} {H : Hp} {ds zs : List D} {vs ws : List V} {Q : VK} {m : Nat} (hdd : ∀ W : Vw, W.K = F.K → W.g = F.g → RVs W dd dvs) (A : At F W st env σ H) (r : RVs W ds vs) (rz : RVs W zs ws) (q : Post W RV (kPick fs n m perm dd ds zs st) Q (F.at_ σ)) :
    vs.length = n ∧ ws.length = m ∧ SPx F.K F.g fs (gPick perm (vs ++ (dvs ++ ws))) H Q (F.at_ σ) := by
  unfold kPick at q
  split at q
  · rename_i c
    exact ⟨r.length.symm.trans c.1, rz.length.symm.trans c.2, W, st, _, A.k, A.g, A.h, A.sim, rvs_pick (r.append ((hdd W A.k A.g).append rz)) perm, q⟩
  · exact q.elim
end
/-! ### range(i, j, -1) -/
section
variable {X : Cx} {F : Fx}
def nxD (lo : Int) (n : Nat) : Nx := fun i _ => if i < n then some (some (.int (lo + i * (-1)))) else some none
theorem itok_dn {W : Vw} {lo : Int} {n m : Nat} : ItOk W (nxD lo n, m) (Itc lo (-1) n) where
  go := fun V st i d x S e => by
    have e' : (if i < n then some (some (D.int (lo + i * (-1)))) else some none) = some (some d) := e
    split at e'
    · rename_i c
      cases e'
      exact ⟨c, fun y H2 ⟨e2, f⟩ => by subst e2; subst f; exact ⟨Ext.refl, S, .int _⟩⟩
    · cases e'
  stop := fun V st i x S e => by
    have e' : (if i < n then some (some (D.int (lo + i * (-1)))) else some none) = some none := e
    split at e'
    · cases e'
    · rename_i c
      exact Nat.not_lt.mp c
def kRng3 (ds : List D) (s : Sto) : R (Nx × Nat) := match ds with
  | [.int i, .int j, .int (-1)] => if -(2 ^ 62) ≤ i ∧ i < 2 ^ 62 ∧ -(2 ^ 62) ≤ j ∧ j < 2 ^ 62 then .ok (nxD i (i - j).toNat, (i - j).toNat) s else .bad
  | _ => .bad
def wRng3 (i : IA) : IW := fun env st => (i env st).bind kRng3
theorem rv3' {W : Vw} {a b c : D} {vs : List V} (r : RVs W [a, b, c] vs) : ∃ x y z, vs = [x, y, z] ∧ RV W a x ∧ RV W b y ∧ RV W c z := by
  cases r with
  | cons r1 r => cases r with
    | cons r2 r => cases r with
      | cons r3 r => cases r with
        | nil => exact ⟨_, _, _, rfl, r1, r2, r3⟩
theorem w_rng3 {tg a b c : Expr} {p pos : Pos} {i : IA} (hg : Gl X "range") (hm : X.mg "range" = none) (ha : PA X [a, b, c] (TA_ F i))
    (hs : starEach [a, b, c] X.env = (false, eval a X.env) :: starEach [b, c] X.env := by rfl) (hpl : (backTo pos (starEach [b, c] X.env)).any (·.1) = false := by rfl) :
    PI X tg (.Call (.Name "range" p) [a, b, c] [] pos) (TW F (wRng3 i)) := PI.imp (pi_range3 hg hm ha hs hpl) fun σ H Q h =>
  (TX.bind (k := fun d env s => kRng3 d s) h).mono fun x H1 ⟨W, s, env, d, A, r, p⟩ => by
    have p' : Post W ItOk (kRng3 d s) Q (F.at_ σ) := p
    unfold kRng3 at p'
    split at p'
    · split at p'
      · rename_i cc
        obtain ⟨v, u, z, rfl, rv, ru, rz⟩ := rv3' r
        cases rv
        cases ru
        cases rz
        have q := p' W.ρ W.H _ Ext.refl A.sim itok_dn
        rw [A.h] at q
        exact ⟨_, _, _, _, rfl, RgC.neg cc.1 cc.2.1 cc.2.2.1 cc.2.2.2, q⟩
      · exact p'.elim
    · exact p'.elim
end
end M
/-! M67: defs that change a few lists handed in, and hand back what nobody changes any more. -/
namespace M
open PySem PySem.Spec PyProof.Rows L2
section
variable {W W' : Vw} {st : Sto}
structure IntoC (m : Nat) (W W' : Vw) : Prop where
  k : W'.K = W.K
  g : W'.g = W.g
  h : W'.H = W.H
  fro : ∀ a, W.fro a → W'.fro a
  ref : ∀ (j : Nat) a, m ≤ j → W.ρ[j]? = some a → W'.fro a
end
section
variable {P : Program} {w : World} {K : PySem.W.Frag} {mg : Str → Option Value} {base : Heap} {g : GG} {kk : Nat} {fa : Addr} {fd : FuncData} {ps : List Str} {f : Fn}
end
end M
/-! M68: sorted(set(e)) of ints. -/
namespace M
open PySem PySem.Spec PyProof.Rows L2

def SetI (w : World) (h : Heap) (a : Addr) (l : List Int) : Prop := SetR w h a (fun k => decide (k ∈ l)) l.length
theorem SetI.at {w : World} {h h' : Heap} {a : Addr} {l : List Int} (R : SetI w h a l) (k : ∀ o, h.get? a = some o → h'.get? a = some o) : SetI w h' a l := SetR.at R k
section
variable {P : Program} {w : World} {A : Around} {R : Result → Shared → Prop} {I : Addr} {fp wr : List Addr} {G : Array GenState → Array GenState → Prop} {n : Nat} {Pv : Nat → Value → Prop} {St : Nat → Shared → Prop}
end
section
variable {P : Program} {w : World} {A : Around} {E : Value → Shared → Prop} {s : Shared}
end

section
variable {X : Cx} {F : Fx} {pos : Pos}
theorem vals_ints : ∀ {us : List Value} {xs : List Int}, Vals (xs.map V.int) us → IntsAre us xs
  | [], [], .nil => .nil
  | u :: us, x :: xs, .cons r t => by
    obtain ⟨k, rfl⟩ := r
    exact .cons x k (vals_ints t)
end
end M
/-! M69: dicts that nobody changes: dict(pairs), list(d.items()), d[k]. -/
namespace M
open PySem PySem.Spec PyProof.Rows L2
section
variable {X : Cx} {F : Fx} {W : Vw} {st : Sto} {pos : Pos}
/-! ### d[k] -/
/-! ### dict(pairs) -/
/-! ### list(d.items()) -/
end
end M
/-! M70: list(range(a)), {k: v} with a tuple for a key. -/
namespace M
open PySem PySem.Spec PyProof.Rows L2
section
variable {X : Cx} {F : Fx} {pos : Pos}
/-! ### list(range(a)) -/
end
/-! ### what was hidden is now at hand -/
section
variable {W : Vw} {q : Addr} {st : Sto}
theorem Vw.fro.adopt {a : Addr} (f : (W.hide q).fro a) : (W.to (W.ρ ++ [q]) W.H).fro a := ⟨fun m => by
  rcases List.mem_append.mp m with m | m
  · exact f.1 m
  · exact f.2 (.inr (List.mem_singleton.mp m)), fun z => f.2 (.inl z)⟩
theorem Vw.Tup.adopt {a : Addr} {ys : List V} (h : (W.hide q).Tup a ys) : (W.to (W.ρ ++ [q]) W.H).Tup a ys := h.imp (fun h => ⟨h.1, h.2.adopt⟩) _root_.id
theorem Vw.Tpl.adopt {a : Addr} {ys : List V} (h : (W.hide q).Tpl a ys) : (W.to (W.ρ ++ [q]) W.H).Tpl a ys := ⟨h.1, h.2.adopt⟩
theorem Vw.Key.adopt {t : Bool} {a : Addr} {ys : List V} (h : (W.hide q).Key t a ys) : (W.to (W.ρ ++ [q]) W.H).Key t a ys := by
  cases t with
  | true => exact Vw.Tpl.adopt h
  | false => exact Vw.Tup.adopt h
theorem Vw.Lst.adopt {a : Addr} {ys : List V} (h : (W.hide q).Lst a ys) : (W.to (W.ρ ++ [q]) W.H).Lst a ys := h.imp (fun h => ⟨h.1, h.2.adopt⟩) _root_.id
mutual
theorem RV.adopt : ∀ {d : D} {v : V}, RV (W.hide q) d v → RV (W.to (W.ρ ++ [q]) W.H) d v
  | _, _, .non => .non
  | _, _, .bl b => .bl b
  | _, _, .int i => .int i
  | _, _, .str s => .str s
  | _, _, .ty n => .ty n
  | _, _, .glo s => .glo (W := W.to (W.ρ ++ [q]) W.H) s
  | _, _, .tup h r => .tup h.adopt r.adopt
  | _, _, .lst h r => .lst h.adopt r.adopt
  | _, _, .dct h f e r => .dct h f.adopt e r.adopt
  | _, _, .obj h f r => .obj h f.adopt r.adopt
  | _, _, .exc h f a b r => .exc h f.adopt a (fun dx e => ⟨(b dx e).1, (b dx e).2.adopt⟩) r.adopt
  | _, _, .ref h => .ref (pre_get (List.prefix_append _ _) h)
  | _, _, .tpl h r => .tpl h.adopt r.adopt
  | _, _, .adr h f r => .adr h f.adopt r.adopt
theorem RVs.adopt : ∀ {d : List D} {v : List V}, RVs (W.hide q) d v → RVs (W.to (W.ρ ++ [q]) W.H) d v
  | _, _, .nil => .nil
  | _, _, .cons h r => .cons h.adopt r.adopt
theorem RFs.adopt : ∀ {d : List (Str × D)} {v : List (Str × V)}, RFs (W.hide q) d v → RFs (W.to (W.ρ ++ [q]) W.H) d v
  | _, _, .nil => .nil
  | _, _, .cons h r => .cons h.adopt r.adopt
end
theorem Sim.adopt (S : Sim (W.hide q) st) (hz : ¬ W.Z q) {o : O} (ho : OR (W.to (W.ρ ++ [q]) W.H) q o) : Sim (W.to (W.ρ ++ [q]) W.H) (st ++ [o]) where
  len := by
    show (W.ρ ++ [q]).length = _
    rw [List.length_append, List.length_append, show W.ρ.length = st.length from S.len]; rfl
  nd := by
    show (W.ρ ++ [q]).Nodup
    exact List.nodup_append.mpr ⟨S.nd, by simp, fun a ha b hb e => S.nz a ha (.inr (e.trans (List.mem_singleton.mp hb)))⟩
  nz := fun a m z => by
    rcases List.mem_append.mp m with m | m
    · exact S.nz a m (.inl z)
    · rw [List.mem_singleton.mp m] at z; exact hz z
  zt := fun a h => S.zt a (.inl h)
  hot := fun a h => let ⟨C, d, e, f⟩ := S.hot a h; ⟨C, d, e, ⟨fun m => (List.mem_append.mp m).elim f.1 fun m => f.2 (.inr (List.mem_singleton.mp m)), fun z => f.2 (.inl z)⟩⟩
  at_ := fun n o' a h1 h2 => by
    have h2' : (W.ρ ++ [q])[n]? = some a := h2
    have len : W.ρ.length = st.length := S.len
    by_cases c : n < st.length
    · rw [List.getElem?_append_left c] at h1
      rw [List.getElem?_append_left (by omega)] at h2'
      exact match o', S.at_ n o' a h1 h2' with
        | .lst xs, ⟨ys, h, r⟩ => ⟨ys, h, r.adopt⟩
        | .dct kvs, ⟨ys, h, k, r⟩ => ⟨ys, h, k, r.adopt⟩
        | .ins C fs, ⟨dx, gs, h, r⟩ => ⟨dx, gs, h, r.adopt⟩
        | .dcn t kvs, ⟨xs, h, r⟩ => ⟨xs, h, Paired.mapP r fun p y z => ⟨z.1, z.2.1.adopt, z.2.2.adopt⟩⟩
        | .lck t kvs, ⟨od, xs, h, r⟩ => ⟨od, xs, h, Paired.mapP r fun p y z => ⟨z.1, z.2.1.adopt, z.2.2.adopt⟩⟩
        | .dcp lk kvs, ⟨u, xs, h, l, r⟩ => ⟨u, xs, h, l, Paired.mapP r fun p y z => ⟨z.1, z.2.1.map (fun t => t.adopt), z.2.2.adopt⟩⟩
        | .tbl nm _, ⟨ha, ps, h, t, k⟩ => ⟨ha, ps, h, t, fun pos cv hc => let ⟨c, e, h1, f⟩ := k pos cv hc; ⟨c, e, h1, ⟨fun m => (List.mem_append.mp m).elim f.1 fun m => f.2 (.inr (List.mem_singleton.mp m)), fun z => f.2 (.inl z)⟩⟩⟩
    · rw [List.getElem?_append_right (by omega)] at h1
      rw [List.getElem?_append_right (by omega)] at h2'
      cases e : n - st.length with
      | succ m => rw [e] at h1; simp at h1
      | zero =>
        rw [e] at h1
        rw [show n - W.ρ.length = 0 by omega] at h2'
        simp at h1 h2'
        subst h1 h2'
        exact ho
end
/-! ### {k: v} -/
section
variable {P : Program} {w : World} {A : Around} {E : Value → Shared → Prop} {s : Shared}
end
section
variable {X : Cx} {F : Fx} {pos : Pos}
end
end M
/-! M71: loops over zip of two lists that nobody changes. -/
namespace M
open PySem PySem.Spec PyProof.Rows L2 RZ
def kZipL : List D → Sto → R (Nx × Nat) := fun ds s => match ds with
  | [.lst xs, .lst ys] => .ok (nxZ xs ys, xs.length) s
  | _ => .bad
def wZipL (j : IA) : IW := fun env st => (j env st).bind kZipL
section
variable {W : Vw} {X : Cx} {F : Fx} {pos : Pos}
theorem itok_zipL {a b : Addr} {xs xs' : List D} {ys ys' : List L2.V} {m : Nat} (t : W.Lst a ys) (r : RVs W xs ys) (t' : W.Lst b ys') (r' : RVs W xs' ys') : ItOk W (nxZ xs xs', m) (L2.Itz W.K a b) where
  go := fun V st i d x S e => by
    have e0 : nxZ xs xs' i st = some (some d) := e
    unfold nxZ at e0
    split at e0
    · rename_i z z' e1 e2
      cases e0
      have t1 := (t.vx x).sq
      have t2 := (t'.vx x).sq
      have r1 := r.vx x
      have r2 := r'.vx x
      rw [x.k] at t1 t2
      obtain ⟨v, hv, rv⟩ := r1.get e1
      obtain ⟨v', hv', rv'⟩ := r2.get e2
      refine ⟨⟨ys, ys', v, v', t1, t2, hv, hv'⟩, fun y H2 ⟨T, u, u', ey, hT, e2, f, f'⟩ => ?_⟩
      subst ey
      subst e2
      have q := f ys t1
      rw [hv] at q
      cases q
      have q' := f' ys' t2
      rw [hv'] at q'
      cases q'
      exact pair_new2 S hT rv rv'
    · cases e0
  stop := fun V st i x S e => by
    have e0 : nxZ xs xs' i st = some none := e
    refine ⟨ys, ys', by rw [← x.k]; exact (t.vx x).sq, by rw [← x.k]; exact (t'.vx x).sq, ?_⟩
    rw [← r.length, ← r'.length]
    unfold nxZ at e0
    by_cases h1 : xs.length ≤ i
    · exact .inl h1
    · by_cases h2 : xs'.length ≤ i
      · exact .inr h2
      · rw [List.getElem?_eq_getElem (by omega), List.getElem?_eq_getElem (by omega)] at e0
        cases e0
/-- for x, y in zip(e, e2) -/
theorem w_zipL {elts : List Expr} {kk : Nat} {tpos p : Pos} {e e2 : Expr} {j : IA} (hk : X.K = F.K) (hg : Gl X "zip") (hm : X.mg "zip" = none) (ha : PA X [e, e2] (TA_ F j))
    (hs : starEach [e, e2] X.env = (false, eval e X.env) :: starEach [e2] X.env := by rfl) (hpl : (backTo pos (starEach [e2] X.env)).any (·.1) = false := by rfl) :
    PI X (.Tuple elts kk tpos) (.Call (.Name "zip" p) [e, e2] [] pos) (TW F (wZipL j)) := PI.imp (pi_zipA hg hm ha hs hpl) fun σ H Q h =>
  (TX.bind (k := fun ds env s => kZipL ds s) h).mono fun x H1 ⟨W, s, env, ds, A, r, p⟩ => by
    have p' : Post W ItOk (kZipL ds s) Q (F.at_ σ) := p
    unfold kZipL at p'
    split at p'
    · rename_i xs xs'
      cases r with
      | cons r1 rr =>
        cases rr with
        | cons r2 rn =>
          cases rn
          cases r1 with
          | lst t q1 =>
            cases r2 with
            | lst t' q2 =>
              have q := p' W.ρ W.H _ Ext.refl A.sim (itok_zipL t q1 t' q2)
              have s1 := t.sq
              have s2 := t'.sq
              rw [A.k, ← hk] at q s1 s2
              rw [A.h] at q s1 s2
              exact ⟨_, _, _, _, rfl, .inl ⟨s1, s2, q⟩⟩
    · exact p'.elim
end
end M
/-! M72: targets x[i] in a tuple of targets whose parts raise nothing. -/
namespace M
open PySem PySem.Spec PyProof.Rows L2
def NeX (i : IE) : Prop := ∀ env st C fs s, i env st ≠ .exc C fs s
theorem ne_var (n : Nat) : NeX (iVar n) := fun env st C fs s h => by
  have h' : (match env[n]? with | some (some d) => R.ok d st | _ => .bad) = .exc C fs s := h
  split at h' <;> cases h'
end M
/-! M73: loops over d.items() of a dict of the store, which stands locked while it is walked. -/
namespace M
open PySem PySem.Spec PyProof.Rows L2
section
variable {X : Cx} {pins : List (Addr × Obj)} {σ : L2.St} {H : Hp} {s : Shared} {a : Addr} {od : Obj} {xs : List (List Leaf × Addr × V)}
end
section
variable {P : Program} {w : World} {K : PySem.W.Frag} {a : Addr} {od : Obj} {es : Array DictEntry} {ep : Nat} {xs : List (List Leaf × Addr × V)}
end
/-! ### the store's side -/
section
variable {W : Vw} {ρ' : List Addr} {H' : Hp} {q : Addr} {u : HO} {st : Sto}
end
end M
/-! M74: for x, y in d.items(): the dict is locked while the loop runs. -/
namespace M
open PySem PySem.Spec PyProof.Rows L2
end M
/-! M75: list(d.values()) of a dict with tuple keys. -/
namespace M
open PySem PySem.Spec PyProof.Rows L2
section
variable {prog : Program} {w : World} {A : Around} {E : Value → Shared → Prop} {s : Shared}
end
section
variable {X : Cx} {F : Fx} {pos apos p : Pos} {o e : Expr} {i : IE}
end
end M
/-! M76: sorted(.., key = f) where f is a def known by its rule (what it changes is said by Inv). -/
namespace M
open PySem PySem.Spec PyProof.Rows L2
open PySem.W (EachIs AllAlike KeyedOut KeepsBut)
section
variable {X : Cx} {A' : Around} {f a : Addr} {vs : List Value} {xs : List V} {P : List V → Hp → Prop} {kz : List PyData} {R : PySem.Fin → Shared → Prop} {E : Value → Shared → Prop} {σ : L2.St} {pins : List (Addr × Obj)}
theorem pin_of {p : Addr × Obj} {H : Hp} {s : Shared} (I : Inv X pins σ H s) (h : p ∈ pins) : s.heap.get? p.1 = some p.2 ∧ H p.1 = none ∧ p.1 ≠ X.env.locals ∧ p.1 ∉ X.fs ∧ ∀ v, p.2.data ≠ .cell v := I.pin p (List.mem_append_right _ h)
/-- what stays of a fresh place, whatever the abstract heap -/
def Away (X : Cx) (pins : List (Addr × Obj)) (b : Addr) : Prop := b ≠ X.env.locals ∧ b ∉ X.fs ∧ (b ∈ X.ex ∨ X.s_0.heap.objs.size ≤ b) ∧ (∀ x c, X.env.cells.lookup x = some c → c ≠ b) ∧ ∀ p ∈ X.pn ++ pins, p.1 ≠ b
theorem Away.turned {H : Hp} {s : Shared} {h' : Heap} {t' : Nat} {b : Addr} (w : Away X pins b) (I : Inv X pins σ H s) (hn : H b = none) (k : ∀ c o, c ≠ b → s.heap.get? c = some o → h'.get? c = some o) : Inv X pins σ H { s with heap := h', toks := t' } :=
  I.turned k hn w.1 w.2.2.1 w.2.2.2.1 w.2.2.2.2
theorem Away.pin {H : Hp} {s : Shared} {b : Addr} {o : Obj} (w : Away X pins b) (I : Inv X pins σ H s) (hn : H b = none) (hb : s.heap.get? b = some o) (hc : ∀ v, o.data ≠ .cell v) : Inv X ((b, o) :: pins) σ H s := I.pins_of fun p hp => by
  rcases List.mem_cons.mp hp with h | h
  · subst h; exact ⟨hb, hn, w.1, w.2.1, hc⟩
  · exact pin_of I h
theorem Away.sub {b : Addr} {q : Addr × Obj} (w : Away X pins b) (n : q.1 ≠ b) : Away X (q :: pins) b := ⟨w.1, w.2.1, w.2.2.1, w.2.2.2.1, fun p hp => by
  rcases List.mem_append.mp hp with h | h
  · exact w.2.2.2.2 p (List.mem_append_left _ h)
  · rcases List.mem_cons.mp h with h | h
    · rw [h]; exact n
    · exact w.2.2.2.2 p (List.mem_append_right _ h)⟩
end
end M
/-! M77: sorted(d.items(), key = f), d a dict with tuple keys, f a def whose keys are tuples of whole numbers. -/
namespace M
open PySem PySem.Spec PyProof.Rows L2
open PySem.W (EachIs AllAlike KeyedOut KeepsBut)
def tI : PyData → Bool
  | .int _ => true
  | _ => false
section
variable {X : Cx} {F : Fx} {k : Nat} {f : Addr} {fd : FuncData} {ps : List Str} {fs : Fn}
end
end M
/-! M78: sorted(d.items(), key = f) as an expression. -/
namespace M
open PySem PySem.Spec PyProof.Rows L2
section
variable {X : Cx} {F : Fx} {k : Nat} {f : Addr} {fd : FuncData} {ps : List Str} {fs : Fn} {pos apos p p2 px kpos : Pos} {o : Expr} {i : IE} {xn : Str}
end
end M
/-! M79: sorted of a list of pairs (a tuple of whole numbers, a whole number). -/
namespace M
open PySem PySem.Spec PyProof.Rows L2
open PySem.W (EachIs AllAlike KeyedOut KeepsBut)
end M
/-! M80: len(d), k in d, d[k] of a dict with tuple keys; len(set(e)) of ints. -/
namespace M
open PySem PySem.Spec PyProof.Rows L2
section
variable {X : Cx} {F : Fx} {pos : Pos}
/-! ### len(set(e)) -/
end
end M
/-! M81: dicts whose keys are pairs of a tuple and a number: {}, get, d[k] = v, d[k]. -/
namespace M
open PySem PySem.Spec PyProof.Rows L2
/-! ### keys -/
/-! ### pairs -/
section
variable {W : Vw} {kvs : List (PKy × D)} {xs : List (PKy × Addr × V)} {vs : List (NestedKey × Addr × Value)} {k : PKy}
end
/-! ### the object -/
section
variable {X : Cx} {pins : List (Addr × Obj)} {σ : L2.St} {H : Hp} {s : Shared} {W : Vw} {a b : Addr} {kvs : List (PKy × D)} {xs : List (PKy × Addr × V)} {k : PKy}
end
section
variable {X : Cx} {F : Fx} {pos apos p : Pos} {o e : Expr} {es : List Expr} {i j : IE} {ja : IA} {name : Str} {id : String}
/-! ### {} -/
/-! ### methods -/
/-! ### get -/
/-! ### d[k] = v -/
end
end M
/-! M82: an expression runs while a dict is locked; walks of its keys; d[k] of a locked dict. -/
namespace M
open PySem PySem.Spec PyProof.Rows L2
/-! ### keys of a locked dict -/
section
variable {X : Cx} {pins : List (Addr × Obj)} {σ : L2.St} {H : Hp} {s : Shared} {a : Addr} {od : Obj}
end
section
variable {P : Program} {w : World} {K : PySem.W.Frag} {tg : Expr} {a : Addr} {od : Obj} {es : Array DictEntry} {ep : Nat}
end
/-! ### the store's side -/
/-! ### the lock -/
/-! ### d[k] of a locked dict -/
end M
/-! M83: sorted of a list of texts, as long as one likes. -/
namespace M
open PySem PySem.Spec PyProof.Rows L2
open PySem.W (EachIs AllAlike KeyedOut KeepsBut)
end M
/-! M85: one dict's entries put into another (the model's mergeMapping), for keys that are carried by value. -/
namespace PySem
open PySem.Spec PyProof.Rows
section
variable {prog : Program} {w : World} {K : Type} [DecidableEq K] {knd : KeyKind prog w K} {A : Around} {E : Value → Shared → Prop} {s : Shared}
end
end PySem
/-! M86: {**d, k: v}, {**d, **e}: at the kit's level. -/
namespace M
open PySem PySem.Spec PyProof.Rows L2
/-! ### the display, unrolled -/
section
variable {P : Program} {w : World} {K : Type} [DecidableEq K] {knd : KeyKind P w K} {A : Around} {E : Value → Shared → Prop} {s : Shared}
end
/-! ### an untracked dict of ours is taken up -/
section
variable {X : Cx} {pins : List (Addr × Obj)} {σ : L2.St} {H : Hp} {s : Shared}
end
end M
/-! M87: {**d, **e}; the embedding's rules for the displays; d.get(k, x) of a dict that nobody changes. -/
namespace M
open PySem PySem.Spec PyProof.Rows L2
/-! ### the embedding -/
section
variable {X : Cx} {F : Fx} {pos : Pos}
/-! ### d.get(k, x) -/
end
end M
/-! M88: {k: v for x in d} of a dict that nobody changes: the dict is locked while the comprehension runs. -/
namespace M
open PySem PySem.Spec PyProof.Rows L2
/-! ### a locked dict of values -/
structure Sw (H H' : Hp) (a : Addr) (ys : List (Key × V)) : Prop where
  l : Rd H a (.dK ys)
  r : Rd H' a (.dK ys)
  off : ∀ b, b ≠ a → H' b = H b
section
variable {W : Vw} {H' : Hp} {a : Addr} {ys : List (Key × V)} {st : Sto}
theorem Sw.ne {H : Hp} (s : Sw H H' a ys) {b : Addr} {o : HO} (h : H b = some o) (n1 : ∀ zs, o ≠ .dK zs) (n2 : ∀ od zs, o ≠ .frz od (.dK zs)) : b ≠ a := fun e => by
  subst e
  rcases s.l with z | ⟨od, z⟩
  · rw [h] at z; exact n1 _ (Option.some.inj z)
  · rw [h] at z; exact n2 _ _ (Option.some.inj z)
theorem Sw.at_ {H : Hp} (s : Sw H H' a ys) {b : Addr} {o : HO} (h : H b = some o) (n1 : ∀ zs, o ≠ .dK zs) (n2 : ∀ od zs, o ≠ .frz od (.dK zs)) : H' b = some o := (s.off b (s.ne h n1 n2)).trans h
theorem Sw.tup {H : Hp} (s : Sw H H' a ys) {b : Addr} {zs : List V} (h : H b = some (.tup zs)) : H' b = some (.tup zs) := by
  have n1 : ∀ ws, (HO.tup zs) ≠ .dK ws := fun ws z => HO.noConfusion z
  have n2 : ∀ od ws, (HO.tup zs) ≠ .frz od (.dK ws) := fun od ws z => HO.noConfusion z
  exact s.at_ h n1 n2
theorem Sw.lst {H : Hp} (s : Sw H H' a ys) {b : Addr} {zs : List V} (h : H b = some (.lst zs)) : H' b = some (.lst zs) := by
  have n1 : ∀ ws, (HO.lst zs) ≠ .dK ws := fun ws z => HO.noConfusion z
  have n2 : ∀ od ws, (HO.lst zs) ≠ .frz od (.dK ws) := fun od ws z => HO.noConfusion z
  exact s.at_ h n1 n2
theorem Sw.ins {H : Hp} (s : Sw H H' a ys) {b : Addr} {C dx : Addr} {fs : List (Str × V)} (h : H b = some (.ins C dx fs)) : H' b = some (.ins C dx fs) := by
  have n1 : ∀ ws, (HO.ins C dx fs) ≠ .dK ws := fun ws z => HO.noConfusion z
  have n2 : ∀ od ws, (HO.ins C dx fs) ≠ .frz od (.dK ws) := fun od ws z => HO.noConfusion z
  exact s.at_ h n1 n2
theorem Sw.xd {H : Hp} (s : Sw H H' a ys) {b : Addr} {fs : List (Str × V)} (h : H b = some (.xd fs)) : H' b = some (.xd fs) := by
  have n1 : ∀ ws, (HO.xd fs) ≠ .dK ws := fun ws z => HO.noConfusion z
  have n2 : ∀ od ws, (HO.xd fs) ≠ .frz od (.dK ws) := fun od ws z => HO.noConfusion z
  exact s.at_ h n1 n2
theorem Sw.ext {H : Hp} (s : Sw H H' a ys) {b : Addr} {φ : Heap → Prop} (h : H b = some (.ext φ)) : H' b = some (.ext φ) := by
  have n1 : ∀ ws, (HO.ext φ) ≠ .dK ws := fun ws z => HO.noConfusion z
  have n2 : ∀ od ws, (HO.ext φ) ≠ .frz od (.dK ws) := fun od ws z => HO.noConfusion z
  exact s.at_ h n1 n2
end
/-! ### the comprehension -/
section
variable {X : Cx} {F : Fx} {pos : Pos}
end
end M
/-! M89: sorted(set(e)) of tuples of whole numbers (fewer than 64). -/
namespace M
open PySem PySem.Spec PyProof.Rows L2
open PySem.W (EachIs AllAlike)
/-! ### sorted(set) -/
section
variable {P : Program} {w : World} {A : Around} {E : Value → Shared → Prop} {s : Shared}
end
section
variable {X : Cx} {F : Fx} {pos : Pos}
end
end M
/-! M90: dicts of the store whose keys are texts or whole numbers: {}, d[k], d[k] = v. -/
namespace M
open PySem PySem.Spec PyProof.Rows L2
section
variable {X : Cx} {F : Fx} {pos : Pos}
/-! ### d[k] -/
/-! ### d[k] = v -/
end
end M
/-! M91: == of an instance with one of another class. -/
namespace M
open PySem PySem.Spec PyProof.Rows L2
section
variable {X : Cx} {F : Fx} {W : Vw} {st : Sto} {k : Nat} {C : Str} {cs : List Str} {fE : Addr} {ts : List String} {fd : FuncData} {ps : List Str} {fn : Fn}
end
end M
/-! M92: sorted(d.items()), d a dict with tuple keys; keys and values are tuples of whole numbers. -/
namespace M
open PySem PySem.Spec PyProof.Rows L2
open PySem.W (EachIs AllAlike KeyedOut KeepsBut)
section
variable {X : Cx} {F : Fx}
end
end M
/-! M93: sorted(d), d a dict whose keys are tuples of whole numbers. -/
namespace M
open PySem PySem.Spec PyProof.Rows L2
open PySem.W (EachIs AllAlike KeyedOut KeepsBut)
end M
/-! M94: tuple(range(a, b)). -/
namespace M
open PySem PySem.Spec PyProof.Rows L2
section
variable {X : Cx} {F : Fx} {pos : Pos}
end
end M
/-! M95: a lambda without parameters is made; the table of its code objects is a thing of the store. -/
namespace M
open PySem PySem.Spec PyProof.Rows L2 LamX
section
variable {X : Cx} {pins : List (Addr × Obj)} {σ : L2.St} {W : Vw} {st : Sto} {s : Shared}
theorem Sim.kept (S : Sim W st) {H1 : Hp} (x : Ext W W.ρ H1) {n : Nat} {o' : O} {P : Addr} (hn : st[n]? = some o') (hP : W.ρ[n]? = some P) (same : ∀ a, a ∈ W.ρ → a ≠ P → H1 a = W.H a) (zt : ∀ a, W.Z a → ∃ o, H1 a = some o) (new : OR (W.to W.ρ H1) P o') : Sim (W.to W.ρ H1) st where
  len := S.len
  nd := S.nd
  nz := S.nz
  zt := zt
  hot := fun a h => let ⟨C, d, e, f⟩ := S.hot a h; ⟨C, d, x.keep a _ e f.1, fro_mono x e f⟩
  at_ := fun m o a h1 h2 => by
    have h2' : W.ρ[m]? = some a := h2
    by_cases e : a = P
    · subst e
      have mn : m = n := by
        obtain ⟨b1, b2⟩ := List.getElem?_eq_some_iff.mp h2'
        obtain ⟨b3, b4⟩ := List.getElem?_eq_some_iff.mp hP
        exact (List.getElem_inj S.nd).mp (b2.trans b4.symm)
      rw [mn, hn] at h1
      cases h1
      exact new
    · exact (S.at_ m o a h1 h2').mono x (same a (List.mem_of_getElem? h2') e)
/-- the lambda is made -/
theorem lam_made {n : Nat} {c P : Addr} {x0 : Str} {params : Arguments} {body : Expr} {scope : Scope} {pos : Pos} {E : Value → Shared → Prop} {Q : Value → Shared → Prop} (I : Inv X pins σ W.H s) (S : Sim W st) (hn : st[n]? = some (.tbl x0 (X.env.qual ++ "<lambda>"))) (hPn : W.ρ[n]? = some P)
    (TB : TabB X.base X.mg c P) (hcode : X.env.code = .ref c) (hdef : defaultsOf params X.env = ([], [])) (hfree : ∀ y ∈ scope.names, y.2 = .free → ∃ c, X.env.cells.lookup y.1 = some c)
    (h : ∀ (f c' : Addr) (pm ctv : Value) (H1 : Hp) (s' : Shared), Inv X pins σ H1 s' → Ext W W.ρ H1 → Sim (W.to W.ρ H1) st →
      s'.heap.get? f = some (PySem.W.kla_obj "<lambda>" (X.env.qual ++ "<lambda>") params body scope (cloFrom X.env.cells scope.names []) pm c' ctv) → H1 f = none → f ∉ frs X.stack → H1 c' = some (CodeO c' (X.env.qual ++ "<lambda>")) → (W.to W.ρ H1).fro c' → Q (.ref f) s') :
    wpAny (model X.prog X.w) X.A (eval (.Lambda params body scope pos) X.env) Q E s := by
  obtain ⟨hx0, ps, hP, ht, ha⟩ := S.at_ n _ P hn hPn
  have mP : P ∈ W.ρ := List.mem_of_getElem? hPn
  refine PySem.W.kla_eval hdef ?_
  have bP : s.heap.BuiltinsAt X.mg P := TB.bm.keeps I.bk
  have hP' : s.heap.get? P = some { cls := .none, data := .fields ps } := I.hok P _ hP
  have nofr : ∀ f, s.heap.objs.size ≤ f → f ∉ frs X.stack := fun f hf z => by
    rcases List.mem_cons.mp (I.stkSub _ z) with e | e
    · have h1 := I.lt
      rw [← e] at h1
      exact Nat.lt_irrefl _ (Nat.lt_of_lt_of_le h1 hf)
    · exact I.nofs hf e
  cases hc : codeAmong pos ps.toList with
  | none =>
    refine PySem.W.kla_makeFunction (mg := X.mg) (c := c) (P := P) (ps := ps) (closure_ok hfree) I.ok.glob (I.mod.glob.keeps I.bk) hcode (TB.code.keeps I.bk) hP' ht hc TB.gP bP fun c' ctv h' tk hx hge hlt hrec htb => ?_
    obtain ⟨c2, oc, vs, t, e2, hoc, hd, hv⟩ := hrec
    cases e2
    have hsz : s.heap.objs.size ≤ h'.objs.size := Nat.le_trans hge (Nat.le_of_lt hlt)
    have nC : W.H c' = none := I.hok.fresh hge
    obtain ⟨H1, hH1⟩ : ∃ H1, H1 = upd (upd W.H P (.tbl (ps ++ #[rawInt pos.line, rawInt pos.col, .ref c']))) c' (CodeO c' (X.env.qual ++ "<lambda>")) := ⟨_, rfl⟩
    have I1 := inv_table (t' := tk) (more := #[rawInt pos.line, rawInt pos.col, .ref c']) (h' := h'.push (PySem.W.kla_obj "<lambda>" (X.env.qual ++ "<lambda>") params body scope (cloFrom X.env.cells scope.names []) ((X.mg "__name__").getD .none) c' ctv)) I hP
      (fun b o hb e => Heap.get?_push_of_some _ (hx b o hb e)) (Heap.get?_push_of_some _ htb) hge ⟨oc, vs, t, Heap.get?_push_of_some _ hoc, hd, hv⟩
    rw [← hH1] at I1
    have off : ∀ b, b ≠ P → b ≠ c' → H1 b = W.H b := fun b h1 h2 => by rw [hH1, upd_ne h2, upd_ne h1]
    have atC : H1 c' = some (CodeO c' (X.env.qual ++ "<lambda>")) := by rw [hH1]; exact upd_same
    have nPC : P ≠ c' := ne_of_none hP nC
    have atP : H1 P = some (.tbl (ps ++ #[rawInt pos.line, rawInt pos.col, .ref c'])) := by rw [hH1, upd_ne nPC, upd_same]
    have nR : c' ∉ W.ρ := fun m => by
      obtain ⟨u, e⟩ := S.tr m
      rw [nC] at e; cases e
    have nZ : ¬ W.Z c' := fun z => by
      obtain ⟨u, e⟩ := S.zt c' z
      rw [nC] at e; cases e
    have sm : ∀ b u, W.H b = some u → b ≠ c' := fun b u e => ne_of_none e nC
    have x : Ext W W.ρ H1 := ⟨List.prefix_refl _, fun a m => .inl m, fun a o e m => by rw [off a (fun z => m (z ▸ mP)) (sm a o e)]; exact e, fun a o u e => by
      have nP : a ≠ P := fun z => by
        rw [z, hP] at e
        cases e
      rw [off a nP (sm a _ e)]; exact e⟩
    have eL : (ps ++ #[rawInt pos.line, rawInt pos.col, .ref c']).toList = ps.toList ++ [rawInt pos.line, rawInt pos.col, .ref c'] := by simp
    have new : OR (W.to W.ρ H1) P (.tbl x0 (X.env.qual ++ "<lambda>")) := ⟨hx0, _, atP, by rw [eL]; exact PySem.TriplesOk_snoc _ _ _ _ ht, fun p' cv hcv => by
      rw [eL] at hcv
      rcases among_app _ ht hcv with z | z
      · exact (ha p' cv z).mono x
      · exact ⟨c', z, atC, nR, nZ⟩⟩
    have S1 := S.kept x hn hPn (fun a m ne => by
      obtain ⟨u, e⟩ := S.tr m
      exact off a ne (sm a u e)) (fun a z => by
      obtain ⟨u, e⟩ := S.zt a z
      by_cases ap : a = P
      · exact ⟨_, ap ▸ atP⟩
      · exact ⟨u, by rw [off a ap (sm a u e)]; exact e⟩) new
    refine h h'.objs.size c' ((X.mg "__name__").getD .none) ctv H1 _ I1 x S1 (Heap.get?_push_size _ rfl) ?_ (nofr _ hsz) atC ⟨nR, nZ⟩
    have n1 : h'.objs.size ≠ c' := Nat.ne_of_gt hlt
    have n2 : h'.objs.size ≠ P := Nat.ne_of_gt (Nat.lt_of_lt_of_le (Heap.lt_size hP') hsz)
    rw [off _ n2 n1]
    exact I.hok.fresh hsz
  | some cv =>
    obtain ⟨c', e, hco, hfo⟩ := ha pos cv hc
    subst e
    refine PySem.W.kla_makeFunctionHit (mg := X.mg) (c := c) (P := P) (ps := ps) (closure_ok hfree) I.ok.glob (I.mod.glob.keeps I.bk) hcode (TB.code.keeps I.bk) hP' ht hc bP fun ctv h' tk hx hsz => ?_
    have I1 : Inv X pins σ W.H { s with heap := h'.push (PySem.W.kla_obj "<lambda>" (X.env.qual ++ "<lambda>") params body scope (cloFrom X.env.cells scope.names []) ((X.mg "__name__").getD .none) c' ctv), toks := tk } := I.kept fun b o e => Heap.get?_push_of_some _ (hx b o e)
    exact h h'.objs.size c' ((X.mg "__name__").getD .none) ctv W.H _ I1 Ext.refl S (Heap.get?_push_size _ rfl) (I.hok.fresh hsz) (nofr _ hsz) hco hfo
end
end M
/-! M96: a lambda handed to a def that calls it. -/
namespace M
open PySem PySem.Spec PyProof.Rows L2 LamX
/-- what the maker knows: its slots as data, as values -/
def capD (env : Env) : List D := env.map fun o => o.getD .non
def capV : Env → L2.St → List V
  | some _ :: e, some v :: s => v :: capV e s
  | some _ :: e, none :: s => .non :: capV e s
  | none :: e, _ :: s => .non :: capV e s
  | _, _ => []
theorem EnvR.tail {W : Vw} {o : Option D} {u : Option V} {e : Env} {s : L2.St} (h : EnvR W (o :: e) (u :: s)) : EnvR W e s := ⟨by have := h.len; simpa using this, fun i d q => h.at_ (i + 1) d q⟩
theorem cap_of {W : Vw} : ∀ {env : Env} {σ : L2.St}, EnvR W env σ → RVs W (capD env) (capV env σ)
  | [], [], _ => .nil
  | [], _ :: _, h => by have := h.len; simp at this
  | _ :: _, [], h => by have := h.len; simp at this
  | some d :: e, some v :: s, h => by
    obtain ⟨v', e1, r⟩ := h.at_ 0 d rfl
    cases e1
    exact .cons r (cap_of h.tail)
  | some d :: e, none :: s, h => by
    obtain ⟨v', e1, r⟩ := h.at_ 0 d rfl
    cases e1
  | none :: e, some v :: s, h => .cons .non (cap_of h.tail)
  | none :: e, none :: s, h => .cons .non (cap_of h.tail)
theorem of_cap {W W' : Vw} : ∀ {env : Env} {σ : L2.St}, EnvR W env σ → RVs W' (capD env) (capV env σ) → EnvR W' env σ
  | [], [], _, _ => ⟨rfl, fun i d e => by simp at e⟩
  | [], _ :: _, h, _ => by have := h.len; simp at this
  | _ :: _, [], h, _ => by have := h.len; simp at this
  | some d :: e, some v :: s, h, r => by
    have r' : RVs W' (d :: capD e) (v :: capV e s) := r
    cases r' with
    | cons r1 r2 =>
      have t := of_cap h.tail r2
      refine ⟨h.len, fun i d' q => ?_⟩
      cases i with
      | zero => cases q; exact ⟨v, rfl, r1⟩
      | succ i => exact t.at_ i d' q
  | some d :: e, none :: s, h, _ => by
    obtain ⟨v', e1, r⟩ := h.at_ 0 d rfl
    cases e1
  | none :: e, u :: s, h, r => by
    have r2 : RVs W' (capD e) (capV e s) := by
      have r' : RVs W' (.non :: capD e) (.non :: capV e s) := by
        cases u <;> exact r
      cases r' with
      | cons _ r2 => exact r2
    have t := of_cap h.tail r2
    refine ⟨h.len, fun i d' q => ?_⟩
    cases i with
    | zero => cases q
    | succ i => exact t.at_ i d' q
/-- what a slot holds is called -/
def iTh (i : Nat) (th : D → Sto → R D) : IE := fun env st => match env[i]? with
  | some (some d) => th d st
  | _ => .bad
open Classical in
/-- the maker's body, for the lambda d0 alone -/
noncomputable def thOf (d0 : D) (r : Sto → R D) : D → Sto → R D := fun d s => if d = d0 then r s else .bad
theorem thOf_self {d0 : D} {r : Sto → R D} {s : Sto} : thOf d0 r d0 s = r s := if_pos rfl
section
variable {X : Cx} {F : Fx} {pins : List (Addr × Obj)} {σ : L2.St} {H : Hp} {s : Shared}
/-- the context of the lambda's body, an exception's context known -/
def lamCxN (X : Cx) (A : Around) (outer : List PySem.Env) (s : Shared) (H : Hp) (E : XK) (scope : Scope) (f c' : Addr) : Cx := (lamCx X A outer s H E scope f c').tr [] fun e s' => wpAny (model X.prog X.w) (A.deeper (lamEnv X scope s.heap.objs.size f c')) (leaving (lamEnv X scope s.heap.objs.size f c') e) (fun _ s'' => L2N.CX X.prog X.w outer H s E e s'') (fun e' s'' => L2N.CX X.prog X.w outer H s E e' s'') s'
theorem lam_startN {HZ : Hp} {s1 : Shared} {A : Around} {outer : List PySem.Env} {E : XK} {scope : Scope} {f c' : Addr} {h₁ : Heap} {tk : Nat} (I : Inv X pins σ H s) (L : LamS X.env.scope scope) (e0 : Env0 X.prog X.w X.K X.mg X.base A outer s1 HZ) (hd : A.handled = none)
    (un : Un (frs X.stack) [] H HZ s.heap s1.heap) (hns : h₁.Ns s1.heap.objs.size fun y => ([] : List (Str × Value)).reverse.lookup y) (kp : ∀ b o, s1.heap.get? b = some o → h₁.get? b = some o) :
    Inv (lamCxN X A outer s1 HZ E scope f c') [] σ HZ { s1 with heap := h₁, toks := tk } := (lam_start2 (E := E) (f := f) (c' := c') (tk := tk) I L e0 hd un hns kp).toTry _
/-- the call of the lambda, in the def that got it -/
theorem e_th {CXg : CXT} {Eg : XK} {Ng : List Str} {qg : Str} {sg : Scope} {g f c' : Addr} {cdg pm ctv : Value} {params : Arguments} {body : Expr} {scope : Scope} {k i : Nat} {a : Str} {pn : List (Addr × Obj)} {xe : Value → Shared → Prop} {Wx : WX} {j : IE} {env : Env} {W0 : Vw} {p1 p2 : Pos}
    (I : Inv X pins σ H s) (L : LamS X.env.scope scope) (hf : s.heap.get? f = some (PySem.W.kla_obj "<lambda>" (X.env.qual ++ "<lambda>") params body scope (cloFrom X.env.cells scope.names []) pm c' ctv)) (hfn : H f = none) (hfr : f ∉ frs X.stack)
    (hbind : bindArgs (PySem.W.kla_fn "<lambda>" (X.env.qual ++ "<lambda>") params body scope (cloFrom X.env.cells scope.names []) pm (.ref c') ctv) ⟨[], []⟩ = pure []) (e0 : EnvR W0 env σ)
    (tk : L2N.Takes ((cxOf CXg X.prog X.w X.K X.mg X.base Ng qg sg g cdg X.A X.stack s H Eg).tr pn xe) Wx) (hr : Room (k + 1) (X.A.deeper (envOfC qg sg s.heap.objs.size g cdg)))
    (hbody : ∀ (A : Around) (outer : List PySem.Env) (s : Shared) (H : Hp) (E : XK), Room k (A.deeper (lamEnv X scope s.heap.objs.size f c')) → A.guards = X.A.guards → PE (lamCxN X A outer s H E scope f c') body (TI (Fx.of F.K F.g E) j))
    (hN : Ng[i]? = some a) (hv : Vis sg a) (hd : (a == ("__debug__" : Str)) = false) (hcd : (a == ("__classdict__" : Str)) = false) :
    PE ((cxOf CXg X.prog X.w X.K X.mg X.base Ng qg sg g cdg X.A X.stack s H Eg).tr pn xe) (.Call (.Name a p1) [] [] p2) (TI ⟨F.K, F.g, Wx⟩ (iTh i (thOf (.adr f c' (X.env.qual ++ "<lambda>") (capD env) (capV env σ)) (j env)))) := by
  refine ⟨fun pinsZ sZ σZ HZ Q IZ ⟨Wz, stz, envz, Az, p⟩ => ?_⟩
  have p' : PostE Wz (match envz[i]? with
    | some (some d) => thOf (.adr f c' (X.env.qual ++ "<lambda>") (capD env) (capV env σ)) (j env) d stz
    | _ => .bad) Q (fun c d H => Wx c d σZ H) := p
  clear p
  split at p'
  · rename_i d hd0
    unfold thOf at p'
    split at p'
    · rename_i hde
      subst hde
      obtain ⟨v0, hs, rv0⟩ := Az.env.at_ i _ hd0
      cases rv0 with
      | adr hc hfro rcap =>
        have hcz : HZ c' = some (CodeO c' (X.env.qual ++ "<lambda>")) := by rw [← Az.h]; exact hc
        have ht : TI (Fx.of F.K F.g fun c d H => Wx c d σZ H) j σ HZ Q := ⟨Wz, stz, env, ⟨Az.k, Az.g, Az.h, Az.sim, of_cap e0 rcap⟩, p'⟩
        refine wpAny_Call_Name_kw (thn ((pe_var (pos := p1) (i := i) hN hv hd hcd).run pinsZ sZ σZ HZ (fun v H1 => v = .ref f ∧ H1 = HZ) IZ ⟨.ref f, hs, rfl, rfl⟩) fun u s1 hu => ?_)
        obtain ⟨v, H1, I1, r1, ev, eH⟩ := hu
        rw [ev] at r1
        rw [eH] at I1
        obtain rfl : u = Value.ref f := r1
        have of1 : s1.heap.get? f = some (PySem.W.kla_obj "<lambda>" (X.env.qual ++ "<lambda>") params body scope (cloFrom X.env.cells scope.names []) pm c' ctv) := I1.base.keep f _ hf hfn hfr (by simp [cxOf])
        refine PySem.W.callWith_F0 ⟨_, _, _, _, of1⟩ ?_
        have un : Un (frs X.stack) [] H HZ s.heap s1.heap := I1.base
        obtain ⟨⟨oc, vs, t, hoc, hdc, hvc⟩, _, _⟩ := I1.hok c' _ hcz
        refine wpAny_call (codeAny_mono (A := X.A.deeper (envOfC qg sg s.heap.objs.size g cdg)) (R := CR (L2N.CX X.prog X.w) (envOfC qg sg s.heap.objs.size g cdg :: X.stack) X.prog X.w HZ s1 Q fun c d H => Wx c d σZ H) ?_ fun r s' hq => ?_)
        · refine PySem.W.kla_callFunE hr.depth of1 rfl L.co L.gen rfl ⟨c', oc, vs, t, rfl, hoc, hdc, hvc⟩ ?_
          show wpAny _ _ (bindArgs _ ⟨[], []⟩) _ _ _
          rw [hbind]
          refine wpAny_pure (wpAny_newFunctionEnv (fun y hy => (L.own y hy).2) (fun y hy => by cases hy) (fun h₁ hns hsb => ⟨I1.nolimit.fresh _ hsb, ?_⟩) L.kind)
          have kp : ∀ b o, s1.heap.get? b = some o → h₁.get? b = some o := fun b o e => hsb.extBut b o (Nat.ne_of_lt (Heap.lt_size e)) (Heap.get?_push_of_some _ e)
          have J := lam_startN (E := fun c d H => Wx c d σZ H) (f := f) (c' := c') (tk := s1.toks + ([] : List (Str × Value)).length) I L I1.env0 hr.hd un hns kp
          refine PySem.W.kla_codeExpr (wpAny_mono ((hbody _ _ s1 HZ _ (hr.deeper _) rfl).run [] _ _ HZ Q J ht) (fun v s' hq => ?_) fun e s' hq => hq)
          obtain ⟨w', H', J', rv, q⟩ := hq
          exact ⟨w', H', J'.os, J'.bare, J'.base, J'.hok, rv, q⟩
        · cases r with
          | error e => exact tk e s' (L2N.XE.of_call I1 (fun _ _ _ h => h) hq)
          | ok fl =>
            cases fl with
            | ret u => exact I1.after hq
            | next => exact hq.elim
            | brk => exact hq.elim
            | cont => exact hq.elim
    · exact p'.elim
  · exact p'.elim
end
/-- a def that calls what it gets: its text, at any state -/
def CalOk (P : Program) (w : World) (K : PySem.W.Frag) (mg : Str → Option Value) (base : Heap) (gg : GG) (N : List Str) (x : Str) (sg : Scope) (g : Addr) (bg : List Stmt) (a : Str) (k : Nat) (B : (D → Sto → R D) → IS) : Prop :=
  ∀ (cdv : Value) (A : Around) (outer : List PySem.Env) (s : Shared) (H : Hp) (E : XK) (th : D → Sto → R D), Room k (A.deeper (envOfC x sg s.heap.objs.size g cdv)) → A.guards = some [] →
    (∀ (W : WX) (pn : List (Addr × Obj)) (xe : Value → Shared → Prop) (p1 p2 : Pos), L2N.Takes ((cxOf (L2N.CX P w) P w K mg base N x sg g cdv A outer s H E).tr pn xe) W → PE ((cxOf (L2N.CX P w) P w K mg base N x sg g cdv A outer s H E).tr pn xe) (.Call (.Name a p1) [] [] p2) (TI ⟨K, gg, W⟩ (iTh 0 th))) →
    PSs (cxOf (L2N.CX P w) P w K mg base N x sg g cdv A outer s H E) bg (TS_ (Fx.of K gg E) (B th))
/-- x(lambda: j): n, where the table of the maker m lies; q, the lambda's name; G, what x makes of it -/
def iLam (n : Nat) (m q : Str) (G : R D → R D) (j : IE) : IE := fun env st => match st[n]? with
  | some (.tbl m' q') => if m' = m ∧ q' = q then G (j env st) else .bad
  | _ => .bad
section
variable {X : Cx} {F : Fx}
theorem e_lam {n k : Nat} {x a m q : Str} {g : Addr} {fd : FuncData} {pg : Arguments} {bg : List Stmt} {sg : Scope} {Ng : List Str} {B : (D → Sto → R D) → IS} {G : R D → R D} {params : Arguments} {body : Expr} {scope : Scope} {j : IE} {p lpos pos : Pos} {c : Addr}
    (hg : Gl X x) (hm : X.mg x = some (.ref g)) (Fd : FunD X.K x x pg bg sg [] [] g fd) (hb : L2.Binds X.K fd [a] []) (Sg : FnScope Ng [a] sg) (hNg : Ng[0]? = some a)
    (hC : CalOk X.prog X.w X.K X.mg X.base F.g Ng x sg g bg a (k + 1) B) (hG : ∀ (d : D) (th : D → Sto → R D) (st : Sto), runB (B th) Ng.length 1 [d] st = G (th d st))
    (TB : TabB X.base X.mg c (F.g.t m)) (hcode : X.env.code = .ref c) (hq : X.env.qual ++ "<lambda>" = q) (hr : Room (k + 2) X.A) (hgd : X.A.guards = some []) (hK : X.K = F.K) (tk : L2N.Takes X F.E) (L : LamS X.env.scope scope) (hdef : defaultsOf params X.env = ([], []))
    (hbind : ∀ (q : Str) (cl : List (Str × Addr)) (pm cv ctv : Value), bindArgs (PySem.W.kla_fn "<lambda>" q params body scope cl pm cv ctv) ⟨[], []⟩ = pure [])
    (hbody : ∀ (A : Around) (outer : List PySem.Env) (s : Shared) (H : Hp) (E : XK) (f c' : Addr), Room k (A.deeper (lamEnv X scope s.heap.objs.size f c')) → A.guards = some [] → PE (lamCxN X A outer s H E scope f c') body (TI (Fx.of F.K F.g E) j))
    (hdb : (x == ("__debug__" : Str)) = false := by decide) (hd : (a == ("__debug__" : Str)) = false := by decide) (hcd : (a == ("__classdict__" : Str)) = false := by decide) :
    PE X (.Call (.Name x p) [.Lambda params body scope lpos] [] pos) (TI F (iLam n m q G j)) := by
  subst hq
  refine ⟨fun pins s σ H Q I ⟨W, st, env, A, p0⟩ => ?_⟩
  have p1 : PostE W (match st[n]? with
    | some (.tbl m' q') => if m' = m ∧ q' = X.env.qual ++ "<lambda>" then G (j env st) else .bad
    | _ => .bad) Q (F.at_ σ) := p0
  clear p0
  have eH := A.h
  subst eH
  split at p1
  · rename_i m' q' hn
    split at p1
    · rename_i hmq
      obtain ⟨rfl, rfl⟩ := hmq
      have hlt : n < W.ρ.length := by rw [A.sim.len]; exact (List.getElem?_eq_some_iff.mp hn).1
      have hPn : W.ρ[n]? = some (W.ρ[n]'hlt) := List.getElem?_eq_getElem hlt
      have hPt : W.ρ[n]'hlt = F.g.t m' := by rw [← A.g]; exact (A.sim.at_ n _ _ hn hPn).1
      rw [hPt] at hPn
      refine wpAny_Call_Name_kw (ld_glob I hg hm ?_ hdb)
      refine PySem.W.callWith_K (h₀ := X.base) I.ok.mod.kin Fd.kp ?_ (by rfl) (by rfl)
      show wpAny _ _ (spliced ((false, eval (.Lambda params body scope lpos) X.env) :: backTo pos (starEach [] X.env))) _ _ s
      refine Calls.spliced_cons (lam_made (W := W) (st := st) (n := n) (c := c) (P := F.g.t m') (x0 := m') I A.sim hn hPn TB hcode hdef (L.has I.ok) fun f c' pm' ctv H1 s' I1 x1 S1 hf hfn hfr hco hfo => ?_)
      refine Calls.spliced_nil ⟨I1.kIn, ?_⟩
      obtain ⟨oc, od, dV, kV, doc, pm, an, cdv, ct, osl, rfl, lk, hcg, _, _⟩ := Fd.ex
      refine wpAny_call (codeAny_mono (R := CR (L2N.CX X.prog X.w) X.stack X.prog X.w H1 s' Q (F.at_ σ)) (run_ofS (N := Ng) (ps := [a]) (us := [.ref f]) (vs := [.ref f]) lk hcg Sg hr I1.env0 (hb s' [.ref f] I1.kIn rfl) (.cons rfl .nil) rfl fun hr' => ?_) fun r s2 hq => ?_)
      · have e1 : EnvR (W.to W.ρ H1) env σ := A.env.mono x1
        refine ⟨_, hC cdv X.A X.stack s' H1 (F.at_ σ) (thOf (.adr f c' (X.env.qual ++ "<lambda>") (capD env) (capV env σ)) (j env)) hr' hgd (fun Wx pn xe p1 p2 tk2 => ?_), ?_⟩
        · have z := e_th (F := F) (CXg := L2N.CX X.prog X.w) (Eg := F.at_ σ) (p1 := p1) (p2 := p2) (W0 := W.to W.ρ H1) I1 L hf hfn hfr (hbind _ _ _ _ _) e1 tk2 hr' (fun A o s H E r g => hbody A o s H E f c' r (g.trans hgd)) hNg ((Sg.par a (List.mem_singleton.mpr rfl)).elim .inl fun q => .inr (.inl q)) hd hcd
          rw [hK]
          rw [hK] at z
          exact z
        · have rv : RV (W.to W.ρ H1) (.adr f c' (X.env.qual ++ "<lambda>") (capD env) (capV env σ)) (.ref f) := .adr hco hfo (cap_of e1)
          have pz := hG (.adr f c' (X.env.qual ++ "<lambda>") (capD env) (capV env σ)) (thOf (.adr f c' (X.env.qual ++ "<lambda>") (capD env) (capV env σ)) (j env)) st
          rw [thOf_self] at pz
          rw [← pz] at p1
          have p2 := Post.ext x1 p1
          refine ⟨W.to W.ρ H1, st, _, ⟨A.k.trans hK.symm, A.g, rfl, S1, env_start (N := Ng) (p := 1) (.cons rv .nil) rfl⟩, ?_⟩
          unfold runB at p2
          rw [if_pos List.length_singleton] at p2
          cases q : B (thOf (.adr f c' (X.env.qual ++ "<lambda>") (capD env) (capV env σ)) (j env)) ([D.adr f c' (X.env.qual ++ "<lambda>") (capD env) (capV env σ)].map some ++ List.replicate (Ng.length - 1) none) st with
          | nx e s => rw [q] at p2; exact fun ρ' H' σ' x S z => p2 ρ' H' .non x S .non
          | ret d s => rw [q] at p2; exact p2
          | bk e s => rw [q] at p2; exact p2.elim
          | ct e s => rw [q] at p2; exact p2.elim
          | exc C fs e s => rw [q] at p2; exact fun ρ' H' σ' d x S z => p2 ρ' H' d x S
          | bad => rw [q] at p2; exact p2.elim
      · cases r with
        | error e => exact tk e s2 (L2N.XE.of_call I1 (fun _ _ _ h => h) hq)
        | ok fl =>
          cases fl with
          | ret u => exact I1.after hq
          | next => exact hq.elim
          | brk => exact hq.elim
          | cont => exact hq.elim
    · exact p1.elim
  · exact p1.elim
end
end M
/-! M97: defs that make lambdas; the law's call with tables of code objects in the store. -/
namespace M
open PySem PySem.Spec PyProof.Rows L2 LamX
/-- a def's code object, as the written part tells it -/
def codOf (K : PySem.W.Frag) (f : Addr) : Option Value := match K.lookup f with
  | some ⟨_, _, .func fd, _⟩ => some fd.code
  | _ => none
theorem codOf_tab {K : PySem.W.Frag} {x : Str} {cdv : Value} (hf : PySem.W.nsIn K mainGlobals x = some (some (.ref (He.ga K x)))) (h : (PySem.W.tabIn K x).isSome = true) (e : codOf K (He.ga K x) = some cdv) : cdv = .ref (tcA K x) := by
  unfold tcA
  unfold PySem.W.tabIn at h ⊢
  rw [hf] at h ⊢
  dsimp only at h ⊢
  unfold codOf at e
  generalize K.lookup (He.ga K x) = lo at h e ⊢
  cases lo with
  | none => cases e
  | some o =>
    obtain ⟨oc, od, dt, osl⟩ := o
    cases dt with
    | func fd =>
      have e2 : some fd.code = some cdv := e
      cases e2
      dsimp only at h ⊢
      generalize fd.code = fc at h ⊢
      cases fc with
      | ref c =>
        dsimp only at h ⊢
        generalize K.lookup c = l2 at h ⊢
        cases l2 with
        | none => cases h
        | some o2 =>
          obtain ⟨oc2, od2, dt2, osl2⟩ := o2
          cases dt2 with
          | fields vs =>
            dsimp only at h ⊢
            split at h
            · rename_i p hp
              simp only [hp]
            · cases h
          | _ => cases h
      | _ => cases h
    | _ => cases e
theorem tabB_tab {K : PySem.W.Frag} {x : Str} (h : tabB K x = true) : PySem.W.tabIn K x = some (tcA K x, ttA K x) ∧ K.lookup (ttA K x) = none ∧ PySem.W.nsIn K mainGlobals x = some (some (.ref (He.ga K x))) := by
  unfold tabB at h
  unfold tcA ttA
  cases q : PySem.W.tabIn K x with
  | none => rw [q] at h; cases h
  | some cp =>
    obtain ⟨c, p⟩ := cp
    rw [q] at h
    obtain ⟨h1, h2⟩ := He.ba h
    refine ⟨rfl, by simpa using h1, ?_⟩
    split at h2
    · rename_i f hf
      rw [hf, of_decide_eq_true h2]
    · cases h2
/-- the tables' facts, at a base -/
def Tbs (K : PySem.W.Frag) (mg : Str → Option Value) (base : Heap) (mk : List (Str × Str)) : Prop := ∀ p ∈ mk, TabB base mg (tcA K p.1) (ttA K p.1)
section
variable {P : Program} {w : World} {K : PySem.W.Frag} {mg : Str → Option Value} {base : Heap} {g : GG}
/-- THE RULE for a def that makes lambdas: its code object is known -/
theorem fn_okT {x qual : Str} {params : Arguments} {body : List Stmt} {scope : Scope} {dvs : List V} {kws : List (Str × V)} {f : Addr} {fd : FuncData} {N ps : List Str} {k : Nat} {b : IS} (Fd : FunD K x qual params body scope dvs kws f fd) (S : FnScope N ps scope)
    (hb : ∀ (cdv : Value) (A : Around) (outer : List PySem.Env) (s : Shared) (H : Hp) (E : XK), codOf K f = some cdv → Room k (A.deeper (envOfC qual scope s.heap.objs.size f cdv)) → A.guards = some [] → PSs (cxOf (L2N.CX P w) P w K mg base N qual scope f cdv A outer s H E) body (TS_ (Fx.of K g E) b)) :
    FnG P w K mg base (k + 1) f fd ps (SPx K g (runB b N.length ps.length)) := by
  have len : ∀ vs H Q E, SPx K g (runB b N.length ps.length) vs H Q E → vs.length = ps.length := fun vs H Q E ⟨W, st, ds, _, _, _, _, r, p⟩ => by
    unfold runB at p
    split at p
    · rename_i c
      rw [← r.length, c]
    · exact p.elim
  obtain ⟨oc, od, dV, kV, doc, pm, an, cdv, ct, osl, rfl, lk, hcd, _, _⟩ := Fd.ex
  have hcod : codOf K f = some cdv := by
    unfold codOf
    rw [lk] <;> rfl
  refine ⟨len, fun A outer s H args us vs Q E hr hgd e0 hbi rv hsp => ?_⟩
  have hl := len _ _ _ _ hsp
  refine run_ofS lk hcd S hr e0 hbi rv hl fun hr' => ⟨_, hb cdv A outer s H E hcod hr' hgd, ?_⟩
  obtain ⟨W, st, ds, hk, hg, hh, Ss, r, p⟩ := hsp
  unfold runB at p
  split at p
  · rename_i c
    refine ⟨W, st, _, ⟨hk, hg, hh, Ss, env_start r c⟩, ?_⟩
    cases q : b (ds.map some ++ List.replicate (N.length - ps.length) none) st with
    | nx e s => rw [q] at p; exact fun ρ' H' σ' x S z => p ρ' H' .non x S .non
    | ret d s => rw [q] at p; exact p
    | bk e s => rw [q] at p; exact p.elim
    | ct e s => rw [q] at p; exact p.elim
    | exc C fs e s => rw [q] at p; exact fun ρ' H' σ' d x S z => p ρ' H' d x S
    | bad => rw [q] at p; exact p.elim
  · exact p.elim
end
/-! ### the law's call -/
section
variable {P : Program} {w : World} {K : PySem.W.Frag} {mg mb : Str → Option Value} {k : Nat} {fa a : Addr} {fd : FuncData} {x : Str} {sp : Sp} {s1 : Shared} {vs : List Value} {ns : List Int} {ts : List (Addr × Addr)}
theorem law_coreT {H : Hp} (KX : K.In s1.heap) (hns : s1.heap.Ns mainGlobals mg) (hb : s1.heap.Ns builtinsNs mb) (hbb : ∀ x : Str, x ≠ "__name__" → mb x = bootBuiltins x) (hlim : s1.heap.NoLimit) (hg : s1.gens = #[])
    (ha : s1.heap.get? a = some { cls := .type "list", data := .seq vs.toArray }) (hr : Room k callerA) (bi : ∀ (s : Shared) (u : Value), BindsTo s fd ⟨[u], []⟩ [(x, u)])
    (hT : ∀ p ∈ ts, s1.heap.get? p.2 = some { cls := .none, data := .fields #[] }) (nT : ∀ p ∈ ts, K.lookup p.2 = none) (hC : ∀ p ∈ ts, PySem.W.CodeHd s1.heap p.1 p.2)
    (hbm : ∃ (bm : Addr) (ob : Obj), mg "__builtins__" = some (.ref bm) ∧ bm ≠ builtinsNs ∧ s1.heap.get? bm = some ob ∧ ob.cls = .type "module" ∧ ob.dict = some builtinsNs ∧ ob.data = .plain)
    (G : ∀ base : Heap, (∀ p ∈ ts, TabB base mg p.1 p.2) → FnG P w K mg base k fa fd [x] sp)
    (hO : ∀ b, H b = none ∨ (∃ p ∈ ts, p.2 = b ∧ H b = some (.tbl #[])) ∨ ∃ o xs, H b = some (.frz o (.lst xs))) (hok : HOk P w H s1.heap) (hA : ∀ b, H b ≠ none → b = a ∨ ∃ p ∈ ts, p.2 = b) (hK : H a ≠ none → K.lookup a = none) (hHT : ∀ p ∈ ts, H p.2 = some (.tbl #[])) (hsp : sp [.ref a] H (fun v _ => v = .bl true) fun _ _ _ => False) :
    codeAny (model P w) callerA (.call (.ref fa) ⟨[.ref a], []⟩) (LawEnd s1) s1 := by
  -- an object that is neither a sequence nor an empty record is not among what H tells
  have out : ∀ {b : Addr} {o : Obj}, s1.heap.get? b = some o → (∀ vs n, o.data ≠ .seq vs n) → o.data ≠ .fields #[] → H b = none := fun {b o} e n1 n2 => by
    cases q : H b with
    | none => rfl
    | some u =>
      rcases hA b (by rw [q]; exact fun z => nomatch z) with rfl | ⟨p, hp, rfl⟩
      · rw [ha] at e; cases e; exact (n1 _ _ rfl).elim
      · rw [hT p hp] at e; cases e; exact (n2 rfl).elim
  have got : ∀ {b : Addr} {o : Obj}, s1.heap.get? b = some o → (∀ vs n, o.data ≠ .seq vs n) → o.data ≠ .fields #[] → (hidT s1.heap H).get? b = some o := fun {b o} e n1 n2 => hidT_get e (out e n1 n2)
  have dic : ∀ {b : Addr} {m : Str → Option Value}, s1.heap.Ns b m → (hidT s1.heap H).Ns b m := fun {b m} ⟨o, es, ep, e, d, r⟩ => ⟨o, es, ep, got e (fun vs n z => by rw [d] at z; cases z) (fun z => by rw [d] at z; cases z), d, r⟩
  have kin : K.In (hidT s1.heap H) := fun b o e => hidT_get (KX b o e) (by
    cases q : H b with
    | none => rfl
    | some u =>
      rcases hA b (by rw [q]; exact fun z => nomatch z) with rfl | ⟨p, hp, rfl⟩
      · rw [hK (by rw [q]; exact fun z => nomatch z)] at e; cases e
      · rw [nT p hp] at e; cases e)
  have md : Mod K mg (hidT s1.heap H) := ⟨kin, dic hns, ⟨mb, dic hb, hbb⟩, by obtain ⟨mc, h1, h2⟩ := hlim; exact ⟨mc, dic h1, h2⟩⟩
  have tb : ∀ p ∈ ts, TabB (hidT s1.heap H) mg p.1 p.2 := fun p hp => by
    refine ⟨?_, ?_, fun z => ?_⟩
    · obtain ⟨o, us, file, tf, flags, tg, inF, text, tt, e1, r1, r2, r3, r⟩ := hC p hp
      refine ⟨o, us, file, tf, flags, tg, inF, text, tt, got e1 (fun vs n z => by rw [r2] at z; cases z) (fun z => ?_), r1, r2, r3, r⟩
      rw [r2] at z
      cases z
      simp at r3
    · obtain ⟨bm, ob, b1, b2, b3, b4, b5, b6⟩ := hbm
      refine ⟨bm, ob, b1, b2, fun q => ?_, fun q => ?_, got b3 (fun vs n z => by rw [b6] at z; cases z) (fun z => by rw [b6] at z; cases z), b4, b5, b6⟩
      · obtain ⟨o, es, ep, e, hd, _⟩ := hns
        rw [q, e] at b3; cases b3
        rw [hd] at b6; cases b6
      · rw [q, hT p hp] at b3; cases b3; cases b6
    · obtain ⟨o, es, ep, e, hd, _⟩ := hns
      rw [z, hT p hp] at e; cases e; cases hd
  have e0 : Env0 P w K mg (hidT s1.heap H) callerA [] s1 H := ⟨rfl, md, fun b o e => of_hidT e, Nat.le_of_eq (hidT_size _ _), trivial, (fun b m => absurd (show b ∈ ([] : List Addr) from m) (by simp)), hok, .of_eq hg⟩
  refine codeAny_mono ((G _ tb).run callerA [] s1 H ⟨[.ref a], []⟩ [.ref a] [.ref a] _ _ hr rfl e0 (bi s1 (.ref a)) (.cons rfl .nil) hsp) fun r s' h => ?_
  cases r with
  | error e =>
    obtain ⟨_, _, _, _, _, _, _, _, _, _, _, _, z⟩ := h
    exact z.elim
  | ok fl =>
    cases fl with
    | next => exact h.elim
    | brk => exact h.elim
    | cont => exact h.elim
    | ret u =>
      obtain ⟨v, H', os, bare, un, hok', rv, q⟩ := h
      cases (show v = .bl true from q)
      cases (show u = Value.bool true from rv)
      have more : ∀ p ∈ ts, ∃ ys : Array Value, s'.heap.get? p.2 = some { cls := .none, data := .fields ys } := fun p hp => by
        obtain ⟨ys, z⟩ := un.tbls p.2 #[] (hHT p hp)
        exact ⟨_, hok' p.2 _ z⟩
      have same : ∀ b o, (¬ ∃ p ∈ ts, p.2 = b) → s1.heap.get? b = some o → s'.heap.get? b = some o := fun b o nb e => by
        rcases hO b with q | ⟨p, hp, e2, _⟩ | ⟨ob, xs, q⟩
        · exact un.keep b o e q (fun m => nomatch (show b ∈ ([] : List Addr) from m)) (by simp)
        · exact (nb ⟨p, hp, e2⟩).elim
        · have z1 := (hok b _ q).1
          have z2 := (hok' b _ (un.frzs b ob _ q)).1
          rw [e] at z1
          cases z1
          exact z2
      refine ⟨rfl, ⟨fun b o e => ?_, fun b o e => ?_⟩, os, bare⟩
      · by_cases nb : ∃ p ∈ ts, p.2 = b
        · obtain ⟨p, hp, rfl⟩ := nb
          obtain ⟨ys, hy⟩ := more p hp
          rw [hT p hp] at e
          cases e
          exact .inr (.inl ⟨((hC p hp).tab (hT p hp)).isCodeTable, rfl, #[], ys, rfl, by rw [Array.empty_append]; exact hy⟩)
        · exact .inl (same b o nb e)
      · by_cases nb : ∃ p ∈ ts, p.2 = b
        · obtain ⟨p, hp, rfl⟩ := nb
          obtain ⟨ys, hy⟩ := more p hp
          exact ⟨_, hy⟩
        · exact ⟨o, same b o nb e⟩
end
/-- the store at the law's start: the tables -/
def sto0 (mk : List (Str × Str)) : Sto := mk.map fun p => .tbl p.1 p.2
theorem walk_ofT {mk : List (Str × Str)} {l : PySem.W.OpenLaw} {n k : Nat} {q : Program} {loose : List Str} {XP : (Str → Option Value) → Heap → Prop} {YP : World → Heap → Prop} {d : DefRec} {x : Str} {f : Fn}
    (hn : l.most = some n) (hn2 : n ≤ sizeLine) (hdf : d.params.defaults = []) (hr : Room k callerA) (hq : (mk.all fun p => ((recsOf q).find? fun e => e.name == p.1).isSome) = true)
    (F : ∀ (w : World) (mg : Str → Option Value) (fa : Addr) (h : Heap), YP w h → h.Ns mainGlobals mg → mg d.name = some (.ref fa) →
      ∃ (K : PySem.W.Frag) (fd : FuncData), K.In h ∧ (∀ (s : Shared) (u : Value), BindsTo s fd ⟨[u], []⟩ [(x, u)]) ∧ (∀ p ∈ mk, tabB K p.1 = true) ∧ (mk.map fun p => ttA K p.1).Nodup ∧ ∀ base : Heap, Tbs K mg base mk → FnG l.prog w K mg base k fa fd [x] (SPx K (gq l.prog w K) f))
    (hf : ∀ ns : List Int, ns.length ≤ n → ∃ st, f [.lst (ns.map .int)] (sto0 mk) = .ok (.bl true) st) :
    PySem.W.WalkO q loose XP YP l.row.toRowW d [] (fun f vs => PySem.call f vs) := by
  refine Att.attach_call hn hdf fun w s₀ s₁ mg mb fa o pm cd doc a vs ns G Y ho hd hcd hmg hobj hints hlen hg => ?_
  obtain ⟨K, fd, KX, hb, hB, hnd, hF⟩ := F w mg fa _ Y G.T.g hmg
  have tabs : ∀ p ∈ mk, PySem.W.CodeHd s₁.heap (tcA K p.1) (ttA K p.1) ∧ s₁.heap.get? (ttA K p.1) = some { cls := .none, data := .fields #[] } := fun p hp => by
    obtain ⟨d', hd'⟩ := Option.isSome_iff_exists.mp (List.all_eq_true.mp hq p hp)
    exact PySem.W.tab_of G.T KX hd' (tabB_tab (hB p hp)).1
  obtain ⟨ts, hts⟩ : ∃ ts : List (Addr × Addr), ts = mk.map fun p => (tcA K p.1, ttA K p.1) := ⟨_, rfl⟩
  have mem : ∀ p ∈ ts, ∃ m ∈ mk, p = (tcA K m.1, ttA K m.1) := fun p hp => by
    rw [hts] at hp
    obtain ⟨m, hm, e⟩ := List.mem_map.mp hp
    exact ⟨m, hm, e.symm⟩
  have mem2 : ∀ m ∈ mk, (tcA K m.1, ttA K m.1) ∈ ts := fun m hm => by
    rw [hts]
    exact List.mem_map.mpr ⟨m, hm, rfl⟩
  have hT : ∀ p ∈ ts, s₁.heap.get? p.2 = some { cls := .none, data := .fields #[] } := fun p hp => by
    obtain ⟨m, hm, rfl⟩ := mem p hp
    exact (tabs m hm).2
  have nT : ∀ p ∈ ts, K.lookup p.2 = none := fun p hp => by
    obtain ⟨m, hm, rfl⟩ := mem p hp
    exact (tabB_tab (hB m hm)).2.1
  have hC : ∀ p ∈ ts, PySem.W.CodeHd s₁.heap p.1 p.2 := fun p hp => by
    obtain ⟨m, hm, rfl⟩ := mem p hp
    exact (tabs m hm).1
  have aT : ¬ ∃ p ∈ ts, p.2 = a := fun ⟨p, hp, e⟩ => by
    have z := hT p hp
    rw [e, hobj] at z
    cases z
  have hlen' : ns.length ≤ sizeLine := Nat.le_trans hlen hn2
  have rv := L2.vals_ints hints
  have start : ∀ H : Hp, (∀ p ∈ ts, H p.2 = some (.tbl #[])) → ((Rd H a (.lst (ns.map V.int)) ∨ WrL K a (ns.map V.int))) → SPx K (gq l.prog w K) f [.ref a] H (fun v _ => v = .bl true) fun _ _ _ => False := fun H hH hS => by
    obtain ⟨st, e⟩ := hf ns hlen
    let W : Vw := ⟨K, gq l.prog w K, fun _ => False, mk.map fun p => ttA K p.1, H⟩
    have rr : ∀ ns : List Int, RVs W (ns.map D.int) (ns.map V.int) := fun ns => by
      induction ns with
      | nil => exact .nil
      | cons i is ih => exact .cons (.int i) ih
    have na : a ∉ W.ρ := fun m => by
      obtain ⟨m, hm, e⟩ := List.mem_map.mp m
      exact aT ⟨_, mem2 m hm, e⟩
    have S : Sim W (sto0 mk) := ⟨by simp [W, sto0], hnd, (fun _ _ z => z), (fun _ z => False.elim z), (fun n o b h1 h2 => by
      have h1' : (mk.map fun p => O.tbl p.1 p.2)[n]? = some o := h1
      have h2' : (mk.map fun p => ttA K p.1)[n]? = some b := h2
      rw [List.getElem?_map] at h1' h2'
      obtain ⟨p, hp, rfl⟩ := Option.map_eq_some_iff.mp h1'
      obtain ⟨p', hp', rfl⟩ := Option.map_eq_some_iff.mp h2'
      rw [hp] at hp'
      cases hp'
      exact ⟨rfl, #[], hH _ (mem2 p (List.mem_of_getElem? hp)), True.intro, fun pos cv hc => by simp [codeAmong] at hc⟩), fun a h => nomatch h⟩
    refine ⟨W, sto0 mk, _, rfl, rfl, rfl, S, .cons (.lst (hS.imp (fun h => ⟨h, ⟨na, (fun z => z)⟩⟩) id) (rr ns)) .nil, ?_⟩
    rw [e]
    intro ρ' H' v _ _ rv
    cases rv
    rfl
  have FG : ∀ base : Heap, (∀ p ∈ ts, TabB base mg p.1 p.2) → FnG l.prog w K mg base k fa fd [x] (SPx K (gq l.prog w K) f) := fun base hb => hF base fun m hm => hb _ (mem2 m hm)
  cases hk : K.lookup a with
  | some o2 =>
    have e := KX a o2 hk
    rw [hobj] at e
    cases e
    refine law_coreT (ts := ts) (H := fun b => if b ∈ ts.map (·.2) then some (.tbl #[]) else none) KX G.T.g G.T.b G.T.builtins G.T.nolimit hg hobj hr hb hT nT hC G.T.bmain FG (fun b => ?_) (fun b u z => ?_) (fun b z => ?_) (fun z => ?_) (fun p hp => if_pos (List.mem_map.mpr ⟨p, hp, rfl⟩)) (start _ (fun p hp => if_pos (List.mem_map.mpr ⟨p, hp, rfl⟩)) (.inr ⟨vs.toArray, _, hk, by rw [List.size_toArray, hints.length]; exact hlen', by simpa using rv⟩))
    · by_cases m : b ∈ ts.map (·.2)
      · obtain ⟨p, hp, e⟩ := List.mem_map.mp m
        exact .inr (.inl ⟨p, hp, e, if_pos m⟩)
      · exact .inl (if_neg m)
    · dsimp only at z
      by_cases m : b ∈ ts.map (·.2)
      · obtain ⟨p, hp, e⟩ := List.mem_map.mp m
        rw [if_pos m] at z
        cases z
        rw [← e]
        exact hT p hp
      · rw [if_neg m] at z; cases z
    · by_cases m : b ∈ ts.map (·.2)
      · obtain ⟨p, hp, e⟩ := List.mem_map.mp m
        exact .inr ⟨p, hp, e⟩
      · exact absurd (if_neg m) z
    · have m : ¬ a ∈ ts.map (·.2) := fun m => by
        obtain ⟨p, hp, e⟩ := List.mem_map.mp m
        exact aT ⟨p, hp, e⟩
      exact absurd (if_neg m) z
  | none =>
    have at_ : (fun b => if b = a then some (HO.frz { cls := .type "list", data := .seq vs.toArray } (.lst (ns.map V.int))) else if b ∈ ts.map (·.2) then some (.tbl #[]) else none) a = some (.frz { cls := .type "list", data := .seq vs.toArray } (.lst (ns.map V.int))) := if_pos rfl
    have atT : ∀ p ∈ ts, (fun b => if b = a then some (HO.frz { cls := .type "list", data := .seq vs.toArray } (.lst (ns.map V.int))) else if b ∈ ts.map (·.2) then some (.tbl #[]) else none) p.2 = some (.tbl #[]) := fun p hp => (if_neg (fun z => aT ⟨p, hp, z⟩)).trans (if_pos (List.mem_map.mpr ⟨p, hp, rfl⟩))
    refine law_coreT (ts := ts) (H := fun b => if b = a then some (.frz { cls := .type "list", data := .seq vs.toArray } (.lst (ns.map V.int))) else if b ∈ ts.map (·.2) then some (.tbl #[]) else none) KX G.T.g G.T.b G.T.builtins G.T.nolimit hg hobj hr hb hT nT hC G.T.bmain FG (fun b => ?_) (fun b u z => ?_) (fun b z => ?_) (fun _ => hk) atT (start _ atT (.inl (.inr ⟨_, at_⟩)))
    · by_cases e : b = a
      · exact .inr (.inr ⟨_, _, if_pos e⟩)
      · by_cases m : b ∈ ts.map (·.2)
        · obtain ⟨p, hp, e2⟩ := List.mem_map.mp m
          exact .inr (.inl ⟨p, hp, e2, (if_neg e).trans (if_pos m)⟩)
        · exact .inl ((if_neg e).trans (if_neg m))
    · dsimp only at z
      by_cases e : b = a
      · subst e
        rw [if_pos rfl] at z
        cases z
        exact ⟨hobj, by rw [List.length_map]; exact hlen', vs, _, rv, hobj⟩
      · rw [if_neg e] at z
        by_cases m : b ∈ ts.map (·.2)
        · obtain ⟨p, hp, e2⟩ := List.mem_map.mp m
          rw [if_pos m] at z
          cases z
          rw [← e2]
          exact hT p hp
        · rw [if_neg m] at z; cases z
    · by_cases e : b = a
      · exact .inl e
      · by_cases m : b ∈ ts.map (·.2)
        · obtain ⟨p, hp, e2⟩ := List.mem_map.mp m
          exact .inr ⟨p, hp, e2⟩
        · exact absurd ((if_neg e).trans (if_neg m)) z
end M
/-! M98: what a def makes of what it calls; repr of data with empty dicts. -/
namespace M
open PySem PySem.Spec PyProof.Rows L2
theorem CalOk.mono {P : Program} {w : World} {K : PySem.W.Frag} {mg : Str → Option Value} {base : Heap} {gg : GG} {N : List Str} {x : Str} {sg : Scope} {g : Addr} {bg : List Stmt} {a : Str} {j k : Nat} {B : (D → Sto → R D) → IS} (h : CalOk P w K mg base gg N x sg g bg a j B) (l : j ≤ k) : CalOk P w K mg base gg N x sg g bg a k B :=
  fun cdv A outer s H E th hr hgd act => h cdv A outer s H E th (hr.mono l) hgd act
/-! ### repr -/
/-- the datum as plain data; an empty dict, too -/
def toPE (st : Sto) : Nat → D → Option PyData
  | 0, _ => none
  | n + 1, d => match d with
    | .non => some .none
    | .bl b => some (.bool b)
    | .int i => some (.int i)
    | .str x => some (.str x)
    | .tup xs => (allP (toPE st n) xs).map .tuple
    | .tpl xs => (allP (toPE st n) xs).map .tuple
    | .lst xs => (allP (toPE st n) xs).map .list
    | .dct [] [] => some (.dict [])
    | .dct [.inr y] [.str x] => some (.dict [(.str y, .str x)])
    | .ref k => match lstAt st k with
      | some xs => (allP (toPE st n) xs).map .list
      | none => none
    | _ => none
section
variable {X : Cx} {F : Fx} {pins : List (Addr × Obj)} {σ : L2.St} {s : Shared} {W : Vw} {st : Sto}
/-- what is known of a value that may be shown: it reads so, and its repr under others is so -/
def RpG (X : Cx) (s : Shared) (p : PyData) (u : Value) : Prop := p.showable = true → p.shown.length ≤ sizeLine → ∃ as, Reads s.heap u p as ∧ (∃ bs, ReadAtMost s.heap p.depth bs ∧ ReprK X.prog X.w bs s.heap p.depth u p.shown) ∧ ∀ a, u = .ref a → ∃ T idr, ShowsBy X.prog X.w s.heap a p T idr
def RpGs (X : Cx) (s : Shared) (ps : List PyData) (us : List Value) : Prop := PyData.showableAll ps = true → (∀ t ∈ PyData.shownAll ps, t.length ≤ sizeLine) → ∃ as, ReadsAll s.heap us ps as ∧ ∃ bs, ReadAtMost s.heap (PyData.depthAll ps) bs ∧ ReprAllK X.prog X.w bs s.heap (PyData.depthAll ps) us (PyData.shownAll ps)
theorem rg_all {n : Nat} {f : D → Option PyData} (hf : ∀ d p, f d = some p → p.depth ≤ n ∧ ∀ v u, RV W d v → L2.RelV v u → RpG X s p u) : ∀ {xs : List D} {ps : List PyData}, allP f xs = some ps → PyData.depthAll ps ≤ n ∧ ∀ vs us, RVs W xs vs → Vals vs us → RpGs X s ps us
  | [], ps, h => by
    cases h
    refine ⟨Nat.zero_le _, fun vs us r q => ?_⟩
    cases r
    cases q
    exact fun _ _ => ⟨[], .nil, [], (fun _ h => nomatch h), .nil⟩
  | x :: xs, ps, h => by
    obtain ⟨p, r, e1, e2, rfl⟩ := allP_cons h
    obtain ⟨a1, a2⟩ := hf _ _ e1
    obtain ⟨b1, b2⟩ := rg_all hf e2
    refine ⟨Nat.max_le.mpr ⟨a1, b1⟩, fun vs us rv q => ?_⟩
    cases rv with
    | cons r1 r2 =>
      cases q with
      | cons q1 q2 =>
        intro hs hz
        have hs' : p.showable = true ∧ PyData.showableAll r = true := by simpa [PyData.showableAll] using hs
        obtain ⟨as1, d1, ⟨bs1, m1, k1⟩, _⟩ := a2 _ _ r1 q1 hs'.1 (hz _ (by simp only [PyData.shownAll]; exact List.mem_cons_self))
        obtain ⟨as2, d2, bs2, m2, k2⟩ := b2 _ _ r2 q2 hs'.2 fun t ht => hz t (by simp only [PyData.shownAll]; exact List.mem_cons_of_mem _ ht)
        refine ⟨_, .cons d1 d2, bs1 ++ bs2, fun b hm => ?_, ?_⟩
        · simp only [PyData.depthAll]
          rcases List.mem_append.mp hm with hm | hm
          · obtain ⟨d', as', r', hd'⟩ := m1 b hm
            exact ⟨d', as', r', Nat.le_trans hd' (Nat.le_max_left _ _)⟩
          · obtain ⟨d', as', r', hd'⟩ := m2 b hm
            exact ⟨d', as', r', Nat.le_trans hd' (Nat.le_max_right _ _)⟩
        · simp only [PyData.depthAll, PyData.shownAll]
          exact .cons ((k1.more fun b hb => List.mem_append_left _ hb).level_le (Nat.le_max_left _ _)) (k2.more_le (fun b hb => List.mem_append_right _ hb) (Nat.le_max_right _ _))
/-- a list of such things -/
theorem rg_list (I : Inv X pins σ W.H s) (hk : W.K = X.K) {a : Addr} {ys : List V} {ps : List PyData} (t : SqL W.K W.H a ys) (h : ∀ us, Vals ys us → RpGs X s ps us) : RpG X s (.list ps) (.ref a) := by
  intro hs hz
  rw [hk] at t
  obtain ⟨its, rt, ⟨o, nn, ho, hc, hdn, hd⟩, _⟩ := I.list t
  have hz' : (listText (PyData.shownAll ps)).length ≤ sizeLine := by simpa only [PyData.shown] using hz
  obtain ⟨as, ra, bs, hb, kk⟩ := h _ rt (by simpa [PyData.showable] using hs) fun t ht => Nat.le_trans (listText_mem_le ht) hz'
  have rd : Reads s.heap (.ref a) (.list ps) _ := .list ho hc hd (by simpa using ra)
  have hna : a ∉ bs := not_mem_of_deeper rd (by simp only [PyData.depth]; omega) hb
  refine ⟨_, rd, ⟨a :: bs, ReadAtMost.cons rd (by simp only [PyData.depth]; omega) hb, ?_⟩, fun b e => ?_⟩
  · simp only [PyData.depth, PyData.shown]
    cases its with
    | nil =>
      cases ra
      simp only [PyData.shownAll, listText_nil]
      exact ReprK.listEmpty ho hc hd
    | cons x l => exact ReprK.list ho hc hd hna (by simpa using kk.length_eq) fun i y e => kk.item i y (by simpa using e)
  · cases e
    refine ⟨"list", "list.__repr__", F.slot_list_repr.toG, F.slot_list_str, F.slot_list_format, fun s hk0 => ⟨o, hk0 _ _ ho, hc⟩, fun A E s2 Q hg hu hk0 hQ => ?_⟩
    simp only [PyData.depth] at hu
    simp only [PyData.shown] at hQ
    cases its with
    | nil =>
      cases ra
      simp only [PyData.shownAll, listText_nil] at hQ
      exact call_list_repr_empty ⟨o, hk0 _ _ ho, hc⟩ (hk0 _ _ ho) hd (hQ s2.heap _ _ fun _ _ e => e)
    | cons x l => exact call_list_reprK ho hc hd hna (by simpa using kk.length_eq) (fun i y e => kk.item i y (by simpa using e)) hg (fun b _ => Clear.nil b) hu hk0 hQ hz'
theorem rg_tup (I : Inv X pins σ W.H s) (hk : W.K = X.K) {a : Addr} {ys : List V} {ps : List PyData} (t : SqT W.K W.H a ys) (h : ∀ us, Vals ys us → RpGs X s ps us) : RpG X s (.tuple ps) (.ref a) := by
  intro hs hz
  rw [hk] at t
  obtain ⟨its, rt, ⟨o, ho, hc, nn, hd⟩, _⟩ := I.tuple t
  have hz' : (tupleText (PyData.shownAll ps)).length ≤ sizeLine := by simpa only [PyData.shown] using hz
  obtain ⟨as, ra, bs, hb, kk⟩ := h _ rt (by simpa [PyData.showable] using hs) fun t ht => Nat.le_trans (tupleText_mem_le ht) hz'
  have rd : Reads s.heap (.ref a) (.tuple ps) _ := .tuple ho hc hd (by simpa using ra)
  have hna : a ∉ bs := not_mem_of_deeper rd (by simp only [PyData.depth]; omega) hb
  refine ⟨_, rd, ⟨a :: bs, ReadAtMost.cons rd (by simp only [PyData.depth]; omega) hb, ?_⟩, fun b e => ?_⟩
  · simp only [PyData.depth, PyData.shown]
    exact ReprK.tuple ho hc hd hna (by simpa using kk)
  · cases e
    refine ⟨"tuple", "tuple.__repr__", F.slot_tuple_repr, F.slot_tuple_str, F.slot_tuple_format, fun s hk0 => ⟨o, hk0 _ _ ho, hc⟩, fun A E s2 Q hg hu hk0 hQ => ?_⟩
    simp only [PyData.depth] at hu
    simp only [PyData.shown] at hQ
    exact call_tuple_reprK ho hc hd hna (by simpa using kk) hg (fun b _ => Clear.nil b) hu hk0 hQ hz'
theorem rg_dct0 (I : Inv X pins σ W.H s) {a : Addr} {ys : List (Key × V)} (h1 : Rd W.H a (.dK ys)) (h0 : ys = []) : RpG X s (.dict []) (.ref a) := by
  subst h0
  intro _ hz
  obtain ⟨_, hs, vs2, kvr, o, es, ep, ho, hx, hd, _, hp, _⟩ := (show ObjOk X.prog X.w W.H s.heap a (.dK []) from Rd.ok h1 I.hok)
  have e0 : vs2 = [] := by
    cases vs2 with
    | nil => rfl
    | cons z zs => cases kvr
  subst e0
  have e1 : es.toList = [] := by
    generalize es.toList = el at hp
    cases hp
    rfl
  have rd : Reads s.heap (.ref a) (.dict []) ([a] ++ [] ++ []) := .dict (as := []) (bs := []) ho hx.1 hd (by rw [e1]; exact .nil) (by rw [e1]; exact .nil)
  have ns : (PyData.dict []).hasDict = true → sysModules ∉ [a] ++ [] ++ [] := fun _ m => by
    have m' : sysModules = a := by simpa using m
    rw [← m'] at hs
    simp at hs
  obtain ⟨bs, hb, kk⟩ := ReprK.of_reads (prog := X.prog) (w := X.w) rd rfl ns hz
  exact ⟨_, rd, ⟨bs, hb, kk⟩, fun b e => by
    cases e
    exact showsBy_of_reads (prog := X.prog) (w := X.w) rd rfl ns hz⟩
theorem rg_dct1 (I : Inv X pins σ W.H s) {a : Addr} {y x : Str} {ys : List (Key × V)} (h1 : Rd W.H a (.dK ys)) (h0 : ys = [(.inr y, .str x)]) : RpG X s (.dict [(.str y, .str x)]) (.ref a) := by
  subst h0
  intro hsh hz
  obtain ⟨_, hs, vs2, kvr, o, es, ep, ho, hx, hd, _, hp, _⟩ := (show ObjOk X.prog X.w W.H s.heap a (.dK [(.inr y, .str x)]) from Rd.ok h1 I.hok)
  obtain ⟨e1, e2⟩ : ReadsAll s.heap (es.toList.map (·.key)) [.str y] [] ∧ ReadsAll s.heap (es.toList.map (·.val)) [.str x] [] := by
    cases kvr with
    | cons r1 r2 =>
      cases r2
      generalize es.toList = el at hp
      cases hp with
      | cons q1 q2 q3 =>
        cases q3
        obtain ⟨r3, r4⟩ := r1
        dsimp only at r3 r4
        rw [← r3] at q1
        obtain ⟨t, et⟩ := r4
        rw [et] at q2
        refine ⟨ReadsAll.cons (as := []) (bs := []) (keyP_reads (k := .inr y) (show keyIs (.inr y) _ = true from q1)) .nil, ?_⟩
        rw [List.map_cons, q2]
        exact ReadsAll.cons (as := []) (bs := []) (.str x t) .nil
  have rd : Reads s.heap (.ref a) (.dict [(.str y, .str x)]) ([a] ++ [] ++ []) := .dict (as := []) (bs := []) ho hx.1 hd e1 e2
  have ns : (PyData.dict [(.str y, .str x)]).hasDict = true → sysModules ∉ [a] ++ [] ++ [] := fun _ m => by
    have m' : sysModules = a := by simpa using m
    rw [← m'] at hs
    simp at hs
  obtain ⟨bs, hb, kk⟩ := ReprK.of_reads (prog := X.prog) (w := X.w) rd hsh ns hz
  exact ⟨_, rd, ⟨bs, hb, kk⟩, fun b e => by
    cases e
    exact showsBy_of_reads (prog := X.prog) (w := X.w) rd hsh ns hz⟩
theorem toPE_good (S : Sim W st) (I : Inv X pins σ W.H s) (hk : W.K = X.K) : ∀ (n : Nat) (d : D) (p : PyData), toPE st n d = some p → p.depth ≤ n ∧ ∀ v u, RV W d v → L2.RelV v u → RpG X s p u
  | 0, _, _, h => by cases h
  | n + 1, d, p, h => by
    have leaf : ∀ {p : PyData} {u : Value}, Reads s.heap u p [] → (∀ a, u ≠ .ref a) → (p.showable = true → p.shown.length ≤ sizeLine → ReprIs X.prog X.w u p.shown) → RpG X s p u := fun {p u} r nr k hs hz => ⟨[], r, ⟨[], (fun _ h => nomatch h), .of_is (k hs hz) _ _ _⟩, fun a e => absurd e (nr a)⟩
    cases d with
    | non => cases h; exact ⟨Nat.zero_le _, fun v u r q => by cases r; cases (show u = Value.none from q); exact leaf .none (fun a e => nomatch e) fun _ _ => ReprIs.none⟩
    | bl b => cases h; exact ⟨Nat.zero_le _, fun v u r q => by cases r; cases (show u = Value.bool b from q); exact leaf (.bool b) (fun a e => nomatch e) fun _ _ => ReprIs.bool b⟩
    | int b => cases h; exact ⟨Nat.zero_le _, fun v u r q => by
        cases r
        obtain ⟨t, rfl⟩ := q
        exact leaf (.int b t) (fun a e => nomatch e) fun hs _ => ReprIs.int t (by simpa [PyData.showable] using hs)⟩
    | str x => cases h; exact ⟨Nat.zero_le _, fun v u r q => by
        cases r
        obtain ⟨t, rfl⟩ := q
        exact leaf (.str x t) (fun a e => nomatch e) fun _ hz => ReprIs.str x t (by simpa only [PyData.shown] using hz)⟩
    | tup xs =>
      have h' : (allP (toPE st n) xs).map PyData.tuple = some p := h
      obtain ⟨ps, e, rfl⟩ := Option.map_eq_some_iff.mp h'
      obtain ⟨b1, b2⟩ := rg_all (toPE_good S I hk n) e
      exact ⟨Nat.succ_le_succ b1, fun v u r q => by
        obtain ⟨a, ys, rfl, t, r'⟩ := tup_at r
        cases (show u = Value.ref a from q)
        exact rg_tup I hk t fun us => b2 _ us r'⟩
    | tpl xs =>
      have h' : (allP (toPE st n) xs).map PyData.tuple = some p := h
      obtain ⟨ps, e, rfl⟩ := Option.map_eq_some_iff.mp h'
      obtain ⟨b1, b2⟩ := rg_all (toPE_good S I hk n) e
      exact ⟨Nat.succ_le_succ b1, fun v u r q => by
        cases r with
        | @tpl a _ _ t r' =>
          cases (show u = Value.ref a from q)
          exact rg_tup I hk t.tup.sq fun us => b2 _ us r'⟩
    | lst xs =>
      have h' : (allP (toPE st n) xs).map PyData.list = some p := h
      obtain ⟨ps, e, rfl⟩ := Option.map_eq_some_iff.mp h'
      obtain ⟨b1, b2⟩ := rg_all (toPE_good S I hk n) e
      exact ⟨Nat.succ_le_succ b1, fun v u r q => by
        obtain ⟨a, ys, rfl, t, r'⟩ := alst_at S (xs := xs) rfl r
        cases (show u = Value.ref a from q)
        exact rg_list I hk t fun us => b2 _ us r'⟩
    | ref k =>
      have h' : (match lstAt st k with
        | some xs => (allP (toPE st n) xs).map PyData.list
        | none => none) = some p := h
      split at h'
      · rename_i xs hx
        obtain ⟨ps, e, rfl⟩ := Option.map_eq_some_iff.mp h'
        obtain ⟨b1, b2⟩ := rg_all (toPE_good S I hk n) e
        exact ⟨Nat.succ_le_succ b1, fun v u r q => by
          obtain ⟨a, ys, rfl, t, r'⟩ := alst_at S (d := .ref k) (xs := xs) hx r
          cases (show u = Value.ref a from q)
          exact rg_list I hk t fun us => b2 _ us r'⟩
      · cases h'
    | dct ks xs =>
      have h' : toPE st (n + 1) (.dct ks xs) = some p := h
      unfold toPE at h'
      split at h' <;> first | (rename_i q; cases q) | skip
      all_goals first | (cases h'; done) | skip
      · cases h'
        exact ⟨by simp [PyData.depth, PyData.depthKv], fun v u r q => by
          cases r with
          | @dct a _ _ ys h1 h2 h3 h4 =>
            cases (show u = Value.ref a from q)
            exact rg_dct0 I h1 (by
              cases ys with
              | nil => rfl
              | cons y ys => cases h4)⟩
      · cases h'
        exact ⟨by simp [PyData.depth, PyData.depthKv], fun v u r q => by
          cases r with
          | @dct a _ _ ys h1 h2 h3 h4 =>
            cases (show u = Value.ref a from q)
            exact rg_dct1 I h1 (by
              cases ys with
              | nil => cases h4
              | cons y ys =>
                cases ys with
                | cons z zs => simp at h3
                | nil =>
                  obtain ⟨k, v⟩ := y
                  simp at h3
                  subst h3
                  cases h4 with
                  | cons r1 r2 => cases r1; rfl)⟩
    | _ => cases h
end
def rprE (st : Sto) (d : D) : Option Str := match toPE st 64 d with
  | some p => if p.showable = true ∧ p.shown.length ≤ sizeLine then some p.shown else none
  | none => none
def opReprE : OpN := fun ds st => match ds with
  | [d] => (rprE st d).map fun x => (.str x, st)
  | _ => none
section
variable {X : Cx} {F : Fx}
theorem cr_reprE (hk : X.K = F.K) (hgd : X.A.guards = some []) (hu : X.A.units + (64 + 1) < cLine) : CallR X (.builtin "repr") (rN F opReprE) := fun pins s σ H vs us Q I r ⟨W, st, ds, J, rd, p⟩ => by
  unfold opReprE at p
  split at p
  · rename_i d
    obtain ⟨v, rfl, rv⟩ := rv1 rd
    obtain ⟨u, rfl, ru⟩ := vals1 r
    have eK := J.k
    have eH := J.h
    subst eH
    cases e : rprE st d with
    | none => rw [e] at p; exact p.elim
    | some x =>
      rw [e] at p
      have q := J.now p (.str x)
      unfold rprE at e
      split at e
      · rename_i pd hp
        split at e
        · rename_i c
          cases e
          obtain ⟨a1, a2⟩ := toPE_good J.sim I (eK.trans hk.symm) 64 d pd hp
          obtain ⟨as, rr, _, sh⟩ := a2 v u rv ru c.1 c.2
          have heap : ∀ a, u = .ref a → wpAny (model X.prog X.w) X.A (call (.builtin "repr") [u]) (EP X pins σ Q) X.xe s := fun a ea => by
            obtain ⟨T, idr, S⟩ := sh a ea
            subst ea
            exact call_repr_slot (by omega) (S.typeIs s fun _ _ e => e) S.slotRepr (S.call X.A.in1 X.xe s _ hgd (by show X.A.units + 1 + pd.depth < cLine; omega) (fun _ _ e => e) fun h' t tk k => ⟨_, _, rfl, .str _, W.H, I.kept k, ⟨t, rfl⟩, q⟩)
          cases rr with
          | none => exact PySem.P.repr_of_none ⟨.str _, W.H, I.tok _, ⟨_, rfl⟩, q⟩
          | bool b => exact PySem.P.repr_of_bool ⟨.str _, W.H, I.tok _, ⟨_, rfl⟩, q⟩
          | int i t => exact PySem.P.repr_of_int (by simpa [PyData.showable] using c.1) ⟨.str _, W.H, I.tok _, ⟨_, rfl⟩, q⟩
          | str z t => exact PySem.P.repr_of_str ⟨.str _, W.H, I.tok _, ⟨_, rfl⟩, q⟩ c.2
          | list h1 h2 h3 h4 => exact heap _ rfl
          | tuple h1 h2 h3 h4 => exact heap _ rfl
          | dict h1 h2 h3 h4 h5 => exact heap _ rfl
        · cases e
      · cases e
  · exact p.elim
end
end M
/-! M99: sum of a tuple of whole numbers. -/
namespace M
open PySem PySem.Spec PyProof.Rows L2
section
variable {X : Cx} {F : Fx}
end
end M
/-! M100: defs called where an exception is handled; loops over lists and tuples there. -/
namespace M
open PySem PySem.Spec PyProof.Rows L2
abbrev GG.at (g : GG) (o : Option Addr) : GG := { g with hd := o }
abbrev Vw.at (W : Vw) (o : Option Addr) : Vw := { W with g := W.g.at o }
/-! ### views that know what is handled -/
section
variable {W : Vw} {o : Option Addr}
mutual
theorem RV.at : ∀ {d : D} {v : V}, RV W d v → RV (W.at o) d v
  | _, _, .non => .non
  | _, _, .bl b => .bl b
  | _, _, .int i => .int i
  | _, _, .str s => .str s
  | _, _, .ty n => .ty n
  | _, _, .glo s => .glo (W := W.at o) s
  | _, _, .tup h r => .tup (W := W.at o) h r.at
  | _, _, .lst h r => .lst (W := W.at o) h r.at
  | _, _, .dct h f e r => .dct (W := W.at o) h f e r.at
  | _, _, .obj h f r => .obj (W := W.at o) h f r.at
  | _, _, .exc h f a b r => .exc (W := W.at o) h f a b r.at
  | _, _, .ref h => .ref (W := W.at o) h
  | _, _, .tpl h r => .tpl (W := W.at o) h r.at
  | _, _, .adr h f r => .adr (W := W.at o) h f r.at
theorem RVs.at : ∀ {d : List D} {v : List V}, RVs W d v → RVs (W.at o) d v
  | _, _, .nil => .nil
  | _, _, .cons h r => .cons h.at r.at
theorem RFs.at : ∀ {d : List (Str × D)} {v : List (Str × V)}, RFs W d v → RFs (W.at o) d v
  | _, _, .nil => .nil
  | _, _, .cons h r => .cons h.at r.at
end
theorem Key.at {t : Bool} {a : Addr} {ys : List V} (h : W.Key t a ys) : (W.at o).Key t a ys := by
  cases t with
  | true => exact h
  | false => exact h
theorem OR.at {a : Addr} : ∀ {x : O}, OR W a x → OR (W.at o) a x
  | .lst xs, ⟨ys, h, r⟩ => ⟨ys, h, r.at⟩
  | .dct kvs, ⟨ys, h, k, r⟩ => ⟨ys, h, k, r.at⟩
  | .ins C fs, ⟨dx, gs, h, r⟩ => ⟨dx, gs, h, r.at⟩
  | .dcn t kvs, ⟨xs, h, r⟩ => ⟨xs, h, Paired.mapP r fun p y z => ⟨z.1, Key.at z.2.1, z.2.2.at⟩⟩
  | .lck t kvs, ⟨od, xs, h, r⟩ => ⟨od, xs, h, Paired.mapP r fun p y z => ⟨z.1, Key.at z.2.1, z.2.2.at⟩⟩
  | .dcp lk kvs, ⟨u, xs, h, l, r⟩ => ⟨u, xs, h, l, Paired.mapP r fun p y z => ⟨z.1, z.2.1, z.2.2.at⟩⟩
  | .tbl nm _, ⟨ha, ps, h, t, k⟩ => ⟨ha, ps, h, t, k⟩
theorem EnvR.at {env : Env} {σ : L2.St} (h : EnvR W env σ) : EnvR (W.at o) env σ := ⟨h.len, fun i d e => let ⟨v, e1, r⟩ := h.at_ i d e; ⟨v, e1, r.at⟩⟩
theorem XR.at {fs : List (Str × D)} {d : Option Addr} (h : XR W fs d) : XR (W.at o) fs d := let ⟨gs, r, z⟩ := h; ⟨gs, r.at, z⟩
theorem Ext.at {ρ' : List Addr} {H' : Hp} (x : Ext W ρ' H') : Ext (W.at o) ρ' H' := ⟨x.pre, x.new, x.keep, x.frz⟩
theorem Sim.at {st : Sto} (S : Sim W st) (h : ∀ a, o = some a → ∃ C d, W.H a = some (exq a C d) ∧ W.fro a) : Sim (W.at o) st := ⟨S.len, S.nd, S.nz, S.zt, fun n x a h1 h2 => (S.at_ n x a h1 h2).at, h⟩
theorem PostS.at {r : RS} {N : Ends} {E : WX} (hn : W.g.hd = none) (p : PostS W r N E) : PostS (W.at o) r N E := by
  have b1 : ∀ {ρ' : List Addr} {H' : Hp}, Ext (W.at o) ρ' H' → Ext W ρ' H' := fun x => ⟨x.pre, x.new, x.keep, x.frz⟩
  have b2 : ∀ {ρ' : List Addr} {H' : Hp} {st : Sto}, Sim ((W.at o).to ρ' H') st → Sim (W.to ρ' H') st := fun S => Sim.at (W := (W.at o).to _ _) (o := W.g.hd) S fun a h => by rw [hn] at h; cases h
  cases r with
  | nx e st => exact fun ρ' H' σ' x S r => p ρ' H' σ' (b1 x) (b2 S) (EnvR.at (W := (W.at o).to ρ' H') (o := W.g.hd) r)
  | ret d st => exact fun ρ' H' v x S r => p ρ' H' v (b1 x) (b2 S) (RV.at (W := (W.at o).to ρ' H') (o := W.g.hd) r)
  | bk e st => exact fun ρ' H' σ' x S r => p ρ' H' σ' (b1 x) (b2 S) (EnvR.at (W := (W.at o).to ρ' H') (o := W.g.hd) r)
  | ct e st => exact fun ρ' H' σ' x S r => p ρ' H' σ' (b1 x) (b2 S) (EnvR.at (W := (W.at o).to ρ' H') (o := W.g.hd) r)
  | exc C fs e st => exact fun ρ' H' σ' d x S r y => p ρ' H' σ' d (b1 x) (b2 S) (EnvR.at (W := (W.at o).to ρ' H') (o := W.g.hd) r) (XR.at (W := (W.at o).to ρ' H') (o := W.g.hd) y)
  | bad => exact p
end
abbrev Fx.at (F : Fx) (o : Option Addr) : Fx := { F with g := F.g.at o }
/-! ### the end of a list, of a tuple, an exception handled -/
section
open PySem.HandSPX
variable {prog : Program} {w : World} {A : Around} {E : Value → Shared → Prop} {s : Shared}
end
/-! ### walks there -/
section
/-- the exception that is handled stands -/
theorem hot_at {X : Cx} {pins : List (Addr × Obj)} {σ : L2.St} {H : Hp} {s : Shared} {a : Addr} (I : Inv X pins σ H s) (hh : X.A.handled = some (.ref a)) (e : ∃ C d, H a = some (exq a C d)) : HotX.HotAt X.A a s.heap := by
  obtain ⟨C, d, e⟩ := e
  obtain ⟨⟨o, vs, h1, _, _, h4, h5⟩, _⟩ := I.hok a _ e
  exact ⟨hh, o, vs, h1, h4, h5⟩
structure TurnZ (P : Program) (w : World) (K : PySem.W.Frag) (tg : Expr) (J : It) (fp : List Addr) (it : Addr) (tn : Nat → Heap → Prop) : Prop where
  mem : it ∈ fp
  obj : ∀ i h, tn i h → ∀ b ∈ fp, ∃ o, h.get? b = some o ∧ ∀ v, o.data ≠ .cell v
  keep : ∀ i h h', tn i h → (∀ b ∈ fp, ∀ o, h.get? b = some o → h'.get? b = some o) → tn i h'
  item : ∀ (X : Cx), X.prog = P → X.w = w → X.K = K → ∀ (i : Nat) (pins : List (Addr × Obj)) (s : Shared) (σ : L2.St) (H : Hp) (E : Value → Shared → Prop), Inv X pins σ H s → (∀ b ∈ fp, FpOk X pins H b) → tn i s.heap → J.go i H →
    wpAny (model P w) X.A (pyNext (.ref it)) (fun r s1 => ∃ u, r = some u ∧
      wpAny (model P w) X.A (letOwnedTupleGo tg (.ref it) u) (fun _ s2 => ∃ x H', Inv X pins σ H' s2 ∧ RelV x u ∧ J.yld i H x H' ∧ tn (i + 1) s2.heap ∧ ∀ b ∈ fp, H' b = none) E s1) E s
  done : ∀ (X : Cx), X.prog = P → X.w = w → X.K = K → ∀ (x1 : Addr) (i : Nat) (pins : List (Addr × Obj)) (s : Shared) (σ : L2.St) (H : Hp) (E : Value → Shared → Prop), HotX.HotAt X.A x1 s.heap → (∃ o, H x1 = some o) → Inv X pins σ H s → (∀ b ∈ fp, FpOk X pins H b) → tn i s.heap → J.stop i H →
    wpAny (model P w) X.A (pyNext (.ref it)) (fun r s1 => r = none ∧ Inv X pins σ H s1) E s
def PIEZ (X : Cx) (pins : List (Addr × Obj)) (σ : L2.St) (tg : Expr) (R : It → Hp → Prop) (itv : Value) (s2 : Shared) : Prop :=
  ∃ (it : Addr) (fp : List Addr) (tn : Nat → Heap → Prop) (J : It) (H' : Hp), itv = .ref it ∧ Inv X pins σ H' s2 ∧ TurnZ X.prog X.w X.K tg J fp it tn ∧ tn 0 s2.heap ∧ (∀ b ∈ fp, FpOk X pins H' b) ∧ R J H'
structure PIZ (X : Cx) (tg iter : Expr) (wi : L2.TI) : Prop where
  run : ∀ (pins : List (Addr × Obj)) (s : Shared) (σ : L2.St) (H : Hp) (R : It → Hp → Prop), Inv X pins σ H s → wi σ H R →
    wpAny (model X.prog X.w) X.A (eval iter X.env) (fun v s1 => wpAny (model X.prog X.w) X.A (pyIter v) (PIEZ X pins σ tg R) X.xe s1) X.xe s
theorem PIZ.imp {X : Cx} {tg e : Expr} {t t' : L2.TI} (h : PIZ X tg e t) (w : ∀ σ H Q, t' σ H Q → t σ H Q) : PIZ X tg e t' := ⟨fun p s σ H Q I q => h.run p s σ H Q I (w σ H Q q)⟩
theorem PIZ.or {X : Cx} {tg e : Expr} {t t' : L2.TI} (h : PIZ X tg e t) (h' : PIZ X tg e t') : PIZ X tg e (fun σ H R => t σ H R ∨ t' σ H R) := ⟨fun p s σ H Q I q => q.elim (h.run p s σ H Q I) (h'.run p s σ H Q I)⟩
variable {X : Cx} {tg : Expr}
def tForZ (a : Addr) (wi : L2.TI) (g : TG) (tb : TS) : TS := fun D σ H => wi σ H fun J H1 => ∃ W : Nat → Nat → L2.St → Hp → Prop, (∃ m, W 0 m σ H1) ∧ ∀ i m σ H, W i m σ H → (∃ C d, H a = some (exq a C d)) ∧
  ((J.stop i H ∧ D.nx σ H) ∨ (J.go i H ∧ ∃ N : L2.St → Hp → Prop, (∀ σ' H', N σ' H' → ∃ m', m' < m ∧ W (i + 1) m' σ' H') ∧ ∀ x H', J.yld i H x H' → g x σ H' fun σ2 H2 => tb { D with nx := N, ct := N, bk := D.nx } σ2 H2))
theorem ps_forZ {iter : Expr} {body : List Stmt} {wi : L2.TI} {g : TG} {tb : TS} {pos : Pos} {a : Addr} (hp : PassesOwn (model X.prog X.w) X.A X.env X.xe) (hh : X.A.handled = some (.ref a)) (hi : PIZ X tg iter wi) (hg : PG X tg g) (hb : PSs X body tb)
    (hs : ∀ x, foldedSetIterable iter X.env x = pure x := by intro _; rfl) : PS X (.For tg iter body [] pos) (tForZ a wi g tb) := by
  refine ⟨fun pins s σ H D I h => ?_⟩
  refine wpAny_For (thn (hi.run pins s σ H _ I h) fun v s1 h1 => thn h1 fun itv s2 h2 => ?_) hs
  obtain ⟨it, fp, tn, J, H2, e, I2, T, st2, f2, W, ⟨m0, w0⟩, turn⟩ := h2
  subst e
  have stat : ∀ {H' : Hp}, (∀ b ∈ fp, H' b = none) → ∀ b ∈ fp, FpOk X pins H' b := fun hn b hb => ⟨hn b hb, (f2 b hb).2⟩
  refine codeAny_forLoop_any (fun n s' => ∃ i σ' H', Inv X pins σ' H' s' ∧ tn i s'.heap ∧ (∀ b ∈ fp, H' b = none) ∧ W i n σ' H') ?_ m0 ⟨0, σ, H2, I2, st2, fun b hb => (f2 b hb).1, w0⟩
  rintro n s3 ⟨i, σ3, H3, I3, st3, fr3, w3⟩
  obtain ⟨hot, tn3⟩ := turn i n σ3 H3 w3
  rcases tn3 with ⟨stop, qn⟩ | ⟨go, N, hN, step⟩
  · refine wpAny_passesOwn hp (thn (T.done X rfl rfl rfl a i pins s3 σ3 H3 X.xe (hot_at I3 hh hot) (let ⟨_, _, e⟩ := hot; ⟨_, e⟩) I3 (stat fr3) st3 stop) fun r s4 ⟨hr, I4⟩ => ?_)
    subst hr
    exact wpAny_execs_nil ⟨σ3, H3, I4, qn⟩
  · refine wpAny_passesOwn hp (thn (T.item X rfl rfl rfl i pins s3 σ3 H3 X.xe I3 (stat fr3) st3 go) fun r s4 ⟨u, hr, h4⟩ => ?_)
    subst hr
    refine wpAny_passesOwn hp (thn h4 fun _ s5 ⟨x, H5, I5, r5, y5, st5, fr5⟩ => ?_)
    have I5' := I5.pinned (stat fr5) (T.obj _ _ st5)
    refine wpAny_passesOwn hp (thn (hg.run _ s5 σ3 H5 x u _ I5' r5 (step x H5 y5)) fun _ s6 ⟨σ6, H6, I6, q6⟩ => ?_)
    refine wpAny_passesOwn hp (thn (hb.run _ s6 σ6 H6 _ I6 q6) fun f s7 q7 => ?_)
    have again : ∀ {σ7 : L2.St} {H7 : Hp}, Inv X (pins ++ pinsAt fp s5.heap) σ7 H7 s7 → N σ7 H7 → ∃ m, m < n ∧ ∃ i σ' H', Inv X pins σ' H' s7 ∧ tn i s7.heap ∧ (∀ b ∈ fp, H' b = none) ∧ W i m σ' H' := fun {σ7 H7} I7 n7 => by
      obtain ⟨m', hm, w7⟩ := hN σ7 H7 n7
      refine ⟨m', hm, i + 1, σ7, H7, I7.unpinned, T.keep _ _ _ st5 fun b hb o e => (I7.pin (b, o) (List.mem_append_right _ (List.mem_append_right _ (mem_pinsAt hb e)))).1, fun b hb => ?_, w7⟩
      obtain ⟨o, e, d⟩ := T.obj _ _ st5 b hb
      exact (I7.pin (b, o) (List.mem_append_right _ (List.mem_append_right _ (mem_pinsAt hb e)))).2.1
    cases f with
    | next => obtain ⟨σ7, H7, I7, n7⟩ := q7; exact again I7 n7
    | cont => obtain ⟨σ7, H7, I7, n7⟩ := q7; exact again I7 n7
    | brk => obtain ⟨σ7, H7, I7, q7⟩ := q7; exact ⟨σ7, H7, I7.unpinned, q7⟩
    | ret v => obtain ⟨x7, σ7, H7, I7, r7, q7⟩ := q7; exact ⟨x7, σ7, H7, I7.unpinned, r7, q7⟩
end
/-! ### in the embedding -/
section
variable {X : Cx} {F : Fx} {pos : Pos} {a : Addr}
theorem PIZ.TW {tg e : Expr} {t t' : L2.TI} (h : PIZ X tg e t) (w : ∀ σ H Q, t' σ H Q → t σ H Q) : PIZ X tg e t' := h.imp w
theorem s_forZ {tg iter : Expr} {body : List Stmt} {w : IW} {g : IG} {b : IS} (hp : PassesOwn (model X.prog X.w) X.A X.env X.xe) (hh : X.A.handled = some (.ref a)) (hF : F.g.hd = some a) (hi : PIZ X tg iter (TW F w)) (hg : PG X tg (TG_ F g)) (hb : PSs X body (TS_ F b))
    (hs : ∀ x, foldedSetIterable iter X.env x = pure x := by intro _; rfl) : PS X (.For tg iter body [] pos) (TS_ F (sFor w g b)) := by
  refine PS.imp (ps_forZ (a := a) hp hh hi hg hb hs) fun N σ H h => ?_
  refine (TX.bindS (k := fun a env s => forL a.1 g b a.2 0 env s) h).mono fun J H1 ⟨W0, s, env, x0, A, r, p⟩ => ?_
  obtain ⟨nx, m⟩ := x0
  refine ⟨fun i m σ H => ∃ ρ' st env, At F (W0.to ρ' H) st env σ H ∧ Ext W0 ρ' H ∧ PostS (W0.to ρ' H) (forL nx g b m i env st) N F.E, ⟨m, W0.ρ, s, env, ?_⟩, fun i m σ H ⟨ρ', st, env, A, x, p⟩ => ?_⟩
  · have eH := A.h
    subst eH
    exact ⟨A, Ext.refl, p⟩
  · have S := A.sim
    have p' : PostS (W0.to ρ' H) (forL nx g b m i env st) N F.E := p
    refine ⟨?_, ?_⟩
    · obtain ⟨C, d, e, _⟩ := S.hot a (by have := A.g; rw [this]; exact hF)
      exact ⟨C, d, e⟩
    cases m with
    | zero =>
      unfold forL at p'
      split at p'
      · rename_i e
        exact .inl ⟨r.stop (W0.to ρ' H) st i (.of x) S e, PostS.nx p' S A.env⟩
      · exact p'.elim
    | succ m =>
    unfold forL at p'
    split at p'
    · rename_i e
      exact .inl ⟨r.stop (W0.to ρ' H) st i (.of x) S e, PostS.nx p' S A.env⟩
    · rename_i d e
      obtain ⟨h1, h2⟩ := r.go (W0.to ρ' H) st i d (.of x) S e
      refine .inr ⟨h1, fun σ' H' => ∃ ρ' st env, At F (W0.to ρ' H') st env σ' H' ∧ Ext W0 ρ' H' ∧ PostS (W0.to ρ' H') (forL nx g b m (i + 1) env st) N F.E, fun σ' H' h => ⟨m, Nat.lt_succ_self m, h⟩, fun v H2 hy => ?_⟩
      obtain ⟨x2, S2, rv⟩ := h2 v H2 hy
      refine ⟨W0.to ρ' H2, st, env, d, ⟨A.k, A.g, rfl, S2, A.env.mono x2⟩, rv, ?_⟩
      have p2 := PostS.ext x2 p'
      have xx : Ext W0 ρ' H2 := x.trans x2
      cases q : g d env st with
      | bad => rw [q] at p2; exact p2
      | exc C fs s2 =>
        rw [q] at p2
        exact fun ρ3 H3 d x S z => p2 ρ3 H3 σ d x S ((A.env.mono x2).mono x) z
      | ok e2 s2 =>
        rw [q] at p2
        intro ρ3 H3 σ3 x3 S3 z3
        refine ⟨W0.to ρ3 H3, s2, e2, ⟨A.k, A.g, rfl, S3, z3⟩, ?_⟩
        have p3 : PostS (W0.to ρ3 H3) (kWhile b (forL nx g b m (i + 1)) (b e2 s2)) N F.E := PostS.ext (W := W0.to ρ' H2) x3 p2
        have x4 : Ext W0 ρ3 H3 := xx.trans x3
        cases q : b e2 s2 with
        | nx e3 s3 => rw [q] at p3; exact fun ρ5 H5 σ5 x5 S5 z => ⟨ρ5, s3, e3, ⟨A.k, A.g, rfl, S5, z⟩, x4.trans x5, PostS.ext (W := W0.to ρ3 H3) x5 p3⟩
        | ct e3 s3 => rw [q] at p3; exact fun ρ5 H5 σ5 x5 S5 z => ⟨ρ5, s3, e3, ⟨A.k, A.g, rfl, S5, z⟩, x4.trans x5, PostS.ext (W := W0.to ρ3 H3) x5 p3⟩
        | bk e3 s3 => rw [q] at p3; exact p3
        | ret d s3 => rw [q] at p3; exact p3
        | exc C fs e3 s3 => rw [q] at p3; exact p3
        | bad => rw [q] at p3; exact p3
    · exact p'.elim
end
end M
/-! M101: defs called where an exception is handled; a try whose suite knows what it handles. -/
namespace M
open PySem PySem.Spec PyProof.Rows L2
section
variable {go : Bool} {P : Program} {w : World} {K : PySem.W.Frag} {mg : Str → Option Value} {base : Heap} {g : GG}
/-- a def's promise where the exception at a is handled -/
structure FnZ (go : Bool) (P : Program) (w : World) (K : PySem.W.Frag) (mg : Str → Option Value) (base : Heap) (k : Nat) (f : Addr) (fd : FuncData) (ps : List Str) (sp : Addr → Sp) : Prop where
  len : ∀ a vs H Q E, sp a vs H Q E → vs.length = ps.length
  run : ∀ (a : Addr) (A : Around) (outer : List PySem.Env) (s : Shared) (H : Hp) (args : Args) (us : List Value) (vs : List V) (Q : VK) (E : XK), L2H.RoomH k A → (go = true ∨ A.guards = some []) → A.handled = some (.ref a) → Env0 P w K mg base A outer s H → BindsTo s fd args (ps.zip us) → Vals vs us → sp a vs H Q E →
    codeAny (model P w) A (.call (.ref f) args) (CR (L2N.CX P w) outer P w H s Q E) s
theorem FnZ.mono {j k : Nat} {f : Addr} {fd : FuncData} {ps : List Str} {sp : Addr → Sp} (G : FnZ go P w K mg base j f fd ps sp) (h : j ≤ k) : FnZ go P w K mg base k f fd ps sp := ⟨G.len, fun a A o s H x us vs Q E hr => G.run a A o s H x us vs Q E (hr.mono h)⟩
theorem FnZ.imp {k : Nat} {f : Addr} {fd : FuncData} {ps : List Str} {sp sp' : Addr → Sp} (G : FnZ go P w K mg base k f fd ps sp) (h : ∀ a vs H Q E, sp' a vs H Q E → sp a vs H Q E) : FnZ go P w K mg base k f fd ps sp' :=
  ⟨fun a vs H Q E q => G.len a vs H Q E (h _ _ _ _ _ q), fun a A o s H x us vs Q E hr hg hh e b v q => G.run a A o s H x us vs Q E hr hg hh e b v (h _ _ _ _ _ q)⟩
abbrev SPz (K : PySem.W.Frag) (g : GG) (f : Fn) : Addr → Sp := fun a => SPx K (g.at (some a)) f
/-- THE RULE for such a def: its body's walk -/
theorem fnz_ok {x qual : Str} {params : Arguments} {body : List Stmt} {scope : Scope} {dvs : List V} {kws : List (Str × V)} {f : Addr} {fd : FuncData} {N ps : List Str} {k : Nat} {b : IS} (Fd : FunD K x qual params body scope dvs kws f fd) (S : FnScope N ps scope)
    (hb : ∀ (a : Addr) (cdv : Value) (A : Around) (outer : List PySem.Env) (s : Shared) (H : Hp) (E : XK), L2H.RoomH k (A.deeper (envOfC qual scope s.heap.objs.size f cdv)) → (go = true ∨ A.guards = some []) → A.handled = some (.ref a) → PSs (cxW (L2N.CX P w) P w K mg base N qual scope f cdv A outer s H E) body (TS_ (Fx.of K (g.at (some a)) E) b)) :
    FnZ go P w K mg base (k + 1) f fd ps (SPz K g (runB b N.length ps.length)) := by
  have len : ∀ a vs H Q E, SPz K g (runB b N.length ps.length) a vs H Q E → vs.length = ps.length := fun a vs H Q E ⟨W, st, ds, _, _, _, _, r, p⟩ => by
    unfold runB at p
    split at p
    · rename_i c
      rw [← r.length, c]
    · exact p.elim
  refine ⟨len, fun a A outer s H args us vs Q E hr hgd hh e0 hbi rv hsp => ?_⟩
  obtain ⟨oc, od, dV, kV, doc, pm, an, cdv, ct, osl, rfl, lk, hcd, _, _⟩ := Fd.ex
  have hl := len _ _ _ _ _ hsp
  have kin : K.In s.heap := e0.mod.kin.keeps fun b o e => (e0.bs b o e).1
  have kinds : ∀ y ∈ ps.zip us, scope.names.lookup y.1 = some .local ∨ (scope.names.lookup y.1 = some .cell ∧ ((cellsFrom (s.heap.objs.size + 1) scope.names []).lookup y.1).isSome = true) := fun ⟨n, v⟩ hy =>
    (S.par n (List.of_mem_zip hy).1).elim .inl fun q => .inr ⟨q, PySem.W.cellsFrom_some _ _ _ (.inl q)⟩
  refine codeAny_call_function hr.depth (kin _ _ lk) rfl S.co S.gen rfl (PySem.W.codeRec_of kin hcd) (hbi _ _ _ _ (wpAny_newFunctionEnv_cells S.kind kinds fun env he s1 x => ?_))
  subst he
  refine ⟨(e0.mod.nolimit.keeps fun b o e => (e0.bs b o e).1).keeps x.toInCall.keep, codeAny_func ?_⟩
  have wk : TS_ (Fx.of K (g.at (some a)) E) b { nx := fun _ H' => Q .non H', rt := Q } (L2.start N vs) H := by
    obtain ⟨W, st, ds, hk, hg, hh, S, r, p⟩ := hsp
    unfold runB at p
    split at p
    · rename_i c
      refine ⟨W, st, _, ⟨hk, hg, hh, S, env_start r c⟩, ?_⟩
      cases q : b (ds.map some ++ List.replicate (N.length - ps.length) none) st with
      | nx e s => rw [q] at p; exact fun ρ' H' σ' x S z => p ρ' H' .non x S .non
      | ret d s => rw [q] at p; exact p
      | bk e s => rw [q] at p; exact p.elim
      | ct e s => rw [q] at p; exact p.elim
      | exc C fs e s => rw [q] at p; exact fun ρ' H' σ' d x S z => p ρ' H' d x S
      | bad => rw [q] at p; exact p.elim
    · exact p.elim
  have I0 : Inv (cxW (L2N.CX P w) P w K mg base N qual scope f cdv A outer s H E) [] (L2.start N vs) H s1 := inv_startW S e0 hl rv x
  refine wpAny_mono ((hb a cdv A outer s H E (hr.deeper _) hgd hh).run [] s1 _ H _ I0 wk) (fun fl s' hs => ?_) fun e s' hs => hs
  have fin : ∀ {σ' : L2.St} {H' : Hp} {v : V} {u : Value}, Inv (cxW (L2N.CX P w) P w K mg base N qual scope f cdv A outer s H E) [] σ' H' s' → RelV v u → Q v H' → CE outer P w H s Q u s' :=
    fun J r q => ⟨_, _, J.os, J.bare, J.base, J.hok, r, q⟩
  cases fl with
  | ret u => obtain ⟨v, σ', H', J, r, q⟩ := hs; exact fin J r q
  | next => obtain ⟨σ', H', J, q⟩ := hs; exact fin (v := V.non) (u := Value.none) J rfl q
  | brk => obtain ⟨_, _, _, q⟩ := hs; exact q.elim
  | cont => obtain ⟨_, _, _, q⟩ := hs; exact q.elim
end
/-! ### what a def does with a view of its own (pureA, pureT), said of its promise alone -/
section
variable {K : PySem.W.Frag} {g : GG} {f : Fn}
variable {go : Bool} {P : Program} {w : World} {mg : Str → Option Value} {base : Heap} {k : Nat} {fa : Addr} {fd : FuncData} {ps : List Str}
end
/-! ### calls of such defs -/
theorem takesF {X : Cx} : L2N.Takes X (fun _ _ _ _ => False) := fun u s' ⟨_, _, _, _, _, _, _, _, _, _, _, _, _, _, _, _, w⟩ => w.elim
section
variable {go : Bool} {X : Cx} {F : Fx} {k : Nat} {f : Addr} {fd : FuncData} {ps : List Str} {ds : List Value} {dvs : List V} {x : Str} {p pos : Pos} {e : Expr} {es : List Expr} {fs : Fn} {j : IA} {dd : List D} {a : Addr} {sp : Addr → Sp}
theorem run_gz {pins : List (Addr × Obj)} {σ : L2.St} {H : Hp} {s : Shared} {Q : VK} {us : List Value} {vs : List V} {A' : Around} (G : FnZ go X.prog X.w X.K X.mg X.base k f fd ps sp) (hr : L2H.RoomH k X.A) (hgd : go = true ∨ X.A.guards = some []) (hh : X.A.handled = some (.ref a)) (hb : Binds X.K fd ps ds) (hd : Vals dvs ds) (tk : L2N.Takes X F.E)
    (I : Inv X pins σ H s) (r : Vals vs us) (h : sp a (vs ++ dvs) H Q (F.at_ σ)) : wpAny (model X.prog X.w) X.A (call (.ref f) us) (EP X pins σ Q) X.xe s := by
  have r2 : Vals (vs ++ dvs) (us ++ ds) := r.append hd
  refine wpAny_call (codeAny_mono (G.run a X.A X.stack s H ⟨us, []⟩ (us ++ ds) (vs ++ dvs) Q (F.at_ σ) hr hgd hh I.env0 (hb s us I.kIn (r2.length.symm.trans (G.len _ _ _ _ _ h))) r2 h) fun r s' hq => ?_)
  cases r with
  | error e => exact tk e s' (L2N.XE.of_call I (fun _ _ _ h => h) hq)
  | ok fl =>
    cases fl with
    | ret u => exact I.after hq
    | next => exact hq.elim
    | brk => exact hq.elim
    | cont => exact hq.elim
theorem e_callZ (G : FnZ go X.prog X.w X.K X.mg X.base k f fd ps sp) (hsp : sp a = SPx F.K F.g fs) (hr : L2H.RoomH k X.A) (hgd : go = true ∨ X.A.guards = some []) (hh : X.A.handled = some (.ref a)) (hg : Gl X x) (hm : X.mg x = some (.ref f)) (hk : PySem.W.keepIn X.K (.ref f) = true) (hb : Binds X.K fd ps ds) (hd : Vals dvs ds) (hdd : ∀ W : Vw, W.K = F.K → W.g = F.g → RVs W dd dvs) (tk : L2N.Takes X F.E)
    (ha : PA X (e :: es) (TA_ F j)) (hdb : (x == ("__debug__" : Str)) = false := by decide) (he : starEach (e :: es) X.env = (false, eval e X.env) :: starEach es X.env := by rfl) (hpl : (backTo pos (starEach es X.env)).any (·.1) = false := by rfl) :
    PE X (.Call (.Name x p) (e :: es) [] pos) (TI F (iCall fs dd j)) := by
  refine ⟨fun pins s σ H Q I h => ?_⟩
  refine wpAny_Call_Name_kw (ld_glob I hg hm (PySem.W.callWith_K (h₀ := X.base) I.ok.mod.kin hk (thn (ha.run pos pins s σ H _ I (TX.bind (k := fun ds env s => fs (ds ++ dd) s) h)) fun us s1 ⟨vs, H1, I1, r, q⟩ => ⟨I1.kIn, ?_⟩) he hpl) hdb)
  exact run_gz (A' := X.A) G hr hgd hh hb hd tk I1 r (by rw [hsp]; exact sp_of hdd q)
end
/-! ### a try whose suite knows what is handled -/
section
variable {X : Cx} {F : Fx} {n : Str} {i : Nat} {te : Expr} {tf : Value → Option Bool} {tfD : Str → Option Bool} {body suite : List Stmt} {b₀ : Stmt} {pos pos' : Pos} {b su : IS}
end
end M
/-! M102: walks of texts where an exception is handled; wAny there; repr of instances there. -/
namespace M
open PySem PySem.Spec PyProof.Rows L2
section
open PySem.HandSPX
variable {prog : Program} {w : World} {A : Around} {E : Value → Shared → Prop} {s : Shared}
end
section
variable {X : Cx} {F : Fx} {W : Vw} {st : Sto} {pos : Pos}
end
end M
/-! M103: repr of what may be an instance of one of several classes, where an exception is handled, too. -/
namespace M
open PySem PySem.Spec PyProof.Rows L2
def opReprM (cs : List (Str × Fn)) : OpN := fun ds st => match ds with
  | [d] => match insD st d with
    | some (C, _) => match cs.lookup C with
      | some fn => strR (optR (fn [d] st))
      | none => none
    | none => match d with
      | .tup [.ref q] => match insD st (.ref q) with
        | some (C, _) => match cs.lookup C with
          | some fn => opReprO C fn [.tup [.ref q]] st
          | none => none
        | none => opReprE [.tup [.ref q]] st
      | .lst [.ref q] => match insD st (.ref q) with
        | some (C, _) => match cs.lookup C with
          | some fn => opReprO C fn [.lst [.ref q]] st
          | none => none
        | none => opReprE [.lst [.ref q]] st
      | d => opReprE [d] st
  | _ => none
/-- how the own __repr__ of C answers -/
def OwnR (X : Cx) (F : Fx) (C : Str) (fn : Fn) : Prop := ∃ fS : Addr, PySem.W.findIn F.K (.ref (F.g C)) "__repr__" = some (some (.ref fS)) ∧ PySem.W.isFn F.K (.ref fS) = true ∧
  ∀ (A' : Around), A'.handled = X.A.handled → A'.frames = X.A.frames → A'.depth ≤ X.A.depth + 4 → A'.units ≤ X.A.units + 9 → ∀ (pins : List (Addr × Obj)) (σ : L2.St) (s : Shared) (H : Hp) (b : Addr) (Q : VK), Inv X pins σ H s → SPx F.K F.g fn [V.ref b] H Q (fun _ _ _ => False) →
    wpAny (model X.prog X.w) A' (call (.ref fS) [.ref b]) (EP X pins σ Q) X.xe s
section
variable {X : Cx} {F : Fx}
theorem cr_reprM {cs : List (Str × Fn)} (hk : X.K = F.K) (hgd : X.A.guards = some []) (hu : X.A.units + (64 + 1) < cLine) (T : ∀ C fn, cs.lookup C = some fn → OwnR X F C fn) : CallR X (.builtin "repr") (rN F (opReprM cs)) := fun pins s σ H xs us Q I r ⟨W, st, ds, J, rd, p⟩ => by
  unfold opReprM at p
  split at p
  · rename_i d
    split at p
    · rename_i C fs hd
      have rd0 := rd
      obtain ⟨v, rfl, rv⟩ := rv1 rd
      obtain ⟨u, rfl, ru⟩ := vals1 r
      split at p
      · rename_i fn hl
        obtain ⟨fS, hs, hf, ans⟩ := T C fn hl
        obtain ⟨q, dx, gs, rfl, ea, _⟩ := insD_at J.sim hd rv
        cases ru
        rw [J.g, J.h] at ea
        obtain ⟨mA, O, _⟩ := ins_get I.hok ea
        obtain ⟨od, JI, _⟩ := O.look
        rw [← hk] at hs hf
        obtain ⟨m, hF⟩ := I.fr
        have p2 : PostE W (fn [d] st) (fun z H' => (∃ y, z = .str y) ∧ Q z H') (fun _ _ _ => False) := by
          cases q2 : fn [d] st with
          | ok d2 s2 =>
            rw [q2] at p
            cases d2 with
            | str y =>
              intro ρ' H' b x S r
              cases r
              exact ⟨⟨_, rfl⟩, p ρ' H' _ x S (.str _)⟩
            | _ => exact p.elim
          | exc D fs s2 => rw [q2] at p; exact p.elim
          | bad => rw [q2] at p; exact p.elim
        have sp : SPx F.K F.g fn [V.ref q] H (fun z H' => (∃ y, z = .str y) ∧ Q z H') (fun _ _ _ => False) := ⟨W, st, [d], J.k, J.g, J.h, J.sim, .cons rv .nil, p2⟩
        refine PySem.W.repr_K (by show X.A.units + 1 < cLine; omega) hF I.ok.mod.kin JI hs hf (wpAny_mono (ans X.A.in1 rfl rfl (by show X.A.depth ≤ _; omega) (by show X.A.units + 1 ≤ _; omega) pins σ s H q _ I sp) (fun v s2 h => ?_) fun _ _ y => y)
        obtain ⟨x, H', I', rx, ⟨y, rfl⟩, qx⟩ := h
        obtain ⟨t, rfl⟩ := rx
        exact ⟨.str y, H', I', ⟨t, rfl⟩, qx⟩
      · exact p.elim
    · split at p
      · rename_i q
        split at p
        · rename_i C fs hd
          split at p
          · rename_i fn hl
            obtain ⟨fS, hs, hf, ans⟩ := T C fn hl
            exact cr_reprO hk hgd hu hs hf ans pins s σ H xs us Q I r ⟨W, st, _, J, rd, p⟩
          · exact p.elim
        · exact cr_reprE hk hgd hu pins s σ H xs us Q I r ⟨W, st, _, J, rd, p⟩
      · rename_i q
        split at p
        · rename_i C fs hd
          split at p
          · rename_i fn hl
            obtain ⟨fS, hs, hf, ans⟩ := T C fn hl
            exact cr_reprO hk hgd hu hs hf ans pins s σ H xs us Q I r ⟨W, st, _, J, rd, p⟩
          · exact p.elim
        · exact cr_reprE hk hgd hu pins s σ H xs us Q I r ⟨W, st, _, J, rd, p⟩
      · exact cr_reprE hk hgd hu pins s σ H xs us Q I r ⟨W, st, _, J, rd, p⟩
  · exact p.elim
variable {C : Str} {fn : Fn} {fS : Addr} {fd : FuncData} {k : Nat} {a : Addr}
/-- where an exception is handled -/
theorem ownR_Z (hs : PySem.W.findIn F.K (.ref (F.g C)) "__repr__" = some (some (.ref fS))) (hf : PySem.W.isFn F.K (.ref fS) = true) {sp : Addr → Sp} (G : FnZ true X.prog X.w X.K X.mg X.base k fS fd ["self"] sp) (hsp : sp a = SPx F.K F.g fn) (hh : X.A.handled = some (.ref a)) (hr : L2H.RoomH (k + 4) X.A) (hb : Binds X.K fd ["self"] []) : OwnR X F C fn :=
  ⟨fS, hs, hf, fun A' h1 h2 h3 h4 pins σ s H b Q I h => by
    have e0 : Env0 X.prog X.w X.K X.mg X.base A' X.stack s H := { I.env0 with frames := h2.trans I.env0.frames }
    have hsp' : sp a [V.ref b] H Q (fun _ _ _ => False) := by rw [hsp]; exact h
    refine wpAny_call (codeAny_mono (G.run a A' X.stack s H ⟨[.ref b], []⟩ [.ref b] [V.ref b] Q (fun _ _ _ => False) ⟨by have := hr.dp; omega, by have := hr.un; omega⟩ (.inl rfl) (h1.trans hh) e0 (by simpa using hb s [.ref b] I.kIn rfl) (.cons rfl .nil) hsp') fun r s' hq => ?_)
    cases r with
    | error er =>
      obtain ⟨_, _, _, _, _, _, _, _, _, _, _, _, z⟩ := hq
      exact z.elim
    | ok fl =>
      cases fl with
      | ret u => exact I.after hq
      | next => exact False.elim hq
      | brk => exact False.elim hq
      | cont => exact False.elim hq⟩
/-- where none is -/
theorem ownR_O (hs : PySem.W.findIn F.K (.ref (F.g C)) "__repr__" = some (some (.ref fS))) (hf : PySem.W.isFn F.K (.ref fS) = true) (G : FnO X.prog X.w X.K X.mg X.base k fS fd ["self"] (SPx F.K F.g fn)) (hr : Room (k + 4) X.A) (hb : Binds X.K fd ["self"] []) : OwnR X F C fn :=
  ⟨fS, hs, hf, fun A' h1 h2 h3 h4 pins σ s H b Q I h => by
    have e0 : Env0 X.prog X.w X.K X.mg X.base A' X.stack s H := { I.env0 with frames := h2.trans I.env0.frames }
    refine wpAny_call (codeAny_mono (G.run A' X.stack s H ⟨[.ref b], []⟩ [.ref b] [V.ref b] Q (fun _ _ _ => False) ⟨h1.trans hr.hd, by have := hr.dp; omega, by have := hr.un; omega⟩ e0 (by simpa using hb s [.ref b] I.kIn rfl) (.cons rfl .nil) h) fun r s' hq => ?_)
    cases r with
    | error er =>
      obtain ⟨_, _, _, _, _, _, _, _, _, _, _, _, z⟩ := hq
      exact z.elim
    | ok fl =>
      cases fl with
      | ret u => exact I.after hq
      | next => exact False.elim hq
      | brk => exact False.elim hq
      | cont => exact False.elim hq⟩
end
end M
/-! M104: islower, upper; replace of written texts behind a test that names a written text. -/
namespace M
open PySem PySem.Spec PyProof.Rows L2
section
variable {X : Cx} {F : Fx} {o : Expr} {i : IE} {apos pos : Pos}
theorem rm_1 {A : Str} {f : Fn} (h1 : OwnR X F A f) : ∀ C fn, ([(A, f)] : List (Str × Fn)).lookup C = some fn → OwnR X F C fn := fun C fn h => by
  simp only [List.lookup] at h
  split at h
  · rename_i e
    cases h
    rw [show C = A from by simpa using e]
    exact h1
  · cases h
end
end M
/-! M105: a generator def's promise, with exceptions whose context is None. -/
namespace LGN
open PySem PySem.Spec PyProof.Rows GenW L2 LG
section
variable {P : Program} {w : World} {K : PySem.W.Frag} {mg : Str → Option Value} {base : Heap} {N : List Str} {qual : Str} {scope : Scope} {f : Addr} {cd : Value} {A : Around} {outer : List PySem.Env} {s : Shared} {H : Hp} {E : XK} {own : List (Addr × Obj)}
end
/-- what stands at Ls is as it was when the generator was woken -/
def Kept (Ls : List Addr) (s₀ s : Shared) : Prop := ∀ b ∈ Ls, ∀ o, s₀.heap.get? b = some o → s.heap.get? b = some o
def REnd (P : Program) (w : World) (outer : List Env) (H : Hp) (s : Shared) (ex : List Addr) (S : Addr) (Ls : List Addr) (a : Addr) (g : Nat) (Q : List V → Hp → Prop) (E : XK) : GenEnd := fun n s₀ r s1 =>
  ((r = .ok (.ret .none) ∨ r = .ok .next) ∧ Kept Ls s₀ s1 ∧ ∃ H' ys acc c, s1.os = s.os ∧ AllBare s1.gens ∧ Un (frs outer) ex H H' s.heap s1.heap ∧ HOk P w H' s1.heap ∧ H' S = none ∧ (∀ b ∈ Ls, H' b = none) ∧ s1.heap.get? S = some (lstObj acc c) ∧ Vals ys acc.toList ∧ ys.length ≤ sizeLine ∧ Q ys H') ∨
  ∃ e, r = .error e ∧ L2N.CX P w outer H s E e s1 ∧ s1.heap.IsGen a g
def YItem (s : Shared) (S : Addr) (Ls : List Addr) (a : Addr) (g : Nat) : Protocol := fun n s₀ v s1 kap =>
  s1.os = s.os ∧ AllBare s1.gens ∧ s1.heap.NoLimit ∧ s1.heap.IsGen a g ∧ Kept Ls s₀ s1 ∧ (∃ (acc : Array Value) (c : Nat), s1.heap.get? S = some (lstObj acc c) ∧ n + 1 + acc.size = sizeLine) ∧ ∀ s', Slept S Ls v s1 s' → kap (.send .none) s'
def Wakes (P : Program) (w : World) (k : Nat) (outer : List Env) (H : Hp) (s : Shared) (ex : List Addr) (Q : List V → Hp → Prop) (E : XK) (a : Addr) (g : Nat) (c : Code) (s' : Shared) : Prop :=
  ∀ (A : Around) (S : Addr) (Ls : List Addr) (s2 : Shared), Room k A → A.frames = some outer → s'.heap.objs.size ≤ S → (∀ b ∈ Ls, s'.heap.objs.size ≤ b) → (∀ b o, s'.heap.get? b = some o → s2.heap.get? b = some o) → (∃ c, s2.heap.get? S = some (lstObj #[] c)) →
    (∀ b ∈ Ls, ∃ o, s2.heap.get? b = some o ∧ ∀ u, o.data ≠ .cell u) → s2.os = s.os → AllBare s2.gens → Seg (model P w) A (REnd P w outer H s ex S Ls a g Q E) (YItem s S Ls a g) sizeLine s2 c ((model P w).den c) [] s2
def GMade (P : Program) (w : World) (k : Nat) (outer : List Env) (H : Hp) (s : Shared) (ex : List Addr) (Q : List V → Hp → Prop) (E : XK) (u : Value) (s' : Shared) : Prop :=
  ∃ (a : Addr) (g : Nat) (c : Code), u = .ref a ∧ s.heap.objs.size ≤ a ∧ a < s'.heap.objs.size ∧ s'.heap.IsGen a g ∧ s'.gens[g]? = some (.fresh c) ∧ s'.os = s.os ∧ AllBare s'.gens ∧ s'.heap.NoLimit ∧ (∀ b o, s.heap.get? b = some o → s'.heap.get? b = some o) ∧ Wakes P w k outer H s ex Q E a g c s'
structure GFn (P : Program) (w : World) (K : PySem.W.Frag) (mg : Str → Option Value) (base : Heap) (k : Nat) (f : Addr) (fd : FuncData) (ps : List Str) (sp : SpG) : Prop where
  len : ∀ vs H Q E, sp vs H Q E → vs.length = ps.length
  run : ∀ (A : Around) (outer : List Env) (s : Shared) (H : Hp) (args : Args) (us : List Value) (vs : List V) (Q : List V → Hp → Prop) (E : XK), Room k A → Env0 P w K mg base A outer s H → BindsTo s fd args (ps.zip us) → Vals vs us → sp vs H Q E →
    codeAny (model P w) A (.call (.ref f) args) (fun r s' => match r with | .ok (.ret u) => GMade P w k outer H s [] Q E u s' | _ => False) s
end LGN
/-! M106: list(g) of a generator that lets out what has no context. -/
namespace LGN
open PySem PySem.Spec PyProof.Rows GenW L2 LG
section
variable {P : Program} {w : World} {outer : List PySem.Env} {H : Hp} {s0 : Shared} {ex : List Addr} {Q : List V → Hp → Prop} {EX : XK} {A : Around} {S a : Addr} {g : Nat}
/-- what stands when the generator is through -/
def Thru (P : Program) (w : World) (outer : List PySem.Env) (H : Hp) (s0 : Shared) (ex : List Addr) (S : Addr) (Q : List V → Hp → Prop) (s1 : Shared) : Prop :=
  ∃ H2 ys acc c, s1.os = s0.os ∧ AllBare s1.gens ∧ Un (frs outer) ex H H2 s0.heap s1.heap ∧ HOk P w H2 s1.heap ∧ H2 S = none ∧ s1.heap.get? S = some (lstObj acc c) ∧ Vals ys acc.toList ∧ ys.length ≤ sizeLine ∧ Q ys H2
/-- how it ends, as the filling of a list wants it -/
def Ends (P : Program) (w : World) (outer : List PySem.Env) (H : Hp) (s0 : Shared) (ex : List Addr) (S a : Addr) (g : Nat) (Q : List V → Hp → Prop) (EX : XK) : GenEnd := fun n s₀ r s1 =>
  ((r = .ok (.ret .none) ∨ r = .ok .next) ∧ Thru P w outer H s0 ex S Q s1) ∨ ∃ u, r = .error u ∧ (L2N.CX P w outer H s0 EX u s1 ∧ s1.heap.IsGen a g)
end
end LGN
/-! M107: list(g(..)), generator defs in the embedding. -/
namespace LGN
open PySem PySem.Spec PyProof.Rows GenW L2 LG
end LGN
namespace M
open PySem PySem.Spec PyProof.Rows L2
section
variable {X : Cx} {F : Fx} {k : Nat} {f : Addr} {fd : FuncData} {ps : List Str} {x : Str} {p p2 pos pos2 : Pos} {e : Expr} {es : List Expr} {fl : FnGn} {cs : List Str} {j : IA}
end
section
variable {P : Program} {w : World} {K : PySem.W.Frag} {mg : Str → Option Value} {base : Heap} {g : GG}
end
end M
/-! M108: *d in a display, d a dict whose keys are tuples. -/
namespace M
open PySem PySem.Spec PyProof.Rows L2
open PySem.W (EachIs AllAlike KeyedOut KeepsBut)
section
variable {X : Cx} {e : Expr} {es : List Expr} {te : TE} {t : TA} {sp : Pos}
variable {F : Fx} {i : IE} {j : IA}
end
end M
/-! M109: what is not reached; operators of own classes, from the left and reflected. -/
namespace PySem.W
open Lean Elab Tactic Meta PySem PySem.Calls PyProof.Rows
section
variable {prog : Program} {w : World} {A : Around} {E : Value → Shared → Prop} {s : Shared} {K : Frag} {x C f : Addr} {ox : Obj} {od : Option Obj} {T : String}
theorem fills_ty {M : Model} {h : Heap} {nm : String} {fo ro : Option Value} (h1 : typeLookup (.type T) (PySem.dunder nm) = pure fo) (h2 : typeLookup (.type T) (dunderR nm) = pure ro) :
    Looks M h (fillsNumberSlot (.type T) nm) ((fo.isSome && !isSeqSlot fo) || (ro.isSome && !isSeqSlot ro)) := by
  intro A Q E s k q
  obtain ⟨hh, g, d, tt, os⟩ := s
  have L1 : Looks M hh (typeLookup (.type T) (PySem.dunder nm)) fo := Looks.of_pure h1
  have L2 : Looks M hh (typeLookup (.type T) (dunderR nm)) ro := Looks.of_pure h2
  unfold fillsNumberSlot
  repeat lk
  exact q
/-- the own operator, the right side of a built-in type -/
theorem own_binT {op : Operator} {b : Value} {fo ro rc : Option Value} {Q : Value → Shared → Prop} (X : K.In s.heap) (I : InstAt s.heap x ox C od) (L2 : Looks (model prog w) s.heap (typeOf b) (.type T)) (hc : selfFirst K C = true)
    (hs : findIn K (.ref C) (PySem.dunder op.info.2) = some (some (.ref f))) (hf : isFn K (.ref f) = true) (hr : findIn K (.ref C) (dunderR op.info.2) = some rc) (hp : rc = none ∨ ∃ g : Addr, rc = some (.ref g))
    (h1 : typeLookup (.type T) (PySem.dunder op.info.2) = pure fo) (h2 : typeLookup (.type T) (dunderR op.info.2) = pure ro) (hsub : subIn K (.type T) (.ref C) = some false)
    (h : wpAny (model prog w) A (call (.ref f) [.ref x, b]) (CmpBack Q) E s) : wpAny (model prog w) A (binaryOp op (.ref x) b) Q E s := by
  obtain ⟨cd, rest, hcd, hm⟩ := ksp_first hc
  rcases hi : op.info with ⟨sym, nm'⟩
  rw [hi] at hs hr h1 h2
  dsimp only at hs hr h1 h2
  have one := ksp_try X I hs hf h
  obtain ⟨hh, g, d, tt, os⟩ := s
  have L1 : Looks (model prog w) hh (typeOf (.ref x)) (.ref C) := I.type
  have L3 : Looks (model prog w) hh (fillsNumberSlot (.ref C) nm') true := fills_K X hcd hm hs
  have L4 : Looks (model prog w) hh (fillsNumberSlot (.type T) nm') ((fo.isSome && !isSeqSlot fo) || (ro.isSome && !isSeqSlot ro)) := fills_ty h1 h2
  have L5 : Looks (model prog w) hh (isSubtype (.type T) (.ref C)) false := looks_subIn X hsub
  have L6 : Looks (model prog w) hh (numberSlotInPython (.ref C) nm') true := ksp_inPy X hs hr hp
  have L7 : Looks (model prog w) hh (numberSlotInPython (.type T) nm') false := Looks.of_pure rfl
  have L8 : Looks (model prog w) hh (typeLookup (.type T) (dunderR nm')) ro := Looks.of_pure h2
  generalize ((fo.isSome && !isSeqSlot fo) || (ro.isSome && !isSeqSlot ro)) = right at L4
  have hne : (Value.ref C == Value.type T) = false := Bool.eq_false_iff.mpr fun q => by cases beq_iff_eq.mp q
  simp only [binaryOp, hi]
  refine wpAny_holding (wpAny_bind ?_)
  unfold binaryOp1
  refine wpAny_bind (L1.at (wpAny_bind (L2.at (wpAny_bind (L3.at ?_)))))
  simp only [hne, Bool.false_eq_true, if_false]
  cases right with
  | false =>
    ksp_lk
    refine wpAny_mono one (fun r s' hr' => ?_) fun _ _ e => e
    obtain ⟨v, rfl, hq⟩ := hr'
    ksp_lk
    exact hq
  | true =>
    ksp_lk
    refine wpAny_mono one (fun r s' hr' => ?_) fun _ _ e => e
    obtain ⟨v, rfl, hq⟩ := hr'
    ksp_lk
    exact hq
/-- the own operator, both sides of the class -/
theorem own_binS {op : Operator} {b : Value} {Q : Value → Shared → Prop} (X : K.In s.heap) (I : InstAt s.heap x ox C od) (L2 : Looks (model prog w) s.heap (typeOf b) (.ref C)) (hc : selfFirst K C = true)
    (hs : findIn K (.ref C) (PySem.dunder op.info.2) = some (some (.ref f))) (hf : isFn K (.ref f) = true)
    (h : wpAny (model prog w) A (call (.ref f) [.ref x, b]) (CmpBack Q) E s) : wpAny (model prog w) A (binaryOp op (.ref x) b) Q E s := by
  obtain ⟨cd, rest, hcd, hm⟩ := ksp_first hc
  rcases hi : op.info with ⟨sym, nm'⟩
  rw [hi] at hs
  dsimp only at hs
  have one := ksp_try X I hs hf h
  obtain ⟨hh, g, d, tt, os⟩ := s
  have L1 : Looks (model prog w) hh (typeOf (.ref x)) (.ref C) := I.type
  have L3 : Looks (model prog w) hh (fillsNumberSlot (.ref C) nm') true := fills_K X hcd hm hs
  have hne : (Value.ref C == Value.ref C) = true := beq_self_eq_true _
  simp only [binaryOp, hi]
  refine wpAny_holding (wpAny_bind ?_)
  unfold binaryOp1
  refine wpAny_bind (L1.at (wpAny_bind (L2.at (wpAny_bind (L3.at ?_)))))
  simp only [hne, if_true]
  ksp_lk
  refine wpAny_mono one (fun r s' hr' => ?_) fun _ _ e => e
  obtain ⟨v, rfl, hq⟩ := hr'
  ksp_lk
  exact hq
/-- the reflected operator; the left side of a built-in type that has no such operator at all -/
theorem own_binR {op : Operator} {a : Value} {Q : Value → Shared → Prop} (X : K.In s.heap) (I : InstAt s.heap x ox C od) (L1 : Looks (model prog w) s.heap (typeOf a) (.type T)) (hc : selfFirst K C = true)
    (hs : findIn K (.ref C) (PySem.dunder op.info.2) = some (some (.ref g0))) (hr : findIn K (.ref C) (dunderR op.info.2) = some (some (.ref f))) (hf : isFn K (.ref f) = true)
    (h1 : typeLookup (.type T) (PySem.dunder op.info.2) = pure none) (h2 : typeLookup (.type T) (dunderR op.info.2) = pure none)
    (h : wpAny (model prog w) A (call (.ref f) [.ref x, a]) (CmpBack Q) E s) : wpAny (model prog w) A (binaryOp op a (.ref x)) Q E s := by
  obtain ⟨cd, rest, hcd, hm⟩ := ksp_first hc
  rcases hi : op.info with ⟨sym, nm'⟩
  rw [hi] at hs hr h1 h2
  dsimp only at hs hr h1 h2
  have one := ksp_try X I hr hf h
  obtain ⟨hh, g, d, tt, os⟩ := s
  have L2 : Looks (model prog w) hh (typeOf (.ref x)) (.ref C) := I.type
  have L3 : Looks (model prog w) hh (fillsNumberSlot (.ref C) nm') true := fills_K X hcd hm hs
  have L4 : Looks (model prog w) hh (fillsNumberSlot (.type T) nm') false := fills_ty (fo := none) (ro := none) h1 h2
  have hne : (Value.type T == Value.ref C) = false := Bool.eq_false_iff.mpr fun q => by cases beq_iff_eq.mp q
  simp only [binaryOp, hi]
  refine wpAny_holding (wpAny_bind ?_)
  unfold binaryOp1
  refine wpAny_bind (L1.at (wpAny_bind (L2.at (wpAny_bind (L4.at ?_)))))
  simp only [hne, Bool.false_eq_true, if_false]
  ksp_lk
  refine wpAny_mono one (fun r s' hr' => ?_) fun _ _ e => e
  obtain ⟨v, rfl, hq⟩ := hr'
  ksp_lk
  exact hq

open Builtin Builtin.Int in
/-- int's own operator knows nothing of an instance -/
theorem int_no {dx : Addr} {name : String} {g : Int → Int → Sem Fin} {b : Bool} {Q : Fin → Shared → Prop} (I : InstAt s.heap x (instObj C dx) C od) (h : Q (.done (.ret .notImplemented)) s) : wpAny (model prog w) A (intBinary name g false ⟨[.bool b, .ref x], []⟩) Q E s := by
  unfold intBinary
  refine wpAny_bind (m := slotArgs name 1 _) (wpAny_pure ?_)
  refine wpAny_bind (m := intOfSelf _) (wpAny_pure ?_)
  refine wpAny_bind (m := asInt? (.ref x)) ?_
  unfold asInt?
  refine wpAny_bind (wpAny_load I.at_ ?_)
  refine wpAny_pure ?_
  refine wpAny_bind (wpAny_rule ?_)
  exact wpAny_pure h
/-- .. asked from the left -/
theorem try_no {id : String} {name : Str} {B : Builtin} {b : Bool} {Q : Option Value → Shared → Prop} (sl : Slot "bool" name id) (he : entryFor table id = some B) (ha : argsOk id ⟨[.bool b, .ref x], []⟩)
    (hB : ∀ (A : Around) (E : Value → Shared → Prop) (Q : Fin → Shared → Prop), Q (.done (.ret .notImplemented)) s → wpAny (model prog w) A (B ⟨[.bool b, .ref x], []⟩) Q E s) (h : Q none s) : wpAny (model prog w) A (tryMethod (.bool b) name (.ref x)) Q E s := by
  unfold tryMethod
  have L : Looks (model prog w) s.heap (typeOf (.bool b)) (.type "bool") := Looks.of_pure rfl
  refine wpAny_bind (m := callSpecial? (.bool b) name [.ref x]) (wpAny_bind (wpAny_bind (L.here ((Looks.of_pure sl.lookup).here (wpAny_holding (wpAny_bind ((Looks.of_pure (sl.bind _)).here (wpAny_bind ?_))))))))
  refine wpAny_call (codeAny_call_builtin sl.plain he (sl.check _ _ _ _ _ _ _ _ (typeIs_bool _ _) ha (hB _ _ _ ?_)))
  exact wpAny_pure (wpAny_pure h)
/-- the reflected operator behind a truth -/
theorem own_binRB {op : Operator} {b : Bool} {dx : Addr} {id : String} {B : Builtin} {ro : Option Value} {Q : Value → Shared → Prop} (X : K.In s.heap) (I : InstAt s.heap x (instObj C dx) C od) (hc : selfFirst K C = true)
    (hs : findIn K (.ref C) (PySem.dunder op.info.2) = some (some (.ref g0))) (hr : findIn K (.ref C) (dunderR op.info.2) = some (some (.ref f))) (hf : isFn K (.ref f) = true) (hsub : subIn K (.ref C) (.type "bool") = some false)
    (sl : Slot "bool" (PySem.dunder op.info.2) id) (h2 : typeLookup (.type "bool") (dunderR op.info.2) = pure ro) (hq : isSeqSlot (some (.builtin id)) = false) (he : entryFor table id = some B) (ha : argsOk id ⟨[.bool b, .ref x], []⟩)
    (hB : ∀ (A : Around) (E : Value → Shared → Prop) (Q : Fin → Shared → Prop), Q (.done (.ret .notImplemented)) s → wpAny (model prog w) A (B ⟨[.bool b, .ref x], []⟩) Q E s)
    (h : wpAny (model prog w) A (call (.ref f) [.ref x, .bool b]) (CmpBack Q) E s) : wpAny (model prog w) A (binaryOp op (.bool b) (.ref x)) Q E s := by
  obtain ⟨cd, rest, hcd, hm⟩ := ksp_first hc
  rcases hi : op.info with ⟨sym, nm'⟩
  rw [hi] at hs hr sl h2
  dsimp only at hs hr sl h2
  have one := ksp_try X I hr hf h
  have two : ∀ {Q : Option Value → Shared → Prop}, Q none s → wpAny (model prog w) A (tryMethod (.bool b) (PySem.dunder nm') (.ref x)) Q E s := fun h => try_no sl he ha hB h
  obtain ⟨hh, g, d, tt, os⟩ := s
  have L1 : Looks (model prog w) hh (typeOf (.bool b)) (.type "bool") := Looks.of_pure rfl
  have L2 : Looks (model prog w) hh (typeOf (.ref x)) (.ref C) := I.type
  have L3 : Looks (model prog w) hh (fillsNumberSlot (.ref C) nm') true := fills_K X hcd hm hs
  have L4 : Looks (model prog w) hh (fillsNumberSlot (.type "bool") nm') true := by
    have := fills_ty (M := model prog w) (h := hh) sl.lookup h2
    rw [hq] at this
    simpa using this
  have L5 : Looks (model prog w) hh (isSubtype (.ref C) (.type "bool")) false := looks_subIn X hsub
  have L7 : Looks (model prog w) hh (numberSlotInPython (.type "bool") nm') false := Looks.of_pure rfl
  have hne : (Value.type "bool" == Value.ref C) = false := Bool.eq_false_iff.mpr fun q => by cases beq_iff_eq.mp q
  simp only [binaryOp, hi]
  refine wpAny_holding (wpAny_bind ?_)
  unfold binaryOp1
  refine wpAny_bind (L1.at (wpAny_bind (L2.at (wpAny_bind (L4.at ?_)))))
  simp only [hne, Bool.false_eq_true, if_false]
  ksp_lk
  refine two ?_
  ksp_lk
  refine wpAny_mono one (fun r s' hr' => ?_) fun _ _ e => e
  obtain ⟨v, rfl, hq⟩ := hr'
  ksp_lk
  exact hq
end
end PySem.W
namespace M
open PySem PySem.Spec PyProof.Rows L2
/-! ### what is not reached -/
def iBad : IE := fun _ _ => .bad
def sBad : IS := fun _ _ => .bad
theorem e_bad {X : Cx} {F : Fx} {e : Expr} : PE X e (TI F iBad) := ⟨fun _ _ _ _ _ _ ⟨_, _, _, _, p⟩ => p.elim⟩
theorem ss_bad {X : Cx} {F : Fx} {b : List Stmt} : PSs X b (TS_ F sBad) := ⟨fun _ _ _ _ _ _ ⟨_, _, _, _, p⟩ => p.elim⟩
end M
/-! M110: operators of own classes as expressions. -/
namespace M
open PySem PySem.Spec PyProof.Rows L2
/-- what is known of the class with its own operator -/
structure BinC (K : PySem.W.Frag) (g : Str → Addr) (C : Str) (op : Operator) (fA : Addr) (ts : List String) : Prop where
  sf : PySem.W.selfFirst K (g C) = true
  eq : PySem.W.findIn K (.ref (g C)) (dunder op.info.2) = some (some (.ref fA))
  fn : PySem.W.isFn K (.ref fA) = true
  rr : ∃ rc, PySem.W.findIn K (.ref (g C)) (dunderR op.info.2) = some rc ∧ (rc = none ∨ ∃ g, rc = some (.ref g))
  ty : ∀ t ∈ ts, PySem.W.subIn K (.type t) (.ref (g C)) = some false
def lkB (nm : Str) (ts : List String) : Bool := ts.all fun t => match PySem.fastLookup t nm with
  | some _ => true
  | none => false
theorem lkB_ok {nm : Str} {ts : List String} (h : lkB nm ts = true) {t : String} (ht : t ∈ ts) : ∃ r, typeLookup (.type t) nm = pure r := by
  have := List.all_eq_true.mp h t ht
  cases q : PySem.fastLookup t nm with
  | none => rw [q] at this; cases this
  | some r => exact ⟨r, by rw [typeLookup_type, builtinLookup_eq_fast, q]⟩
/-- own operator, left -/
def kBinL (C : Str) (ts : List String) (fn : Fn) (a b : D) (st : Sto) : R D := match insD st a with
  | some (C', _) => if C' = C ∧ okR C ts st b = true then fn [a, b] st else .bad
  | none => .bad
def iBinL (C : Str) (ts : List String) (fn : Fn) (i j : IE) : IE := fun env st => (i env st).bind fun a s1 => (j env s1).bind fun b s2 => kBinL C ts fn a b s2
section
variable {X : Cx} {F : Fx} {W : Vw} {st : Sto} {k : Nat} {C : Str} {fE : Addr} {ts : List String} {fd : FuncData} {ps : List Str} {fn : Fn}
theorem ep_back {pins : List (Addr × Obj)} {σ : L2.St} {Q : VK} {v : Value} {s' : Shared} (h : EP X pins σ Q v s') : PySem.W.CmpBack (EP X pins σ Q) v s' := by
  obtain ⟨d, H', I', rd, q⟩ := h
  have fin : EP X pins σ Q v s' := ⟨d, H', I', rd, q⟩
  cases v <;> first | exact fin | (cases d <;> first | (obtain ⟨_, e⟩ := rd; cases e) | cases rd)
theorem ty_look {pins : List (Addr × Obj)} {σ : L2.St} {H : Hp} {s : Shared} {b : D} {v : V} {u : Value} {t : String} (hk : X.K = F.K) (J : In F W st H) (I : Inv X pins σ H s) (ht : tagD st b = some (.ty t)) (r : RV W b v) (ru : RelV v u) : PySem.W.Looks (model X.prog X.w) s.heap (typeOf u) (.type t) := by
  obtain ⟨P, Z, pp, _⟩ := kit_of I ru (tag_ty hk J ht r)
  exact Z.ty _ _ I.kIn pp
theorem run_op {pins : List (Addr × Obj)} {σ : L2.St} {H : Hp} {s : Shared} {Q : VK} {a b : D} {x y : V} {v u : Value} (G : FnG X.prog X.w X.K X.mg X.base k fE fd ps (SPx F.K F.g fn)) (hr : Room k X.A) (hgd : X.A.guards = some []) (hb : Binds X.K fd ps []) (tk : L2N.Takes X F.E) (I : Inv X pins σ H s) {env : Env} (A : At F W st env σ H)
    (ra : RV W a x) (rb : RV W b y) (rx : RelV x v) (ry : RelV y u) (p : PostE W (fn [a, b] st) Q (F.at_ σ)) : wpAny (model X.prog X.w) X.A (call (.ref fE) [v, u]) (EP X pins σ Q) X.xe s :=
  run_g (dvs := []) (ds := []) (vs := [x, y]) (us := [v, u]) G hr hgd hb .nil tk I (.cons rx (.cons ry .nil)) ⟨W, st, [a, b], A.k, A.g, A.h, A.sim, .cons ra (.cons rb .nil), p⟩
theorem e_binL {op : Operator} {ea eb : Expr} {i j : IE} {pos : Pos} (hk : X.K = F.K) (T : BinC F.K F.g C op fE ts) (hl : lkB (dunder op.info.2) ts = true) (hl2 : lkB (dunderR op.info.2) ts = true) (G : FnG X.prog X.w X.K X.mg X.base k fE fd ps (SPx F.K F.g fn)) (hr : Room k X.A) (hgd : X.A.guards = some []) (hb : Binds X.K fd ps []) (tk : L2N.Takes X F.E)
    (ha : PE X ea (TI F i)) (he : PE X eb (TI F j)) : PE X (.BinOp ea op eb pos) (TI F (iBinL C ts fn i j)) := by
  refine ⟨fun pins s σ H Q I h => ?_⟩
  have h' := (TX.bind (k := fun a env s1 => (j env s1).bind fun b s2 => kBinL C ts fn a b s2) h).mono fun x H1 h1 => TK.bind (P' := RV) (i := j) (k := fun a b env s2 => kBinL C ts fn a b s2) (fun x r => RV.mono x r) h1
  refine wpAny_BinOp (binT ha he I h' fun v u s2 x y H2 I2 rx ry ⟨W, st, env, a, b, A, ra, rb, p⟩ => ?_)
  have p' : PostE W (kBinL C ts fn a b st) Q (F.at_ σ) := p
  unfold kBinL at p'
  split at p'
  · rename_i C' fs hd
    split at p'
    · rename_i c
      obtain ⟨rfl, hok⟩ := c
      obtain ⟨q, dx, gs, rfl, ea', _⟩ := insD_at A.sim hd ra
      have rx' := rx
      cases rx
      rw [A.g, A.h] at ea'
      obtain ⟨mA, O, _⟩ := ins_get I2.hok ea'
      obtain ⟨od, JI, _⟩ := O.look
      have T1 := T.eq
      have T2 := T.fn
      have T3 := T.sf
      obtain ⟨rc, T4, T5⟩ := T.rr
      have T6 := T.ty
      rw [← hk] at T1 T2 T3 T4 T6
      have cal := wpAny_mono (run_op G hr hgd hb tk I2 A ra rb rx' ry p') (fun z s' hz => ep_back hz) fun _ _ e => e
      unfold okR at hok
      split at hok
      · rename_i C2 fs2 hd2
        have e := of_decide_eq_true hok
        subst e
        obtain ⟨a2, dx2, gs2, rfl, eb', _⟩ := insD_at A.sim hd2 rb
        have ry' := ry
        cases ry
        rw [A.g, A.h] at eb'
        obtain ⟨mA2, O2, _⟩ := ins_get I2.hok eb'
        obtain ⟨od2, JI2, _⟩ := O2.look
        exact PySem.W.own_binS I2.kIn JI JI2.type T3 T1 T2 cal
      · split at hok
        · rename_i t ht
          have hm := List.contains_iff_mem.mp hok
          obtain ⟨fo, f1⟩ := lkB_ok hl hm
          obtain ⟨ro, f2⟩ := lkB_ok hl2 hm
          exact PySem.W.own_binT I2.kIn JI (ty_look hk A.in_ I2 ht rb ry) T3 T1 T2 T4 T5 f1 f2 (T6 t hm) cal
        · cases hok
    · exact p'.elim
  · exact p'.elim
/-- the operator reflected -/
structure BinR (K : PySem.W.Frag) (g : Str → Addr) (C : Str) (op : Operator) (fR : Addr) : Prop where
  sf : PySem.W.selfFirst K (g C) = true
  eq : ∃ fA, PySem.W.findIn K (.ref (g C)) (dunder op.info.2) = some (some (.ref fA))
  fn : PySem.W.isFn K (.ref fR) = true
  rr : PySem.W.findIn K (.ref (g C)) (dunderR op.info.2) = some (some (.ref fR))
  bl : PySem.W.subIn K (.ref (g C)) (.type "bool") = some false
def noB (nm : Str) (ts : List String) : Bool := ts.all fun t => match PySem.fastLookup t nm with
  | some none => true
  | _ => false
theorem noB_ok {nm : Str} {ts : List String} (h : noB nm ts = true) {t : String} (ht : t ∈ ts) : typeLookup (.type t) nm = pure none := by
  have := List.all_eq_true.mp h t ht
  cases q : PySem.fastLookup t nm with
  | none => rw [q] at this; cases this
  | some r =>
    rw [q] at this
    cases r with
    | some _ => cases this
    | none => rw [typeLookup_type, builtinLookup_eq_fast, q]
/-- a truth on the left -/
structure BoolR (op : Operator) : Prop where
  run : ∀ {prog : Program} {w : World} {A : Around} {E : Value → Shared → Prop} {s : Shared} {K : PySem.W.Frag} {x C f g0 dx : Addr} {od : Option Obj} {b : Bool} {Q : Value → Shared → Prop}, K.In s.heap → PySem.W.InstAt s.heap x (PySem.W.instObj C dx) C od → PySem.W.selfFirst K C = true →
    PySem.W.findIn K (.ref C) (dunder op.info.2) = some (some (.ref g0)) → PySem.W.findIn K (.ref C) (dunderR op.info.2) = some (some (.ref f)) → PySem.W.isFn K (.ref f) = true → PySem.W.subIn K (.ref C) (.type "bool") = some false →
    wpAny (model prog w) A (call (.ref f) [.ref x, .bool b]) (PySem.W.CmpBack Q) E s → wpAny (model prog w) A (binaryOp op (.bool b) (.ref x)) Q E s
theorem slot_bool_sub : Slot "bool" (dunder "sub") "int.__sub__" :=
  .of (owner := "int") (n := "__sub__") (by rw [typeLookup_type, builtinLookup_eq_fast]; kernel_rfl) (by decide +kernel) (by decide +kernel) (by decide +kernel) (by first | exact .inl (by decide +kernel) | exact .inr (by decide +kernel)) (by rw [isSubtype_type]; kernel_rfl)
theorem slot_bool_add : Slot "bool" (dunder "add") "int.__add__" :=
  .of (owner := "int") (n := "__add__") (by rw [typeLookup_type, builtinLookup_eq_fast]; kernel_rfl) (by decide +kernel) (by decide +kernel) (by decide +kernel) (by first | exact .inl (by decide +kernel) | exact .inr (by decide +kernel)) (by rw [isSubtype_type]; kernel_rfl)
theorem boolR_sub : BoolR .Sub := ⟨fun X I hc hs hr hf hsub h => PySem.W.own_binRB (op := .Sub) (id := "int.__sub__") (ro := some (.builtin "int.__rsub__")) X I hc hs hr hf hsub slot_bool_sub (by rw [typeLookup_type, builtinLookup_eq_fast]; kernel_rfl) (by decide +kernel) F.entry_int_sub (F.args_int_sub_2 _ _) (fun A E Q q => PySem.W.int_no I q) h⟩
theorem boolR_add : BoolR .Add := ⟨fun X I hc hs hr hf hsub h => PySem.W.own_binRB (op := .Add) (id := "int.__add__") (ro := some (.builtin "int.__radd__")) X I hc hs hr hf hsub slot_bool_add (by rw [typeLookup_type, builtinLookup_eq_fast]; kernel_rfl) (by decide +kernel) F.entry_int_add (F.args_int_add_2 _ _) (fun A E Q q => PySem.W.int_no I q) h⟩
def kBinR (C : Str) (ts : List String) (fn : Fn) (a b : D) (st : Sto) : R D := match insD st b with
  | some (C', _) => if C' = C then (match tagD st a with
    | some (.ty t) => if t = "bool" ∨ t ∈ ts then fn [b, a] st else .bad
    | _ => .bad) else .bad
  | none => .bad
def iBinR (C : Str) (ts : List String) (fn : Fn) (i j : IE) : IE := fun env st => (i env st).bind fun a s1 => (j env s1).bind fun b s2 => kBinR C ts fn a b s2
theorem e_binR {op : Operator} {ea eb : Expr} {i j : IE} {pos : Pos} (hk : X.K = F.K) (T : BinR F.K F.g C op fE) (BR : BoolR op) (hl : noB (dunder op.info.2) ts = true) (hl2 : noB (dunderR op.info.2) ts = true) (G : FnG X.prog X.w X.K X.mg X.base k fE fd ps (SPx F.K F.g fn)) (hr : Room k X.A) (hgd : X.A.guards = some []) (hb : Binds X.K fd ps []) (tk : L2N.Takes X F.E)
    (ha : PE X ea (TI F i)) (he : PE X eb (TI F j)) : PE X (.BinOp ea op eb pos) (TI F (iBinR C ts fn i j)) := by
  refine ⟨fun pins s σ H Q I h => ?_⟩
  have h' := (TX.bind (k := fun a env s1 => (j env s1).bind fun b s2 => kBinR C ts fn a b s2) h).mono fun x H1 h1 => TK.bind (P' := RV) (i := j) (k := fun a b env s2 => kBinR C ts fn a b s2) (fun x r => RV.mono x r) h1
  refine wpAny_BinOp (binT ha he I h' fun v u s2 x y H2 I2 rx ry ⟨W, st, env, a, b, A, ra, rb, p⟩ => ?_)
  have p' : PostE W (kBinR C ts fn a b st) Q (F.at_ σ) := p
  unfold kBinR at p'
  split at p'
  · rename_i C' fs hd
    split at p'
    · rename_i c
      subst c
      split at p'
      · rename_i t ht
        split at p'
        · rename_i hm
          obtain ⟨q, dx, gs, rfl, eb', _⟩ := insD_at A.sim hd rb
          have ry' := ry
          cases ry
          rw [A.g, A.h] at eb'
          obtain ⟨mA, O, _⟩ := ins_get I2.hok eb'
          obtain ⟨od, JI, _⟩ := O.look
          obtain ⟨fA, T1⟩ := T.eq
          have T2 := T.fn
          have T3 := T.sf
          have T4 := T.rr
          have T5 := T.bl
          rw [← hk] at T1 T2 T3 T4 T5
          rcases hm with rfl | hm
          · cases a with
            | bl b0 =>
              cases ra
              cases rx
              exact BR.run I2.kIn JI T3 T1 T4 T2 T5 (wpAny_mono (run_op G hr hgd hb tk I2 A rb (.bl b0) ry' rfl p') (fun z s' hz => ep_back hz) fun _ _ e => e)
            | ref n0 =>
              exfalso
              have ht' : (match st[n0]? with
                | some (.lst _) => some (Tg.ty "list")
                | some (.dct _) => some (.ty "dict")
                | _ => none) = some (.ty "bool") := ht
              cases q0 : st[n0]? with
              | none => rw [q0] at ht'; cases ht'
              | some o =>
                rw [q0] at ht'
                cases o <;> first | exact absurd (show (some (Tg.ty "list") : Option Tg) = some (.ty "bool") from ht') (by decide) | exact absurd (show (some (Tg.ty "dict") : Option Tg) = some (.ty "bool") from ht') (by decide) | cases ht'
            | _ => exact absurd ht (by simp [tagD])
          exact PySem.W.own_binR I2.kIn JI (ty_look hk A.in_ I2 ht ra rx) T3 T1 T4 T2 (noB_ok hl hm) (noB_ok hl2 hm) (wpAny_mono (run_op G hr hgd hb tk I2 A rb ra ry' rx p') (fun z s' hz => ep_back hz) fun _ _ e => e)
        · exact p'.elim
      · exact p'.elim
    · exact p'.elim
  · exact p'.elim
end
end M
/-! M111: try with several clauses, each with or without a name; what is handled is known in each suite. -/
namespace M
open PySem PySem.Spec PyProof.Rows L2
/-- a clause: where the name lies, what its test answers, its suite -/
structure Cl (α β : Type) where
  at_ : Option Nat
  tst : α → Option Bool
  su : β
/-- what the clauses wish of an exception of the body -/
def wCats (Wout : WX) (D : Ends) : List (Cl Value (Addr → TS)) → WX
  | [] => Wout
  | c :: r => fun cls d σ H => ∃ b C, cls = .ref C ∧ c.tst cls = some b ∧ (b = true → ∀ a, H a = none → match c.at_ with
      | some i => c.su a { nx := fun σ' H' => D.nx (σ'.set i none) H', rt := D.rt, bk := fun σ' H' => D.bk (σ'.set i none) H', ct := fun σ' H' => D.ct (σ'.set i none) H' } (σ.set i (some (.ref a))) (upd H a (exq a C d))
      | none => c.su a D σ (upd H a (exq a C d))) ∧
    (b = false → wCats Wout D r cls d σ H)
inductive ClsV (X : Cx) : List ExceptHandler → List (Cl Value (Addr → TS)) → Prop
  | nil : ClsV X [] []
  | as {n : Str} {i : Nat} {te : Expr} {tf : Value → Option Bool} {b₀ : Stmt} {suite : List Stmt} {pos' : Pos} {ts : Addr → TS} {hds : List ExceptHandler} {l : List (Cl Value (Addr → TS))} (hi : X.N[i]? = some n) (hln : X.env.kindOf n = some .local) (ht : TstOk X te tf)
      (hsu : ∀ (a : Addr), PSs (X.suite a X.pn) (b₀ :: suite) (ts a)) (r : ClsV X hds l) : ClsV X (.ExceptHandler (some te) (some n) (b₀ :: suite) pos' :: hds) (⟨some i, tf, ts⟩ :: l)
  | un {te : Expr} {tf : Value → Option Bool} {b₀ : Stmt} {suite : List Stmt} {pos' : Pos} {ts : Addr → TS} {hds : List ExceptHandler} {l : List (Cl Value (Addr → TS))} (ht : TstOk X te tf)
      (hsu : ∀ (a : Addr), PSs (X.suite a X.pn) (b₀ :: suite) (ts a)) (r : ClsV X hds l) : ClsV X (.ExceptHandler (some te) none (b₀ :: suite) pos' :: hds) (⟨none, tf, ts⟩ :: l)
section
variable {X : Cx} {body : List Stmt} {h₀ : ExceptHandler} {hds : List ExceptHandler} {l : List (Cl Value (Addr → TS))} {pos : Pos} {tb : WX → TS} {Wout : WX}
theorem ps_try_cls (hs : X.stack = X.env :: X.outer) (hf : X.env.frame = some X.env.locals) (hex : X.ex = []) (hN : X.N.Nodup) (tk : L2N.Takes X Wout)
    (hb : ∀ (W : WX) (pn : List (Addr × Obj)) (xe : Value → Shared → Prop), L2N.Takes (X.tr pn xe) W → PassesOwn (model X.prog X.w) X.A X.env xe → PSs (X.tr pn xe) body (tb W))
    (hh : ClsV X (h₀ :: hds) l) : PS X (.Try body (h₀ :: hds) [] [] pos) (fun D σ H => tb (wCats Wout D l) D σ H) := by
  refine ⟨fun pins s σ H D I h => ?_⟩
  have ok := I.ok
  have hfr : X.A.frames = some (X.env :: X.outer) := by rw [ok.frames, hs]
  refine wpAny_Try_except ?_
  refine wpAny_mono ((hb (wCats Wout D l) (X.pn ++ pins) (fun e s₁ => wpAny (model X.prog X.w) X.A (noteFrame e X.env) (fun _ s₂ => wpAny (model X.prog X.w) X.A (setFlight e none) (fun _ s₃ =>
    wpAny (model X.prog X.w) X.A (handleBy e X.env (h₀ :: hds)) (SP X pins D) X.xe s₃) X.xe s₂) X.xe s₁) (fun u s' xx => ?_) PassesOwn.looking).run [] s σ H D (I.toTry _) h) (fun f s1 hsp => ?_) (fun e s1 he => he)
  · -- the catch
    obtain ⟨a, B, sI, pins', σ', H', cls, d, rfl, J', nb, up, sky, na, os, ag, w⟩ := xx
    have J : Inv X pins σ' H' sI := J'.ofTry ok
    have sky' : Sky B (X.env :: X.outer) a (L2N.Zn cls d) X.env.locals s'.heap := by rw [← hs]; exact sky
    show wpAny (model X.prog X.w) X.A (noteFrame (.ref a) X.env) _ _ _
    refine L2N.Sky.land L2N.Zn.steady hfr hf sky' fun h3 fl3 up3 => ?_
    have notFr : ∀ {h : Heap} {o : Obj} {vs : Array Value}, h.FunFrames B (X.env :: X.outer) → h.get? a = some o → o.data = .fields vs → a ∉ frs (X.env :: X.outer) := fun {h o vs} ff e dd hm => by
      obtain ⟨_, o', e', hnf⟩ := ff.mem hm
      rw [e] at e'; cases e'
      exact hnf _ dd
    obtain ⟨oe3, vs3, he3, hz3, hd3⟩ := fl3.there
    have nfr := notFr fl3.2.2.1 he3 hd3
    have nL : a ≠ X.env.locals := fun z => nfr (List.mem_filterMap.mpr ⟨X.env, List.mem_cons_self, by rw [hf, z]⟩)
    have nI : sI.heap.get? a = none := by
      cases e : sI.heap.get? a with
      | none => rfl
      | some o =>
        have := nb a o e (by rw [hs]; exact nfr)
        rw [fl3.2.1] at this
        cases this
    have n0 : X.s_0.heap.get? a = none := by
      cases e : X.s_0.heap.get? a with
      | none => rfl
      | some o =>
        obtain ⟨o', e'⟩ := J.base.there a o e (by rw [hex]; simp)
        rw [nI] at e'
        cases e'
    have nP : ∀ p ∈ X.pn ++ pins, p.1 ≠ a := fun p hp z => by
      have := (J.pin p hp).1
      rw [z, nI] at this
      cases this
    have go : ∀ {hds' : List ExceptHandler} {l' : List (Cl Value (Addr → TS))}, ClsV X hds' l' → wCats Wout D l' cls d σ' H' → ∀ (h3 : Heap), HandSPX.FlyingZ B (X.env :: X.outer) a (L2N.Zn cls d) h3 → sI.heap.UpToSlots h3 →
        wpAny (model X.prog X.w) X.A (handleBy (.ref a) X.env hds') (SP X pins D) X.xe { s' with heap := h3 } := by
      intro hds' l' hk
      have back : ∀ {σ6 : L2.St} {H6 : Hp} {s6 : Shared}, Inv (X.suite a X.pn) pins σ6 H6 s6 → Inv X pins σ6 H6 s6 := fun S => ⟨ok, S.os, S.bare, S.base, S.loc, S.cell, S.free, S.freeC, S.pin, S.hok, S.len⟩
      have inS : ∀ {h3 : Heap}, HandSPX.FlyingZ B (X.env :: X.outer) a (L2N.Zn cls d) h3 → sI.heap.UpToSlots h3 → Inv (X.suite a X.pn) pins σ' H' { s' with heap := h3 } := fun fl3 up3 => by
        have J3 : Inv X pins σ' H' { s' with heap := _ } := J.landed nb fl3.1 up3 os ag
        exact ⟨J3.ok.suite _ _, J3.os, J3.bare, J3.base, J3.loc, J3.cell, J3.free, J3.freeC, J3.pin, J3.hok, J3.len⟩
      have inA : ∀ {h4 : Heap} {C : Addr}, cls = .ref C → HandSPX.FlyingZ B (X.env :: X.outer) a (L2N.Zn cls d) h4 → sI.heap.UpToSlots h4 → Inv (X.suite a X.pn) pins σ' (upd H' a (exq a C d)) { s' with heap := h4 } := fun {h4 C} hcls fl4 up4 => by
        have J4 : Inv X pins σ' H' { s' with heap := h4 } := J.landed nb fl4.1 up4 os ag
        obtain ⟨oe4, vs4, he4, hz4, hd4⟩ := fl4.there
        have A4 : Inv X pins σ' (upd H' a (exq a C d)) { s' with heap := h4 } := adopt J4 he4 (hz4.1.trans hcls) hz4.2.1 hd4 (hz4.2.2 _ hd4) na nL nP n0
        exact ⟨A4.ok.suite _ _, A4.os, A4.bare, A4.base, A4.loc, A4.cell, A4.free, A4.freeC, A4.pin, A4.hok, A4.len⟩
      have lt : ∀ {h3 : Heap}, HandSPX.FlyingZ B (X.env :: X.outer) a (L2N.Zn cls d) h3 → PySem.W.Looks (model X.prog X.w) h3 (typeOf (.ref a)) cls := fun fl3 => by
        obtain ⟨oe3, vs3, he3, hz3, hd3⟩ := fl3.there
        exact fun A Q E s k q => wpAny_typeOf_ref (k _ _ he3) (by rw [hz3.1]; exact q)
      induction hk with
      | nil =>
        intro w h3 fl5 up5
        refine wpAny_handleBy_nil ?_
        obtain ⟨k1, k2, k3, oe, vs, T, oT, ts', he, hz, hd, h1, hr⟩ := id fl5
        unfold PySem.passOn
        refine wpAny_bind (wpAny_field he hd h1 ?_)
        rw [if_neg (show ¬ ((Value.ref T == Value.none) = true) from by simp)]
        have fin : wpAny (model X.prog X.w) X.A (setFlight (.ref a) X.env.frame) (fun _ s4 => wpAny (model X.prog X.w) X.A (throw (.ref a) : Sem Flow) (SP X pins D) X.xe s4) X.xe { s' with heap := h3 } := by
          rw [hf]
          refine HandSPX.setFlight_upZ fl5 fun h4 hh4 up4 => wpAny_throw (tk _ _ ?_)
          exact ⟨a, B, sI, pins, σ', H', cls, d, rfl, J, nb, up5.trans up4, .inr (.inr (by rw [hs]; exact hh4)), na, os, ag, w⟩
        first
          | exact wpAny_bind (wpAny_pure (wpAny_bind fin))
          | exact wpAny_bind fin
      | @as n i te tf b₀ suite pos' ts hds2 l2 hi hln ht hsu r ih =>
        intro w h3 fl3 up3
        have hloc : Loc X.env.scope n := .inl hln
        obtain ⟨b, C, hcls, hb1, hyes, hno⟩ := w
        refine wpAny_handleBy_cons (codeAny_handlers_test ?_) (by intro q; cases q)
        refine ht a cls b pins σ' H' _ _ _ (inS fl3 up3) (lt fl3) hb1 fun h5 k5 => ?_
        have fl5 := fl_keeps k5 fl3
        have up5 : sI.heap.UpToSlots h5 := up3.trans (Heap.UpToSlots.of_keeps k5)
        cases b with
        | true =>
          refine codeAny_handlers_suite_as ?_
          refine HandSPX.lands_againZ fl5 fun h4 fl4 up4 => ?_
          have S4 := inA hcls fl4 (up5.trans up4)
          refine store_ok (X := X.suite a X.pn) (v := .ref a) S4 hN hi hloc rfl (fun s5 S5 => ?_) (.inr hln)
          refine wpAny_mono ((hsu a).run pins s5 _ _ _ S5 (hyes rfl a na)) (fun f s6 hsp => ?_) (fun _ _ z => False.elim z)
          have end_ : ∀ {σ6 : L2.St} {H6 : Hp} {Q : Shared → Prop}, Inv (X.suite a X.pn) pins σ6 H6 s6 → (∀ s7, Inv X pins (σ6.set i none) H6 s7 → Q s7) →
              wpAny (model X.prog X.w) X.A (do bindName X.env n .none; unbindBehindTheSuite X.env n pos') (fun _ s7 => Q s7) X.xe s6 := fun {σ6 H6 Q} S6 hq => gone_ok (back S6) hN hi hln hq
          cases f with
          | next =>
            obtain ⟨σ6, H6, S6, q6⟩ := hsp
            exact end_ S6 fun s7 J7 => ⟨_, _, J7, q6⟩
          | brk =>
            obtain ⟨σ6, H6, S6, q6⟩ := hsp
            exact end_ S6 fun s7 J7 => ⟨_, _, J7, q6⟩
          | cont =>
            obtain ⟨σ6, H6, S6, q6⟩ := hsp
            exact end_ S6 fun s7 J7 => ⟨_, _, J7, q6⟩
          | ret u =>
            obtain ⟨v6, σ6, H6, S6, r6, q6⟩ := hsp
            exact end_ S6 fun s7 J7 => ⟨_, _, _, J7, r6, q6⟩
        | false => exact ih (hno rfl) h5 fl5 up5
      | @un te tf b₀ suite pos' ts hds2 l2 ht hsu r ih =>
        intro w h3 fl3 up3
        obtain ⟨b, C, hcls, hb1, hyes, hno⟩ := w
        refine wpAny_handleBy_cons (codeAny_handlers_test ?_) (by intro q; cases q)
        refine ht a cls b pins σ' H' _ _ _ (inS fl3 up3) (lt fl3) hb1 fun h5 k5 => ?_
        have fl5 := fl_keeps k5 fl3
        have up5 : sI.heap.UpToSlots h5 := up3.trans (Heap.UpToSlots.of_keeps k5)
        cases b with
        | true =>
          refine codeAny_handlers_suite ?_
          refine HandSPX.lands_againZ fl5 fun h4 fl4 up4 => ?_
          have S4 := inA hcls fl4 (up5.trans up4)
          refine wpAny_mono ((hsu a).run pins _ _ _ _ S4 (hyes rfl a na)) (fun f s6 hsp => ?_) (fun _ _ z => False.elim z)
          cases f with
          | next =>
            obtain ⟨σ6, H6, S6, q6⟩ := hsp
            exact ⟨_, _, back S6, q6⟩
          | brk =>
            obtain ⟨σ6, H6, S6, q6⟩ := hsp
            exact ⟨_, _, back S6, q6⟩
          | cont =>
            obtain ⟨σ6, H6, S6, q6⟩ := hsp
            exact ⟨_, _, back S6, q6⟩
          | ret u =>
            obtain ⟨v6, σ6, H6, S6, r6, q6⟩ := hsp
            exact ⟨_, _, _, back S6, r6, q6⟩
        | false => exact ih (hno rfl) h5 fl5 up5
    exact go hh w h3 fl3 (up.trans up3)
  · cases f with
    | next =>
      obtain ⟨σ', H', J', q⟩ := hsp
      exact wpAny_execs_nil ⟨σ', H', J'.ofTry ok, q⟩
    | brk =>
      obtain ⟨σ', H', J', q⟩ := hsp
      exact ⟨σ', H', J'.ofTry ok, q⟩
    | cont =>
      obtain ⟨σ', H', J', q⟩ := hsp
      exact ⟨σ', H', J'.ofTry ok, q⟩
    | ret u =>
      obtain ⟨v, σ', H', J', r, q⟩ := hsp
      exact ⟨v, σ', H', J'.ofTry ok, r, q⟩
end
/-! ### in the embedding -/
def noxS : RS → RS
  | .exc _ _ _ _ => .bad
  | r => r
def goCls (l : List (Cl Str IS)) (C : Str) (fs : List (Str × D)) (env : Env) (st : Sto) : RS := match l with
  | [] => .exc C fs env st
  | c :: r => match c.tst C with
    | some true => match c.at_ with
      | some i => clrS i (c.su (env.set i (some (.exc C fs))) st)
      | none => noxS (c.su env st)
    | some false => goCls r C fs env st
    | none => .bad
def kTryM (l : List (Cl Str IS)) : RS → RS
  | .exc C fs env st => goCls l C fs env st
  | r => r
def sTryM (l : List (Cl Str IS)) (b : IS) : IS := fun env st => kTryM l (b env st)
inductive ClsD (X : Cx) (F : Fx) : List ExceptHandler → List (Cl Str IS) → Prop
  | nil : ClsD X F [] []
  | as {n : Str} {i : Nat} {te : Expr} {tf : Value → Option Bool} {tfD : Str → Option Bool} {b₀ : Stmt} {suite : List Stmt} {pos' : Pos} {su : IS} {hds : List ExceptHandler} {l : List (Cl Str IS)} (hi : X.N[i]? = some n) (hln : X.env.kindOf n = some .local) (ht : TstOk X te tf) (htf : ∀ C b, tfD C = some b → tf (.ref (F.g C)) = some b)
      (hsu : ∀ (a : Addr), PSs (X.suite a X.pn) (b₀ :: suite) (TS_ { K := F.K, g := F.g.at (some a), E := fun _ _ _ _ => False } su)) (r : ClsD X F hds l) : ClsD X F (.ExceptHandler (some te) (some n) (b₀ :: suite) pos' :: hds) (⟨some i, tfD, su⟩ :: l)
  | un {te : Expr} {tf : Value → Option Bool} {tfD : Str → Option Bool} {b₀ : Stmt} {suite : List Stmt} {pos' : Pos} {su : IS} {hds : List ExceptHandler} {l : List (Cl Str IS)} (ht : TstOk X te tf) (htf : ∀ C b, tfD C = some b → tf (.ref (F.g C)) = some b)
      (hsu : ∀ (a : Addr), PSs (X.suite a X.pn) (b₀ :: suite) (TS_ { K := F.K, g := F.g.at (some a), E := fun _ _ _ _ => False } su)) (r : ClsD X F hds l) : ClsD X F (.ExceptHandler (some te) none (b₀ :: suite) pos' :: hds) (⟨none, tfD, su⟩ :: l)
section
variable {X : Cx} {F : Fx} {hds : List ExceptHandler} {l : List (Cl Str IS)}
theorem clsD_to (hn : F.g.hd = none) (h : ClsD X F hds l) : ∃ l', ClsV X hds l' ∧ ∀ {W : Vw} {N : Ends} {C : Str} {fs : List (Str × D)} {e : Env} {s : Sto}, W.K = F.K → W.g = F.g → PostS W (goCls l C fs e s) N F.E →
    ∀ (ρ' : List Addr) (H' : Hp) (σ' : L2.St) (d : Option Addr), Ext W ρ' H' → Sim (W.to ρ' H') s → EnvR (W.to ρ' H') e σ' → XR (W.to ρ' H') fs d → wCats F.E N l' (.ref (W.g C)) d σ' H' := by
  induction h with
  | nil => exact ⟨[], .nil, fun hK hg p ρ' H' σ' d x S er xr => p ρ' H' σ' d x S er xr⟩
  | @as n i te tf tfD b₀ suite pos' su hds l hi hln ht htf hsu r ih =>
    obtain ⟨l', h1, h2⟩ := ih
    refine ⟨_, .as hi hln ht hsu h1, ?_⟩
    intro W N C fs e s hK hg p ρ' H' σ' d x S er xr
    have p2 : PostS W (match tfD C with
      | some true => clrS i (su (e.set i (some (.exc C fs))) s)
      | some false => goCls l C fs e s
      | none => .bad) N F.E := p
    cases hc : tfD C with
    | none => rw [hc] at p2; exact p2.elim
    | some c =>
      rw [hc] at p2
      refine ⟨c, W.g C, rfl, by rw [show W.g C = F.g C from by rw [hg]]; exact htf C c hc, fun ec a ha => ?_, fun ec => ?_⟩
      · subst ec
        have p3 : PostS W (clrS i (su (e.set i (some (.exc C fs))) s)) N F.E := p2
        have x2 : Ext (W.to ρ' H') ρ' (upd H' a (exq a (W.g C) d)) := ext_new0 (W := W.to ρ' H') ha
        have S2 : Sim (W.to ρ' (upd H' a (exq a (W.g C) d))) s := S.new0 ha
        have fa : (W.to ρ' (upd H' a (exq a (W.g C) d))).fro a := new_fro (W := W.to ρ' H') S ha
        obtain ⟨gs, rf, h0, h1⟩ := xr
        have rv : RV (W.to ρ' (upd H' a (exq a (W.g C) d))) (.exc C fs) (.ref a) := .exc (d := d) upd_same fa h0 (fun dx z => by
          obtain ⟨u1, u2⟩ := h1 dx z
          exact ⟨(upd_ne (ne_of_none u1 ha)).trans u1, fro_mono x2 u1 u2⟩) (rf.mono x2)
        have S3 : Sim ((W.to ρ' (upd H' a (exq a (W.g C) d))).at (some a)) s := S2.at fun b hb => by
          cases hb
          exact ⟨_, _, upd_same, fa⟩
        have er3 : EnvR (W.to ρ' (upd H' a (exq a (W.g C) d))) (e.set i (some (.exc C fs))) (σ'.set i (some (.ref a))) := (er.mono x2).set rv i
        refine ⟨(W.to ρ' (upd H' a (exq a (W.g C) d))).at (some a), s, e.set i (some (.exc C fs)), ⟨hK, by show W.g.at (some a) = F.g.at (some a); rw [hg], rfl, S3, er3.at⟩, ?_⟩
        have p4 := PostS.ext (x.trans x2) p3
        have hn' : (W.to ρ' (upd H' a (exq a (W.g C) d))).g.hd = none := by show W.g.hd = none; rw [hg]; exact hn
        refine PostS.at hn' ?_
        cases r : su (e.set i (some (.exc C fs))) s with
        | nx e6 s6 => rw [r] at p4; exact fun ρ6 H6 σ6 x6 S6 er6 => p4 ρ6 H6 _ x6 S6 (er6.clear i)
        | ret d6 s6 => rw [r] at p4; exact p4
        | bk e6 s6 => rw [r] at p4; exact fun ρ6 H6 σ6 x6 S6 er6 => p4 ρ6 H6 _ x6 S6 (er6.clear i)
        | ct e6 s6 => rw [r] at p4; exact fun ρ6 H6 σ6 x6 S6 er6 => p4 ρ6 H6 _ x6 S6 (er6.clear i)
        | exc C6 f6 e6 s6 => rw [r] at p4; exact p4.elim
        | bad => rw [r] at p4; exact p4.elim
      · subst ec
        exact h2 hK hg p2 ρ' H' σ' d x S er xr
  | @un te tf tfD b₀ suite pos' su hds l ht htf hsu r ih =>
    obtain ⟨l', h1, h2⟩ := ih
    refine ⟨_, .un ht hsu h1, ?_⟩
    intro W N C fs e s hK hg p ρ' H' σ' d x S er xr
    have p2 : PostS W (match tfD C with
      | some true => noxS (su e s)
      | some false => goCls l C fs e s
      | none => .bad) N F.E := p
    cases hc : tfD C with
    | none => rw [hc] at p2; exact p2.elim
    | some c =>
      rw [hc] at p2
      refine ⟨c, W.g C, rfl, by rw [show W.g C = F.g C from by rw [hg]]; exact htf C c hc, fun ec a ha => ?_, fun ec => ?_⟩
      · subst ec
        have p3 : PostS W (noxS (su e s)) N F.E := p2
        have x2 : Ext (W.to ρ' H') ρ' (upd H' a (exq a (W.g C) d)) := ext_new0 (W := W.to ρ' H') ha
        have S2 : Sim (W.to ρ' (upd H' a (exq a (W.g C) d))) s := S.new0 ha
        have fa : (W.to ρ' (upd H' a (exq a (W.g C) d))).fro a := new_fro (W := W.to ρ' H') S ha
        have S3 : Sim ((W.to ρ' (upd H' a (exq a (W.g C) d))).at (some a)) s := S2.at fun b hb => by
          cases hb
          exact ⟨_, _, upd_same, fa⟩
        have er3 : EnvR (W.to ρ' (upd H' a (exq a (W.g C) d))) e σ' := er.mono x2
        refine ⟨(W.to ρ' (upd H' a (exq a (W.g C) d))).at (some a), s, e, ⟨hK, by show W.g.at (some a) = F.g.at (some a); rw [hg], rfl, S3, er3.at⟩, ?_⟩
        have p4 := PostS.ext (x.trans x2) p3
        have hn' : (W.to ρ' (upd H' a (exq a (W.g C) d))).g.hd = none := by show W.g.hd = none; rw [hg]; exact hn
        refine PostS.at hn' ?_
        cases r : su e s with
        | nx e6 s6 => rw [r] at p4; exact p4
        | ret d6 s6 => rw [r] at p4; exact p4
        | bk e6 s6 => rw [r] at p4; exact p4
        | ct e6 s6 => rw [r] at p4; exact p4
        | exc C6 f6 e6 s6 => rw [r] at p4; exact p4.elim
        | bad => rw [r] at p4; exact p4.elim
      · subst ec
        exact h2 hK hg p2 ρ' H' σ' d x S er xr
end
section
variable {X : Cx} {F : Fx} {body : List Stmt} {h₀ : ExceptHandler} {hds : List ExceptHandler} {l : List (Cl Str IS)} {pos : Pos} {b : IS}
theorem s_tryM (hn : F.g.hd = none) (hs : X.stack = X.env :: X.outer) (hf : X.env.frame = some X.env.locals) (hex : X.ex = []) (hN : X.N.Nodup) (tk : L2N.Takes X F.E)
    (hb : ∀ (W : WX) (pn : List (Addr × Obj)) (xe : Value → Shared → Prop), L2N.Takes (X.tr pn xe) W → PassesOwn (model X.prog X.w) X.A X.env xe → PSs (X.tr pn xe) body (TS_ { F with E := W } b))
    (hh : ClsD X F (h₀ :: hds) l) : PS X (.Try body (h₀ :: hds) [] [] pos) (TS_ F (sTryM l b)) := by
  obtain ⟨l', h1, h2⟩ := clsD_to hn hh
  refine PS.imp (ps_try_cls (tb := fun W => TS_ { F with E := W } b) (Wout := F.E) hs hf hex hN tk hb h1) fun N σ H ⟨W, st, env, A, p⟩ => ?_
  refine ⟨W, st, env, ⟨A.k, A.g, A.h, A.sim, A.env⟩, ?_⟩
  have p' : PostS W (kTryM l (b env st)) N F.E := p
  cases q : b env st with
  | nx e s => rw [q] at p'; exact p'
  | ret d s => rw [q] at p'; exact p'
  | bk e s => rw [q] at p'; exact p'
  | ct e s => rw [q] at p'; exact p'
  | bad => rw [q] at p'; exact p'.elim
  | exc C fs e s =>
    rw [q] at p'
    have p2 : PostS W (goCls l C fs e s) N F.E := p'
    intro ρ' H' σ' d x S er xr
    exact h2 A.k A.g p2 ρ' H' σ' d x S er xr
end
end M
/-! M112: own operators' facts; methods, static methods, instances called; fields as targets in a tuple; making with keywords in any order; {x} of an instance. -/
namespace M
open PySem PySem.Spec PyProof.Rows L2
open He (eqO eqO_ok ba)
/-! ### facts -/
theorem binB_ok {K : PySem.W.Frag} {x m r : Str} {ts : List String} {op : Operator} (h : binB K x m r ts = true) (hm : dunder op.info.2 = m) (hr : dunderR op.info.2 = r) : BinC K (He.ga K) x op (He.ma K (He.ga K x) m) ts := by
  subst hm hr
  obtain ⟨h1, h⟩ := ba h
  obtain ⟨h2, h⟩ := ba h
  obtain ⟨h3, h4⟩ := ba h
  refine ⟨h1, (slotB_ok h2).1, (slotB_ok h2).2, ?_, fun t ht => of_decide_eq_true (List.all_eq_true.mp h4 t ht)⟩
  split at h3
  · rename_i e
    exact ⟨_, e, .inl rfl⟩
  · rename_i g e
    exact ⟨_, e, .inr ⟨g, rfl⟩⟩
  · cases h3
theorem binRB_ok {K : PySem.W.Frag} {x m r : Str} {op : Operator} (h : binRB K x m r = true) (hm : dunder op.info.2 = m) (hr : dunderR op.info.2 = r) : BinR K (He.ga K) x op (He.ma K (He.ga K x) r) := by
  subst hm hr
  obtain ⟨h1, h⟩ := ba h
  obtain ⟨h2, h⟩ := ba h
  obtain ⟨h3, h4⟩ := ba h
  exact ⟨h1, ⟨_, (slotB_ok h2).1⟩, (slotB_ok h3).2, (slotB_ok h3).1, of_decide_eq_true h4⟩
theorem methB_ok {K : PySem.W.Frag} {x m : Str} (h : methB K x m = true) : Meth K (He.ga K x) m (He.ma K (He.ga K x) m) := ⟨(slotB_ok (ba h).1).1, (slotB_ok (ba h).1).2, (ba h).2⟩
theorem callB_ok {K : PySem.W.Frag} {x : Str} (h : callB K x = true) : StX.CallO K (He.ga K x) (He.ma K (He.ga K x) "__call__") := ⟨(slotB_ok (ba h).1).1, (slotB_ok (ba h).1).2, (ba h).2⟩
structure FmtO (K : PySem.W.Frag) (C : Addr) : Prop where
  fm : PySem.W.findIn K (.ref C) "__format__" = some (some (.builtin "object.__format__"))
  ob : PySem.W.mroIn K C (.type "object") = some true
theorem fmtB_ok {K : PySem.W.Frag} {x : Str} (h : fmtB K x = true) : FmtO K (He.ga K x) := ⟨eqO_ok (ba h).1, of_decide_eq_true (ba h).2⟩
/-! ### methods -/
theorem rf_none {W : Vw} {m : Str} : ∀ {fs : List (Str × D)} {gs : List (Str × V)}, RFs W fs gs → fs.lookup m = none → gs.lookup m = none
  | _, _, .nil, _ => rfl
  | _, _, .cons (f := f) _ r, h => by
    rw [List.lookup_cons] at h ⊢
    split at h
    · cases h
    · rename_i q
      first
        | exact rf_none r h
        | (rw [q]; exact rf_none r h)
def kM0 (C m : Str) (st : Sto) (a : D) : Bool := match insD st a with
  | some (C', fs) => decide (C' = C) && (fs.lookup m).isNone
  | none => false
theorem kM0_at {W : Vw} {st : Sto} {C m : Str} {a : D} {v : V} (S : Sim W st) (h : kM0 C m st a = true) (r : RV W a v) : ∃ q dx gs, v = .ref q ∧ W.H q = some (.ins (W.g C) dx gs) ∧ gs.lookup m = none := by
  unfold kM0 at h
  split at h
  · rename_i C' fs hd
    obtain ⟨h1, h2⟩ := ba h
    rw [of_decide_eq_true h1] at hd
    obtain ⟨q, dx, gs, e, e1, e2⟩ := insD_at S hd r
    exact ⟨q, dx, gs, e, e1, rf_none e2 (Option.isNone_iff_eq_none.mp h2)⟩
  · cases h
def iMeth (C m : Str) (fn : Fn) (i : IE) (j : IA) : IE := fun env st => (i env st).bind fun a s1 => if kM0 C m s1 a = true then (j env s1).bind fun ds s2 => fn (a :: ds) s2 else .bad
section
variable {X : Cx} {F : Fx} {k n : Nat} {C m x : Str} {fA : Addr} {fd : FuncData} {ps ks : List Str} {fn : Fn} {o e : Expr} {es : List Expr} {kws : List Keyword} {i : IE} {j jk : IA} {apos pos p : Pos} {pl : Sem Bool} {perm : List Nat}
theorem sp_nil {vs : List V} {H : Hp} {Q : VK} {E : XK} (h : SPx F.K F.g fn vs H Q E) : SPx F.K F.g fn (vs ++ []) H Q E := by rw [List.append_nil]; exact h
theorem e_meth (hk : X.K = F.K) (cl : Cls F.K (F.g C)) (hm : Meth F.K (F.g C) m fA) (G : FnG X.prog X.w X.K X.mg X.base k fA fd ps (SPx F.K F.g fn)) (hr : Room k X.A) (hgd : X.A.guards = some []) (hb : Binds X.K fd ps []) (tk : L2N.Takes X F.E) (ho : PE X o (TI F i)) (ha : PA X (e :: es) (TA_ F j))
    (hst : starEach (e :: es) X.env = (false, eval e X.env) :: starEach es X.env := by rfl) (hpl : (backTo pos (starEach es X.env)).any (·.1) = false := by rfl)
    (ht : eval (.Call (.Attribute o m apos) (e :: es) [] pos) X.env = (do
      let ov ← eval o X.env
      standAt apos.atName
      let (f, first) ← holding [ov] (getMethod ov m pl)
      callWith pos f first (backTo pos (starEach (e :: es) X.env)) (backToKw pos (keywordEach [] X.env))) := by rfl) :
    PE X (.Call (.Attribute o m apos) (e :: es) [] pos) (TI F (iMeth C m fn i j)) := by
  refine ⟨fun pins s σ H Q I h => ?_⟩
  refine PySem.W.methodCall_KW (pl := pl) (thn (ho.run pins s σ H _ I (TX.bind (k := fun a env s1 => if kM0 C m s1 a = true then (j env s1).bind fun ds s2 => fn (a :: ds) s2 else .bad) h)) fun u s1 ⟨v, H1, I1, rx, W, st, env, a, A, r, p⟩ => ?_) ht
  have p' : PostE W (if kM0 C m st a = true then (j env st).bind fun ds s2 => fn (a :: ds) s2 else .bad) Q (F.at_ σ) := p
  split at p'
  · rename_i c
    obtain ⟨q, dx, gs, rfl, ea, ln⟩ := kM0_at A.sim c r
    obtain rfl : u = Value.ref q := rx
    rw [A.g, A.h] at ea
    rw [← hk] at cl hm
    refine getmeth_ok I1 ea cl hm ln ?_
    refine PySem.W.callWith_K (first := [.ref q]) (h₀ := X.base) I.ok.mod.kin hm.kp (thn (ha.run pos pins s1 σ H1 _ I1 (TK.bind (i := j) (P' := RVs) (k := fun a ds env s2 => fn (a :: ds) s2) (fun x r => RV.mono x r) ⟨W, st, env, a, A, r, p'⟩)) fun us s2 ⟨vs, H2, I2, rr, W2, st2, env2, a2, ds, A2, ra, rd, p2⟩ => ⟨I2.kIn, ?_⟩) hst hpl
    exact run_g (dvs := []) (ds := []) (us := .ref q :: us) (vs := .ref q :: vs) G hr hgd hb .nil tk I2 (.cons rfl rr) (sp_nil ⟨W2, st2, a2 :: ds, A2.k, A2.g, A2.h, A2.sim, .cons ra rd, p2⟩)
  · exact p'.elim
/-- o.m(k = e, ..) -/
def iMethK (C m : Str) (fn : Fn) (n : Nat) (perm : List Nat) (i : IE) (j : IA) : IE := fun env st => (i env st).bind fun a s1 => if kM0 C m s1 a = true then (j env s1).bind fun ds s2 => kPick fn 1 n perm [] [a] ds s2 else .bad
theorem e_methK (hk : X.K = F.K) (cl : Cls F.K (F.g C)) (hm : Meth F.K (F.g C) m fA) (G : FnG X.prog X.w X.K X.mg X.base k fA fd ps (SPx F.K F.g fn)) (hr : Room k X.A) (hgd : X.A.guards = some []) {its : List Value} (hb : KBn X.K fd ps 1 ks (fun us ws => gPick perm (us ++ (its ++ ws))) (fun vs zs => gPick perm (vs ++ ([] ++ zs)))) (tk : L2N.Takes X F.E) (ho : PE X o (TI F i)) (hkw : PK X kws (TA_ F jk))
    (hall : (backToKw pos (keywordEach kws X.env)).all (·.1.isSome) = true := by rfl) (hks : (backToKw pos (keywordEach kws X.env)).filterMap (·.1) = ks := by rfl) (hpl : ((backTo pos (starEach [] X.env)).any (·.1) || (backToKw pos (keywordEach kws X.env)).any (·.1.isNone)) = false := by rfl)
    (ht : eval (.Call (.Attribute o m apos) [] kws pos) X.env = (do
      let ov ← eval o X.env
      standAt apos.atName
      let (f, first) ← holding [ov] (getMethod ov m pl)
      callWith pos f first (backTo pos (starEach [] X.env)) (backToKw pos (keywordEach kws X.env))) := by rfl) :
    PE X (.Call (.Attribute o m apos) [] kws pos) (TI F (iMethK C m fn ks.length perm i jk)) := by
  refine ⟨fun pins s σ H Q I h => ?_⟩
  refine PySem.W.methodCall_KW (pl := pl) (thn (ho.run pins s σ H _ I (TX.bind (k := fun a env s1 => if kM0 C m s1 a = true then (jk env s1).bind fun ds s2 => kPick fn 1 ks.length perm [] [a] ds s2 else .bad) h)) fun u s1 ⟨v, H1, I1, rx, W, st, env, a, A, r, p⟩ => ?_) ht
  have p' : PostE W (if kM0 C m st a = true then (jk env st).bind fun ds s2 => kPick fn 1 ks.length perm [] [a] ds s2 else .bad) Q (F.at_ σ) := p
  split at p'
  · rename_i c
    obtain ⟨q, dx, gs, rfl, ea, ln⟩ := kM0_at A.sim c r
    obtain rfl : u = Value.ref q := rx
    rw [A.g, A.h] at ea
    rw [← hk] at cl hm
    refine getmeth_ok I1 ea cl hm ln ?_
    refine PySem.W.callWith_KW0 (first := [.ref q]) (h₀ := X.base) I.ok.mod.kin hm.kp hall (thn (hkw.run pos pins s1 σ H1 _ I1 (TK.bind (i := jk) (P' := RVs) (k := fun a ds env s2 => kPick fn 1 ks.length perm [] [a] ds s2) (fun x r => RV.mono x r) ⟨W, st, env, a, A, r, p'⟩)) fun ws s2 ⟨zs, H2, I2, rz, W2, st2, env2, a2, ds, A2, ra, rd, p2⟩ => ⟨I2.kIn, ?_⟩) hpl
    rw [hks]
    obtain ⟨l1, l2, q2⟩ := pick_sp (dvs := []) (dd := []) (fun _ _ _ => .nil) A2 (.cons ra .nil) rd p2
    exact run_gN (us := [.ref q]) (vs := [.ref q]) G hr hgd hb tk I2 (.cons rfl .nil) rz l1 l2 q2
  · exact p'.elim
/-- C.m(e, ..), m a staticmethod -/
theorem e_stat {pA : Addr} (hk : X.K = F.K) (T : StatOf F.K (F.g C) m pA fA) (kp : PySem.W.keepIn X.K (.ref fA) = true) (G : FnG X.prog X.w X.K X.mg X.base k fA fd ps (SPx F.K F.g fn)) (hr : Room k X.A) (hgd : X.A.guards = some []) (hb : Binds X.K fd ps []) (tk : L2N.Takes X F.E) (hg : Gl X x) (hmg : X.mg x = some (.ref (F.g C))) (ha : PA X (e :: es) (TA_ F j))
    (hdb : (x == ("__debug__" : Str)) = false := by decide) (hst : starEach (e :: es) X.env = (false, eval e X.env) :: starEach es X.env := by rfl) (hpl : (backTo pos (starEach es X.env)).any (·.1) = false := by rfl)
    (ht : eval (.Call (.Attribute (.Name x p) m apos) (e :: es) [] pos) X.env = (do
      let ov ← eval (.Name x p) X.env
      standAt apos.atName
      let (f, first) ← holding [ov] (getMethod ov m pl)
      callWith pos f first (backTo pos (starEach (e :: es) X.env)) (backToKw pos (keywordEach [] X.env))) := by rfl) :
    PE X (.Call (.Attribute (.Name x p) m apos) (e :: es) [] pos) (TI F (iCall fn [] j)) := by
  refine ⟨fun pins s σ H Q I h => ?_⟩
  have h1 := T.rd
  have h2 := T.ga
  have h3 := T.at_
  obtain ⟨rest, h4⟩ := T.rc
  rw [← hk] at h1 h2 h3 h4
  refine PySem.W.methodCall_KW (pl := pl) (ld_glob I hg hmg ?_ hdb) ht
  refine PySem.W.method_cls I.kIn h2 (PySem.W.cls_bind I.kIn h1 h3 (wpAny_call (PySem.W.sm_get (s := { s with toks := s.toks + 1 }) I.kIn h4 (PySem.W.handed_on rfl ?_))))
  have I1 := I.tok (s.toks + 1)
  refine PySem.W.callWith_K (first := []) (h₀ := X.base) I.ok.mod.kin kp (thn (ha.run pos pins _ σ H _ I1 (TX.bind (k := fun ds env s => fn (ds ++ []) s) h)) fun us s2 ⟨vs, H2, I2, rr, q⟩ => ⟨I2.kIn, ?_⟩) hst hpl
  exact run_g (dvs := []) (ds := []) G hr hgd hb .nil tk I2 rr (sp_of (dd := []) (dvs := []) (fun _ _ _ => .nil) q)
/-- f(e, ..), f an instance -/
def kCallO (C : Str) (fn : Fn) (a : D) (ds : List D) (st : Sto) : R D := match insD st a with
  | some (C', _) => if C' = C then fn (a :: ds) st else .bad
  | none => .bad
def iCallO (C : Str) (fn : Fn) (i : IE) (j : IA) : IE := fun env st => (i env st).bind fun a s1 => if (insD s1 a).isSome = true then (j env s1).bind fun ds s2 => kCallO C fn a ds s2 else .bad
theorem e_callI (hk : X.K = F.K) (c : StX.CallO F.K (F.g C) fA) (G : FnG X.prog X.w X.K X.mg X.base k fA fd ps (SPx F.K F.g fn)) (hr : Room k X.A) (hgd : X.A.guards = some []) (hb : Binds X.K fd ps []) (tk : L2N.Takes X F.E) (ho : PE X o (TI F i)) (ha : PA X (e :: es) (TA_ F j))
    (ht : eval (.Call o (e :: es) [] pos) X.env = (do callWith pos (← eval o X.env) [] (backTo pos (starEach (e :: es) X.env)) (backToKw pos (keywordEach [] X.env))) := by rfl)
    (hst : starEach (e :: es) X.env = (false, eval e X.env) :: starEach es X.env := by rfl) (hpl : (backTo pos (starEach es X.env)).any (·.1) = false := by rfl) :
    PE X (.Call o (e :: es) [] pos) (TI F (iCallO C fn i j)) := by
  refine ⟨fun pins s σ H Q I h => ?_⟩
  refine Call_ (thn (ho.run pins s σ H _ I (TX.bind (k := fun a env s1 => if (insD s1 a).isSome = true then (j env s1).bind fun ds s2 => kCallO C fn a ds s2 else .bad) h)) fun u s1 ⟨v, H1, I1, rx, W, st, env, a, A, r, p⟩ => ?_) ht
  have p' : PostE W (if (insD st a).isSome = true then (j env st).bind fun ds s2 => kCallO C fn a ds s2 else .bad) Q (F.at_ σ) := p
  split at p'
  · rename_i c
    obtain ⟨⟨C', fs⟩, hd⟩ := Option.isSome_iff_exists.mp c
    obtain ⟨q, dx, gs, rfl, ea, _⟩ := insD_at A.sim hd r
    obtain rfl : u = Value.ref q := rx
    refine StX.callO_with (thn (ha.run pos pins s1 σ H1 _ I1 (TK.bind (i := j) (P' := RVs) (k := fun a ds env s2 => kCallO C fn a ds s2) (fun x r => RV.mono x r) ⟨W, st, env, a, A, r, p'⟩)) fun us s2 ⟨vs, H2, I2, rr, W2, st2, env2, a2, ds, A2, ra, rd, p2⟩ => ?_) hst hpl
    have p3 : PostE W2 (kCallO C fn a2 ds st2) Q (F.at_ σ) := p2
    unfold kCallO at p3
    split at p3
    · rename_i C2 fs2 hd2
      split at p3
      · rename_i hC
        subst hC
        obtain ⟨q2, dx2, gs2, e2, ea2, _⟩ := insD_at A2.sim hd2 ra
        cases e2
        rw [A2.g, A2.h] at ea2
        rw [← hk] at c
        have hi : StX.InsC X H2 q (F.g C2) := .inr ⟨_, _, ea2⟩
        obtain ⟨ox, od, J, hdd⟩ := StX.insC_at I2 hi
        refine ⟨⟨_, ox, od, J, hdd⟩, wpAny_call (PySem.W.kco_code I2.kIn J hdd c.at_ c.fn c.fi (codeAny_mono (G.run X.A X.stack s2 H2 ⟨.ref q :: us, []⟩ (.ref q :: us) (.ref q :: vs) Q (F.at_ σ) hr hgd I2.env0 (by
          have l2 : (Value.ref q :: us).length = ps.length := by
            have := G.len (.ref q :: vs) H2 Q (F.at_ σ) ⟨W2, st2, a2 :: ds, A2.k, A2.g, A2.h, A2.sim, .cons ra rd, p3⟩
            have l1 := rr.length
            simp only [List.length_cons] at this ⊢
            omega
          simpa using hb s2 (.ref q :: us) I2.kIn (by simpa using l2)) (.cons rfl rr) ⟨W2, st2, a2 :: ds, A2.k, A2.g, A2.h, A2.sim, .cons ra rd, p3⟩) fun r s' hq => ?_))⟩
        cases r with
        | error er => exact tk er s' (L2N.XE.of_call I2 (fun _ _ _ h => h) hq)
        | ok fl =>
          cases fl with
          | ret u => exact I2.after hq
          | next => exact hq.elim
          | brk => exact hq.elim
          | cont => exact hq.elim
      · exact p3.elim
    · exact p3.elim
  · exact p'.elim
end
/-! ### o.f as a target -/
def kFld (xs : List Str) (f : Str) (d o : D) (env : Env) (st : Sto) : R Env := match o with
  | .ref n => match st[n]? with
    | some (.ins C fs) => if C ∈ xs ∧ fs.length < 1000 then .ok env (st.set n (.ins C (putD f d fs))) else .bad
    | _ => .bad
  | _ => .bad
def gFld (xs : List Str) (f : Str) (i : IE) : IG := fun d env st => (i env st).bind fun o s => kFld xs f d o env s
section
variable {X : Cx} {F : Fx} {xs : List Str} {f : Str} {o : Expr} {i : IE} {p : Pos}
theorem g_fld (hk : X.K = F.K) (T : Has F.K F.g f xs) (ho : PE X o (TI F i)) : PG X (.Attribute o f p) (TG_ F (gFld xs f i)) := by
  refine ⟨fun pins s σ H v u Q I r h => ?_⟩
  have h0 : TK RV PE_ F (fun d env st => (i env st).bind fun o s => kFld xs f d o env s) v σ H Q := h
  refine PySem.W.kas_attr (thn (ho.run pins s σ H _ I (TK.bind (i := i) (P' := RV) (k := fun d o env s => kFld xs f d o env s) (fun x r => RV.mono x r) h0)) fun ov s1 ⟨x, H1, I1, rx, W, st, env, d, b, A, rd, rb, p⟩ => ?_)
  have p' : Post W PE_ (kFld xs f d b env st) Q (F.at_ σ) := p
  unfold kFld at p'
  split at p'
  · rename_i n
    split at p'
    · rename_i C fs hq
      split at p'
      · rename_i hC
        cases rb with
        | @ref _ a e =>
          obtain rfl : ov = Value.ref a := rx
          obtain ⟨dx, gs, ha, rg⟩ := A.sim.at_ n _ a hq e
          have cl := T.cl C hC.1
          have no := T.no C hC.1
          have eH := A.h
          subst eH
          rw [← hk] at cl no
          have x7 : Ext W W.ρ (upd W.H a (.ins (W.g C) dx (putF f v gs))) := ext_put (List.mem_of_getElem? e)
          have S := A.sim.put e (o := .ins C (putD f d fs)) (u := .ins (W.g C) dx (putF f v gs)) ⟨dx, _, upd_same, RFs.mono x7 (putD_rel rd rg)⟩
          have q := p' W.ρ _ σ x7 S (A.env.mono x7)
          rw [A.g] at ha q
          exact setattr_ok I1 ha cl no (by rw [← rg.length]; exact hC.2) r fun s3 I3 => ⟨σ, _, I3, q⟩
      · exact p'.elim
    · exact p'.elim
  · exact p'.elim
theorem gsFld_ne {g : IGs} (hi : NeX i) (ne : ∀ ds env st C fs s, g ds env st ≠ .exc C fs s) : ∀ ds env st C fs s, gsCons (gFld xs f i) g ds env st ≠ .exc C fs s := fun ds env st C fs s h => by
  cases ds with
  | nil => cases h
  | cons d r =>
    have h' : (gFld xs f i d env st).bind (fun env' s => g r env' s) = .exc C fs s := h
    cases q : gFld xs f i d env st with
    | ok e2 s2 => rw [q] at h'; exact ne _ _ _ _ _ _ h'
    | bad => rw [q] at h'; cases h'
    | exc C' fs' s2 =>
      have q' : ((i env st).bind fun o s => kFld xs f d o env s) = .exc C' fs' s2 := q
      cases z : i env st with
      | bad => rw [z] at q'; cases q'
      | exc C3 fs3 s3 => exact hi _ _ _ _ _ z
      | ok o3 s3 =>
        rw [z] at q'
        have q3 : kFld xs f d o3 env s3 = .exc C' fs' s2 := q'
        unfold kFld at q3
        split at q3
        · split at q3
          · split at q3 <;> cases q3
          · cases q3
        · cases q3
end
end M
/-! M113: raise C(); making with arguments in any order; {x} of an instance; small operations; range(i, j, -1) where an exception is handled. -/
namespace M
open PySem PySem.Spec PyProof.Rows L2
open He (eqO eqO_ok ba)
/-! ### raise C() -/
def sRaise0 (C : Str) : IS := fun env st => .exc C [] env st
section
variable {X : Cx} {F : Fx} {C x : Str} {p pos pos' : Pos} {B newId initId : String} {tail : List Value}
theorem s_raise0 (hc : X.calm = true) (tk : L2N.Takes X F.E) (b : XB B newId initId tail) (q : PySem.W.excIn X.K (F.g C) tail newId = true) (kC : PySem.W.keepIn X.K (.ref (F.g C)) = true) (rs : Raises X (.ref (F.g C))) (hg : Gl X x) (hm : X.mg x = some (.ref (F.g C))) (hdb : (x == ("__debug__" : Str)) = false := by decide) :
    PS X (.Raise (some (.Call (.Name x p) [] [] pos)) none pos') (TS_ F (sRaise0 C)) := by
  refine PS.imp (L2N.ps_raise (t := fun σ H Q => Q (.ref (F.g C)) none H) hc tk ?_) fun N σ H h => ?_
  · intro pins s σ H Q I h
    refine wpAny_Call_Name_kw (ld_glob I hg hm (PySem.W.callWith_K0 I.kIn kC ?_) hdb)
    show wpAny _ _ (call (.ref (F.g C)) []) _ _ _
    obtain ⟨bm, N, nm, qn, bs, hdct, sn, sub, ab, col, dd, k0, k1, k2, k3, k5, mN, hC, hN, hni, T⟩ := exc_obj I.kIn q
    obtain ⟨hp, g0, dr, tk, os⟩ := s
    refine wpAny_call_exc_subT b.f T hC hN hni (fun h' a hmx => ?_) (Nat.zero_le _)
    have hn : H a = none := I.hok.gone hmx.new
    exact L2N.mk_of I hmx rs h hn
  · obtain ⟨W, st, env, A, p⟩ := h
    have p' : PostS W (RS.exc C [] env st) N F.E := p
    have q := p' W.ρ W.H σ none Ext.refl A.sim A.env ⟨[], .nil, fun _ => rfl, fun dx z => by cases z⟩
    rw [A.h, A.g] at q
    exact q
end
theorem xr0B_ok {X : Cx} {x : Str} (h : xr0B X.K x = true) : Raises X (.ref (He.ga X.K x)) := raises_own (of_decide_eq_true (ba h).1) (of_decide_eq_true (ba h).2)
/-! ### C(..), the arguments in any order -/
section
variable {K : PySem.W.Frag} {x qual : Str} {params : Arguments} {body : List Stmt} {scope : Scope} {dvs : List V} {kws : List (Str × V)} {f : Addr} {fd : FuncData} {ps : List Str}
theorem kbn_pickF (F : FunD K x qual params body scope dvs kws f fd) (n : Nat) (ks : List Str) (perm : List Nat) (hd : dvs ≠ [])
    (h : ∀ (T : Addr) (kV doc pm : Value) (an : Option Addr) (cdv ct : Value) (us its ws : List Value), us.length = n → its.length = dvs.length → ws.length = ks.length →
      ∃ k, bindArgs (PySem.W.fnOf x qual params body scope (.ref T) kV doc pm an cdv ct) ⟨us, ks.zip ws⟩ = seqItems? (.ref T) >>= k ∧ k (some its.toArray) = pure (ps.zip (gPick perm (us ++ ws)))) :
    KBn K fd ps n ks (fun us ws => gPick perm (us ++ ws)) (fun vs zs => gPick perm (vs ++ zs)) := by
  obtain ⟨its, hb⟩ := F.kbindsD n ks (fun us its ws => gPick perm (us ++ ws)) hd (fun r1 r2 r3 => vals_pick (r1.append r3) perm) h
  exact hb
end
def opNewP (C : Str) (f : Fn) (n m : Nat) (perm : List Nat) (ds zs : List D) (st : Sto) : R D := if ds.length = n ∧ zs.length = m then opNew C (fun l s => f (gPick perm l) s) (ds ++ zs) st else .bad
def iNewP (C : Str) (f : Fn) (n m : Nat) (perm : List Nat) (j jk : IA) : IE := fun env st => (j env st).bind fun ds s => (jk env s).bind fun zs s2 => opNewP C f n m perm ds zs s2
section
variable {X : Cx} {F : Fx} {k n : Nat} {C x : Str} {fI : Addr} {fd : FuncData} {ps ks : List Str} {f : Fn} {p pos : Pos} {e : Expr} {es : List Expr} {kws : List Keyword} {j jk : IA} {perm : List Nat}
theorem run_newP {pins : List (Addr × Obj)} {σ : L2.St} {H : Hp} {s : Shared} {Q : VK} {us ws : List Value} {vs zs : List V} {ds dz : List D} {W : Vw} {st : Sto} {env : Env} (Mc : Mk X.K (F.g C) fI) (G : FnG X.prog X.w X.K X.mg X.base k fI fd ps (SPx F.K F.g f)) (hr : Room (k + 1) X.A) (hgd : X.A.guards = some [])
    (hb : KBn X.K fd ps (n + 1) ks (fun us ws => gPick perm (us ++ ws)) (fun vs zs => gPick perm (vs ++ zs))) (tk : L2N.Takes X F.E) (I : Inv X pins σ H s) (r : Vals vs us) (rz : Vals zs ws) (A : At F W st env σ H) (re : RVs W ds vs) (rez : RVs W dz zs) (p : PostE W (opNewP C f n ks.length perm ds dz st) Q (F.at_ σ)) :
    wpAny (model X.prog X.w) X.A (call (.ref (F.g C)) us (ks.zip ws)) (EP X pins σ Q) X.xe s := by
  unfold opNewP at p
  split at p
  · rename_i c
    have hq := new_sp A.in_ (I.hok.fresh (Nat.le_succ _)) (I.hok.fresh (Nat.le_refl _)) (Nat.ne_of_lt (Nat.lt_succ_self s.heap.objs.size)) (re.append rez) p
    have hq2 : SPx F.K F.g f (gPick perm ((.ref (s.heap.objs.size + 1) :: vs) ++ zs)) (upd (upd H s.heap.objs.size (.own (s.heap.objs.size + 1))) (s.heap.objs.size + 1) (.ins (F.g C) s.heap.objs.size [])) (fun v H2 => v = .non ∧ Q (.ref (s.heap.objs.size + 1)) H2) (F.at_ σ) := by
      obtain ⟨W1, st1, ds1, h1, h2, h3, h4, h5, h6⟩ := hq
      exact ⟨W1, st1, gPick perm ds1, h1, h2, h3, h4, rvs_pick h5 perm, h6⟩
    have I2 := Inv.made (C := F.g C) I
    have r1 : Vals (V.ref (s.heap.objs.size + 1) :: vs) (Value.ref (s.heap.objs.size + 1) :: us) := .cons rfl r
    have r2 := hb.rel r1 rz
    have l1 : (Value.ref (s.heap.objs.size + 1) :: us).length = n + 1 := by rw [List.length_cons, ← r.length, ← re.length, c.1]
    have l2 : ws.length = ks.length := by rw [← rz.length, ← rez.length, c.2]
    refine wpAny_call (make_map (f := fI) I.kIn Mc.makes Mc.init (beq_iff_eq.mp Mc.fn) (codeAny_mono (G.run _ X.stack _ _ ⟨Value.ref (s.heap.objs.size + 1) :: us, ks.zip ws⟩ (gPick perm ((Value.ref (s.heap.objs.size + 1) :: us) ++ ws)) _ _ (F.at_ σ) (hr.make (F.g C) us (ks.zip ws)) (make_guards hgd)
      (I2.env0.make (F.g C) us (ks.zip ws)) (hb.to _ _ ws I2.kIn l1 l2) r2 hq2) fun r s' hq' => ?_))
    cases r with
    | error e => exact tk e s' (L2N.XE.of_call I2 (fun _ _ _ h => h) hq')
    | ok fl =>
      cases fl with
      | ret u =>
        obtain ⟨v, H', I3, rv, ev, q3⟩ := I2.after hq'
        subst ev
        exact ⟨rv, V.ref (s.heap.objs.size + 1), H', I3, rfl, q3⟩
      | next => exact False.elim hq'
      | brk => exact False.elim hq'
      | cont => exact False.elim hq'
  · exact p.elim
theorem e_newP (Mc : Mk X.K (F.g C) fI) (G : FnG X.prog X.w X.K X.mg X.base k fI fd ps (SPx F.K F.g f)) (hr : Room (k + 1) X.A) (hgd : X.A.guards = some []) (hg : Gl X x) (hm : X.mg x = some (.ref (F.g C))) (hb : KBn X.K fd ps (n + 1) [] (fun us ws => gPick perm (us ++ ws)) (fun vs zs => gPick perm (vs ++ zs))) (tk : L2N.Takes X F.E)
    (ha : PA X (e :: es) (TA_ F j)) (hdb : (x == ("__debug__" : Str)) = false := by decide) (he : starEach (e :: es) X.env = (false, eval e X.env) :: starEach es X.env := by rfl) (hpl : (backTo pos (starEach es X.env)).any (·.1) = false := by rfl) :
    PE X (.Call (.Name x p) (e :: es) [] pos) (TI F (iNewP C f n 0 perm j aNil)) := by
  refine ⟨fun pins s σ H Q I h => ?_⟩
  refine wpAny_Call_Name_kw (ld_glob I hg hm (PySem.W.callWith_K (h₀ := X.base) I.ok.mod.kin Mc.kp (thn (ha.run pos pins s σ H _ I (TX.bind (k := fun ds env s => opNewP C f n 0 perm ds [] s) h)) fun us s1 ⟨vs, H1, I1, r, W, st, env, es, A, re, q⟩ => ⟨I1.kIn, ?_⟩) he hpl) hdb)
  exact run_newP (ks := []) (ws := []) (zs := []) (dz := []) Mc G hr hgd hb tk I1 r .nil A re .nil q
theorem e_newPK (Mc : Mk X.K (F.g C) fI) (G : FnG X.prog X.w X.K X.mg X.base k fI fd ps (SPx F.K F.g f)) (hr : Room (k + 1) X.A) (hgd : X.A.guards = some []) (hg : Gl X x) (hm : X.mg x = some (.ref (F.g C))) (hb : KBn X.K fd ps (0 + 1) ks (fun us ws => gPick perm (us ++ ws)) (fun vs zs => gPick perm (vs ++ zs))) (tk : L2N.Takes X F.E)
    (hkw : PK X kws (TA_ F jk)) (hall : (backToKw pos (keywordEach kws X.env)).all (·.1.isSome) = true := by rfl) (hks : (backToKw pos (keywordEach kws X.env)).filterMap (·.1) = ks := by rfl)
    (hdb : (x == ("__debug__" : Str)) = false := by decide) (hpl : ((backTo pos (starEach [] X.env)).any (·.1) || (backToKw pos (keywordEach kws X.env)).any (·.1.isNone)) = false := by rfl) : PE X (.Call (.Name x p) [] kws pos) (TI F (iNewP C f 0 ks.length perm aNil jk)) := by
  refine ⟨fun pins s σ H Q I h => ?_⟩
  refine wpAny_Call_Name_kw (ld_glob I hg hm (PySem.W.callWith_KW0 (h₀ := X.base) I.ok.mod.kin Mc.kp hall (thn (hkw.run pos pins s σ H _ I (TX.bind (k := fun zs env s => opNewP C f 0 ks.length perm [] zs s) h)) fun ws s1 ⟨zs, H1, I1, rz, W, st, env, es, A, re, q⟩ => ⟨I1.kIn, ?_⟩) hpl) hdb)
  rw [hks]
  exact run_newP (us := []) (vs := []) (ds := []) Mc G hr hgd hb tk I1 .nil rz A .nil re q
end
/-! ### {x} of an instance -/
/-- how an own method without arguments answers, wherever it is called -/
def OwnM (X : Cx) (F : Fx) (m : Str) (C : Str) (fn : Fn) : Prop := ∃ fS : Addr, PySem.W.findIn F.K (.ref (F.g C)) m = some (some (.ref fS)) ∧ PySem.W.isFn F.K (.ref fS) = true ∧
  ∀ (A' : Around), A'.handled = X.A.handled → A'.frames = X.A.frames → A'.depth ≤ X.A.depth + 4 → A'.units ≤ X.A.units + 9 → ∀ (pins : List (Addr × Obj)) (σ : L2.St) (s : Shared) (H : Hp) (b : Addr) (Q : VK), Inv X pins σ H s → SPx F.K F.g fn [V.ref b] H Q (fun _ _ _ => False) →
    wpAny (model X.prog X.w) A' (call (.ref fS) [.ref b]) (EP X pins σ Q) X.xe s
section
variable {X : Cx} {F : Fx} {C m : Str} {fn : Fn} {fS : Addr} {fd : FuncData} {k : Nat} {a : Addr}
theorem ownM_Z (hs : PySem.W.findIn F.K (.ref (F.g C)) m = some (some (.ref fS))) (hf : PySem.W.isFn F.K (.ref fS) = true) {sp : Addr → Sp} (G : FnZ true X.prog X.w X.K X.mg X.base k fS fd ["self"] sp) (hsp : sp a = SPx F.K F.g fn) (hh : X.A.handled = some (.ref a)) (hr : L2H.RoomH (k + 4) X.A) (hb : Binds X.K fd ["self"] []) : OwnM X F m C fn :=
  ⟨fS, hs, hf, fun A' h1 h2 h3 h4 pins σ s H b Q I h => by
    have e0 : Env0 X.prog X.w X.K X.mg X.base A' X.stack s H := { I.env0 with frames := h2.trans I.env0.frames }
    have hsp' : sp a [V.ref b] H Q (fun _ _ _ => False) := by rw [hsp]; exact h
    refine wpAny_call (codeAny_mono (G.run a A' X.stack s H ⟨[.ref b], []⟩ [.ref b] [V.ref b] Q (fun _ _ _ => False) ⟨by have := hr.dp; omega, by have := hr.un; omega⟩ (.inl rfl) (h1.trans hh) e0 (by simpa using hb s [.ref b] I.kIn rfl) (.cons rfl .nil) hsp') fun r s' hq => ?_)
    cases r with
    | error er =>
      obtain ⟨_, _, _, _, _, _, _, _, _, _, _, _, z⟩ := hq
      exact z.elim
    | ok fl =>
      cases fl with
      | ret u => exact I.after hq
      | next => exact False.elim hq
      | brk => exact False.elim hq
      | cont => exact False.elim hq⟩
theorem ownM_O (hs : PySem.W.findIn F.K (.ref (F.g C)) m = some (some (.ref fS))) (hf : PySem.W.isFn F.K (.ref fS) = true) (G : FnO X.prog X.w X.K X.mg X.base k fS fd ["self"] (SPx F.K F.g fn)) (hr : Room (k + 4) X.A) (hb : Binds X.K fd ["self"] []) : OwnM X F m C fn :=
  ⟨fS, hs, hf, fun A' h1 h2 h3 h4 pins σ s H b Q I h => by
    have e0 : Env0 X.prog X.w X.K X.mg X.base A' X.stack s H := { I.env0 with frames := h2.trans I.env0.frames }
    refine wpAny_call (codeAny_mono (G.run A' X.stack s H ⟨[.ref b], []⟩ [.ref b] [V.ref b] Q (fun _ _ _ => False) ⟨h1.trans hr.hd, by have := hr.dp; omega, by have := hr.un; omega⟩ e0 (by simpa using hb s [.ref b] I.kIn rfl) (.cons rfl .nil) h) fun r s' hq => ?_)
    cases r with
    | error er =>
      obtain ⟨_, _, _, _, _, _, _, _, _, _, _, _, z⟩ := hq
      exact z.elim
    | ok fl =>
      cases fl with
      | ret u => exact I.after hq
      | next => exact False.elim hq
      | brk => exact False.elim hq
      | cont => exact False.elim hq⟩
def opFmtI (C : Str) (fn : Fn) : Op1 := fun d st => match insD st d with
  | some (C', _) => if C' = C then strR (optR (fn [d] st)) else none
  | none => none
theorem e_fmtI {e : Expr} {i : IE} {pos : Pos} (hk : X.K = F.K) (hu : X.A.units + 64 < cLine) (T : FmtO F.K (F.g C)) (O1 : OwnM X F "__str__" C fn) (he : PE X e (TI F i)) : PE X (.FormattedValue e (-1) none pos) (TI F (iUn (opFmtI C fn) i)) := by
  refine ⟨fun pins s σ H Q I h => ?_⟩
  refine wpAny_FormattedValue_plain (thn (he.run pins s σ H _ I (TX.bind (k := fun a env s1 => ofO (opFmtI C fn a s1)) h)) fun v s1 ⟨x, H1, I1, rx, W, st, env, d, A, r, p⟩ => ?_)
  replace p := PostO.of p
  unfold opFmtI at p
  split at p
  · rename_i C' fs hd
    split at p
    · rename_i hC
      subst hC
      obtain ⟨fS, hs, hf, ans⟩ := O1
      obtain ⟨q, dx, gs, rfl, ea, _⟩ := insD_at A.sim hd r
      cases rx
      rw [A.g, A.h] at ea
      obtain ⟨mA, O, _⟩ := ins_get I1.hok ea
      obtain ⟨od, JI, _⟩ := O.look
      have T1 := T.fm
      have T2 := T.ob
      rw [← hk] at hs hf T1 T2
      have p2 : PostE W (fn [d] st) (fun z H' => (∃ y, z = .str y) ∧ Q z H') (fun _ _ _ => False) := by
        cases q2 : fn [d] st with
        | ok d2 s2 =>
          rw [q2] at p
          cases d2 with
          | str y =>
            intro ρ' H' b x S r
            cases r
            exact ⟨⟨_, rfl⟩, p ρ' H' _ x S (.str _)⟩
          | _ => exact p.elim
        | exc D fs s2 => rw [q2] at p; exact p.elim
        | bad => rw [q2] at p; exact p.elim
      have sp : SPx F.K F.g fn [V.ref q] H1 (fun z H' => (∃ y, z = .str y) ∧ Q z H') (fun _ _ _ => False) := ⟨W, st, [d], A.k, A.g, A.h, A.sim, .cons r .nil, p2⟩
      have I2 := I1.tok (s1.toks + 1)
      refine PySem.W.kfo_fieldS (by show X.A.units + 1 < cLine; omega) I1.kIn JI T1 T2 hs hf (wpAny_mono (ans X.A.in1 rfl rfl (by show X.A.depth ≤ _; omega) (by show X.A.units + 1 ≤ _; omega) pins σ _ H1 q _ I2 sp) (fun v s2 h => ?_) fun _ _ y => y)
      obtain ⟨x, H', I', rx, ⟨y, rfl⟩, qx⟩ := h
      obtain ⟨t, rfl⟩ := rx
      exact ⟨.str y, H', I', ⟨t, rfl⟩, qx⟩
    · exact p.elim
  · exact p.elim
end
/-! ### tuple * int, 0 too -/
section
variable {X : Cx} {F : Fx} {W : Vw} {st : Sto}
theorem tuple_mul0 (l : Addr) (items : Array Value) (n : Nat) (dd : Option Addr) (sl : Array (Option Value)) (u : Tok) (c1 : items.isEmpty = false) :
    Meets (Builtin.«tuple.__mul__» ⟨[.ref l, .int 0 u], []⟩) (fun _ R s => s.heap.get? l = some { cls := .type "tuple", dict := dd, data := .seq items n, slots := sl } ∧ R (.ok (.ret (Value.ref s.heap.objs.size))) { s with heap := s.heap.push { cls := Value.type "tuple", data := Data.seq #[] }, toks := s.toks }) :=
  .of_wp fun prog w A R s h => by
    obtain ⟨hp, g, d, tk, os⟩ := s
    obtain ⟨hl, h⟩ := h
    have f1 := AutoSeq1.idx_int
    have c2 : (items.isEmpty || ((0 : Int) == 1)) = false := by rw [c1]; rfl
    wp_walk using wpAny_loadPart' hl
    repeat (first
      | (refine wpAny_ite_false (decide_eq_false (by simp)) ?_; wp_walk using wpAny_loadPart' hl)
      | (refine wpAny_ite_false (decide_eq_false (by rw [c2]; exact Bool.false_ne_true)) ?_; wp_walk using wpAny_loadPart' hl)
      | (refine wpAny_ite_true (decide_eq_true (by simp)) ?_; wp_walk using wpAny_loadPart' hl)
      | (refine wpAny_ite_true (by simp) ?_; wp_walk using wpAny_loadPart' hl))
    all_goals first | exact ⟨_, rfl, h⟩ | skip
theorem op_rep0 : OpR X (binaryOp .Mult) (fun x y H Q => ∃ l xs, x = .ref l ∧ y = .int 0 ∧ SqT X.K H l xs ∧ xs ≠ [] ∧ ∀ p, H p = none → Q (.ref p) (upd H p (.tup []))) := by
  intro pins s σ H x y v u Q I rx ry h
  obtain ⟨l, xs, rfl, rfl, hT, hne, q⟩ := h
  cases rx
  obtain ⟨t, rfl⟩ := ry
  obtain ⟨its, r, ⟨⟨cls, dd, data, sl⟩, ho, hc, n, hd⟩, hs⟩ := I.tuple hT
  simp only at hc hd
  subst hc hd
  have hle : its.length = xs.length := r.length.symm
  have hi : its.toArray.isEmpty = false := by
    cases its with
    | nil => exact absurd (List.eq_nil_of_length_eq_zero hle.symm) hne
    | cons a b => rfl
  refine wpAny_binaryOp_repeat_ref (T := "tuple") (U := "int") (by decide) ⟨_, ho, rfl⟩ (fun s' => typeIs_int s' 0 t) noFill_tuple_mul F.fills_int_mul F.slot_int_rmul repeat_tuple F.slot_int_index.lookup
    (call_meets F.slot_int_rmul (typeIs_int s 0 t) F.entry_int_rmul (F.args_int_rmul_2 _ _) (int_rmul_tuple 0 t l its.toArray n dd sl)
      ⟨ho, rfl, ⟨_, ho, rfl⟩, call_meets F.slot_tuple_mul ⟨_, ho, rfl⟩ F.entry_tuple_mul (F.args_tuple_mul_2 _ _) (tuple_mul0 l its.toArray n dd sl t hi) ⟨ho, ?_⟩⟩)
  refine ⟨.ref s.heap.objs.size, _, I.laid (t' := s.toks) (o := .tup []) (fun b ob q => Heap.get?_push_of_some _ q) (Nat.le_refl _) ?_, rfl, q _ (I.hok.fresh (Nat.le_refl _))⟩
  exact ⟨Nat.zero_le _, _, .nil, IsTup.new _ _⟩
def opMulZ : Op2 := fun a b st => match a, b with
  | .tup (x :: xs), .int 0 => some (.tup [], st)
  | a, b => opMulU a b st
theorem or_mulZ (hk : X.K = F.K) : OpR X (binaryOp .Mult) (r2 F opMulZ) := OpR.imp (OpR.or op_rep0 (or_mulU (F := F) hk)) fun x y H Q ⟨W, st, a, b, I, ra, rb, p⟩ => by
  unfold opMulZ at p
  split at p
  · rename_i d ds
    cases rb
    have eH := I.h
    subst eH
    obtain ⟨q, ys, rfl, t1, r⟩ := tup_at ra
    rw [I.k, ← hk] at t1
    refine .inl ⟨q, ys, rfl, rfl, t1, fun e => ?_, fun z hz => p.tuple I.sim .nil hz⟩
    subst e
    cases r
  · exact .inr ⟨W, st, _, _, I, ra, rb, p⟩
/-! ### t[i:j], the whole too -/
def opSlA (a : D) (lo hi : Option Int) (st : Sto) : Option (D × Sto) := match a with
  | .tup xs => some (.tup (cutL xs lo hi), st)
  | a => opSl a lo hi st
theorem cut_whole {xs : List D} {lo hi : Option Int} (h : HT.sIx xs.length 0 lo = 0 ∧ HT.sIx xs.length xs.length hi = xs.length) : cutL xs lo hi = xs := by
  unfold cutL
  rw [h.1, h.2]
  simp
theorem sr_slA (hk : X.K = F.K) : SlR X (fun x lo hi H Q => ∃ W st a, In F W st H ∧ RV W a x ∧ PostO W (opSlA a lo hi st) Q) := SlR.imp (sl_tupA.or (sr_sl (F := F) hk)) fun x lo hi H Q ⟨W, st, a, I, ra, p⟩ => by
  unfold opSlA at p
  split at p
  · have eH := I.h
    subst eH
    obtain ⟨q, ys, rfl, hs, ry⟩ := tup_at ra
    rw [I.k, ← hk] at hs
    refine .inl ⟨q, ys, rfl, hs, fun hw => ?_, fun _ l hl => p.tuple I.sim (ry.cut lo hi) hl⟩
    rw [← ry.length] at hw
    rw [cut_whole hw] at p
    exact p.now I.sim ra
  · exact .inr ⟨W, st, _, I, ra, p⟩
def iSlA (i : IE) (lo hi : IO) : IE := fun env st => (i env st).bind fun a s => (lo env s).bind fun l s1 => (hi env s1).bind fun u s2 => ofO (opSlA a l u s2)
theorem e_slA {a : Expr} {lo hi : Option Expr} {i : IE} {l u : IO} {p2 pos : Pos} (hk : X.K = F.K) (ha : PE X a (TI F i)) (hl : PO X lo (TO_ F l)) (hu : PO X hi (TO_ F u)) : PE X (.Subscript a (.Slice lo hi none p2) pos) (TI F (iSlA i l u)) := PE.imp (pe_slice (sr_slA hk) ha hl hu) fun σ H Q h =>
  (TX.bind (k := fun a env s => (l env s).bind fun x s1 => (u env s1).bind fun y s2 => ofO (opSlA a x y s2)) h).mono fun x H1 h1 =>
    (TK.bind (i := l) (k := fun a x env s1 => (u env s1).bind fun y s2 => ofO (opSlA a x y s2)) (fun x r => RV.mono x r) h1).mono fun y H2 h2 =>
      (TK.bind (P := fun W (x : D × Option Int) (y : V × Option Int) => RV W x.1 y.1 ∧ PN W x.2 y.2) (i := u) (k := fun a y env s2 => ofO (opSlA a.1 a.2 y s2)) (fun x r => ⟨RV.mono x r.1, r.2⟩) (TK.pair (P := RV) (P' := PN) (k := fun a x env s1 => (u env s1).bind fun y s2 => ofO (opSlA a x y s2)) h2)).mono fun z H3 ⟨W, st, env, a, b, A, ra, rb, p⟩ => by
        cases (show b = z from rb)
        obtain ⟨ra, e⟩ := ra
        cases (show a.2 = y from e)
        exact ⟨W, st, a.1, A.in_, ra, PostO.of p⟩
/-! ### int(text) -/
def opIntS : OpN := fun ds st => match ds with
  | [.str a] => if a.length ≤ 640 then (PySem.intText? a).map fun n => (.int n, st) else none
  | _ => none
theorem cr_intS : CallR X (.type "int") (rN F opIntS) := CallR.imp call_int_str fun xs H Q ⟨W, st, ds, I, r, p⟩ => by
  unfold opIntS at p
  split at p
  · split at p
    · rename_i a c
      obtain ⟨v, rfl, rv⟩ := rv1 r
      cases rv
      cases e : PySem.intText? a with
      | none => rw [e] at p; exact p.elim
      | some n =>
        rw [e] at p
        exact ⟨a, n, rfl, e, c, I.now p (.int _)⟩
    · exact p.elim
  · exact p.elim
end
end M
/-! M114: replace where nothing is to be replaced; isinstance(x, (T, U, ..)); range(i, j, -1) where an exception is handled; what a def with several clauses makes of a call. -/
namespace M
open PySem PySem.Spec PyProof.Rows L2
open He (eqO eqO_ok ba)
/-! ### x.replace('a', 'b'), 'a' not in x -/
theorem call_replace0 {prog : Program} {w : World} {A : Around} {E : Value → Shared → Prop} {s : Shared} {x y z : Str} {t u v : Tok} {Q : Value → Shared → Prop} (hc : (Builtin.Str.occurrences x y 0 x.length (x.length + 1)).isEmpty = true) (hq : ∀ t' k, Q (.str x t') { s with toks := k }) : wpAny (model prog w) A (call (.builtin "str.replace") [.str x t, .str y u, .str z v]) Q E s := by
  have h2 : ((Builtin.Str.occurrences x y 0 x.length (x.length + 1)).isEmpty || (y.length == 0 && z.length == 0)) = true := by rw [hc] <;> rfl
  refine call_gives F.slot_str_replace (typeIs_str _ _ _) F.entry_str_replace (F.args_str_replace_3 _ _ _) (PySem.gives_str_replace x y z t u v fun h => by rw [h2] at h; cases h) ?_
  rw [if_pos h2]
  exact hq t s.toks
def opRepl0 (y : Str) : Op1 := fun a st => match a with
  | .str x => if (Builtin.Str.occurrences x y 0 x.length (x.length + 1)).isEmpty = true then some (.str x, st) else none
  | _ => none
section
variable {X : Cx} {F : Fx} {o : Expr} {i : IE} {y z : Str} {j k : Nat} {c0 c1 apos pos : Pos}
theorem e_repl0 (ho : PE X o (TI F i))
    (hst : starEach [.Constant (.str y) j c0, .Constant (.str z) k c1] X.env = [(false, eval (.Constant (.str y) j c0) X.env), (false, eval (.Constant (.str z) k c1) X.env)] := by rfl)
    (hbase : attributeBase o "replace" X.env (eval o X.env) = eval o X.env := by rfl) (hline : (apos.endLine == pos.line) = true := by rfl) :
    PE X (.Call (.Attribute o "replace" apos) [.Constant (.str y) j c0, .Constant (.str z) k c1] [] pos) (TI F (iUn (opRepl0 y) i)) := by
  refine ⟨fun pins s σ H Q I h => ?_⟩
  refine PySem.Call_method2 hbase hst hline (thn (ho.run pins s σ H _ I (TX.bind (k := fun a env s1 => ofO (opRepl0 y a s1)) h)) fun v s1 ⟨x, H1, I1, rx, W, st, env, d, A, r, p⟩ => ?_)
  replace p := PostO.of p
  unfold opRepl0 at p
  split at p
  · split at p
    · rename_i xs c
      cases r
      obtain ⟨tx, rfl⟩ := rx
      refine ⟨"str", _, PySem.F.plainAttrs_str, PySem.F.slot_str_replace, PySem.F.type_str_replace, typeIs_str _ _ _, (fun _ e => nomatch e), Calls.callWith_builtin rfl (Calls.evalArgs_plain (Calls.spliced_cons ?_))⟩
      refine Calls.Constant_str (Calls.spliced_cons (Calls.Constant_str (Calls.spliced_nil ?_)))
      exact call_replace0 c fun t' k => ⟨.str xs, H1, I1.tok k, ⟨t', rfl⟩, A.in_.now p (.str _)⟩
    · exact p.elim
  · exact p.elim
end
/-! ### isinstance(x, (T, U, ..)), all of them built in -/
def rIsiS (K : PySem.W.Frag) : List V → Hp → VK → Prop := fun xs H Q => ∃ (x : V) (tp : Addr) (cs : List V) (t : Value) (us : List Value) (b : Bool), xs = [x, .ref tp] ∧ SqT K H tp cs ∧ Paired L2.ClsV cs us ∧ TyX K H x t ∧ PySem.W.kitAny K t us = some b ∧ Q (.bl b) H
def kitAnyB (a : String) : List String → Option Bool
  | [] => some false
  | b :: r => match kitB a b with
    | some true => some true
    | some false => kitAnyB a r
    | none => none
theorem kitAnyB_ok {K : PySem.W.Frag} {a : String} : ∀ {cs : List String} {b : Bool}, kitAnyB a cs = some b → PySem.W.kitAny K (.type a) (cs.map Value.type) = some b
  | [], _, h => h
  | c :: cs, b, h => by
    unfold kitAnyB at h
    split at h
    · rename_i e
      cases h
      exact kitAny_cons (kit_ty e) (fun z => by cases z) fun _ => rfl
    · rename_i e
      exact kitAny_cons (kit_ty e) (fun _ => kitAnyB_ok h) fun z => by cases z
    · cases h
def tysD : List D → Option (List String)
  | [] => some []
  | .ty n :: r => (tysD r).map (n :: ·)
  | _ :: _ => none
def opIsiS : OpN := fun ds st => match ds with
  | [d, .tup cs] => match tagD st d, tysD cs with
    | some (.ty n), some ts => (kitAnyB n ts).map fun b => (.bl b, st)
    | _, _ => none
  | _ => none
section
variable {X : Cx} {F : Fx}
theorem call_isiS : CallR X (.builtin "isinstance") (rIsiS X.K) := by
  intro pins s σ H xs us Q I r h
  obtain ⟨x, tp, cs, t, ws, b, rfl, hT, k, ty, e, q⟩ := h
  obtain ⟨u1, u2, rfl, r1, r2⟩ := vals2 r
  cases (show u2 = Value.ref tp from r2)
  obtain ⟨P, Z, p, hx⟩ := kit_of I r1 ty
  obtain ⟨its, rv, ⟨⟨cls, dd, data, sl⟩, ho, hc, n, hd⟩, hs⟩ := I.tuple hT
  simp only at hc hd
  subst hc hd
  have e3 := L2.ClsV.all k rv
  subst e3
  exact PySem.W.kia_tup Z I.kIn p ho e hx fun tk => ⟨.bl b, H, I.tok tk, rfl, q⟩
theorem tys_rel {W : Vw} : ∀ {cs : List D} {vs : List V} {ts : List String}, tysD cs = some ts → RVs W cs vs → Paired L2.ClsV vs (ts.map Value.type)
  | [], _, _, h, .nil => by cases h; exact .nil
  | .ty n :: r, _, _, h, .cons q rs => by
    have h' : (tysD r).map (n :: ·) = some _ := h
    cases e : tysD r with
    | none => rw [e] at h'; cases h'
    | some ts =>
      rw [e] at h'
      cases h'
      cases q
      exact .cons (by first | exact .ty _ | constructor) (tys_rel e rs)
  | .non :: _, _, _, h, _ => by cases h
  | .bl _ :: _, _, _, h, _ => by cases h
  | .int _ :: _, _, _, h, _ => by cases h
  | .str _ :: _, _, _, h, _ => by cases h
  | .tup _ :: _, _, _, h, _ => by cases h
  | .lst _ :: _, _, _, h, _ => by cases h
  | .ref _ :: _, _, _, h, _ => by cases h
  | .glo _ :: _, _, _, h, _ => by cases h
  | .dct _ _ :: _, _, _, h, _ => by cases h
  | .exc _ _ :: _, _, _, h, _ => by cases h
  | .obj _ _ :: _, _, _, h, _ => by cases h
  | .tpl _ :: _, _, _, h, _ => by cases h
  | .adr _ _ _ _ _ :: _, _, _, h, _ => by cases h
theorem cr_isiS (hk : X.K = F.K) : CallR X (.builtin "isinstance") (rN F opIsiS) := CallR.imp call_isiS fun xs H Q ⟨W, st, ds, J, rd, p⟩ => by
  unfold opIsiS at p
  split at p
  · rename_i d cs
    split at p
    · rename_i n ts h1 h2
      obtain ⟨v1, v2, rfl, rv1, rv2⟩ := rv2 rd
      cases e : kitAnyB n ts with
      | none => rw [e] at p; exact p.elim
      | some b =>
        rw [e] at p
        obtain ⟨q, ys, rfl, hs, ry⟩ := tup_at rv2
        have hs' := hs
        rw [J.k, J.h, ← hk] at hs'
        exact ⟨v1, q, ys, _, _, b, rfl, hs', tys_rel h2 ry, tag_ty hk J h1 rv1, kitAnyB_ok e, J.now p (.bl b)⟩
    · exact p.elim
  · exact p.elim
end
/-! ### range(i, j, -1) where an exception is handled -/
theorem turn_rangeCZ {P : Program} {w : World} {K : PySem.W.Frag} {tg : Expr} (it : Addr) (lo c : Int) (n : Nat) : TurnZ P w K tg (Itc lo c n) [it] it (fun i h => IsRangeIter h it (lo + (i : Nat) * c) ((n : Int) - (i : Nat)) c) where
  mem := by simp
  obj := fun i h st b hb => by
    have e : b = it := by simpa using hb
    subst e
    exact ⟨_, st, fun v z => nomatch z⟩
  keep := fun i h h' st k => k it (by simp) _ st
  item := by
    intro X hP hw hK i pins s σ H E I hf st hg
    subst hP hw hK
    obtain ⟨f0, f1, f2, f3, f4, f5⟩ := hf it (by simp)
    have hlt : i < n := hg
    refine wpAny_pyNext_range_item st (by omega) fun h' st' sb => ?_
    have st2 : IsRangeIter h' it (lo + ((i + 1 : Nat) : Int) * c) ((n : Int) - ((i + 1 : Nat) : Int)) c := by
      have e1 : lo + ((i : Nat) : Int) * c + c = lo + ((i + 1 : Nat) : Int) * c := by rw [Int.natCast_add, Int.add_mul, ← Int.add_assoc]; simp
      have e2 : (n : Int) - ((i : Nat) : Int) - 1 = (n : Int) - ((i + 1 : Nat) : Int) := by omega
      rw [← e1, ← e2]
      exact st'
    have I1 : Inv X pins σ H { s with heap := h', toks := s.toks + 1 } := I.turned (fun b o hb e => (sb.2 b hb).trans e) f0 f1 f3 f4 f5
    exact ⟨_, rfl, go_of (s := { s with heap := h', toks := s.toks + 1 }) (n := "range_iterator") st2 rfl rfl (by decide) ⟨.int (lo + (i : Nat) * c), H, I1, ⟨s.toks, rfl⟩, ⟨rfl, rfl⟩, st2, fun b hb => (hf b hb).1⟩⟩
  done := by
    intro X hP hw hK x1 i pins s σ H E hot hx1 I hf st hg
    subst hP hw hK
    obtain ⟨f0, f1, f2, f3, f4, f5⟩ := hf it (by simp)
    exact HotX.pyNext_range_end_hot hot st (by have : n ≤ i := hg; omega) fun h' eb => ⟨rfl, I.turned (t' := s.toks) (fun b o _ e => eb b o e) f0 f1 f3 f4 f5⟩
section
variable {X : Cx} {F : Fx} {tg : Expr}
theorem piz_range3 {a b c : Expr} {ta : TA} {p pos : Pos} (hg : Gl X "range") (hm : X.mg "range" = none) (ha : PA X [a, b, c] ta)
    (hs : starEach [a, b, c] X.env = (false, eval a X.env) :: starEach [b, c] X.env := by rfl) (hpl : (backTo pos (starEach [b, c] X.env)).any (·.1) = false := by rfl) :
    PIZ X tg (.Call (.Name "range" p) [a, b, c] [] pos) (iRng3 ta) := by
  refine ⟨fun pins s σ H R I h => ?_⟩
  refine Call_ (ld_blt I hg hm boot_range (PyProof.Rows.callWith_type1 (thn (ha.run pos pins s σ H _ I h) fun us s1 ⟨vs, H1, I1, r1, q1⟩ => ?_) hs hpl))
  obtain ⟨i, j, k, n, e, ⟨c0, c1, c2, c3⟩, q⟩ := q1
  subst e
  cases r1 with
  | cons r rr =>
    cases rr with
    | cons r' rr =>
      cases rr with
      | cons r'' rr =>
        cases rr
        obtain ⟨t, rfl⟩ := r
        obtain ⟨t', rfl⟩ := r'
        obtain ⟨t'', rfl⟩ := r''
        refine call_range_3 c0 ?_ (.inl (PyProof.noPylong_small c1))
        refine wpAny_pyIter_range (IsRange.new ..) c2 ?_
        have I2 : Inv X pins σ H1 { s1 with heap := s1.heap.push { cls := .type "range", data := .fields #[.int i t, .int j t', .int k t''] } } := I1.kept (t' := s1.toks) fun b o e => Heap.get?_push_of_some _ e
        refine ⟨_, [_], _, _, H1, rfl, I2.kept (t' := s1.toks) fun b o e => Heap.get?_push_of_some _ e, turn_rangeCZ _ i k n, ?_, fun b hb => ?_, q⟩
        · have e1 : i + ((0 : Nat) : Int) * k = i := by simp
          have e2 : (n : Int) - ((0 : Nat) : Int) = Builtin.Range.rangeSize i j k := by rw [c3]; simp
          rw [e1, e2]
          exact Heap.get?_push_size _ rfl
        · have e : b = _ := List.mem_singleton.mp hb
          subst e
          exact I2.fpOk (Nat.le_refl _) (I2.hok.fresh (Nat.le_refl _))
theorem w_rng3Z {a b c : Expr} {p pos : Pos} {i : IA} (hg : Gl X "range") (hm : X.mg "range" = none) (ha : PA X [a, b, c] (TA_ F i))
    (hs : starEach [a, b, c] X.env = (false, eval a X.env) :: starEach [b, c] X.env := by rfl) (hpl : (backTo pos (starEach [b, c] X.env)).any (·.1) = false := by rfl) :
    PIZ X tg (.Call (.Name "range" p) [a, b, c] [] pos) (TW F (wRng3 i)) := PIZ.imp (piz_range3 hg hm ha hs hpl) fun σ H Q h =>
  (TX.bind (k := fun d env s => kRng3 d s) h).mono fun x H1 ⟨W, s, env, d, A, r, p⟩ => by
    have p' : Post W ItOk (kRng3 d s) Q (F.at_ σ) := p
    unfold kRng3 at p'
    split at p'
    · split at p'
      · rename_i cc
        obtain ⟨v, u, z, rfl, rv, ru, rz⟩ := rv3' r
        cases rv
        cases ru
        cases rz
        have q := p' W.ρ W.H _ Ext.refl A.sim itok_dn
        rw [A.h] at q
        exact ⟨_, _, _, _, rfl, RgC.neg cc.1 cc.2.1 cc.2.2.1 cc.2.2.2, q⟩
      · exact p'.elim
    · exact p'.elim
end
/-! ### try: act() / except A as e: return .. / except B: return .. / return .. -/
/-- the clause's suite asks nothing of what was handed over -/
def ClOk (c : Cl Str IS) : Prop := ∃ A : IE, c.su = sRet A ∧ (∀ (a a' : Option D) (C : Str) (fs : List (Str × D)) (s : Sto), A [a, some (.exc C fs)] s = A [a', some (.exc C fs)] s) ∧ (∀ (a a' : Option D) (s : Sto), A [a, none] s = A [a', none] s) ∧ (c.at_ = some 1 ∨ c.at_ = none)
theorem endB_cls {B : IE} {C : Str} {fs : List (Str × D)} {s : Sto} {d : Option D} : ∀ {l : List (Cl Str IS)}, (∀ c ∈ l, ClOk c) → endB (kSeq (sRet B) (goCls l C fs [d, none] s)) = endB (kSeq (sRet B) (goCls l C fs [some .non, none] s))
  | [], _ => rfl
  | c :: l, h => by
    have ih := endB_cls (B := B) (C := C) (fs := fs) (s := s) (d := d) fun x m => h x (List.mem_cons_of_mem _ m)
    obtain ⟨A, e1, e2, e3, e4⟩ := h c List.mem_cons_self
    unfold goCls
    cases c.tst C with
    | none => rfl
    | some b =>
      cases b with
      | false => exact ih
      | true =>
        rcases e4 with e4 | e4
        · rw [e4, e1]
          show endB (kSeq (sRet B) (clrS 1 (liftS (A [d, some (.exc C fs)] s) [d, some (.exc C fs)] fun d s => .ret d s))) = endB (kSeq (sRet B) (clrS 1 (liftS (A [some .non, some (.exc C fs)] s) [some .non, some (.exc C fs)] fun d s => .ret d s)))
          rw [e2 d (some .non)]
          cases A [some .non, some (.exc C fs)] s <;> rfl
        · rw [e4, e1]
          show endB (kSeq (sRet B) (noxS (liftS (A [d, none] s) [d, none] fun d s => .ret d s))) = endB (kSeq (sRet B) (noxS (liftS (A [some .non, none] s) [some .non, none] fun d s => .ret d s)))
          rw [e3 d (some .non)]
          cases A [some .non, none] s <;> rfl
theorem hG_tryM {l : List (Cl Str IS)} {B : IE} (hl : ∀ c ∈ l, ClOk c) (hB : ∀ (a a' : Option D) (s : Sto), B [a, none] s = B [a', none] s) (d : D) (th : D → Sto → R D) (st : Sto) :
    runB (sSeq (sTryM l (sExpr (iTh 0 th))) (sRet B)) 2 1 [d] st = runB (sSeq (sTryM l (sExpr (iTh 0 fun _ _ => th d st))) (sRet B)) 2 1 [.non] [] := by
  show endB (kSeq (sRet B) (kTryM l (liftS (th d st) [some d, none] fun _ s => .nx [some d, none] s))) = endB (kSeq (sRet B) (kTryM l (liftS (th d st) [some .non, none] fun _ s => .nx [some .non, none] s)))
  cases th d st with
  | bad => rfl
  | ok x s =>
    show endB (liftS (B [some d, none] s) [some d, none] fun d s => .ret d s) = endB (liftS (B [some .non, none] s) [some .non, none] fun d s => .ret d s)
    rw [hB (some d) (some .non)]
    cases B [some .non, none] s <;> rfl
  | exc C fs s => exact endB_cls hl
end M
/-! M115: the test of a clause for one class. -/
namespace M
open PySem PySem.Spec PyProof.Rows L2
theorem exmT_ok1 {K : PySem.W.Frag} {c : Str} {tb : List (Str × Bool)} (h : tb.all (exmB K [c]) = true) (C : Str) (b : Bool) (e : exmT tb C = some b) : PySem.W.exmOne K (.ref (He.ga K C)) (.ref (He.ga K c)) = some b := by
  obtain ⟨b1, d1, h1, h2, h3⟩ := PySem.W.exmAny_cons (exmT_ok h C b e)
  cases h2
  rw [Bool.or_false] at h3
  rw [h3]
  exact h1
end M
/-! the program's functions as Lean functions -/
namespace M
open PySem
def B_p_is_whole : IS := (sRet (iAnd (iN (opIsiI ["Ratio"] [] (isaT tl_int)) (aCons (iVar 0) (aCons (iC (.ty "int")) aNil))) (iNot (iN (opIsiI ["Ratio"] [] (isaT tl_bool)) (aCons (iVar 0) (aCons (iC (.ty "bool")) aNil))))))
def p_is_whole : Fn := (runB B_p_is_whole 1 1)
def B_p_Ratio___call__ : IS := (sSeq (sIf (tNot' (tTru (iCall p_is_whole [] (aCons (iVar 1) aNil)))) (sRaise "InvalidCount" 1 ["value"] gCat (aCons (iVar 1) aNil)) sNil)
  sBad)
def p_Ratio___call__ : Fn := (runB B_p_Ratio___call__ 3 2)
def B_p_Ratio___eq__ : IS := (sRet (iAnd (iN (opIsiI ["Ratio"] [] (isaT tl_Ratio)) (aCons (iVar 1) (aCons (iC (.glo "Ratio")) aNil))) (iAnd (iBin (opEq false) (iUn (opGet ["Ratio"] "top") (iVar 0)) (iUn (opGet ["Ratio"] "top") (iVar 1))) (iBin (opEq false) (iUn (opGet ["Ratio"] "bottom") (iVar 0)) (iUn (opGet ["Ratio"] "bottom") (iVar 1))))))
def p_Ratio___eq__ : Fn := (runB B_p_Ratio___eq__ 2 2)
def B_p_is_row : IS := (sRet (iAnd (iN (opIsiI ["Ratio"] [] (isaT tl_tuple)) (aCons (iVar 0) (aCons (iC (.ty "tuple")) aNil))) (iAnd (iBin (opEq true) (iVar 0) (iN opTup aNil)) (iN opAll (aCons (iCompF (wAny (iVar 0)) (.one 1) tYes' (iCall p_is_whole [] (aCons (iVar 1) aNil))) aNil)))))
def p_is_row : Fn := (runB B_p_is_row 2 1)
def B_p_divisor_of : IS := (sSeq (sPar 0 1 (aCons (iN opAbs (aCons (iVar 0) aNil)) (aCons (iN opAbs (aCons (iVar 1) aNil)) aNil)))
  (sSeq (sWhile (fun _ _ => 60) (tBl (iBin (opEq true) (iVar 1) (iC (.int 0)))) (sPar 0 1 (aCons (iVar 1) (aCons (iBin opMod (iVar 0) (iVar 1)) aNil))))
  (sRet (iVar 0))))
def p_divisor_of : Fn := (runB B_p_divisor_of 2 2)
def B_p_plain : IS := (sSeq (sSet 1 (iC (.int 0)))
  (sSeq (sFor (wAny (iVar 0)) (gVar 2) (sSet 1 (iCall p_divisor_of [] (aCons (iVar 1) (aCons (iVar 2) aNil)))))
  (sRet (iN opTuple (aCons (iCompF (wAny (iVar 0)) (.one 2) tYes' (iBin opFdiv (iVar 2) (iVar 1))) aNil)))))
def p_plain : Fn := (runB B_p_plain 3 1)
def B_p_trimmed : IS := (sSeq (sSet 1 (iN opLen (aCons (iVar 0) aNil)))
  (sSeq (sWhile (fun _ _ => 60) (tAnd' (tBl (iBin opGt (iVar 1) (iC (.int 1)))) (tBl (iBin (opEq false) (iBin opIx (iVar 0) (iBin opSub (iVar 1) (iC (.int 1)))) (iC (.int 0))))) (sSet 1 (iBin opSub (iVar 1) (iC (.int 1)))))
  (sRet (iN opTuple (aCons (iSlA (iVar 0) oNone (oSome (iVar 1))) aNil)))))
def p_trimmed : Fn := (runB B_p_trimmed 2 1)
def B_p_row_sum : IS := (sSeq (sSet 3 (iN opMax (aCons (iN opLen (aCons (iVar 0) aNil)) (aCons (iN opLen (aCons (iVar 1) aNil)) aNil))))
  (sSeq (sPar 4 5 (aCons (iBin opAdd (iN opListF (aCons (iVar 0) aNil)) (iBin opMul (iN opLstF (aCons (iC (.int 0)) aNil)) (iBin opSub (iVar 3) (iN opLen (aCons (iVar 0) aNil))))) (aCons (iBin opAdd (iN opListF (aCons (iVar 1) aNil)) (iBin opMul (iN opLstF (aCons (iC (.int 0)) aNil)) (iBin opSub (iVar 3) (iN opLen (aCons (iVar 1) aNil))))) aNil)))
  (sRet (iCall p_trimmed [] (aCons (iCompF (wZipL (aCons (iVar 4) (aCons (iVar 5) aNil))) (.tup [6, 7]) tYes' (iBin opAdd (iVar 6) (iBin opMul (iVar 2) (iVar 7)))) aNil)))))
def p_row_sum : Fn := (runB B_p_row_sum 8 3)
def B_p_rest_of : IS := (sSeq (sSet 2 (iVar 0))
  (sSeq (sWhile (fun _ _ => 60) (tAnd' (tBl (iBin opGe (iN opLen (aCons (iVar 2) aNil)) (iN opLen (aCons (iVar 1) aNil)))) (tBl (iBin (opEq true) (iVar 2) (iN opTup (aCons (iC (.int 0)) aNil))))) (sSeq (sSet 3 (iBin opMulZ (iN opTup (aCons (iC (.int 0)) aNil)) (iBin opSub (iN opLen (aCons (iVar 2) aNil)) (iN opLen (aCons (iVar 1) aNil)))))
  (sSeq (sSet 4 (iN opTuple (aCons (iCompF (wAny (iVar 2)) (.one 5) tYes' (iBin opMul (iVar 5) (iBin opIx (iVar 1) (iUn opNeg (iC (.int 1)))))) aNil)))
  (sSet 2 (iCall p_row_sum [] (aCons (iVar 4) (aCons (iBin opAdd (iVar 3) (iVar 1)) (aCons (iBin opSub (iC (.int 0)) (iBin opIx (iVar 2) (iUn opNeg (iC (.int 1))))) aNil))))))))
  (sRet (iIf (tBl (iBin (opEq false) (iVar 2) (iN opTup (aCons (iC (.int 0)) aNil)))) (iVar 2) (iCall p_plain [] (aCons (iVar 2) aNil))))))
def p_rest_of : Fn := (runB B_p_rest_of 6 2)
def B_p_common_row : IS := (sSeq (sPar 2 3 (aCons (iCall p_plain [] (aCons (iVar 0) aNil)) (aCons (iCall p_plain [] (aCons (iVar 1) aNil)) aNil)))
  (sSeq (sWhile (fun _ _ => 60) (tBl (iBin (opEq true) (iVar 3) (iN opTup (aCons (iC (.int 0)) aNil)))) (sPar 2 3 (aCons (iVar 3) (aCons (iCall p_rest_of [] (aCons (iVar 2) (aCons (iVar 3) aNil))) aNil))))
  (sRet (iVar 2))))
def p_common_row : Fn := (runB B_p_common_row 4 2)
def B_p_quotient : IS := (sSeq (sPar 2 3 (aCons (iN opTup (aCons (iC (.int 0)) aNil)) (aCons (iVar 0) aNil)))
  (sSeq (sWhile (fun _ _ => 60) (tBl (iBin (opEq true) (iVar 3) (iN opTup (aCons (iC (.int 0)) aNil)))) (sSeq (sPar 4 5 (aCons (iBin opSub (iN opLen (aCons (iVar 3) aNil)) (iN opLen (aCons (iVar 1) aNil))) (aCons (iBin opFdiv (iBin opIx (iVar 3) (iUn opNeg (iC (.int 1)))) (iBin opIx (iVar 1) (iUn opNeg (iC (.int 1))))) aNil)))
  (sSeq (sSet 2 (iCall p_row_sum [] (aCons (iVar 2) (aCons (iBin opAdd (iBin opMulZ (iN opTup (aCons (iC (.int 0)) aNil)) (iVar 4)) (iN opTup (aCons (iVar 5) aNil))) (aCons (iC (.int 1)) aNil)))))
  (sSet 3 (iCall p_row_sum [] (aCons (iVar 3) (aCons (iBin opAdd (iBin opMulZ (iN opTup (aCons (iC (.int 0)) aNil)) (iVar 4)) (iVar 1)) (aCons (iBin opSub (iC (.int 0)) (iVar 5)) aNil))))))))
  (sRet (iVar 2))))
def p_quotient : Fn := (runB B_p_quotient 6 2)
def B_p_lowest : IS := (sSeq (sIf (tBl (iBin (opEq false) (iVar 0) (iN opTup (aCons (iC (.int 0)) aNil)))) (sRet (iN opTup (aCons (iN opTup (aCons (iC (.int 0)) aNil)) (aCons (iN opTup (aCons (iC (.int 1)) aNil)) aNil)))) sNil)
  (sSeq (sSet 2 (iCall p_common_row [] (aCons (iVar 0) (aCons (iVar 1) aNil))))
  (sSeq (sPar 0 1 (aCons (iCall p_quotient [] (aCons (iVar 0) (aCons (iVar 2) aNil))) (aCons (iCall p_quotient [] (aCons (iVar 1) (aCons (iVar 2) aNil))) aNil)))
  (sSeq (sSet 3 (iC (.int 0)))
  (sSeq (sFor (wAny (iBin opAdd (iVar 0) (iVar 1))) (gVar 4) (sSet 3 (iCall p_divisor_of [] (aCons (iVar 3) (aCons (iVar 4) aNil)))))
  (sSeq (sIf (tBl (iBin opLt (iBin opIx (iVar 1) (iUn opNeg (iC (.int 1)))) (iC (.int 0)))) (sSet 3 (iBin opSub (iC (.int 0)) (iVar 3))) sNil)
  (sRet (iN opTup (aCons (iN opTuple (aCons (iCompF (wAny (iVar 0)) (.one 4) tYes' (iBin opFdiv (iVar 4) (iVar 3))) aNil)) (aCons (iN opTuple (aCons (iCompF (wAny (iVar 1)) (.one 4) tYes' (iBin opFdiv (iVar 4) (iVar 3))) aNil)) aNil))))))))))
def p_lowest : Fn := (runB B_p_lowest 5 2)
def B_p_Ratio___init__ : IS := (sSeq (sIf (tNot' (tTru (iCall p_is_row [] (aCons (iVar 1) aNil)))) (sRaise "InvalidCount" 1 ["value"] gCat (aCons (iVar 1) aNil)) sNil)
  (sSeq (sIf (tNot' (tTru (iCall p_is_row [] (aCons (iVar 2) aNil)))) (sRaise "InvalidCount" 1 ["value"] gCat (aCons (iVar 2) aNil)) sNil)
  (sSeq (sIf (tBl (iBin (opEq false) (iCall p_trimmed [] (aCons (iVar 2) aNil)) (iN opTup (aCons (iC (.int 0)) aNil)))) (sRaise0 "ZeroBelow") sNil)
  (sAsg (gTup' 2 (gsCons (gFld ["Ratio"] "top" (iVar 0)) (gsCons (gFld ["Ratio"] "bottom" (iVar 0)) gsNil))) (iCall p_lowest [] (aCons (iCall p_trimmed [] (aCons (iVar 1) aNil)) (aCons (iCall p_trimmed [] (aCons (iVar 2) aNil)) aNil)))))))
def p_Ratio___init__ : Fn := (runB B_p_Ratio___init__ 3 3)
def B_p_Ratio___pow__ : IS := (sSeq (sIf (tOr' (tNot' (tTru (iCall p_is_whole [] (aCons (iVar 1) aNil)))) (tNot' (tBl (iChain opLe opLe (iC (.int 0)) (iVar 1) (iC (.int 6)))))) (sRaise "InvalidCount" 1 ["value"] gCat (aCons (iVar 1) aNil)) sNil)
  sBad)
def p_Ratio___pow__ : Fn := (runB B_p_Ratio___pow__ 4 2)
def B_p_power_text : IS := (sRet (iIf (tBl (iBin (opEq false) (iVar 0) (iC (.int 1)))) (iC (.str "n")) (iJs [(iC (.str "n^")), (iUn opFmt (iVar 0))] Str.empty)))
def p_power_text : Fn := (runB B_p_power_text 1 1)
def B_p_row_text : IS := (sSeq (sSet 1 (iC (.str "")))
  (sSeq (sFor (wRng3 (aCons (iBin opSub (iN opLen (aCons (iVar 0) aNil)) (iC (.int 1))) (aCons (iUn opNeg (iC (.int 1))) (aCons (iUn opNeg (iC (.int 1))) aNil)))) (gVar 2) (sSeq (sSet 3 (iBin opIx (iVar 0) (iVar 2)))
  (sIf (tBl (iBin (opEq true) (iVar 3) (iC (.int 0)))) (sSeq (sSet 4 (iN opAbs (aCons (iVar 3) aNil)))
  (sSeq (sSet 5 (iIf (tBl (iBin (opEq false) (iVar 2) (iC (.int 0)))) (iUn opFmt (iVar 4)) (iIf (tBl (iBin (opEq false) (iVar 4) (iC (.int 1)))) (iCall p_power_text [] (aCons (iVar 2) aNil)) (iJs [(iUn opFmt (iVar 4)), (iC (.str "*")), (iUn opFmt (iCall p_power_text [] (aCons (iVar 2) aNil)))] Str.empty))))
  (sIf (tBl (iBin (opEq false) (iVar 1) (iC (.str "")))) (sSet 1 (iIf (tBl (iBin opLt (iVar 3) (iC (.int 0)))) (iBin opAdd (iC (.str "-")) (iVar 5)) (iVar 5))) (sSet 1 (iBin opAdd (iBin opAdd (iVar 1) (iIf (tBl (iBin opLt (iVar 3) (iC (.int 0)))) (iC (.str " - ")) (iC (.str " + ")))) (iVar 5)))))) sNil)))
  (sRet (iIf (tBl (iBin (opEq true) (iVar 1) (iC (.str "")))) (iVar 1) (iC (.str "0"))))))
def p_row_text : Fn := (runB B_p_row_text 6 1)
def B_p_Ratio___str__ : IS := (sSeq (sIf (tBl (iBin (opEq false) (iUn (opGet ["Ratio"] "bottom") (iVar 0)) (iN opTup (aCons (iC (.int 1)) aNil)))) (sRet (iUn opFmt (iCall p_row_text [] (aCons (iUn (opGet ["Ratio"] "top") (iVar 0)) aNil)))) sNil)
  (sRet (iJs [(iC (.str "(")), (iUn opFmt (iCall p_row_text [] (aCons (iUn (opGet ["Ratio"] "top") (iVar 0)) aNil))), (iC (.str ")/(")), (iUn opFmt (iCall p_row_text [] (aCons (iUn (opGet ["Ratio"] "bottom") (iVar 0)) aNil))), (iC (.str ")"))] Str.empty)))
def p_Ratio___str__ : Fn := (runB B_p_Ratio___str__ 1 1)
def B_p_Ratio___repr__ : IS := (sRet (iJs [(iC (.str "Ratio(")), (iUn (opFmtI "Ratio" p_Ratio___str__) (iVar 0)), (iC (.str ")"))] Str.empty))
def p_Ratio___repr__ : Fn := (runB B_p_Ratio___repr__ 1 1)
def B_p_ratio_of : IS := (sSeq (sIf (tTru (iN (opIsiI ["Ratio"] [] (isaT tl_Ratio)) (aCons (iVar 0) (aCons (iC (.glo "Ratio")) aNil)))) (sRet (iVar 0)) sNil)
  (sSeq (sIf (tNot' (tTru (iCall p_is_whole [] (aCons (iVar 0) aNil)))) (sRaise "NotARatio" 1 ["value"] gCat (aCons (iVar 0) aNil)) sNil)
  (sRet (iNewP "Ratio" p_Ratio___init__ 2 0 [0, 1, 2] (aCons (iN opTup (aCons (iVar 0) aNil)) (aCons (iN opTup (aCons (iC (.int 1)) aNil)) aNil)) aNil))))
def p_ratio_of : Fn := (runB B_p_ratio_of 1 1)
def B_p_row_product : IS := (sSeq (sSet 2 (iN opTup (aCons (iC (.int 0)) aNil)))
  (sSeq (sFor (wEnum (aCons (iVar 0) aNil)) (gTup' 2 (gsVar 3 (gsVar 4 gsNil))) (sSet 2 (iCall p_row_sum [] (aCons (iVar 2) (aCons (iBin opAdd (iBin opMulZ (iN opTup (aCons (iC (.int 0)) aNil)) (iVar 3)) (iN opTuple (aCons (iVar 1) aNil))) (aCons (iVar 4) aNil))))))
  (sRet (iVar 2))))
def p_row_product : Fn := (runB B_p_row_product 5 2)
def B_p_Ratio___sub__ : IS := (sSeq (sSet 2 (iCall p_ratio_of [] (aCons (iVar 1) aNil)))
  (sSeq (sSet 3 (iCall p_row_sum [] (aCons (iCall p_row_product [] (aCons (iUn (opGet ["Ratio"] "top") (iVar 0)) (aCons (iUn (opGet ["Ratio"] "bottom") (iVar 2)) aNil))) (aCons (iCall p_row_product [] (aCons (iUn (opGet ["Ratio"] "top") (iVar 2)) (aCons (iUn (opGet ["Ratio"] "bottom") (iVar 0)) aNil))) (aCons (iUn opNeg (iC (.int 1))) aNil)))))
  (sRet (iNewP "Ratio" p_Ratio___init__ 2 0 [0, 1, 2] (aCons (iVar 3) (aCons (iCall p_row_product [] (aCons (iUn (opGet ["Ratio"] "bottom") (iVar 0)) (aCons (iUn (opGet ["Ratio"] "bottom") (iVar 2)) aNil))) aNil)) aNil))))
def p_Ratio___sub__ : Fn := (runB B_p_Ratio___sub__ 4 2)
def B_p_Ratio_later : IS := (sSeq (sIf (tOr' (tNot' (tTru (iCall p_is_whole [] (aCons (iVar 1) aNil)))) (tNot' (tBl (iChain opLe opLe (iC (.int 0)) (iVar 1) (iC (.int 20)))))) (sRaise "InvalidCount" 1 ["value"] gCat (aCons (iVar 1) aNil)) sNil)
  sBad)
def p_Ratio_later : Fn := (runB B_p_Ratio_later 2 2)
def B_p_Ratio_over : IS := (sSeq (sSet 2 (iCall p_ratio_of [] (aCons (iVar 1) aNil)))
  (sSeq (sIf (tBl (iBin (opEq false) (iUn (opGet ["Ratio"] "top") (iVar 2)) (iN opTup (aCons (iC (.int 0)) aNil)))) (sRaise0 "ZeroBelow") sNil)
  sBad))
def p_Ratio_over : Fn := (runB B_p_Ratio_over 3 2)
def B_p_is_digits : IS := (sRet (iAnd (iChain opLe opLe (iC (.int 1)) (iN opLen (aCons (iVar 0) aNil)) (iC (.int 4000))) (iN opAll (aCons (iCompF (wAny (iVar 0)) (.one 1) tYes' (iBin (opIn false) (iVar 1) (iC (.str "0123456789")))) aNil))))
def p_is_digits : Fn := (runB B_p_is_digits 2 1)
def B_p_term_in : IS := (sSeq (sAsg (gTup' 3 (gsVar 1 (gsVar 2 (gsVar 3 gsNil)))) (iM1 opPart (iVar 0) (iC (.str "*"))))
  (sSeq (sIf (tAnd' (tBl (iBin (opEq false) (iVar 2) (iC (.str "")))) (tTru (iM1 opStarts (iVar 0) (iC (.str "n"))))) (sPar 1 3 (aCons (iC (.str "1")) (aCons (iVar 0) aNil))) sNil)
  (sSeq (sIf (tNot' (tTru (iCall p_is_digits [] (aCons (iVar 1) aNil)))) (sRet (iC .non)) sNil)
  (sSeq (sIf (tAnd' (tBl (iBin (opEq false) (iVar 2) (iC (.str "")))) (tNot' (tTru (iM1 opStarts (iVar 0) (iC (.str "n")))))) (sRet (iN opTup (aCons (iN opIntS (aCons (iVar 1) aNil)) aNil))) sNil)
  sBad))))
def p_term_in : Fn := (runB B_p_term_in 4 1)
def B_p_row_in : IS := (sSeq (sSet 1 (iN opTup (aCons (iC (.int 0)) aNil)))
  (sSeq (sSet 2 (iIf (tTru (iM1 opStarts (iVar 0) (iC (.str "-")))) (iSl (iVar 0) (oSome (iC (.int 1))) oNone) (iVar 0)))
  (sSeq (sSet 3 (iIf (tTru (iM1 opStarts (iVar 0) (iC (.str "-")))) (iUn opNeg (iC (.int 1))) (iC (.int 1))))
  (sSeq (sSet 4 (iM1 opSplit (iUn (opRepl0 " - ") (iVar 2)) (iC (.str " + "))))
  (sSeq (sFor (wEnum (aCons (iVar 4) aNil)) (gTup' 2 (gsVar 5 (gsVar 6 gsNil))) (sSeq (sSet 7 (iIf (tBl (iBin (opEq false) (iVar 5) (iC (.int 0)))) (iVar 3) (iIf (tTru (iM1 opStarts (iVar 6) (iC (.str "-")))) (iUn opNeg (iC (.int 1))) (iC (.int 1)))))
  (sSeq (sSet 8 (iCall p_term_in [] (aCons (iIf (tAnd' (tBl (iBin opGt (iVar 5) (iC (.int 0)))) (tTru (iM1 opStarts (iVar 6) (iC (.str "-"))))) (iSl (iVar 6) (oSome (iC (.int 1))) oNone) (iVar 6)) aNil)))
  (sSeq (sIf (tBl (iBin (opIs false) (iVar 8) (iC .non))) (sRet (iC .non)) sNil)
  (sSet 1 (iCall p_row_sum [] (aCons (iVar 1) (aCons (iVar 8) (aCons (iVar 7) aNil)))))))))
  (sRet (iVar 1)))))))
def p_row_in : Fn := (runB B_p_row_in 9 1)
def B_p_ratio_in : IS := (sSeq (sPar 1 2 (aCons (iVar 0) (aCons (iC (.str "1")) aNil)))
  (sSeq (sIf (tAnd' (tTru (iM1 opStarts (iVar 0) (iC (.str "(")))) (tAnd' (tTru iBad) (tBl (iBin (opEq false) iBad (iC (.int 1)))))) (sAsg (gTup' 3 (gsVar 1 (gsVar 3 (gsVar 2 gsNil)))) (iM1 opPart (iSl (iVar 0) (oSome (iC (.int 1))) (oSome (iUn opNeg (iC (.int 1))))) (iC (.str ")/(")))) sNil)
  (sSeq (sPar 4 5 (aCons (iCall p_row_in [] (aCons (iVar 1) aNil)) (aCons (iCall p_row_in [] (aCons (iVar 2) aNil)) aNil)))
  (sSeq (sIf (tOr' (tBl (iBin (opIs false) (iVar 4) (iC .non))) (tOr' (tBl (iBin (opIs false) (iVar 5) (iC .non))) (tBl (iBin (opEq false) (iVar 5) (iN opTup (aCons (iC (.int 0)) aNil)))))) (sRet (iC .non)) sNil)
  (sRet (iNewP "Ratio" p_Ratio___init__ 2 0 [0, 1, 2] (aCons (iVar 4) (aCons (iVar 5) aNil)) aNil))))))
def p_ratio_in : Fn := (runB B_p_ratio_in 6 1)
def B_p_Ratio_read : IS := (sSeq (sSet 1 (iIf (tTru (iN (opIsiI ["Ratio"] [] (isaT tl_str)) (aCons (iVar 0) (aCons (iC (.ty "str")) aNil)))) (iCall p_ratio_in [] (aCons (iVar 0) aNil)) (iC .non)))
  (sSeq (sIf (tOr' (tBl (iBin (opIs false) (iVar 1) (iC .non))) (tBl (iBin (opEq true) (iN (opStrI "Ratio" p_Ratio___str__) (aCons (iVar 1) aNil)) (iVar 0)))) (sRaise "InvalidText" 1 ["value"] gCat (aCons (iVar 0) aNil)) sNil)
  (sRet (iVar 1))))
def p_Ratio_read : Fn := (runB B_p_Ratio_read 2 1)
def B_p_Ratio___add__ : IS := (sSeq (sSet 2 (iCall p_ratio_of [] (aCons (iVar 1) aNil)))
  sBad)
def p_Ratio___add__ : Fn := (runB B_p_Ratio___add__ 4 2)
def B_p_Ratio___mul__ : IS := (sSeq (sSet 2 (iCall p_ratio_of [] (aCons (iVar 1) aNil)))
  sBad)
def p_Ratio___mul__ : Fn := (runB B_p_Ratio___mul__ 3 2)
def B_p_Ratio___radd__ : IS := (sRet (iBinL "Ratio" ["str", "tuple", "list", "NoneType", "bool", "dict"] p_Ratio___add__ (iVar 0) (iVar 1)))
def p_Ratio___radd__ : Fn := (runB B_p_Ratio___radd__ 2 2)
def B_p_Ratio___rsub__ : IS := (sRet (iBinL "Ratio" ["str", "tuple", "list", "NoneType", "bool", "dict"] p_Ratio___sub__ (iCall p_ratio_of [] (aCons (iVar 1) aNil)) (iVar 0)))
def p_Ratio___rsub__ : Fn := (runB B_p_Ratio___rsub__ 2 2)
end M
/-! the law law_k06_ratios_refused as Lean functions -/
namespace M
open PySem
def B_k06__law_dip : IS := (sSeq (sAsg (gIx (iVar 0) (iC (.int 2))) (iBin opAdd (iBin opIx (iVar 0) (iC (.int 2))) (iC (.int 1))))
  (sSeq (sIf (tBl (iBin opGt (iBin opIx (iVar 0) (iC (.int 0))) (iC (.int 0)))) (sSeq (sSet 2 (iBin opMod (iN opInt (aCons (iBin opIx (iVar 0) (iC (.int 0))) aNil)) (iVar 1)))
  (sSeq (sAsg (gIx (iVar 0) (iC (.int 0))) (iBin opFdiv (iBin opIx (iVar 0) (iC (.int 0))) (iVar 1)))
  (sRet (iVar 2)))) sNil)
  (sSeq (sSet 3 (iN opInt (aCons (iBin opIx (iVar 0) (iC (.int 1))) aNil)))
  (sSeq (sAsg (gIx (iVar 0) (iC (.int 1))) (iBin opMod (iN opInt (aCons (iBin opAdd (iBin opAdd (iBin opMul (iVar 3) (iBin opAdd (iBin opMod (iVar 3) (iC (.int 48611))) (iC (.int 8191)))) (iBin opMul (iC (.int 6151)) (iBin opIx (iVar 0) (iC (.int 2))))) (iC (.int 11))) aNil)) (iC (.int 998244353))))
  (sRet (iBin opMod (iN opInt (aCons (iBin opFdiv (iBin opIx (iVar 0) (iC (.int 1))) (iC (.int 131))) aNil)) (iVar 1)))))))
def k06__law_dip : Fn := (runB B_k06__law_dip 4 2)
def B_k06__law_any : IS := (sRet (iBin opIx (iVar 1) (iCall k06__law_dip [] (aCons (iVar 0) (aCons (iN opLen (aCons (iVar 1) aNil)) aNil)))))
def k06__law_any : Fn := (runB B_k06__law_any 2 2)
def B_k06__law_told (th : D → Sto → R D) : IS := (sSeq (sTryM [⟨some 1, exmT tx__law_told_0, (sRet (iN opLstF (aCons (iC (.str "count")) (aCons (iN (opReprM [("Ratio", p_Ratio___repr__)]) (aCons (iUn (opFld (fl_k06 "value") "value") (iVar 1)) aNil)) aNil))))⟩, ⟨some 1, exmT tx__law_told_1, (sRet (iN opLstF (aCons (iC (.str "ratio")) (aCons (iN (opReprM [("Ratio", p_Ratio___repr__)]) (aCons (iUn (opFld (fl_k06 "value") "value") (iVar 1)) aNil)) aNil))))⟩, ⟨some 1, exmT tx__law_told_2, (sRet (iN opLstF (aCons (iC (.str "text")) (aCons (iN (opReprM [("Ratio", p_Ratio___repr__)]) (aCons (iUn (opFld (fl_k06 "value") "value") (iVar 1)) aNil)) aNil))))⟩, ⟨none, exmT tx__law_told_3, (sRet (iN opLstF (aCons (iC (.str "zero")) (aCons (iC (.str "")) aNil))))⟩, ⟨none, exmT tx__law_told_4, (sRet (iN opLstF (aCons (iC (.str "gap")) (aCons (iC (.str "")) aNil))))⟩] (sExpr (iTh 0 th)))
  (sRet (iN opLstF (aCons (iC (.str "given")) (aCons (iC (.str "")) aNil)))))
def k06__law_told (r : R D) : R D := runB (B_k06__law_told fun _ _ => r) 2 1 [.non] []
def B_k06__law_signs_right : IS := (sSeq (sSet 2 (iN opLstF (aCons (iC (.str "ratio")) (aCons (iN (opReprM [("Ratio", p_Ratio___repr__)]) (aCons (iVar 1) aNil)) aNil))))
  (sSeq (sSet 3 (iN opLst (aCons (iLam 1 "_law_signs_right" "_law_signs_right.<locals>.<lambda>" k06__law_told (iBinL "Ratio" ["str", "tuple", "list", "NoneType", "bool", "dict"] p_Ratio___add__ (iVar 0) (iVar 1))) aNil)))
  (sSeq (sExpr (iMl opAppend (iVar 3) (aCons (iLam 1 "_law_signs_right" "_law_signs_right.<locals>.<lambda>" k06__law_told (iBinL "Ratio" ["str", "tuple", "list", "NoneType", "bool", "dict"] p_Ratio___sub__ (iVar 0) (iVar 1))) aNil)))
  (sSeq (sExpr (iMl opAppend (iVar 3) (aCons (iLam 1 "_law_signs_right" "_law_signs_right.<locals>.<lambda>" k06__law_told (iBinL "Ratio" ["str", "tuple", "list", "NoneType", "bool", "dict"] p_Ratio___mul__ (iVar 0) (iVar 1))) aNil)))
  (sSeq (sExpr (iMl opAppend (iVar 3) (aCons (iLam 1 "_law_signs_right" "_law_signs_right.<locals>.<lambda>" k06__law_told (iMeth "Ratio" "over" p_Ratio_over (iVar 0) (aCons (iVar 1) aNil))) aNil)))
  (sSeq (sExpr (iMl opAppend (iVar 3) (aCons (iLam 1 "_law_signs_right" "_law_signs_right.<locals>.<lambda>" k06__law_told (iBinR "Ratio" ["str", "tuple", "list", "NoneType", "dict"] p_Ratio___rsub__ (iVar 1) (iVar 0))) aNil)))
  (sSeq (sExpr (iMl opAppend (iVar 3) (aCons (iIf (tNot' (tTru (iN opIsiS (aCons (iVar 1) (aCons (iN opTup (aCons (iC (.ty "str")) (aCons (iC (.ty "tuple")) (aCons (iC (.ty "list")) aNil)))) aNil))))) (iLam 1 "_law_signs_right" "_law_signs_right.<locals>.<lambda>" k06__law_told (iBinR "Ratio" ["NoneType", "dict"] p_Ratio___radd__ (iVar 1) (iVar 0))) (iVar 2)) aNil)))
  (sRet (iBin (opEq false) (iVar 3) (iBin opMul (iN opLstF (aCons (iVar 2) aNil)) (iC (.int 6))))))))))))
def k06__law_signs_right : Fn := (runB B_k06__law_signs_right 4 2)
def B_k06__law_right : IS := (sSeq (sSet 1 (iN opLstF (aCons (iC .non) (aCons (iN opLstF (aCons (iC (.int 1)) aNil)) (aCons (iN opTup aNil) (aCons (iN opTup (aCons (iC (.int 1)) (aCons (iC (.bl true)) aNil))) (aCons (iN opTup (aCons (iC (.str "1")) aNil)) (aCons (iN opTup (aCons (iC (.int 1)) (aCons (iC .non) aNil))) (aCons (iC (.str "12")) (aCons (iC (.int 5)) (aCons (iC (.dct [] [])) (aCons (iN opTup (aCons (iN opTup (aCons (iC (.int 1)) aNil)) aNil)) aNil))))))))))))
  (sSeq (sAsg (gTup' 2 (gsVar 2 (gsVar 3 gsNil))) (iN opTup (aCons (iCall k06__law_any [] (aCons (iVar 0) (aCons (iVar 1) aNil))) (aCons (iCall k06__law_any [] (aCons (iVar 0) (aCons (iVar 1) aNil))) aNil))))
  (sSeq (sSet 4 (iNewP "Ratio" p_Ratio___init__ 2 0 [0, 1, 2] (aCons (iN opTup (aCons (iCall k06__law_dip [] (aCons (iVar 0) (aCons (iC (.int 9)) aNil))) (aCons (iC (.int 1)) aNil))) (aCons (iN opTup (aCons (iBin opAdd (iC (.int 1)) (iCall k06__law_dip [] (aCons (iVar 0) (aCons (iC (.int 5)) aNil)))) (aCons (iC (.int 0)) (aCons (iC (.int 1)) aNil)))) aNil)) aNil))
  (sSeq (sSet 5 (iN opLst (aCons (iLam 0 "_law_right" "_law_right.<locals>.<lambda>" k06__law_told (iNewP "Ratio" p_Ratio___init__ 2 0 [0, 1, 2] (aCons (iVar 2) (aCons (iVar 3) aNil)) aNil)) aNil)))
  (sSeq (sExpr (iMl opAppend (iVar 5) (aCons (iLam 0 "_law_right" "_law_right.<locals>.<lambda>" k06__law_told (iNewP "Ratio" p_Ratio___init__ 2 0 [0, 1, 2] (aCons (iN opTup (aCons (iC (.int 1)) aNil)) (aCons (iVar 3) aNil)) aNil)) aNil)))
  (sSeq (sExpr (iMl opAppend (iVar 5) (aCons (iLam 0 "_law_right" "_law_right.<locals>.<lambda>" k06__law_told (iNewP "Ratio" p_Ratio___init__ 0 2 [0, 2, 1] aNil (aCons (iN opTup (aCons (iC (.int 0)) aNil)) (aCons (iVar 2) aNil)))) aNil)))
  (sSeq (sExpr (iMl opAppend (iVar 5) (aCons (iLam 0 "_law_right" "_law_right.<locals>.<lambda>" k06__law_told (iNewP "Ratio" p_Ratio___init__ 2 0 [0, 1, 2] (aCons (iN opTup (aCons (iC (.int 2)) (aCons (iC (.int 3)) aNil))) (aCons (iN opTup (aCons (iC (.int 0)) (aCons (iC (.int 0)) aNil))) aNil)) aNil)) aNil)))
  (sSeq (sExpr (iMl opAppend (iVar 5) (aCons (iLam 0 "_law_right" "_law_right.<locals>.<lambda>" k06__law_told (iNewP "Ratio" p_Ratio___init__ 2 0 [0, 1, 2] (aCons (iN opTup (aCons (iC (.int 0)) aNil)) (aCons (iBin opMulZ (iN opTup (aCons (iC (.int 0)) aNil)) (iBin opAdd (iC (.int 1)) (iCall k06__law_dip [] (aCons (iVar 0) (aCons (iC (.int 4)) aNil))))) aNil)) aNil)) aNil)))
  (sSeq (sSet 6 (iN opLst (aCons (iN opLstF (aCons (iC (.str "count")) (aCons (iN (opReprM [("Ratio", p_Ratio___repr__)]) (aCons (iVar 2) aNil)) aNil))) (aCons (iN opLstF (aCons (iC (.str "count")) (aCons (iN (opReprM [("Ratio", p_Ratio___repr__)]) (aCons (iVar 3) aNil)) aNil))) (aCons (iN opLstF (aCons (iC (.str "count")) (aCons (iN (opReprM [("Ratio", p_Ratio___repr__)]) (aCons (iVar 2) aNil)) aNil))) (aCons (iN opLstF (aCons (iC (.str "zero")) (aCons (iC (.str "")) aNil))) (aCons (iN opLstF (aCons (iC (.str "zero")) (aCons (iC (.str "")) aNil))) aNil)))))))
  (sSeq (sExpr (iMl opAppend (iVar 5) (aCons (iLam 0 "_law_right" "_law_right.<locals>.<lambda>" k06__law_told (iBinL "Ratio" ["int"] p_Ratio___pow__ (iVar 4) (iC (.int 7)))) aNil)))
  (sSeq (sExpr (iMl opAppend (iVar 5) (aCons (iLam 0 "_law_right" "_law_right.<locals>.<lambda>" k06__law_told (iBinL "Ratio" ["int"] p_Ratio___pow__ (iVar 4) (iC (.int 64)))) aNil)))
  (sSeq (sExpr (iMl opAppend (iVar 5) (aCons (iLam 0 "_law_right" "_law_right.<locals>.<lambda>" k06__law_told (iMeth "Ratio" "over" p_Ratio_over (iVar 4) (aCons (iC (.int 0)) aNil))) aNil)))
  (sSeq (sExpr (iMl opAppend (iVar 5) (aCons (iLam 0 "_law_right" "_law_right.<locals>.<lambda>" k06__law_told (iMeth "Ratio" "over" p_Ratio_over (iVar 4) (aCons (iBinL "Ratio" ["str", "tuple", "list", "NoneType", "bool", "dict"] p_Ratio___sub__ (iVar 4) (iVar 4)) aNil))) aNil)))
  (sSeq (sSet 6 (iBin opAddM (iVar 6) (iN opLst (aCons (iN opLstF (aCons (iC (.str "count")) (aCons (iC (.str "7")) aNil))) (aCons (iN opLstF (aCons (iC (.str "count")) (aCons (iC (.str "64")) aNil))) (aCons (iN opLstF (aCons (iC (.str "zero")) (aCons (iC (.str "")) aNil))) (aCons (iN opLstF (aCons (iC (.str "zero")) (aCons (iC (.str "")) aNil))) aNil)))))))
  (sSeq (sSet 7 (iCall k06__law_any [] (aCons (iVar 0) (aCons (iN opLstF (aCons (iC (.bl true)) (aCons (iC .non) (aCons (iC (.str "3")) (aCons (iN opTup (aCons (iC (.int 3)) aNil)) (aCons (iVar 4) aNil)))))) aNil))))
  (sSeq (sExpr (iMl opAppend (iVar 5) (aCons (iLam 0 "_law_right" "_law_right.<locals>.<lambda>" k06__law_told (iCallO "Ratio" p_Ratio___call__ (iVar 4) (aCons (iVar 7) aNil))) aNil)))
  (sSeq (sExpr (iMl opAppend (iVar 5) (aCons (iLam 0 "_law_right" "_law_right.<locals>.<lambda>" k06__law_told (iMeth "Ratio" "later" p_Ratio_later (iVar 4) (aCons (iVar 7) aNil))) aNil)))
  (sSeq (sExpr (iMl opAppend (iVar 5) (aCons (iLam 0 "_law_right" "_law_right.<locals>.<lambda>" k06__law_told (iMeth "Ratio" "later" p_Ratio_later (iVar 4) (aCons (iC (.int 21)) aNil))) aNil)))
  (sSeq (sExpr (iMl opAppend (iVar 5) (aCons (iLam 0 "_law_right" "_law_right.<locals>.<lambda>" k06__law_told (iMethK "Ratio" "later" p_Ratio_later 1 [0, 1] (iVar 4) (aCons (iUn opNeg (iC (.int 1))) aNil))) aNil)))
  (sSeq (sExpr (iMl opAppend (iVar 5) (aCons (iLam 0 "_law_right" "_law_right.<locals>.<lambda>" k06__law_told (iCall p_Ratio_read [] (aCons (iVar 7) aNil))) aNil)))
  (sSeq (sSet 6 (iBin opAddM (iVar 6) (iN opLst (aCons (iN opLstF (aCons (iC (.str "count")) (aCons (iN (opReprM [("Ratio", p_Ratio___repr__)]) (aCons (iVar 7) aNil)) aNil))) (aCons (iN opLstF (aCons (iC (.str "count")) (aCons (iN (opReprM [("Ratio", p_Ratio___repr__)]) (aCons (iVar 7) aNil)) aNil))) (aCons (iN opLstF (aCons (iC (.str "count")) (aCons (iC (.str "21")) aNil))) (aCons (iN opLstF (aCons (iC (.str "count")) (aCons (iC (.str "-1")) aNil))) aNil)))))))
  (sSeq (sExpr (iMl opAppend (iVar 6) (aCons (iIf (tBl (iBin (opEqI "Ratio" ["str", "tuple", "list", "NoneType", "int", "bool", "dict"] p_Ratio___eq__ true) (iVar 7) (iC (.str "3")))) (iN opLstF (aCons (iC (.str "text")) (aCons (iN (opReprM [("Ratio", p_Ratio___repr__)]) (aCons (iVar 7) aNil)) aNil))) (iN opLstF (aCons (iC (.str "given")) (aCons (iC (.str "")) aNil)))) aNil)))
  (sSeq (sIf (tBl (iBin (opEq true) (iVar 5) (iVar 6))) (sRet (iC (.bl false))) sNil)
  (sRet (iN opAll (aCons (iCompF (wAny (iN opLstF (aCons (iC (.bl true)) (aCons (iC .non) (aCons (iC (.str "n")) (aCons (iN opTup (aCons (iC (.int 1)) (aCons (iC (.int 2)) aNil))) (aCons (iN opLstF (aCons (iVar 4) aNil)) (aCons (iC (.dct [] [])) aNil)))))))) (.one 8) tYes' (iCall k06__law_signs_right [] (aCons (iVar 4) (aCons (iVar 8) aNil)))) aNil))))))))))))))))))))))))))
def k06__law_right : Fn := (runB B_k06__law_right 9 1)
def B_k06__law_well : IS := (sSeq (sSet 2 (iBin opAdd (iC (.int 41)) (iVar 1)))
  (sSeq (sFor (wAny (iSl (iVar 0) oNone (oSome (iC (.int 4))))) (gVar 3) (sSet 2 (iBin opMod (iN opInt (aCons (iBin opAdd (iBin opAdd (iBin opMul (iVar 2) (iC (.int 6007))) (iBin opMul (iVar 3) (iC (.int 19)))) (iC (.int 5))) aNil)) (iC (.int 998244353)))))
  (sSeq (sSet 4 (iIf (tBl (iBin opLt (iVar 1) (iN opLen (aCons (iVar 0) aNil)))) (iBin opIx (iVar 0) (iVar 1)) (iBin opAdd (iBin opMul (iVar 2) (iC (.int 53))) (iVar 1))))
  (sSeq (sSet 5 (iIf (tOr' (tBl (iBin opLt (iVar 4) (iC (.int 0)))) (tBl (iBin opGe (iVar 4) (iBin opPow (iC (.int 10)) (iC (.int 18)))))) (iN opAbs (aCons (iVar 4) aNil)) (iC (.int 0))))
  (sRet (iN opLst (aCons (iVar 5) (aCons (iBin opMod (iN opInt (aCons (iBin opAdd (iBin opAdd (iBin opMul (iVar 4) (iC (.int 3301))) (iBin opMul (iVar 2) (iC (.int 7)))) (iC (.int 271))) aNil)) (iC (.int 998244353))) (aCons (iC (.int 0)) aNil)))))))))
def k06__law_well : Fn := (runB B_k06__law_well 6 2)
def B_k06_law : IS := (sSeq (sFor (wRng1 (aCons (iN opMax (aCons (iC (.int 2)) (aCons (iN opMin (aCons (iN opLen (aCons (iVar 0) aNil)) (aCons (iC (.int 5)) aNil))) aNil))) aNil)) (gVar 1) (sIf (tNot' (tTru (iCall k06__law_right [] (aCons (iCall k06__law_well [] (aCons (iVar 0) (aCons (iVar 1) aNil))) aNil)))) (sRet (iC (.bl false))) sNil))
  (sRet (iC (.bl true))))
def k06_law : Fn := (runB B_k06_law 2 1)
end M
/-! HG: what a def that calls what it gets makes of it. -/
namespace M
open PySem
theorem hG__law_told (d : D) (th : D → Sto → R D) (st : Sto) : runB (B_k06__law_told th) 2 1 [d] st = k06__law_told (th d st) := by
  unfold k06__law_told B_k06__law_told
  refine hG_tryM ?_ (fun _ _ _ => rfl) d th st
  intro c hc
  simp only [List.mem_cons, List.not_mem_nil, or_false] at hc
  rcases hc with rfl | rfl | rfl | rfl | rfl
  · refine ⟨_, rfl, ?_, ?_, .inl rfl⟩
    · intro _ _ _ _ _; rfl
    · intro _ _ _; rfl
  · refine ⟨_, rfl, ?_, ?_, .inl rfl⟩
    · intro _ _ _ _ _; rfl
    · intro _ _ _; rfl
  · refine ⟨_, rfl, ?_, ?_, .inl rfl⟩
    · intro _ _ _ _ _; rfl
    · intro _ _ _; rfl
  · refine ⟨iN opLstF (aCons (iC (D.str "zero")) (aCons (iC (D.str "")) aNil)), rfl, ?_, ?_, .inr rfl⟩
    · intro _ _ _ _ _; rfl
    · intro _ _ _; rfl
  · refine ⟨iN opLstF (aCons (iC (D.str "gap")) (aCons (iC (D.str "")) aNil)), rfl, ?_, ?_, .inr rfl⟩
    · intro _ _ _ _ _; rfl
    · intro _ _ _; rfl
end M
/-! the walks -/
namespace M
theorem un65 {k : Nat} {A : PySem.Around} (r : L2.Room k A) : A.units + (64 + 1) < PySem.cLine := by have := r.un; omega
open PySem PySem.Spec PyProof.Rows L2
structure Cn (K : PySem.W.Frag) (mg : Str → Option Value) : Prop where
  c : SaysP bB_ fa_ fn_ pd_ K
  h : ∃ h : Heap, K.In h ∧ h.Ns mainGlobals mg
section
variable {P : Program} {w : World} {K : PySem.W.Frag} {mg : Str → Option Value} {base : Heap}
theorem Cn.glo (C : Cn K mg) (i : Nat) {x : Str} (h : fa_[i]? = some (.glo x) := by rfl) : mg x = some (.ref (He.ga K x)) := by
  obtain ⟨h0, X, G⟩ := C.h
  exact He.glo_ok X G (C.c.says.fact i h)
theorem Cn.free (C : Cn K mg) (i : Nat) {x : Str} (h : fa_[i]? = some (.free x) := by rfl) : mg x = none := by
  obtain ⟨h0, X, G⟩ := C.h
  exact He.free_ok X G (C.c.says.fact i h)
theorem Cn.int (C : Cn K mg) (i : Nat) {x : Str} {n : Int} (h : fa_[i]? = some (.int x n) := by rfl) : ∃ t, mg x = some (.int n t) := by
  obtain ⟨h0, X, G⟩ := C.h
  exact He.int_ok X G (C.c.says.fact i h)
theorem Cn.str (C : Cn K mg) (i : Nat) {x z : Str} (h : fa_[i]? = some (.str x z) := by rfl) : ∃ t, mg x = some (.str z t) := by
  obtain ⟨h0, X, G⟩ := C.h
  exact He.str_ok X G (C.c.says.fact i h)
theorem Cn.bx (C : Cn K mg) (i : Nat) {b : Bool} (h : (bs_ K)[i]? = some b := by rfl) : b = true := List.all_eq_true.mp C.c.b b (List.mem_of_getElem? h)
theorem Cn.g_Gap (C : Cn K mg) : mg "Gap" = some (.ref (He.ga K "Gap")) := C.glo 0
theorem Cn.g_InvalidCount (C : Cn K mg) : mg "InvalidCount" = some (.ref (He.ga K "InvalidCount")) := C.glo 1
theorem Cn.g_InvalidText (C : Cn K mg) : mg "InvalidText" = some (.ref (He.ga K "InvalidText")) := C.glo 2
theorem Cn.g_NotARatio (C : Cn K mg) : mg "NotARatio" = some (.ref (He.ga K "NotARatio")) := C.glo 3
theorem Cn.g_Ratio (C : Cn K mg) : mg "Ratio" = some (.ref (He.ga K "Ratio")) := C.glo 4
theorem Cn.g_ZeroBelow (C : Cn K mg) : mg "ZeroBelow" = some (.ref (He.ga K "ZeroBelow")) := C.glo 5
theorem Cn.g__law_any (C : Cn K mg) : mg "_law_any" = some (.ref (He.ga K "_law_any")) := C.glo 6
theorem Cn.g__law_dip (C : Cn K mg) : mg "_law_dip" = some (.ref (He.ga K "_law_dip")) := C.glo 7
theorem Cn.g__law_right (C : Cn K mg) : mg "_law_right" = some (.ref (He.ga K "_law_right")) := C.glo 8
theorem Cn.g__law_signs_right (C : Cn K mg) : mg "_law_signs_right" = some (.ref (He.ga K "_law_signs_right")) := C.glo 9
theorem Cn.g__law_told (C : Cn K mg) : mg "_law_told" = some (.ref (He.ga K "_law_told")) := C.glo 10
theorem Cn.g__law_well (C : Cn K mg) : mg "_law_well" = some (.ref (He.ga K "_law_well")) := C.glo 11
theorem Cn.g_common_row (C : Cn K mg) : mg "common_row" = some (.ref (He.ga K "common_row")) := C.glo 12
theorem Cn.g_divisor_of (C : Cn K mg) : mg "divisor_of" = some (.ref (He.ga K "divisor_of")) := C.glo 13
theorem Cn.g_is_digits (C : Cn K mg) : mg "is_digits" = some (.ref (He.ga K "is_digits")) := C.glo 14
theorem Cn.g_is_row (C : Cn K mg) : mg "is_row" = some (.ref (He.ga K "is_row")) := C.glo 15
theorem Cn.g_is_whole (C : Cn K mg) : mg "is_whole" = some (.ref (He.ga K "is_whole")) := C.glo 16
theorem Cn.g_lowest (C : Cn K mg) : mg "lowest" = some (.ref (He.ga K "lowest")) := C.glo 17
theorem Cn.g_plain (C : Cn K mg) : mg "plain" = some (.ref (He.ga K "plain")) := C.glo 18
theorem Cn.g_power_text (C : Cn K mg) : mg "power_text" = some (.ref (He.ga K "power_text")) := C.glo 19
theorem Cn.g_quotient (C : Cn K mg) : mg "quotient" = some (.ref (He.ga K "quotient")) := C.glo 20
theorem Cn.g_ratio_in (C : Cn K mg) : mg "ratio_in" = some (.ref (He.ga K "ratio_in")) := C.glo 21
theorem Cn.g_ratio_of (C : Cn K mg) : mg "ratio_of" = some (.ref (He.ga K "ratio_of")) := C.glo 22
theorem Cn.g_rest_of (C : Cn K mg) : mg "rest_of" = some (.ref (He.ga K "rest_of")) := C.glo 23
theorem Cn.g_row_in (C : Cn K mg) : mg "row_in" = some (.ref (He.ga K "row_in")) := C.glo 24
theorem Cn.g_row_product (C : Cn K mg) : mg "row_product" = some (.ref (He.ga K "row_product")) := C.glo 25
theorem Cn.g_row_sum (C : Cn K mg) : mg "row_sum" = some (.ref (He.ga K "row_sum")) := C.glo 26
theorem Cn.g_row_text (C : Cn K mg) : mg "row_text" = some (.ref (He.ga K "row_text")) := C.glo 27
theorem Cn.g_term_in (C : Cn K mg) : mg "term_in" = some (.ref (He.ga K "term_in")) := C.glo 28
theorem Cn.g_trimmed (C : Cn K mg) : mg "trimmed" = some (.ref (He.ga K "trimmed")) := C.glo 29
theorem Cn.f_abs (C : Cn K mg) : mg "abs" = none := C.free 30
theorem Cn.f_all (C : Cn K mg) : mg "all" = none := C.free 31
theorem Cn.f_bool (C : Cn K mg) : mg "bool" = none := C.free 32
theorem Cn.f_enumerate (C : Cn K mg) : mg "enumerate" = none := C.free 33
theorem Cn.f_int (C : Cn K mg) : mg "int" = none := C.free 34
theorem Cn.f_isinstance (C : Cn K mg) : mg "isinstance" = none := C.free 35
theorem Cn.f_len (C : Cn K mg) : mg "len" = none := C.free 36
theorem Cn.f_list (C : Cn K mg) : mg "list" = none := C.free 37
theorem Cn.f_max (C : Cn K mg) : mg "max" = none := C.free 38
theorem Cn.f_min (C : Cn K mg) : mg "min" = none := C.free 39
theorem Cn.f_range (C : Cn K mg) : mg "range" = none := C.free 40
theorem Cn.f_repr (C : Cn K mg) : mg "repr" = none := C.free 41
theorem Cn.f_str (C : Cn K mg) : mg "str" = none := C.free 42
theorem Cn.f_tuple (C : Cn K mg) : mg "tuple" = none := C.free 43
theorem Cn.f_zip (C : Cn K mg) : mg "zip" = none := C.free 44
theorem Cn.n_MOST_LATER (C : Cn K mg) : ∃ t, mg "MOST_LATER" = some (.int 20 t) := C.int 45
theorem Cn.n_MOST_POWER (C : Cn K mg) : ∃ t, mg "MOST_POWER" = some (.int 6 t) := C.int 46
theorem Cn.g_law (C : Cn K mg) : mg "law" = some (.ref (He.ga K "law")) := C.glo 47
theorem Cn.mk_Ratio (C : Cn K mg) : Mk K (He.ga K "Ratio") (He.ma K (He.ga K "Ratio") "__init__") := He.mkr_ok (C.c.says.fact 48 rfl)
theorem Cn.cls_Ratio (C : Cn K mg) : Cls K (He.ga K "Ratio") := He.cls_ok (C.c.says.fact 49 rfl)
theorem Cn.noat_Ratio_bottom (C : Cn K mg) : NoAttr K (He.ga K "Ratio") "bottom" := He.noat_ok (C.c.says.fact 50 rfl)
theorem Cn.noat_Ratio_top (C : Cn K mg) : NoAttr K (He.ga K "Ratio") "top" := He.noat_ok (C.c.says.fact 51 rfl)
theorem Cn.has_bottom (C : Cn K mg) : Has K (He.ga K) "bottom" ["Ratio"] := ⟨fun c hc => by
  simp only [List.mem_cons, List.not_mem_nil, or_false] at hc
  rcases hc with rfl
  · exact C.cls_Ratio
, fun c hc => by
  simp only [List.mem_cons, List.not_mem_nil, or_false] at hc
  rcases hc with rfl
  · exact C.noat_Ratio_bottom
⟩
theorem Cn.has_top (C : Cn K mg) : Has K (He.ga K) "top" ["Ratio"] := ⟨fun c hc => by
  simp only [List.mem_cons, List.not_mem_nil, or_false] at hc
  rcases hc with rfl
  · exact C.cls_Ratio
, fun c hc => by
  simp only [List.mem_cons, List.not_mem_nil, or_false] at hc
  rcases hc with rfl
  · exact C.noat_Ratio_top
⟩
theorem Cn.insb_Ratio (C : Cn K mg) : insB K "Ratio" = true := C.bx 0
theorem Cn.tab__law_right (C : Cn K mg) : tabB K "_law_right" = true := C.bx 1
theorem Cn.tab__law_signs_right (C : Cn K mg) : tabB K "_law_signs_right" = true := C.bx 2
theorem Cn.tabnd (C : Cn K mg) : decide ((mk_.map fun p => ttA K p.1).Nodup) = true := C.bx 3
theorem Cn.eqb (C : Cn K mg) : eqcB K "Ratio" ["str", "tuple", "list", "NoneType", "int", "bool", "dict"] = true := C.bx 4
theorem Cn.sltb_str (C : Cn K mg) : slotB K "Ratio" "__str__" = true := C.bx 5
theorem Cn.slrb_Ratio (C : Cn K mg) : slotB K "Ratio" "__repr__" = true := C.bx 6
theorem Cn.isb_Ratio (C : Cn K mg) : tl_Ratio.all (isaB K) = true := C.bx 7
theorem Cn.isb_bool (C : Cn K mg) : tl_bool.all (isaB K) = true := C.bx 8
theorem Cn.isb_int (C : Cn K mg) : tl_int.all (isaB K) = true := C.bx 9
theorem Cn.isb_str (C : Cn K mg) : tl_str.all (isaB K) = true := C.bx 10
theorem Cn.isb_tuple (C : Cn K mg) : tl_tuple.all (isaB K) = true := C.bx 11
theorem Cn.xdb (C : Cn K mg) : xd_.all (fun d => d.ok K) = true := C.bx 12
theorem Cn.xr_ZeroBelow (C : Cn K mg) : xr0B K "ZeroBelow" = true := C.bx 13
theorem Cn.bl_Ratio_add_str_tuple_list_NoneType_bool_dict_b (C : Cn K mg) : binB K "Ratio" "__add__" "__radd__" ["str", "tuple", "list", "NoneType", "bool", "dict"] = true := C.bx 14
theorem Cn.bl_Ratio_mul_str_tuple_list_NoneType_bool_dict_b (C : Cn K mg) : binB K "Ratio" "__mul__" "__rmul__" ["str", "tuple", "list", "NoneType", "bool", "dict"] = true := C.bx 15
theorem Cn.bl_Ratio_pow_int_b (C : Cn K mg) : binB K "Ratio" "__pow__" "__rpow__" ["int"] = true := C.bx 16
theorem Cn.bl_Ratio_sub_str_tuple_list_NoneType_bool_dict_b (C : Cn K mg) : binB K "Ratio" "__sub__" "__rsub__" ["str", "tuple", "list", "NoneType", "bool", "dict"] = true := C.bx 17
theorem Cn.br_Ratio_add_b (C : Cn K mg) : binRB K "Ratio" "__add__" "__radd__" = true := C.bx 18
theorem Cn.br_Ratio_sub_b (C : Cn K mg) : binRB K "Ratio" "__sub__" "__rsub__" = true := C.bx 19
theorem Cn.meb_Ratio_later (C : Cn K mg) : methB K "Ratio" "later" = true := C.bx 20
theorem Cn.meb_Ratio_over (C : Cn K mg) : methB K "Ratio" "over" = true := C.bx 21
theorem Cn.cob_Ratio (C : Cn K mg) : callB K "Ratio" = true := C.bx 22
theorem Cn.fmb_Ratio (C : Cn K mg) : fmtB K "Ratio" = true := C.bx 23
theorem Cn.tx__law_told_0 (C : Cn K mg) : tx__law_told_0.all (exmB K ["InvalidCount"]) = true := C.bx 24
theorem Cn.tx__law_told_1 (C : Cn K mg) : tx__law_told_1.all (exmB K ["NotARatio"]) = true := C.bx 25
theorem Cn.tx__law_told_2 (C : Cn K mg) : tx__law_told_2.all (exmB K ["InvalidText"]) = true := C.bx 26
theorem Cn.tx__law_told_3 (C : Cn K mg) : tx__law_told_3.all (exmB K ["ZeroBelow"]) = true := C.bx 27
theorem Cn.tx__law_told_4 (C : Cn K mg) : tx__law_told_4.all (exmB K ["Gap"]) = true := C.bx 28
theorem Cn.ins_Ratio (C : Cn K mg) : ∀ D ∈ (["Ratio"] : List Str), InsF K (He.ga K D) := fun D h => by
  simp only [List.mem_cons, List.not_mem_nil, or_false] at h
  subst h
  exact insB_ok C.insb_Ratio
theorem Cn.eqc (C : Cn K mg) : EqC K (He.ga K) "Ratio" (He.ma K (He.ga K "Ratio") "__eq__") ["str", "tuple", "list", "NoneType", "int", "bool", "dict"] := eqcB_ok C.eqb
theorem Cn.slot_str (C : Cn K mg) : PySem.W.findIn K (.ref (He.ga K "Ratio")) "__str__" = some (some (.ref (He.ma K (He.ga K "Ratio") "__str__"))) ∧ PySem.W.isFn K (.ref (He.ma K (He.ga K "Ratio") "__str__")) = true := slotB_ok C.sltb_str
theorem Cn.slr_Ratio (C : Cn K mg) : PySem.W.findIn K (.ref (He.ga K "Ratio")) "__repr__" = some (some (.ref (He.ma K (He.ga K "Ratio") "__repr__"))) ∧ PySem.W.isFn K (.ref (He.ma K (He.ga K "Ratio") "__repr__")) = true := slotB_ok C.slrb_Ratio
theorem Cn.isa_Ratio (C : Cn K mg) : Isa K (He.ga K) [] (isaT tl_Ratio) := ⟨(fun _ h => nomatch h), isaT_ok C.isb_Ratio⟩
theorem Cn.isa_bool (C : Cn K mg) : Isa K (He.ga K) [] (isaT tl_bool) := ⟨(fun _ h => nomatch h), isaT_ok C.isb_bool⟩
theorem Cn.isa_int (C : Cn K mg) : Isa K (He.ga K) [] (isaT tl_int) := ⟨(fun _ h => nomatch h), isaT_ok C.isb_int⟩
theorem Cn.isa_str (C : Cn K mg) : Isa K (He.ga K) [] (isaT tl_str) := ⟨(fun _ h => nomatch h), isaT_ok C.isb_str⟩
theorem Cn.isa_tuple (C : Cn K mg) : Isa K (He.ga K) [] (isaT tl_tuple) := ⟨(fun _ h => nomatch h), isaT_ok C.isb_tuple⟩
theorem Cn.xd (C : Cn K mg) (i : Nat) {d : XD} (h : xd_[i]? = some d := by rfl) : d.ok K = true := List.all_eq_true.mp C.xdb d (List.mem_of_getElem? h)
theorem Cn.fld_value (C : Cn K mg) : Fld K (He.ga K) "value" (fl_k06 "value") := by
  have key : ((fl_k06 "value").all fun c => xd_.any fun d => decide (d.nm = c) && (match d.fs with
    | some fs => fs.contains "value"
    | none => false)) = true := by decide +kernel
  have get : ∀ c ∈ fl_k06 "value", ∃ d ∈ xd_, ∃ fs, d.nm = c ∧ d.fs = some fs ∧ ("value" : Str) ∈ fs := fun c hc => by
    obtain ⟨d, hd, z⟩ := List.any_eq_true.mp (List.all_eq_true.mp key c hc)
    obtain ⟨z1, z2⟩ := He.ba z
    cases e : d.fs with
    | none => rw [e] at z2; cases z2
    | some fs => rw [e] at z2; exact ⟨d, hd, fs, of_decide_eq_true z1, e, List.contains_iff_mem.mp z2⟩
  refine ⟨fun c hc => ?_, fun c hc => ?_⟩
  · obtain ⟨d, hd, fs, rfl, e, m⟩ := get c hc
    exact (XD.xf (List.all_eq_true.mp C.xdb d hd)).fld
  · obtain ⟨d, hd, fs, rfl, e, m⟩ := get c hc
    exact (XD.made (List.all_eq_true.mp C.xdb d hd) e).2.1 _ m
theorem Cn.bl_Ratio_add_str_tuple_list_NoneType_bool_dict (C : Cn K mg) : BinC K (He.ga K) "Ratio" .Add (He.ma K (He.ga K "Ratio") "__add__") ["str", "tuple", "list", "NoneType", "bool", "dict"] := binB_ok C.bl_Ratio_add_str_tuple_list_NoneType_bool_dict_b rfl rfl
theorem Cn.bl_Ratio_mul_str_tuple_list_NoneType_bool_dict (C : Cn K mg) : BinC K (He.ga K) "Ratio" .Mult (He.ma K (He.ga K "Ratio") "__mul__") ["str", "tuple", "list", "NoneType", "bool", "dict"] := binB_ok C.bl_Ratio_mul_str_tuple_list_NoneType_bool_dict_b rfl rfl
theorem Cn.bl_Ratio_pow_int (C : Cn K mg) : BinC K (He.ga K) "Ratio" .Pow (He.ma K (He.ga K "Ratio") "__pow__") ["int"] := binB_ok C.bl_Ratio_pow_int_b rfl rfl
theorem Cn.bl_Ratio_sub_str_tuple_list_NoneType_bool_dict (C : Cn K mg) : BinC K (He.ga K) "Ratio" .Sub (He.ma K (He.ga K "Ratio") "__sub__") ["str", "tuple", "list", "NoneType", "bool", "dict"] := binB_ok C.bl_Ratio_sub_str_tuple_list_NoneType_bool_dict_b rfl rfl
theorem Cn.br_Ratio_add (C : Cn K mg) : BinR K (He.ga K) "Ratio" .Add (He.ma K (He.ga K "Ratio") "__radd__") := binRB_ok C.br_Ratio_add_b rfl rfl
theorem Cn.br_Ratio_sub (C : Cn K mg) : BinR K (He.ga K) "Ratio" .Sub (He.ma K (He.ga K "Ratio") "__rsub__") := binRB_ok C.br_Ratio_sub_b rfl rfl
theorem Cn.me_Ratio_later (C : Cn K mg) : Meth K (He.ga K "Ratio") "later" (He.ma K (He.ga K "Ratio") "later") := methB_ok C.meb_Ratio_later
theorem Cn.me_Ratio_over (C : Cn K mg) : Meth K (He.ga K "Ratio") "over" (He.ma K (He.ga K "Ratio") "over") := methB_ok C.meb_Ratio_over
theorem Cn.co_Ratio (C : Cn K mg) : StX.CallO K (He.ga K "Ratio") (He.ma K (He.ga K "Ratio") "__call__") := callB_ok C.cob_Ratio
theorem Cn.fm_Ratio (C : Cn K mg) : FmtO K (He.ga K "Ratio") := fmtB_ok C.fmb_Ratio
theorem Cn.x0_ZeroBelow (C : Cn K mg) : PySem.W.excIn K (He.ga K "ZeroBelow") (Fam.r).tail (Fam.r).new = true ∧ PySem.W.keepIn K (.ref (He.ga K "ZeroBelow")) = true := XD.plain (C.xd 2) rfl
theorem Cn.xp_InvalidText (C : Cn K mg) : XI_ P w K mg base 1 1 (He.ga K "InvalidText") ["value"] [] gCat := by
  obtain ⟨fd, Fd⟩ := C.c.says.def_ 38 rfl
  obtain ⟨z1, z2, z3, z4⟩ := XD.made (C.xd 0) rfl
  exact ⟨z1, z2, ⟨_, fd, ["self", "value"], _, z3, z4, ok_init1 Fd (⟨rfl, rfl, rfl, by decide +kernel, rfl, by decide +kernel, by decide +kernel⟩ : FnScope ["self", "value"] ["self", "value"] _) rfl rfl (by decide) (by decide), kbn_plain Fd 2 [] (fun {α} => gCat) hCat fun _ _ _ _ _ _ us ws h1 h2 => match us, ws, h1, h2 with
    | [_, _], [], _, _ => rfl⟩⟩
theorem Cn.xp_NotARatio (C : Cn K mg) : XI_ P w K mg base 1 1 (He.ga K "NotARatio") ["value"] [] gCat := by
  obtain ⟨fd, Fd⟩ := C.c.says.def_ 39 rfl
  obtain ⟨z1, z2, z3, z4⟩ := XD.made (C.xd 1) rfl
  exact ⟨z1, z2, ⟨_, fd, ["self", "value"], _, z3, z4, ok_init1 Fd (⟨rfl, rfl, rfl, by decide +kernel, rfl, by decide +kernel, by decide +kernel⟩ : FnScope ["self", "value"] ["self", "value"] _) rfl rfl (by decide) (by decide), kbn_plain Fd 2 [] (fun {α} => gCat) hCat fun _ _ _ _ _ _ us ws h1 h2 => match us, ws, h1, h2 with
    | [_, _], [], _, _ => rfl⟩⟩
theorem Cn.xp_InvalidCount (C : Cn K mg) : XI_ P w K mg base 1 1 (He.ga K "InvalidCount") ["value"] [] gCat := by
  obtain ⟨fd, Fd⟩ := C.c.says.def_ 40 rfl
  obtain ⟨z1, z2, z3, z4⟩ := XD.made (C.xd 3) rfl
  exact ⟨z1, z2, ⟨_, fd, ["self", "value"], _, z3, z4, ok_init1 Fd (⟨rfl, rfl, rfl, by decide +kernel, rfl, by decide +kernel, by decide +kernel⟩ : FnScope ["self", "value"] ["self", "value"] _) rfl rfl (by decide) (by decide), kbn_plain Fd 2 [] (fun {α} => gCat) hCat fun _ _ _ _ _ _ us ws h1 h2 => match us, ws, h1, h2 with
    | [_, _], [], _, _ => rfl⟩⟩
abbrev N_is_whole : List Str := ["value"]
theorem sc_is_whole : FnScope N_is_whole ["value"] (defScope (top 12)) := ⟨rfl, rfl, rfl, by decide +kernel, rfl, by decide +kernel, by decide +kernel⟩
abbrev N_Ratio___call__ : List Str := ["self", "at", "below"]
theorem sc_Ratio___call__ : FnScope N_Ratio___call__ ["self", "at"] (defScope (inCls (top 28) 11)) := ⟨rfl, rfl, rfl, by decide +kernel, rfl, by decide +kernel, by decide +kernel⟩
abbrev N_Ratio___eq__ : List Str := ["self", "other"]
theorem sc_Ratio___eq__ : FnScope N_Ratio___eq__ ["self", "other"] (defScope (inCls (top 28) 14)) := ⟨rfl, rfl, rfl, by decide +kernel, rfl, by decide +kernel, by decide +kernel⟩
abbrev N_is_row : List Str := ["value", "factor"]
theorem sc_is_row : FnScope N_is_row ["value"] (defScope (top 24)) := ⟨rfl, rfl, rfl, by decide +kernel, rfl, by decide +kernel, by decide +kernel⟩
abbrev N_divisor_of : List Str := ["one", "other"]
theorem sc_divisor_of : FnScope N_divisor_of ["one", "other"] (defScope (top 13)) := ⟨rfl, rfl, rfl, by decide +kernel, rfl, by decide +kernel, by decide +kernel⟩
abbrev N_plain : List Str := ["row", "common", "factor"]
theorem sc_plain : FnScope N_plain ["row"] (defScope (top 18)) := ⟨rfl, rfl, rfl, by decide +kernel, rfl, by decide +kernel, by decide +kernel⟩
abbrev N_trimmed : List Str := ["row", "end"]
theorem sc_trimmed : FnScope N_trimmed ["row"] (defScope (top 15)) := ⟨rfl, rfl, rfl, by decide +kernel, rfl, by decide +kernel, by decide +kernel⟩
abbrev N_row_sum : List Str := ["one", "other", "times", "size", "wide", "more", "first", "second"]
theorem sc_row_sum : FnScope N_row_sum ["one", "other", "times"] (defScope (top 16)) := ⟨rfl, rfl, rfl, by decide +kernel, rfl, by decide +kernel, by decide +kernel⟩
abbrev N_rest_of : List Str := ["one", "other", "rest", "shift", "scaled", "factor"]
theorem sc_rest_of : FnScope N_rest_of ["one", "other"] (defScope (top 19)) := ⟨rfl, rfl, rfl, by decide +kernel, rfl, by decide +kernel, by decide +kernel⟩
abbrev N_common_row : List Str := ["one", "other", "first", "second"]
theorem sc_common_row : FnScope N_common_row ["one", "other"] (defScope (top 20)) := ⟨rfl, rfl, rfl, by decide +kernel, rfl, by decide +kernel, by decide +kernel⟩
abbrev N_quotient : List Str := ["one", "other", "found", "rest", "at", "factor"]
theorem sc_quotient : FnScope N_quotient ["one", "other"] (defScope (top 21)) := ⟨rfl, rfl, rfl, by decide +kernel, rfl, by decide +kernel, by decide +kernel⟩
abbrev N_lowest : List Str := ["top", "bottom", "common", "number", "factor"]
theorem sc_lowest : FnScope N_lowest ["top", "bottom"] (defScope (top 25)) := ⟨rfl, rfl, rfl, by decide +kernel, rfl, by decide +kernel, by decide +kernel⟩
abbrev N_Ratio___init__ : List Str := ["self", "top", "bottom"]
theorem sc_Ratio___init__ : FnScope N_Ratio___init__ ["self", "top", "bottom"] (defScope (inCls (top 28) 0)) := ⟨rfl, rfl, rfl, by decide +kernel, rfl, by decide +kernel, by decide +kernel⟩
abbrev N_Ratio___pow__ : List Str := ["self", "count", "found", "turn"]
theorem sc_Ratio___pow__ : FnScope N_Ratio___pow__ ["self", "count"] (defScope (inCls (top 28) 9)) := ⟨rfl, rfl, rfl, by decide +kernel, rfl, by decide +kernel, by decide +kernel⟩
abbrev N_power_text : List Str := ["power"]
theorem sc_power_text : FnScope N_power_text ["power"] (defScope (top 26)) := ⟨rfl, rfl, rfl, by decide +kernel, rfl, by decide +kernel, by decide +kernel⟩
abbrev N_row_text : List Str := ["row", "words", "power", "factor", "size", "word"]
theorem sc_row_text : FnScope N_row_text ["row"] (defScope (top 27)) := ⟨rfl, rfl, rfl, by decide +kernel, rfl, by decide +kernel, by decide +kernel⟩
abbrev N_Ratio___str__ : List Str := ["self"]
theorem sc_Ratio___str__ : FnScope N_Ratio___str__ ["self"] (defScope (inCls (top 28) 15)) := ⟨rfl, rfl, rfl, by decide +kernel, rfl, by decide +kernel, by decide +kernel⟩
abbrev N_Ratio___repr__ : List Str := ["self"]
theorem sc_Ratio___repr__ : FnScope N_Ratio___repr__ ["self"] (defScope (inCls (top 28) 16)) := ⟨rfl, rfl, rfl, by decide +kernel, rfl, by decide +kernel, by decide +kernel⟩
abbrev N_ratio_of : List Str := ["value"]
theorem sc_ratio_of : FnScope N_ratio_of ["value"] (defScope (top 29)) := ⟨rfl, rfl, rfl, by decide +kernel, rfl, by decide +kernel, by decide +kernel⟩
abbrev N_row_product : List Str := ["one", "other", "found", "at", "factor"]
theorem sc_row_product : FnScope N_row_product ["one", "other"] (defScope (top 17)) := ⟨rfl, rfl, rfl, by decide +kernel, rfl, by decide +kernel, by decide +kernel⟩
abbrev N_Ratio___sub__ : List Str := ["self", "other", "second", "top"]
theorem sc_Ratio___sub__ : FnScope N_Ratio___sub__ ["self", "other"] (defScope (inCls (top 28) 4)) := ⟨rfl, rfl, rfl, by decide +kernel, rfl, by decide +kernel, by decide +kernel⟩
abbrev N_Ratio_later : List Str := ["self", "by"]
theorem sc_Ratio_later : FnScope N_Ratio_later ["self", "by"] (defScope (inCls (top 28) 12)) := ⟨rfl, rfl, rfl, by decide +kernel, rfl, by decide +kernel, by decide +kernel⟩
abbrev N_Ratio_over : List Str := ["self", "other", "second"]
theorem sc_Ratio_over : FnScope N_Ratio_over ["self", "other"] (defScope (inCls (top 28) 10)) := ⟨rfl, rfl, rfl, by decide +kernel, rfl, by decide +kernel, by decide +kernel⟩
abbrev N_is_digits : List Str := ["text", "sign"]
theorem sc_is_digits : FnScope N_is_digits ["text"] (defScope (top 32)) := ⟨rfl, rfl, rfl, by decide +kernel, rfl, by decide +kernel, by decide +kernel⟩
abbrev N_term_in : List Str := ["word", "factor", "star", "power"]
theorem sc_term_in : FnScope N_term_in ["word"] (defScope (top 33)) := ⟨rfl, rfl, rfl, by decide +kernel, rfl, by decide +kernel, by decide +kernel⟩
abbrev N_row_in : List Str := ["text", "found", "body", "sign", "words", "at", "word", "way", "term"]
theorem sc_row_in : FnScope N_row_in ["text"] (defScope (top 31)) := ⟨rfl, rfl, rfl, by decide +kernel, rfl, by decide +kernel, by decide +kernel⟩
abbrev N_ratio_in : List Str := ["text", "top", "bottom", "sign", "first", "second"]
theorem sc_ratio_in : FnScope N_ratio_in ["text"] (defScope (top 30)) := ⟨rfl, rfl, rfl, by decide +kernel, rfl, by decide +kernel, by decide +kernel⟩
abbrev N_Ratio_read : List Str := ["text", "found"]
theorem sc_Ratio_read : FnScope N_Ratio_read ["text"] (defScope (inCls (top 28) 1)) := ⟨rfl, rfl, rfl, by decide +kernel, rfl, by decide +kernel, by decide +kernel⟩
abbrev N__law_dip : List Str := ["_law_well_here", "_law_many", "_law_digit", "_law_state"]
theorem sc__law_dip : FnScope N__law_dip ["_law_well_here", "_law_many"] (defScope (top 36)) := ⟨rfl, rfl, rfl, by decide +kernel, rfl, by decide +kernel, by decide +kernel⟩
abbrev N__law_any : List Str := ["_law_well_here", "_law_things"]
theorem sc__law_any : FnScope N__law_any ["_law_well_here", "_law_things"] (defScope (top 37)) := ⟨rfl, rfl, rfl, by decide +kernel, rfl, by decide +kernel, by decide +kernel⟩
abbrev N_Ratio___add__ : List Str := ["self", "other", "second", "top"]
theorem sc_Ratio___add__ : FnScope N_Ratio___add__ ["self", "other"] (defScope (inCls (top 28) 2)) := ⟨rfl, rfl, rfl, by decide +kernel, rfl, by decide +kernel, by decide +kernel⟩
abbrev N_Ratio___mul__ : List Str := ["self", "other", "second"]
theorem sc_Ratio___mul__ : FnScope N_Ratio___mul__ ["self", "other"] (defScope (inCls (top 28) 6)) := ⟨rfl, rfl, rfl, by decide +kernel, rfl, by decide +kernel, by decide +kernel⟩
abbrev N_Ratio___radd__ : List Str := ["self", "other"]
theorem sc_Ratio___radd__ : FnScope N_Ratio___radd__ ["self", "other"] (defScope (inCls (top 28) 3)) := ⟨rfl, rfl, rfl, by decide +kernel, rfl, by decide +kernel, by decide +kernel⟩
abbrev N_Ratio___rsub__ : List Str := ["self", "other"]
theorem sc_Ratio___rsub__ : FnScope N_Ratio___rsub__ ["self", "other"] (defScope (inCls (top 28) 5)) := ⟨rfl, rfl, rfl, by decide +kernel, rfl, by decide +kernel, by decide +kernel⟩
abbrev N__law_told : List Str := ["_law_act", "e"]
theorem sc__law_told : FnScope N__law_told ["_law_act"] (defScope (top 38)) := ⟨rfl, rfl, rfl, by decide +kernel, rfl, by decide +kernel, by decide +kernel⟩
abbrev N__law_signs_right : List Str := ["_law_ratio", "_law_odd", "_law_due", "_law_told_here"]
theorem sc__law_signs_right : FnScope N__law_signs_right ["_law_ratio", "_law_odd"] (defScope (top 39)) := ⟨rfl, rfl, rfl, by decide +kernel, rfl, by decide +kernel, by decide +kernel⟩
abbrev N__law_right : List Str := ["_law_well_here", "_law_odds", "_law_odd", "_law_other", "_law_ratio", "_law_told_here", "_law_due", "_law_wrong", "_law_each"]
theorem sc__law_right : FnScope N__law_right ["_law_well_here"] (defScope (top 40)) := ⟨rfl, rfl, rfl, by decide +kernel, rfl, by decide +kernel, by decide +kernel⟩
abbrev N__law_well : List Str := ["_law_script", "_law_spot", "_law_mixed", "_law_number", "_law_own", "_law_digits"]
theorem sc__law_well : FnScope N__law_well ["_law_script", "_law_spot"] (defScope (top 35)) := ⟨rfl, rfl, rfl, by decide +kernel, rfl, by decide +kernel, by decide +kernel⟩
abbrev N_law : List Str := ["_law_script", "_law_spot"]
theorem sc_law : FnScope N_law ["_law_script"] (defScope (top 41)) := ⟨rfl, rfl, rfl, by decide +kernel, rfl, by decide +kernel, by decide +kernel⟩
theorem ok_is_whole (C : Cn K mg) {fd : FuncData} (Fd : FunD K "is_whole" "is_whole" (defArgs (top 12)) (defBody (top 12)) (defScope (top 12)) [] [] (He.ga K "is_whole") fd) : FnG P w K mg base 1 (He.ga K "is_whole") fd ["value"] (SPx K (gq P w K) p_is_whole) := by
  have sc := sc_is_whole
  refine (fn_ok (k := 0) (N := N_is_whole) (b := B_p_is_whole) Fd sc fun cdv A outer s H E hr hgd => ?_)
  have hu := hr.units
  have hu1 : (A.deeper (envOfC "is_whole" (defScope (top 12)) s.heap.objs.size (He.ga K "is_whole") cdv)).units + (64 + 1) < cLine := by have := hr.un; omega
  unfold B_p_is_whole
  exact (s_one (s_ret (e_and rfl (e_callB (cr_isiI rfl C.isa_int C.ins_Ratio) rfl C.f_isinstance (by decide +kernel) (a_cons (e_v 0) (a_cons (e_bty rfl C.f_int (by decide +kernel)) a_nil))) (e_one (e_not rfl (e_callB (cr_isiI rfl C.isa_bool C.ins_Ratio) rfl C.f_isinstance (by decide +kernel) (a_cons (e_v 0) (a_cons (e_bty rfl C.f_bool (by decide +kernel)) a_nil))))))))
theorem ok_Ratio___call__ (C : Cn K mg) {fd : FuncData} (Fd : FunD K "__call__" "Ratio.__call__" (defArgs (inCls (top 28) 11)) (defBody (inCls (top 28) 11)) (defScope (inCls (top 28) 11)) [] [] (He.ma K (He.ga K "Ratio") "__call__") fd) : FnG P w K mg base 3 (He.ma K (He.ga K "Ratio") "__call__") fd ["self", "at"] (SPx K (gq P w K) p_Ratio___call__) := by
  have sc := sc_Ratio___call__
  obtain ⟨fd_is_whole, F_is_whole⟩ := C.c.says.def_ 0 rfl
  have G_is_whole := (ok_is_whole (P := P) (w := w) (base := base) C F_is_whole)
  have b_is_whole : Binds K fd_is_whole ["value"] [] := F_is_whole.bindsN fun _ _ _ _ _ _ us hl => match us, hl with | [_], _ => rfl
  refine (fn_ok (k := 2) (N := N_Ratio___call__) (b := B_p_Ratio___call__) Fd sc fun cdv A outer s H E hr hgd => ?_)
  have hu := hr.units
  have hu1 : (A.deeper (envOfC "Ratio.__call__" (defScope (inCls (top 28) 11)) s.heap.objs.size (He.ma K (He.ga K "Ratio") "__call__") cdv)).units + (64 + 1) < cLine := by have := hr.un; omega
  unfold B_p_Ratio___call__
  exact (s_cons (s_if (t_not (t_tru rfl (e_call (dd := []) (dvs := []) (ds := []) (G_is_whole.mono (by omega)) hr hgd rfl C.g_is_whole F_is_whole.kp b_is_whole .nil (fun _ _ _ => .nil) (L2N.takes_of rfl rfl rfl rfl) (a_cons (e_v 1) a_nil)))) (s_one (s_raise rfl (L2N.takes_of rfl rfl rfl rfl) (XI_.of (C.xp_InvalidCount (P := P) (w := w) (base := base))) (raisesX (C.xp_InvalidCount (P := P) (w := w) (base := base)).cls) pm_pos (hr.mono (by omega)) rfl C.g_InvalidCount (a_cons (e_v 1) a_nil))) s_nil)
  ss_bad)
theorem ok_Ratio___eq__ (C : Cn K mg) {fd : FuncData} (Fd : FunD K "__eq__" "Ratio.__eq__" (defArgs (inCls (top 28) 14)) (defBody (inCls (top 28) 14)) (defScope (inCls (top 28) 14)) [] [] (He.ma K (He.ga K "Ratio") "__eq__") fd) : FnG P w K mg base 1 (He.ma K (He.ga K "Ratio") "__eq__") fd ["self", "other"] (SPx K (gq P w K) p_Ratio___eq__) := by
  have sc := sc_Ratio___eq__
  refine (fn_ok (k := 0) (N := N_Ratio___eq__) (b := B_p_Ratio___eq__) Fd sc fun cdv A outer s H E hr hgd => ?_)
  have hu := hr.units
  have hu1 : (A.deeper (envOfC "Ratio.__eq__" (defScope (inCls (top 28) 14)) s.heap.objs.size (He.ma K (He.ga K "Ratio") "__eq__") cdv)).units + (64 + 1) < cLine := by have := hr.un; omega
  unfold B_p_Ratio___eq__
  exact (s_one (s_ret (e_and rfl (e_callB (cr_isiI rfl C.isa_Ratio C.ins_Ratio) rfl C.f_isinstance (by decide +kernel) (a_cons (e_v 1) (a_cons (e_glo rfl C.g_Ratio) a_nil))) (e_and rfl (e_cmp (or_eq rfl hu) (e_get rfl C.has_top (e_v 0)) (e_get rfl C.has_top (e_v 1))) (e_one (e_cmp (or_eq rfl hu) (e_get rfl C.has_bottom (e_v 0)) (e_get rfl C.has_bottom (e_v 1))))))))
theorem ok_is_row (C : Cn K mg) {fd : FuncData} (Fd : FunD K "is_row" "is_row" (defArgs (top 24)) (defBody (top 24)) (defScope (top 24)) [] [] (He.ga K "is_row") fd) : FnG P w K mg base 2 (He.ga K "is_row") fd ["value"] (SPx K (gq P w K) p_is_row) := by
  have sc := sc_is_row
  obtain ⟨fd_is_whole, F_is_whole⟩ := C.c.says.def_ 0 rfl
  have G_is_whole := (ok_is_whole (P := P) (w := w) (base := base) C F_is_whole)
  have b_is_whole : Binds K fd_is_whole ["value"] [] := F_is_whole.bindsN fun _ _ _ _ _ _ us hl => match us, hl with | [_], _ => rfl
  refine (fn_ok (k := 1) (N := N_is_row) (b := B_p_is_row) Fd sc fun cdv A outer s H E hr hgd => ?_)
  have hu := hr.units
  have hu1 : (A.deeper (envOfC "is_row" (defScope (top 24)) s.heap.objs.size (He.ga K "is_row") cdv)).units + (64 + 1) < cLine := by have := hr.un; omega
  unfold B_p_is_row
  exact (s_one (s_ret (e_and rfl (e_callB (cr_isiI rfl C.isa_tuple C.ins_Ratio) rfl C.f_isinstance (by decide +kernel) (a_cons (e_v 0) (a_cons (e_bty rfl C.f_tuple (by decide +kernel)) a_nil))) (e_and rfl (e_cmp (or_ne rfl hu) (e_v 0) (e_tup a_nil)) (e_one (e_callB (cr_allL rfl rfl) rfl C.f_all (by decide +kernel) (a_cons (e_lcF (patOk_one (i := 1)) rfl rfl sc.nd (w_any rfl (e_v 0)) (blkOk_by (own := [("factor", 1)]) (N := N_is_row) (sc := (defScope (top 24))) (by decide +kernel)) (fun _ _ _ _ _ => (pg_name (i := 1) sc.nd rfl (by first | exact .inl rfl | exact .inr rfl))) (fun _ _ _ _ _ => ts_nil) (fun _ _ _ _ _ => (e_call (dd := []) (dvs := []) (ds := []) (G_is_whole.mono (by omega)) hr hgd rfl C.g_is_whole F_is_whole.kp b_is_whole .nil (fun _ _ _ => .nil) takesF (a_cons (e_v 1) a_nil)))) a_nil)))))))
theorem ok_divisor_of (C : Cn K mg) {fd : FuncData} (Fd : FunD K "divisor_of" "divisor_of" (defArgs (top 13)) (defBody (top 13)) (defScope (top 13)) [] [] (He.ga K "divisor_of") fd) : FnG P w K mg base 1 (He.ga K "divisor_of") fd ["one", "other"] (SPx K (gq P w K) p_divisor_of) := by
  have sc := sc_divisor_of
  refine (fn_ok (k := 0) (N := N_divisor_of) (b := B_p_divisor_of) Fd sc fun cdv A outer s H E hr hgd => ?_)
  have hu := hr.units
  have hu1 : (A.deeper (envOfC "divisor_of" (defScope (top 13)) s.heap.objs.size (He.ga K "divisor_of") cdv)).units + (64 + 1) < cLine := by have := hr.un; omega
  unfold B_p_divisor_of
  exact (s_cons (s_par (i := 0) (j := 1) rfl sc.nd rfl rfl (by decide) rfl rfl (a_cons (e_callB cr_abs rfl C.f_abs (by decide +kernel) (a_cons (e_v 0) a_nil)) (a_cons (e_callB cr_abs rfl C.f_abs (by decide +kernel) (a_cons (e_v 1) a_nil)) a_nil)) rfl)
  (s_cons (s_while (m := (fun _ _ => 60)) (passes_of rfl) (t_cmp (or_ne rfl hu) (e_v 1) e_int) (s_one (s_par (i := 0) (j := 1) rfl sc.nd rfl rfl (by decide) rfl rfl (a_cons (e_v 1) (a_cons (e_bin or_mod (e_v 0) (e_v 1)) a_nil)) rfl)))
  (s_one (s_ret (e_v 0)))))
theorem ok_plain (C : Cn K mg) {fd : FuncData} (Fd : FunD K "plain" "plain" (defArgs (top 18)) (defBody (top 18)) (defScope (top 18)) [] [] (He.ga K "plain") fd) : FnG P w K mg base 2 (He.ga K "plain") fd ["row"] (SPx K (gq P w K) p_plain) := by
  have sc := sc_plain
  obtain ⟨fd_divisor_of, F_divisor_of⟩ := C.c.says.def_ 4 rfl
  have G_divisor_of := (ok_divisor_of (P := P) (w := w) (base := base) C F_divisor_of)
  have b_divisor_of : Binds K fd_divisor_of ["one", "other"] [] := F_divisor_of.bindsN fun _ _ _ _ _ _ us hl => match us, hl with | [_, _], _ => rfl
  refine (fn_ok (k := 1) (N := N_plain) (b := B_p_plain) Fd sc fun cdv A outer s H E hr hgd => ?_)
  have hu := hr.units
  have hu1 : (A.deeper (envOfC "plain" (defScope (top 18)) s.heap.objs.size (He.ga K "plain") cdv)).units + (64 + 1) < cLine := by have := hr.un; omega
  unfold B_p_plain
  exact (s_cons (s_set (i := 1) sc.nd rfl (by first | exact .inl rfl | exact .inr rfl) e_int)
  (s_cons (s_for (passes_of rfl) rfl (w_any rfl (e_v 0)) (g_name (i := 2) sc.nd rfl (by first | exact .inl rfl | exact .inr rfl)) (s_one (s_set (i := 1) sc.nd rfl (by first | exact .inl rfl | exact .inr rfl) (e_call (dd := []) (dvs := []) (ds := []) (G_divisor_of.mono (by omega)) hr hgd rfl C.g_divisor_of F_divisor_of.kp b_divisor_of .nil (fun _ _ _ => .nil) (L2N.takes_of rfl rfl rfl rfl) (a_cons (e_v 1) (a_cons (e_v 2) a_nil))))))
  (s_one (s_ret (e_callTy (cr_tuple rfl) rfl C.f_tuple (by decide +kernel) (a_cons (e_lcF (patOk_one (i := 2)) rfl rfl sc.nd (w_any rfl (e_v 0)) (blkOk_by (own := [("factor", 2)]) (N := N_plain) (sc := (defScope (top 18))) (by decide +kernel)) (fun _ _ _ _ _ => (pg_name (i := 2) sc.nd rfl (by first | exact .inl rfl | exact .inr rfl))) (fun _ _ _ _ _ => ts_nil) (fun _ _ _ _ _ => (e_bin or_fdiv (e_v 2) (e_v 1)))) a_nil))))))
theorem ok_trimmed (C : Cn K mg) {fd : FuncData} (Fd : FunD K "trimmed" "trimmed" (defArgs (top 15)) (defBody (top 15)) (defScope (top 15)) [] [] (He.ga K "trimmed") fd) : FnG P w K mg base 1 (He.ga K "trimmed") fd ["row"] (SPx K (gq P w K) p_trimmed) := by
  have sc := sc_trimmed
  refine (fn_ok (k := 0) (N := N_trimmed) (b := B_p_trimmed) Fd sc fun cdv A outer s H E hr hgd => ?_)
  have hu := hr.units
  have hu1 : (A.deeper (envOfC "trimmed" (defScope (top 15)) s.heap.objs.size (He.ga K "trimmed") cdv)).units + (64 + 1) < cLine := by have := hr.un; omega
  unfold B_p_trimmed
  exact (s_cons (s_set (i := 1) sc.nd rfl (by first | exact .inl rfl | exact .inr rfl) (e_callB (cr_len rfl) rfl C.f_len (by decide +kernel) (a_cons (e_v 0) a_nil)))
  (s_cons (s_while (m := (fun _ _ => 60)) (passes_of rfl) (t_ws (w_and (t_cmp or_gt (e_v 1) e_int) (w_and1 (t_cmp (or_eq rfl hu) (e_ix rfl (e_v 0) (e_bin or_sub (e_v 1) e_int)) e_int)))) (s_one (s_set (i := 1) sc.nd rfl (by first | exact .inl rfl | exact .inr rfl) (e_bin or_sub (e_v 1) e_int))))
  (s_one (s_ret (e_callTy (cr_tuple rfl) rfl C.f_tuple (by decide +kernel) (a_cons (e_slA rfl (e_v 0) o_none (o_some (e_v 1))) a_nil))))))
theorem ok_row_sum (C : Cn K mg) {fd : FuncData} (Fd : FunD K "row_sum" "row_sum" (defArgs (top 16)) (defBody (top 16)) (defScope (top 16)) [] [] (He.ga K "row_sum") fd) : FnG P w K mg base 2 (He.ga K "row_sum") fd ["one", "other", "times"] (SPx K (gq P w K) p_row_sum) := by
  have sc := sc_row_sum
  obtain ⟨fd_trimmed, F_trimmed⟩ := C.c.says.def_ 6 rfl
  have G_trimmed := (ok_trimmed (P := P) (w := w) (base := base) C F_trimmed)
  have b_trimmed : Binds K fd_trimmed ["row"] [] := F_trimmed.bindsN fun _ _ _ _ _ _ us hl => match us, hl with | [_], _ => rfl
  refine (fn_ok (k := 1) (N := N_row_sum) (b := B_p_row_sum) Fd sc fun cdv A outer s H E hr hgd => ?_)
  have hu := hr.units
  have hu1 : (A.deeper (envOfC "row_sum" (defScope (top 16)) s.heap.objs.size (He.ga K "row_sum") cdv)).units + (64 + 1) < cLine := by have := hr.un; omega
  unfold B_p_row_sum
  exact (s_cons (s_set (i := 3) sc.nd rfl (by first | exact .inl rfl | exact .inr rfl) (e_callB (cr_max rfl) rfl C.f_max (by decide +kernel) (a_cons (e_callB (cr_len rfl) rfl C.f_len (by decide +kernel) (a_cons (e_v 0) a_nil)) (a_cons (e_callB (cr_len rfl) rfl C.f_len (by decide +kernel) (a_cons (e_v 1) a_nil)) a_nil))))
  (s_cons (s_par (i := 4) (j := 5) rfl sc.nd rfl rfl (by decide) rfl rfl (a_cons (e_bin (or_add rfl) (e_callTy (cr_listF rfl) rfl C.f_list (by decide +kernel) (a_cons (e_v 0) a_nil)) (e_bin (or_mul rfl) (e_lstF (a_cons e_int a_nil)) (e_bin or_sub (e_v 3) (e_callB (cr_len rfl) rfl C.f_len (by decide +kernel) (a_cons (e_v 0) a_nil))))) (a_cons (e_bin (or_add rfl) (e_callTy (cr_listF rfl) rfl C.f_list (by decide +kernel) (a_cons (e_v 1) a_nil)) (e_bin (or_mul rfl) (e_lstF (a_cons e_int a_nil)) (e_bin or_sub (e_v 3) (e_callB (cr_len rfl) rfl C.f_len (by decide +kernel) (a_cons (e_v 1) a_nil))))) a_nil)) rfl)
  (s_one (s_ret (e_call (dd := []) (dvs := []) (ds := []) (G_trimmed.mono (by omega)) hr hgd rfl C.g_trimmed F_trimmed.kp b_trimmed .nil (fun _ _ _ => .nil) (L2N.takes_of rfl rfl rfl rfl) (a_cons (e_lcF (patOk_tup (is := [6, 7]) (n := 2) rfl) rfl rfl sc.nd (w_zipL rfl rfl C.f_zip (a_cons (e_v 4) (a_cons (e_v 5) a_nil))) (blkOk_by (own := [("first", 6), ("second", 7)]) (N := N_row_sum) (sc := (defScope (top 16))) (by decide +kernel)) (fun _ _ _ _ _ => (pg_tl rfl (pgs_cons (pg_name (i := 6) sc.nd rfl (by first | exact .inl rfl | exact .inr rfl)) (pgs_cons (pg_name (i := 7) sc.nd rfl (by first | exact .inl rfl | exact .inr rfl)) pgs_nil)))) (fun _ _ _ _ _ => ts_nil) (fun _ _ _ _ _ => (e_bin (or_add rfl) (e_v 6) (e_bin (or_mul rfl) (e_v 2) (e_v 7))))) a_nil))))))
theorem ok_rest_of (C : Cn K mg) {fd : FuncData} (Fd : FunD K "rest_of" "rest_of" (defArgs (top 19)) (defBody (top 19)) (defScope (top 19)) [] [] (He.ga K "rest_of") fd) : FnG P w K mg base 3 (He.ga K "rest_of") fd ["one", "other"] (SPx K (gq P w K) p_rest_of) := by
  have sc := sc_rest_of
  obtain ⟨fd_plain, F_plain⟩ := C.c.says.def_ 5 rfl
  have G_plain := (ok_plain (P := P) (w := w) (base := base) C F_plain)
  have b_plain : Binds K fd_plain ["row"] [] := F_plain.bindsN fun _ _ _ _ _ _ us hl => match us, hl with | [_], _ => rfl
  obtain ⟨fd_row_sum, F_row_sum⟩ := C.c.says.def_ 7 rfl
  have G_row_sum := (ok_row_sum (P := P) (w := w) (base := base) C F_row_sum)
  have b_row_sum : Binds K fd_row_sum ["one", "other", "times"] [] := F_row_sum.bindsN fun _ _ _ _ _ _ us hl => match us, hl with | [_, _, _], _ => rfl
  refine (fn_ok (k := 2) (N := N_rest_of) (b := B_p_rest_of) Fd sc fun cdv A outer s H E hr hgd => ?_)
  have hu := hr.units
  have hu1 : (A.deeper (envOfC "rest_of" (defScope (top 19)) s.heap.objs.size (He.ga K "rest_of") cdv)).units + (64 + 1) < cLine := by have := hr.un; omega
  unfold B_p_rest_of
  exact (s_cons (s_set (i := 2) sc.nd rfl (by first | exact .inl rfl | exact .inr rfl) (e_v 0))
  (s_cons (s_while (m := (fun _ _ => 60)) (passes_of rfl) (t_ws (w_and (t_cmp or_ge (e_callB (cr_len rfl) rfl C.f_len (by decide +kernel) (a_cons (e_v 2) a_nil)) (e_callB (cr_len rfl) rfl C.f_len (by decide +kernel) (a_cons (e_v 1) a_nil))) (w_and1 (t_cmp (or_ne rfl hu) (e_v 2) (e_tup (a_cons e_int a_nil)))))) (s_cons (s_set (i := 3) sc.nd rfl (by first | exact .inl rfl | exact .inr rfl) (e_bin (or_mulZ rfl) (e_tup (a_cons e_int a_nil)) (e_bin or_sub (e_callB (cr_len rfl) rfl C.f_len (by decide +kernel) (a_cons (e_v 2) a_nil)) (e_callB (cr_len rfl) rfl C.f_len (by decide +kernel) (a_cons (e_v 1) a_nil)))))
  (s_cons (s_set (i := 4) sc.nd rfl (by first | exact .inl rfl | exact .inr rfl) (e_callTy (cr_tuple rfl) rfl C.f_tuple (by decide +kernel) (a_cons (e_lcF (patOk_one (i := 5)) rfl rfl sc.nd (w_any rfl (e_v 2)) (blkOk_by (own := [("factor", 5)]) (N := N_rest_of) (sc := (defScope (top 19))) (by decide +kernel)) (fun _ _ _ _ _ => (pg_name (i := 5) sc.nd rfl (by first | exact .inl rfl | exact .inr rfl))) (fun _ _ _ _ _ => ts_nil) (fun _ _ _ _ _ => (e_bin (or_mul rfl) (e_v 5) (e_ix rfl (e_v 1) (e_un ur_neg e_int))))) a_nil)))
  (s_one (s_set (i := 2) sc.nd rfl (by first | exact .inl rfl | exact .inr rfl) (e_call (dd := []) (dvs := []) (ds := []) (G_row_sum.mono (by omega)) hr hgd rfl C.g_row_sum F_row_sum.kp b_row_sum .nil (fun _ _ _ => .nil) (L2N.takes_of rfl rfl rfl rfl) (a_cons (e_v 4) (a_cons (e_bin (or_add rfl) (e_v 3) (e_v 1)) (a_cons (e_bin or_sub e_int (e_ix rfl (e_v 2) (e_un ur_neg e_int))) a_nil)))))))))
  (s_one (s_ret (e_if (t_cmp (or_eq rfl hu) (e_v 2) (e_tup (a_cons e_int a_nil))) (e_v 2) (e_call (dd := []) (dvs := []) (ds := []) (G_plain.mono (by omega)) hr hgd rfl C.g_plain F_plain.kp b_plain .nil (fun _ _ _ => .nil) (L2N.takes_of rfl rfl rfl rfl) (a_cons (e_v 2) a_nil)))))))
theorem ok_common_row (C : Cn K mg) {fd : FuncData} (Fd : FunD K "common_row" "common_row" (defArgs (top 20)) (defBody (top 20)) (defScope (top 20)) [] [] (He.ga K "common_row") fd) : FnG P w K mg base 4 (He.ga K "common_row") fd ["one", "other"] (SPx K (gq P w K) p_common_row) := by
  have sc := sc_common_row
  obtain ⟨fd_plain, F_plain⟩ := C.c.says.def_ 5 rfl
  have G_plain := (ok_plain (P := P) (w := w) (base := base) C F_plain)
  have b_plain : Binds K fd_plain ["row"] [] := F_plain.bindsN fun _ _ _ _ _ _ us hl => match us, hl with | [_], _ => rfl
  obtain ⟨fd_rest_of, F_rest_of⟩ := C.c.says.def_ 8 rfl
  have G_rest_of := (ok_rest_of (P := P) (w := w) (base := base) C F_rest_of)
  have b_rest_of : Binds K fd_rest_of ["one", "other"] [] := F_rest_of.bindsN fun _ _ _ _ _ _ us hl => match us, hl with | [_, _], _ => rfl
  refine (fn_ok (k := 3) (N := N_common_row) (b := B_p_common_row) Fd sc fun cdv A outer s H E hr hgd => ?_)
  have hu := hr.units
  have hu1 : (A.deeper (envOfC "common_row" (defScope (top 20)) s.heap.objs.size (He.ga K "common_row") cdv)).units + (64 + 1) < cLine := by have := hr.un; omega
  unfold B_p_common_row
  exact (s_cons (s_par (i := 2) (j := 3) rfl sc.nd rfl rfl (by decide) rfl rfl (a_cons (e_call (dd := []) (dvs := []) (ds := []) (G_plain.mono (by omega)) hr hgd rfl C.g_plain F_plain.kp b_plain .nil (fun _ _ _ => .nil) (L2N.takes_of rfl rfl rfl rfl) (a_cons (e_v 0) a_nil)) (a_cons (e_call (dd := []) (dvs := []) (ds := []) (G_plain.mono (by omega)) hr hgd rfl C.g_plain F_plain.kp b_plain .nil (fun _ _ _ => .nil) (L2N.takes_of rfl rfl rfl rfl) (a_cons (e_v 1) a_nil)) a_nil)) rfl)
  (s_cons (s_while (m := (fun _ _ => 60)) (passes_of rfl) (t_cmp (or_ne rfl hu) (e_v 3) (e_tup (a_cons e_int a_nil))) (s_one (s_par (i := 2) (j := 3) rfl sc.nd rfl rfl (by decide) rfl rfl (a_cons (e_v 3) (a_cons (e_call (dd := []) (dvs := []) (ds := []) (G_rest_of.mono (by omega)) hr hgd rfl C.g_rest_of F_rest_of.kp b_rest_of .nil (fun _ _ _ => .nil) (L2N.takes_of rfl rfl rfl rfl) (a_cons (e_v 2) (a_cons (e_v 3) a_nil))) a_nil)) rfl)))
  (s_one (s_ret (e_v 2)))))
theorem ok_quotient (C : Cn K mg) {fd : FuncData} (Fd : FunD K "quotient" "quotient" (defArgs (top 21)) (defBody (top 21)) (defScope (top 21)) [] [] (He.ga K "quotient") fd) : FnG P w K mg base 3 (He.ga K "quotient") fd ["one", "other"] (SPx K (gq P w K) p_quotient) := by
  have sc := sc_quotient
  obtain ⟨fd_row_sum, F_row_sum⟩ := C.c.says.def_ 7 rfl
  have G_row_sum := (ok_row_sum (P := P) (w := w) (base := base) C F_row_sum)
  have b_row_sum : Binds K fd_row_sum ["one", "other", "times"] [] := F_row_sum.bindsN fun _ _ _ _ _ _ us hl => match us, hl with | [_, _, _], _ => rfl
  refine (fn_ok (k := 2) (N := N_quotient) (b := B_p_quotient) Fd sc fun cdv A outer s H E hr hgd => ?_)
  have hu := hr.units
  have hu1 : (A.deeper (envOfC "quotient" (defScope (top 21)) s.heap.objs.size (He.ga K "quotient") cdv)).units + (64 + 1) < cLine := by have := hr.un; omega
  unfold B_p_quotient
  exact (s_cons (s_par (i := 2) (j := 3) rfl sc.nd rfl rfl (by decide) rfl rfl (a_cons (e_tup (a_cons e_int a_nil)) (a_cons (e_v 0) a_nil)) rfl)
  (s_cons (s_while (m := (fun _ _ => 60)) (passes_of rfl) (t_cmp (or_ne rfl hu) (e_v 3) (e_tup (a_cons e_int a_nil))) (s_cons (s_par (i := 4) (j := 5) rfl sc.nd rfl rfl (by decide) rfl rfl (a_cons (e_bin or_sub (e_callB (cr_len rfl) rfl C.f_len (by decide +kernel) (a_cons (e_v 3) a_nil)) (e_callB (cr_len rfl) rfl C.f_len (by decide +kernel) (a_cons (e_v 1) a_nil))) (a_cons (e_bin or_fdiv (e_ix rfl (e_v 3) (e_un ur_neg e_int)) (e_ix rfl (e_v 1) (e_un ur_neg e_int))) a_nil)) rfl)
  (s_cons (s_set (i := 2) sc.nd rfl (by first | exact .inl rfl | exact .inr rfl) (e_call (dd := []) (dvs := []) (ds := []) (G_row_sum.mono (by omega)) hr hgd rfl C.g_row_sum F_row_sum.kp b_row_sum .nil (fun _ _ _ => .nil) (L2N.takes_of rfl rfl rfl rfl) (a_cons (e_v 2) (a_cons (e_bin (or_add rfl) (e_bin (or_mulZ rfl) (e_tup (a_cons e_int a_nil)) (e_v 4)) (e_tup (a_cons (e_v 5) a_nil))) (a_cons e_int a_nil)))))
  (s_one (s_set (i := 3) sc.nd rfl (by first | exact .inl rfl | exact .inr rfl) (e_call (dd := []) (dvs := []) (ds := []) (G_row_sum.mono (by omega)) hr hgd rfl C.g_row_sum F_row_sum.kp b_row_sum .nil (fun _ _ _ => .nil) (L2N.takes_of rfl rfl rfl rfl) (a_cons (e_v 3) (a_cons (e_bin (or_add rfl) (e_bin (or_mulZ rfl) (e_tup (a_cons e_int a_nil)) (e_v 4)) (e_v 1)) (a_cons (e_bin or_sub e_int (e_v 5)) a_nil)))))))))
  (s_one (s_ret (e_v 2)))))
theorem ok_lowest (C : Cn K mg) {fd : FuncData} (Fd : FunD K "lowest" "lowest" (defArgs (top 25)) (defBody (top 25)) (defScope (top 25)) [] [] (He.ga K "lowest") fd) : FnG P w K mg base 5 (He.ga K "lowest") fd ["top", "bottom"] (SPx K (gq P w K) p_lowest) := by
  have sc := sc_lowest
  obtain ⟨fd_common_row, F_common_row⟩ := C.c.says.def_ 9 rfl
  have G_common_row := (ok_common_row (P := P) (w := w) (base := base) C F_common_row)
  have b_common_row : Binds K fd_common_row ["one", "other"] [] := F_common_row.bindsN fun _ _ _ _ _ _ us hl => match us, hl with | [_, _], _ => rfl
  obtain ⟨fd_divisor_of, F_divisor_of⟩ := C.c.says.def_ 4 rfl
  have G_divisor_of := (ok_divisor_of (P := P) (w := w) (base := base) C F_divisor_of)
  have b_divisor_of : Binds K fd_divisor_of ["one", "other"] [] := F_divisor_of.bindsN fun _ _ _ _ _ _ us hl => match us, hl with | [_, _], _ => rfl
  obtain ⟨fd_quotient, F_quotient⟩ := C.c.says.def_ 10 rfl
  have G_quotient := (ok_quotient (P := P) (w := w) (base := base) C F_quotient)
  have b_quotient : Binds K fd_quotient ["one", "other"] [] := F_quotient.bindsN fun _ _ _ _ _ _ us hl => match us, hl with | [_, _], _ => rfl
  refine (fn_ok (k := 4) (N := N_lowest) (b := B_p_lowest) Fd sc fun cdv A outer s H E hr hgd => ?_)
  have hu := hr.units
  have hu1 : (A.deeper (envOfC "lowest" (defScope (top 25)) s.heap.objs.size (He.ga K "lowest") cdv)).units + (64 + 1) < cLine := by have := hr.un; omega
  unfold B_p_lowest
  exact (s_cons (s_if (t_cmp (or_eq rfl hu) (e_v 0) (e_tup (a_cons e_int a_nil))) (s_one (s_ret (e_tup (a_cons (e_tup (a_cons e_int a_nil)) (a_cons (e_tup (a_cons e_int a_nil)) a_nil))))) s_nil)
  (s_cons (s_set (i := 2) sc.nd rfl (by first | exact .inl rfl | exact .inr rfl) (e_call (dd := []) (dvs := []) (ds := []) (G_common_row.mono (by omega)) hr hgd rfl C.g_common_row F_common_row.kp b_common_row .nil (fun _ _ _ => .nil) (L2N.takes_of rfl rfl rfl rfl) (a_cons (e_v 0) (a_cons (e_v 1) a_nil))))
  (s_cons (s_par (i := 0) (j := 1) rfl sc.nd rfl rfl (by decide) rfl rfl (a_cons (e_call (dd := []) (dvs := []) (ds := []) (G_quotient.mono (by omega)) hr hgd rfl C.g_quotient F_quotient.kp b_quotient .nil (fun _ _ _ => .nil) (L2N.takes_of rfl rfl rfl rfl) (a_cons (e_v 0) (a_cons (e_v 2) a_nil))) (a_cons (e_call (dd := []) (dvs := []) (ds := []) (G_quotient.mono (by omega)) hr hgd rfl C.g_quotient F_quotient.kp b_quotient .nil (fun _ _ _ => .nil) (L2N.takes_of rfl rfl rfl rfl) (a_cons (e_v 1) (a_cons (e_v 2) a_nil))) a_nil)) rfl)
  (s_cons (s_set (i := 3) sc.nd rfl (by first | exact .inl rfl | exact .inr rfl) e_int)
  (s_cons (s_for (passes_of rfl) rfl (w_any rfl (e_bin (or_add rfl) (e_v 0) (e_v 1))) (g_name (i := 4) sc.nd rfl (by first | exact .inl rfl | exact .inr rfl)) (s_one (s_set (i := 3) sc.nd rfl (by first | exact .inl rfl | exact .inr rfl) (e_call (dd := []) (dvs := []) (ds := []) (G_divisor_of.mono (by omega)) hr hgd rfl C.g_divisor_of F_divisor_of.kp b_divisor_of .nil (fun _ _ _ => .nil) (L2N.takes_of rfl rfl rfl rfl) (a_cons (e_v 3) (a_cons (e_v 4) a_nil))))))
  (s_cons (s_if (t_cmp or_lt (e_ix rfl (e_v 1) (e_un ur_neg e_int)) e_int) (s_one (s_set (i := 3) sc.nd rfl (by first | exact .inl rfl | exact .inr rfl) (e_bin or_sub e_int (e_v 3)))) s_nil)
  (s_one (s_ret (e_tup (a_cons (e_callTy (cr_tuple rfl) rfl C.f_tuple (by decide +kernel) (a_cons (e_lcF (patOk_one (i := 4)) rfl rfl sc.nd (w_any rfl (e_v 0)) (blkOk_by (own := [("factor", 4)]) (N := N_lowest) (sc := (defScope (top 25))) (by decide +kernel)) (fun _ _ _ _ _ => (pg_name (i := 4) sc.nd rfl (by first | exact .inl rfl | exact .inr rfl))) (fun _ _ _ _ _ => ts_nil) (fun _ _ _ _ _ => (e_bin or_fdiv (e_v 4) (e_v 3)))) a_nil)) (a_cons (e_callTy (cr_tuple rfl) rfl C.f_tuple (by decide +kernel) (a_cons (e_lcF (patOk_one (i := 4)) rfl rfl sc.nd (w_any rfl (e_v 1)) (blkOk_by (own := [("factor", 4)]) (N := N_lowest) (sc := (defScope (top 25))) (by decide +kernel)) (fun _ _ _ _ _ => (pg_name (i := 4) sc.nd rfl (by first | exact .inl rfl | exact .inr rfl))) (fun _ _ _ _ _ => ts_nil) (fun _ _ _ _ _ => (e_bin or_fdiv (e_v 4) (e_v 3)))) a_nil)) a_nil)))))))))))
theorem ok_Ratio___init__ (C : Cn K mg) {fd : FuncData} (Fd : FunD K "__init__" "Ratio.__init__" (defArgs (inCls (top 28) 0)) (defBody (inCls (top 28) 0)) (defScope (inCls (top 28) 0)) (([.adr (dfA "Ratio" "__init__" 0)] : List He.Dv).map (He.Dv.v K)) [] (He.ma K (He.ga K "Ratio") "__init__") fd) : FnG P w K mg base 6 (He.ma K (He.ga K "Ratio") "__init__") fd ["self", "top", "bottom"] (SPx K (gq P w K) p_Ratio___init__) := by
  have sc := sc_Ratio___init__
  obtain ⟨fd_is_row, F_is_row⟩ := C.c.says.def_ 3 rfl
  have G_is_row := (ok_is_row (P := P) (w := w) (base := base) C F_is_row)
  have b_is_row : Binds K fd_is_row ["value"] [] := F_is_row.bindsN fun _ _ _ _ _ _ us hl => match us, hl with | [_], _ => rfl
  obtain ⟨fd_lowest, F_lowest⟩ := C.c.says.def_ 11 rfl
  have G_lowest := (ok_lowest (P := P) (w := w) (base := base) C F_lowest)
  have b_lowest : Binds K fd_lowest ["top", "bottom"] [] := F_lowest.bindsN fun _ _ _ _ _ _ us hl => match us, hl with | [_, _], _ => rfl
  obtain ⟨fd_trimmed, F_trimmed⟩ := C.c.says.def_ 6 rfl
  have G_trimmed := (ok_trimmed (P := P) (w := w) (base := base) C F_trimmed)
  have b_trimmed : Binds K fd_trimmed ["row"] [] := F_trimmed.bindsN fun _ _ _ _ _ _ us hl => match us, hl with | [_], _ => rfl
  refine (fn_ok (k := 5) (N := N_Ratio___init__) (b := B_p_Ratio___init__) Fd sc fun cdv A outer s H E hr hgd => ?_)
  have hu := hr.units
  have hu1 : (A.deeper (envOfC "Ratio.__init__" (defScope (inCls (top 28) 0)) s.heap.objs.size (He.ma K (He.ga K "Ratio") "__init__") cdv)).units + (64 + 1) < cLine := by have := hr.un; omega
  unfold B_p_Ratio___init__
  exact (s_cons (s_if (t_not (t_tru rfl (e_call (dd := []) (dvs := []) (ds := []) (G_is_row.mono (by omega)) hr hgd rfl C.g_is_row F_is_row.kp b_is_row .nil (fun _ _ _ => .nil) (L2N.takes_of rfl rfl rfl rfl) (a_cons (e_v 1) a_nil)))) (s_one (s_raise rfl (L2N.takes_of rfl rfl rfl rfl) (XI_.of (C.xp_InvalidCount (P := P) (w := w) (base := base))) (raisesX (C.xp_InvalidCount (P := P) (w := w) (base := base)).cls) pm_pos (hr.mono (by omega)) rfl C.g_InvalidCount (a_cons (e_v 1) a_nil))) s_nil)
  (s_cons (s_if (t_not (t_tru rfl (e_call (dd := []) (dvs := []) (ds := []) (G_is_row.mono (by omega)) hr hgd rfl C.g_is_row F_is_row.kp b_is_row .nil (fun _ _ _ => .nil) (L2N.takes_of rfl rfl rfl rfl) (a_cons (e_v 2) a_nil)))) (s_one (s_raise rfl (L2N.takes_of rfl rfl rfl rfl) (XI_.of (C.xp_InvalidCount (P := P) (w := w) (base := base))) (raisesX (C.xp_InvalidCount (P := P) (w := w) (base := base)).cls) pm_pos (hr.mono (by omega)) rfl C.g_InvalidCount (a_cons (e_v 2) a_nil))) s_nil)
  (s_cons (s_if (t_cmp (or_eq rfl hu) (e_call (dd := []) (dvs := []) (ds := []) (G_trimmed.mono (by omega)) hr hgd rfl C.g_trimmed F_trimmed.kp b_trimmed .nil (fun _ _ _ => .nil) (L2N.takes_of rfl rfl rfl rfl) (a_cons (e_v 2) a_nil)) (e_tup (a_cons e_int a_nil))) (s_one (s_raise0 rfl (L2N.takes_of rfl rfl rfl rfl) (Fam.xb .r) C.x0_ZeroBelow.1 C.x0_ZeroBelow.2 (xr0B_ok C.xr_ZeroBelow) rfl C.g_ZeroBelow)) s_nil)
  (s_one (s_asg (e_call (dd := []) (dvs := []) (ds := []) (G_lowest.mono (by omega)) hr hgd rfl C.g_lowest F_lowest.kp b_lowest .nil (fun _ _ _ => .nil) (L2N.takes_of rfl rfl rfl rfl) (a_cons (e_call (dd := []) (dvs := []) (ds := []) (G_trimmed.mono (by omega)) hr hgd rfl C.g_trimmed F_trimmed.kp b_trimmed .nil (fun _ _ _ => .nil) (L2N.takes_of rfl rfl rfl rfl) (a_cons (e_v 1) a_nil)) (a_cons (e_call (dd := []) (dvs := []) (ds := []) (G_trimmed.mono (by omega)) hr hgd rfl C.g_trimmed F_trimmed.kp b_trimmed .nil (fun _ _ _ => .nil) (L2N.takes_of rfl rfl rfl rfl) (a_cons (e_v 2) a_nil)) a_nil))) (g_tup (n := 2) rfl rfl (gs_cons (g_fld rfl C.has_top (e_v 0)) (gs_cons (g_fld rfl C.has_bottom (e_v 0)) gs_nil gsNil_ne) (gsFld_ne (ne_var _) gsNil_ne))))))))
theorem ok_Ratio___pow__ (C : Cn K mg) {fd : FuncData} (Fd : FunD K "__pow__" "Ratio.__pow__" (defArgs (inCls (top 28) 9)) (defBody (inCls (top 28) 9)) (defScope (inCls (top 28) 9)) [] [] (He.ma K (He.ga K "Ratio") "__pow__") fd) : FnG P w K mg base 3 (He.ma K (He.ga K "Ratio") "__pow__") fd ["self", "count"] (SPx K (gq P w K) p_Ratio___pow__) := by
  have sc := sc_Ratio___pow__
  obtain ⟨fd_is_whole, F_is_whole⟩ := C.c.says.def_ 0 rfl
  have G_is_whole := (ok_is_whole (P := P) (w := w) (base := base) C F_is_whole)
  have b_is_whole : Binds K fd_is_whole ["value"] [] := F_is_whole.bindsN fun _ _ _ _ _ _ us hl => match us, hl with | [_], _ => rfl
  refine (fn_ok (k := 2) (N := N_Ratio___pow__) (b := B_p_Ratio___pow__) Fd sc fun cdv A outer s H E hr hgd => ?_)
  have hu := hr.units
  have hu1 : (A.deeper (envOfC "Ratio.__pow__" (defScope (inCls (top 28) 9)) s.heap.objs.size (He.ma K (He.ga K "Ratio") "__pow__") cdv)).units + (64 + 1) < cLine := by have := hr.un; omega
  unfold B_p_Ratio___pow__
  exact (s_cons (s_if (t_ws (w_or (t_not (t_tru rfl (e_call (dd := []) (dvs := []) (ds := []) (G_is_whole.mono (by omega)) hr hgd rfl C.g_is_whole F_is_whole.kp b_is_whole .nil (fun _ _ _ => .nil) (L2N.takes_of rfl rfl rfl rfl) (a_cons (e_v 1) a_nil)))) (w_or1 (t_not (t_chain or_le or_le e_int (e_v 1) (e_gint rfl C.n_MOST_POWER)))))) (s_one (s_raise rfl (L2N.takes_of rfl rfl rfl rfl) (XI_.of (C.xp_InvalidCount (P := P) (w := w) (base := base))) (raisesX (C.xp_InvalidCount (P := P) (w := w) (base := base)).cls) pm_pos (hr.mono (by omega)) rfl C.g_InvalidCount (a_cons (e_v 1) a_nil))) s_nil)
  ss_bad)
theorem okz_power_text (C : Cn K mg) {fd : FuncData} (Fd : FunD K "power_text" "power_text" (defArgs (top 26)) (defBody (top 26)) (defScope (top 26)) [] [] (He.ga K "power_text") fd) : FnZ true P w K mg base 1 (He.ga K "power_text") fd ["power"] (SPz K (gq P w K) p_power_text) := by
  have sc := sc_power_text
  refine (fnz_ok (go := true) (k := 0) (N := N_power_text) (b := B_p_power_text) Fd sc fun a cdv A outer s H E hr hgd0 hh => ?_)
  have hu : (A.deeper (envOfC "power_text" (defScope (top 26)) s.heap.objs.size (He.ga K "power_text") cdv)).units + 64 < cLine := by have := hr.un; omega
  have hu1 : (A.deeper (envOfC "power_text" (defScope (top 26)) s.heap.objs.size (He.ga K "power_text") cdv)).units + (64 + 1) < cLine := by have := hr.un; omega
  unfold B_p_power_text
  exact (s_one (s_ret (e_if (t_cmp (or_eq rfl hu) (e_v 0) e_int) e_str (e_joined (.cons e_str (.cons (e_fmt (e_v 0)) .nil))))))
theorem ok_power_text (C : Cn K mg) {fd : FuncData} (Fd : FunD K "power_text" "power_text" (defArgs (top 26)) (defBody (top 26)) (defScope (top 26)) [] [] (He.ga K "power_text") fd) : FnO P w K mg base 1 (He.ga K "power_text") fd ["power"] (SPx K (gq P w K) p_power_text) := by
  have sc := sc_power_text
  refine (fno_ok (k := 0) (N := N_power_text) (b := B_p_power_text) Fd sc fun cdv A outer s H E hr => ?_)
  have hu := hr.units
  have hu1 : (A.deeper (envOfC "power_text" (defScope (top 26)) s.heap.objs.size (He.ga K "power_text") cdv)).units + (64 + 1) < cLine := by have := hr.un; omega
  unfold B_p_power_text
  exact (s_one (s_ret (e_if (t_cmp (or_eq rfl hu) (e_v 0) e_int) e_str (e_joined (.cons e_str (.cons (e_fmt (e_v 0)) .nil))))))
theorem okz_row_text (C : Cn K mg) {fd : FuncData} (Fd : FunD K "row_text" "row_text" (defArgs (top 27)) (defBody (top 27)) (defScope (top 27)) [] [] (He.ga K "row_text") fd) : FnZ true P w K mg base 2 (He.ga K "row_text") fd ["row"] (SPz K (gq P w K) p_row_text) := by
  have sc := sc_row_text
  obtain ⟨fd_power_text, F_power_text⟩ := C.c.says.def_ 14 rfl
  have GZ_power_text := okz_power_text (P := P) (w := w) (base := base) C F_power_text
  have b_power_text : Binds K fd_power_text ["power"] [] := F_power_text.bindsN fun _ _ _ _ _ _ us hl => match us, hl with | [_], _ => rfl
  refine (fnz_ok (go := true) (k := 1) (N := N_row_text) (b := B_p_row_text) Fd sc fun a cdv A outer s H E hr hgd0 hh => ?_)
  have hu : (A.deeper (envOfC "row_text" (defScope (top 27)) s.heap.objs.size (He.ga K "row_text") cdv)).units + 64 < cLine := by have := hr.un; omega
  have hu1 : (A.deeper (envOfC "row_text" (defScope (top 27)) s.heap.objs.size (He.ga K "row_text") cdv)).units + (64 + 1) < cLine := by have := hr.un; omega
  unfold B_p_row_text
  exact (s_cons (s_set (i := 1) sc.nd rfl (by first | exact .inl rfl | exact .inr rfl) e_str)
  (s_cons (s_forZ (passes_of rfl) hh rfl (w_rng3Z rfl C.f_range (a_cons (e_bin or_sub (e_callB (cr_len rfl) rfl C.f_len (by decide +kernel) (a_cons (e_v 0) a_nil)) e_int) (a_cons (e_un ur_neg e_int) (a_cons (e_un ur_neg e_int) a_nil)))) (g_name (i := 2) sc.nd rfl (by first | exact .inl rfl | exact .inr rfl)) (s_cons (s_set (i := 3) sc.nd rfl (by first | exact .inl rfl | exact .inr rfl) (e_ix rfl (e_v 0) (e_v 2)))
  (s_one (s_if (t_cmp (or_ne rfl hu) (e_v 3) e_int) (s_cons (s_set (i := 4) sc.nd rfl (by first | exact .inl rfl | exact .inr rfl) (e_callB cr_abs rfl C.f_abs (by decide +kernel) (a_cons (e_v 3) a_nil)))
  (s_cons (s_set (i := 5) sc.nd rfl (by first | exact .inl rfl | exact .inr rfl) (e_if (t_cmp (or_eq rfl hu) (e_v 2) e_int) (e_joined1 (e_fmt (e_v 4))) (e_if (t_cmp (or_eq rfl hu) (e_v 4) e_int) (e_callZ (dd := []) (dvs := []) (ds := []) (GZ_power_text.mono (by omega)) rfl hr hgd0 hh rfl C.g_power_text F_power_text.kp b_power_text .nil (fun _ _ _ => .nil) (L2N.takes_of rfl rfl rfl rfl) (a_cons (e_v 2) a_nil)) (e_joined (.cons (e_fmt (e_v 4)) (.cons e_str (.cons (e_fmt (e_callZ (dd := []) (dvs := []) (ds := []) (GZ_power_text.mono (by omega)) rfl hr hgd0 hh rfl C.g_power_text F_power_text.kp b_power_text .nil (fun _ _ _ => .nil) (L2N.takes_of rfl rfl rfl rfl) (a_cons (e_v 2) a_nil))) .nil)))))))
  (s_one (s_if (t_cmp (or_eq rfl hu) (e_v 1) e_str) (s_one (s_set (i := 1) sc.nd rfl (by first | exact .inl rfl | exact .inr rfl) (e_if (t_cmp or_lt (e_v 3) e_int) (e_bin (or_add rfl) e_str (e_v 5)) (e_v 5)))) (s_one (s_set (i := 1) sc.nd rfl (by first | exact .inl rfl | exact .inr rfl) (e_bin (or_add rfl) (e_bin (or_add rfl) (e_v 1) (e_if (t_cmp or_lt (e_v 3) e_int) e_str e_str)) (e_v 5)))))))) s_nil))))
  (s_one (s_ret (e_if (t_cmp (or_ne rfl hu) (e_v 1) e_str) (e_v 1) e_str)))))
theorem ok_row_text (C : Cn K mg) {fd : FuncData} (Fd : FunD K "row_text" "row_text" (defArgs (top 27)) (defBody (top 27)) (defScope (top 27)) [] [] (He.ga K "row_text") fd) : FnO P w K mg base 2 (He.ga K "row_text") fd ["row"] (SPx K (gq P w K) p_row_text) := by
  have sc := sc_row_text
  obtain ⟨fd_power_text, F_power_text⟩ := C.c.says.def_ 14 rfl
  have G_power_text := (ok_power_text (P := P) (w := w) (base := base) C F_power_text)
  have b_power_text : Binds K fd_power_text ["power"] [] := F_power_text.bindsN fun _ _ _ _ _ _ us hl => match us, hl with | [_], _ => rfl
  refine (fno_ok (k := 1) (N := N_row_text) (b := B_p_row_text) Fd sc fun cdv A outer s H E hr => ?_)
  have hu := hr.units
  have hu1 : (A.deeper (envOfC "row_text" (defScope (top 27)) s.heap.objs.size (He.ga K "row_text") cdv)).units + (64 + 1) < cLine := by have := hr.un; omega
  unfold B_p_row_text
  exact (s_cons (s_set (i := 1) sc.nd rfl (by first | exact .inl rfl | exact .inr rfl) e_str)
  (s_cons (s_for (passes_of rfl) rfl (w_rng3 rfl C.f_range (a_cons (e_bin or_sub (e_callB (cr_len rfl) rfl C.f_len (by decide +kernel) (a_cons (e_v 0) a_nil)) e_int) (a_cons (e_un ur_neg e_int) (a_cons (e_un ur_neg e_int) a_nil)))) (g_name (i := 2) sc.nd rfl (by first | exact .inl rfl | exact .inr rfl)) (s_cons (s_set (i := 3) sc.nd rfl (by first | exact .inl rfl | exact .inr rfl) (e_ix rfl (e_v 0) (e_v 2)))
  (s_one (s_if (t_cmp (or_ne rfl hu) (e_v 3) e_int) (s_cons (s_set (i := 4) sc.nd rfl (by first | exact .inl rfl | exact .inr rfl) (e_callB cr_abs rfl C.f_abs (by decide +kernel) (a_cons (e_v 3) a_nil)))
  (s_cons (s_set (i := 5) sc.nd rfl (by first | exact .inl rfl | exact .inr rfl) (e_if (t_cmp (or_eq rfl hu) (e_v 2) e_int) (e_joined1 (e_fmt (e_v 4))) (e_if (t_cmp (or_eq rfl hu) (e_v 4) e_int) (e_callO (dd := []) (dvs := []) (ds := []) (G_power_text.mono (by omega)) hr rfl C.g_power_text F_power_text.kp b_power_text .nil (fun _ _ _ => .nil) (L2N.takes_of rfl rfl rfl rfl) (a_cons (e_v 2) a_nil)) (e_joined (.cons (e_fmt (e_v 4)) (.cons e_str (.cons (e_fmt (e_callO (dd := []) (dvs := []) (ds := []) (G_power_text.mono (by omega)) hr rfl C.g_power_text F_power_text.kp b_power_text .nil (fun _ _ _ => .nil) (L2N.takes_of rfl rfl rfl rfl) (a_cons (e_v 2) a_nil))) .nil)))))))
  (s_one (s_if (t_cmp (or_eq rfl hu) (e_v 1) e_str) (s_one (s_set (i := 1) sc.nd rfl (by first | exact .inl rfl | exact .inr rfl) (e_if (t_cmp or_lt (e_v 3) e_int) (e_bin (or_add rfl) e_str (e_v 5)) (e_v 5)))) (s_one (s_set (i := 1) sc.nd rfl (by first | exact .inl rfl | exact .inr rfl) (e_bin (or_add rfl) (e_bin (or_add rfl) (e_v 1) (e_if (t_cmp or_lt (e_v 3) e_int) e_str e_str)) (e_v 5)))))))) s_nil))))
  (s_one (s_ret (e_if (t_cmp (or_ne rfl hu) (e_v 1) e_str) (e_v 1) e_str)))))
theorem okz_Ratio___str__ (C : Cn K mg) {fd : FuncData} (Fd : FunD K "__str__" "Ratio.__str__" (defArgs (inCls (top 28) 15)) (defBody (inCls (top 28) 15)) (defScope (inCls (top 28) 15)) [] [] (He.ma K (He.ga K "Ratio") "__str__") fd) : FnZ true P w K mg base 3 (He.ma K (He.ga K "Ratio") "__str__") fd ["self"] (SPz K (gq P w K) p_Ratio___str__) := by
  have sc := sc_Ratio___str__
  obtain ⟨fd_row_text, F_row_text⟩ := C.c.says.def_ 15 rfl
  have GZ_row_text := okz_row_text (P := P) (w := w) (base := base) C F_row_text
  have b_row_text : Binds K fd_row_text ["row"] [] := F_row_text.bindsN fun _ _ _ _ _ _ us hl => match us, hl with | [_], _ => rfl
  refine (fnz_ok (go := true) (k := 2) (N := N_Ratio___str__) (b := B_p_Ratio___str__) Fd sc fun a cdv A outer s H E hr hgd0 hh => ?_)
  have hu : (A.deeper (envOfC "Ratio.__str__" (defScope (inCls (top 28) 15)) s.heap.objs.size (He.ma K (He.ga K "Ratio") "__str__") cdv)).units + 64 < cLine := by have := hr.un; omega
  have hu1 : (A.deeper (envOfC "Ratio.__str__" (defScope (inCls (top 28) 15)) s.heap.objs.size (He.ma K (He.ga K "Ratio") "__str__") cdv)).units + (64 + 1) < cLine := by have := hr.un; omega
  unfold B_p_Ratio___str__
  exact (s_cons (s_if (t_cmp (or_eq rfl hu) (e_get rfl C.has_bottom (e_v 0)) (e_tup (a_cons e_int a_nil))) (s_one (s_ret (e_joined1 (e_fmt (e_callZ (dd := []) (dvs := []) (ds := []) (GZ_row_text.mono (by omega)) rfl hr hgd0 hh rfl C.g_row_text F_row_text.kp b_row_text .nil (fun _ _ _ => .nil) (L2N.takes_of rfl rfl rfl rfl) (a_cons (e_get rfl C.has_top (e_v 0)) a_nil)))))) s_nil)
  (s_one (s_ret (e_joined (.cons e_str (.cons (e_fmt (e_callZ (dd := []) (dvs := []) (ds := []) (GZ_row_text.mono (by omega)) rfl hr hgd0 hh rfl C.g_row_text F_row_text.kp b_row_text .nil (fun _ _ _ => .nil) (L2N.takes_of rfl rfl rfl rfl) (a_cons (e_get rfl C.has_top (e_v 0)) a_nil))) (.cons e_str (.cons (e_fmt (e_callZ (dd := []) (dvs := []) (ds := []) (GZ_row_text.mono (by omega)) rfl hr hgd0 hh rfl C.g_row_text F_row_text.kp b_row_text .nil (fun _ _ _ => .nil) (L2N.takes_of rfl rfl rfl rfl) (a_cons (e_get rfl C.has_bottom (e_v 0)) a_nil))) (.cons e_str .nil)))))))))
theorem ok_Ratio___str__ (C : Cn K mg) {fd : FuncData} (Fd : FunD K "__str__" "Ratio.__str__" (defArgs (inCls (top 28) 15)) (defBody (inCls (top 28) 15)) (defScope (inCls (top 28) 15)) [] [] (He.ma K (He.ga K "Ratio") "__str__") fd) : FnO P w K mg base 3 (He.ma K (He.ga K "Ratio") "__str__") fd ["self"] (SPx K (gq P w K) p_Ratio___str__) := by
  have sc := sc_Ratio___str__
  obtain ⟨fd_row_text, F_row_text⟩ := C.c.says.def_ 15 rfl
  have G_row_text := (ok_row_text (P := P) (w := w) (base := base) C F_row_text)
  have b_row_text : Binds K fd_row_text ["row"] [] := F_row_text.bindsN fun _ _ _ _ _ _ us hl => match us, hl with | [_], _ => rfl
  refine (fno_ok (k := 2) (N := N_Ratio___str__) (b := B_p_Ratio___str__) Fd sc fun cdv A outer s H E hr => ?_)
  have hu := hr.units
  have hu1 : (A.deeper (envOfC "Ratio.__str__" (defScope (inCls (top 28) 15)) s.heap.objs.size (He.ma K (He.ga K "Ratio") "__str__") cdv)).units + (64 + 1) < cLine := by have := hr.un; omega
  unfold B_p_Ratio___str__
  exact (s_cons (s_if (t_cmp (or_eq rfl hu) (e_get rfl C.has_bottom (e_v 0)) (e_tup (a_cons e_int a_nil))) (s_one (s_ret (e_joined1 (e_fmt (e_callO (dd := []) (dvs := []) (ds := []) (G_row_text.mono (by omega)) hr rfl C.g_row_text F_row_text.kp b_row_text .nil (fun _ _ _ => .nil) (L2N.takes_of rfl rfl rfl rfl) (a_cons (e_get rfl C.has_top (e_v 0)) a_nil)))))) s_nil)
  (s_one (s_ret (e_joined (.cons e_str (.cons (e_fmt (e_callO (dd := []) (dvs := []) (ds := []) (G_row_text.mono (by omega)) hr rfl C.g_row_text F_row_text.kp b_row_text .nil (fun _ _ _ => .nil) (L2N.takes_of rfl rfl rfl rfl) (a_cons (e_get rfl C.has_top (e_v 0)) a_nil))) (.cons e_str (.cons (e_fmt (e_callO (dd := []) (dvs := []) (ds := []) (G_row_text.mono (by omega)) hr rfl C.g_row_text F_row_text.kp b_row_text .nil (fun _ _ _ => .nil) (L2N.takes_of rfl rfl rfl rfl) (a_cons (e_get rfl C.has_bottom (e_v 0)) a_nil))) (.cons e_str .nil)))))))))
theorem okz_Ratio___repr__ (C : Cn K mg) {fd : FuncData} (Fd : FunD K "__repr__" "Ratio.__repr__" (defArgs (inCls (top 28) 16)) (defBody (inCls (top 28) 16)) (defScope (inCls (top 28) 16)) [] [] (He.ma K (He.ga K "Ratio") "__repr__") fd) : FnZ true P w K mg base 9 (He.ma K (He.ga K "Ratio") "__repr__") fd ["self"] (SPz K (gq P w K) p_Ratio___repr__) := by
  have sc := sc_Ratio___repr__
  obtain ⟨fd_Ratio___str__, F_Ratio___str__⟩ := C.c.says.def_ 16 rfl
  have GZ_Ratio___str__ := okz_Ratio___str__ (P := P) (w := w) (base := base) C F_Ratio___str__
  have b_Ratio___str__ : Binds K fd_Ratio___str__ ["self"] [] := F_Ratio___str__.bindsN fun _ _ _ _ _ _ us hl => match us, hl with | [_], _ => rfl
  refine (fnz_ok (go := true) (k := 8) (N := N_Ratio___repr__) (b := B_p_Ratio___repr__) Fd sc fun a cdv A outer s H E hr hgd0 hh => ?_)
  have hu : (A.deeper (envOfC "Ratio.__repr__" (defScope (inCls (top 28) 16)) s.heap.objs.size (He.ma K (He.ga K "Ratio") "__repr__") cdv)).units + 64 < cLine := by have := hr.un; omega
  have hu1 : (A.deeper (envOfC "Ratio.__repr__" (defScope (inCls (top 28) 16)) s.heap.objs.size (He.ma K (He.ga K "Ratio") "__repr__") cdv)).units + (64 + 1) < cLine := by have := hr.un; omega
  unfold B_p_Ratio___repr__
  exact (s_one (s_ret (e_joined (.cons e_str (.cons (e_fmtI rfl hu C.fm_Ratio (ownM_Z C.slot_str.1 C.slot_str.2 GZ_Ratio___str__ rfl hh (hr.mono (by omega)) b_Ratio___str__) (e_v 0)) (.cons e_str .nil))))))
theorem ok_Ratio___repr__ (C : Cn K mg) {fd : FuncData} (Fd : FunD K "__repr__" "Ratio.__repr__" (defArgs (inCls (top 28) 16)) (defBody (inCls (top 28) 16)) (defScope (inCls (top 28) 16)) [] [] (He.ma K (He.ga K "Ratio") "__repr__") fd) : FnO P w K mg base 9 (He.ma K (He.ga K "Ratio") "__repr__") fd ["self"] (SPx K (gq P w K) p_Ratio___repr__) := by
  have sc := sc_Ratio___repr__
  obtain ⟨fd_Ratio___str__, F_Ratio___str__⟩ := C.c.says.def_ 16 rfl
  have G_Ratio___str__ := (ok_Ratio___str__ (P := P) (w := w) (base := base) C F_Ratio___str__)
  have b_Ratio___str__ : Binds K fd_Ratio___str__ ["self"] [] := F_Ratio___str__.bindsN fun _ _ _ _ _ _ us hl => match us, hl with | [_], _ => rfl
  refine (fno_ok (k := 8) (N := N_Ratio___repr__) (b := B_p_Ratio___repr__) Fd sc fun cdv A outer s H E hr => ?_)
  have hu := hr.units
  have hu1 : (A.deeper (envOfC "Ratio.__repr__" (defScope (inCls (top 28) 16)) s.heap.objs.size (He.ma K (He.ga K "Ratio") "__repr__") cdv)).units + (64 + 1) < cLine := by have := hr.un; omega
  unfold B_p_Ratio___repr__
  exact (s_one (s_ret (e_joined (.cons e_str (.cons (e_fmtI rfl hu C.fm_Ratio (ownM_O C.slot_str.1 C.slot_str.2 G_Ratio___str__ (hr.mono (by omega)) b_Ratio___str__) (e_v 0)) (.cons e_str .nil))))))
theorem ok_ratio_of (C : Cn K mg) {fd : FuncData} (Fd : FunD K "ratio_of" "ratio_of" (defArgs (top 29)) (defBody (top 29)) (defScope (top 29)) [] [] (He.ga K "ratio_of") fd) : FnG P w K mg base 8 (He.ga K "ratio_of") fd ["value"] (SPx K (gq P w K) p_ratio_of) := by
  have sc := sc_ratio_of
  obtain ⟨fd_Ratio___init__, F_Ratio___init__⟩ := C.c.says.def_ 12 rfl
  have G_Ratio___init__ := (ok_Ratio___init__ (P := P) (w := w) (base := base) C F_Ratio___init__)
  replace F_Ratio___init__ : FunD K "__init__" "Ratio.__init__" (defArgs (inCls (top 28) 0)) (defBody (inCls (top 28) 0)) (defScope (inCls (top 28) 0)) (([.adr (dfA "Ratio" "__init__" 0)] : List He.Dv).map (He.Dv.v K)) [] (He.ma K (He.ga K "Ratio") "__init__") fd_Ratio___init__ := F_Ratio___init__
  obtain ⟨fd_is_whole, F_is_whole⟩ := C.c.says.def_ 0 rfl
  have G_is_whole := (ok_is_whole (P := P) (w := w) (base := base) C F_is_whole)
  have b_is_whole : Binds K fd_is_whole ["value"] [] := F_is_whole.bindsN fun _ _ _ _ _ _ us hl => match us, hl with | [_], _ => rfl
  have nk_Ratio___init___2_ := kbn_pickF (ps := ["self", "top", "bottom"]) F_Ratio___init__ 3 [] [0, 1, 2] (List.cons_ne_nil _ _) fun _ _ _ _ _ _ _ us its ws h1 h2 h3 => match us, its, ws, h1, h2, h3 with | [_, _, _], [_], [], _, _, _ => by refine ⟨_, rfl, ?_⟩; rfl
  refine (fn_ok (k := 7) (N := N_ratio_of) (b := B_p_ratio_of) Fd sc fun cdv A outer s H E hr hgd => ?_)
  have hu := hr.units
  have hu1 : (A.deeper (envOfC "ratio_of" (defScope (top 29)) s.heap.objs.size (He.ga K "ratio_of") cdv)).units + (64 + 1) < cLine := by have := hr.un; omega
  unfold B_p_ratio_of
  exact (s_cons (s_if (t_tru rfl (e_callB (cr_isiI rfl C.isa_Ratio C.ins_Ratio) rfl C.f_isinstance (by decide +kernel) (a_cons (e_v 0) (a_cons (e_glo rfl C.g_Ratio) a_nil)))) (s_one (s_ret (e_v 0))) s_nil)
  (s_cons (s_if (t_not (t_tru rfl (e_call (dd := []) (dvs := []) (ds := []) (G_is_whole.mono (by omega)) hr hgd rfl C.g_is_whole F_is_whole.kp b_is_whole .nil (fun _ _ _ => .nil) (L2N.takes_of rfl rfl rfl rfl) (a_cons (e_v 0) a_nil)))) (s_one (s_raise rfl (L2N.takes_of rfl rfl rfl rfl) (XI_.of (C.xp_NotARatio (P := P) (w := w) (base := base))) (raisesX (C.xp_NotARatio (P := P) (w := w) (base := base)).cls) pm_pos (hr.mono (by omega)) rfl C.g_NotARatio (a_cons (e_v 0) a_nil))) s_nil)
  (s_one (s_ret (e_newP (k := 6) (n := 2) (perm := [0, 1, 2]) C.mk_Ratio G_Ratio___init__ (hr.mono (by omega)) hgd rfl C.g_Ratio nk_Ratio___init___2_ (L2N.takes_of rfl rfl rfl rfl) (a_cons (e_tup (a_cons (e_v 0) a_nil)) (a_cons (e_tup (a_cons e_int a_nil)) a_nil)))))))
theorem ok_row_product (C : Cn K mg) {fd : FuncData} (Fd : FunD K "row_product" "row_product" (defArgs (top 17)) (defBody (top 17)) (defScope (top 17)) [] [] (He.ga K "row_product") fd) : FnG P w K mg base 3 (He.ga K "row_product") fd ["one", "other"] (SPx K (gq P w K) p_row_product) := by
  have sc := sc_row_product
  obtain ⟨fd_row_sum, F_row_sum⟩ := C.c.says.def_ 7 rfl
  have G_row_sum := (ok_row_sum (P := P) (w := w) (base := base) C F_row_sum)
  have b_row_sum : Binds K fd_row_sum ["one", "other", "times"] [] := F_row_sum.bindsN fun _ _ _ _ _ _ us hl => match us, hl with | [_, _, _], _ => rfl
  refine (fn_ok (k := 2) (N := N_row_product) (b := B_p_row_product) Fd sc fun cdv A outer s H E hr hgd => ?_)
  have hu := hr.units
  have hu1 : (A.deeper (envOfC "row_product" (defScope (top 17)) s.heap.objs.size (He.ga K "row_product") cdv)).units + (64 + 1) < cLine := by have := hr.un; omega
  unfold B_p_row_product
  exact (s_cons (s_set (i := 2) sc.nd rfl (by first | exact .inl rfl | exact .inr rfl) (e_tup (a_cons e_int a_nil)))
  (s_cons (s_for (passes_of rfl) rfl (w_enum rfl rfl C.f_enumerate (a_cons (e_v 0) a_nil)) (g_tup (n := 2) rfl rfl (gs_name (i := 3) sc.nd rfl (by first | exact .inl rfl | exact .inr rfl) (gs_name (i := 4) sc.nd rfl (by first | exact .inl rfl | exact .inr rfl) gs_nil gsNil_ne) (gsVar_ne gsNil_ne))) (s_one (s_set (i := 2) sc.nd rfl (by first | exact .inl rfl | exact .inr rfl) (e_call (dd := []) (dvs := []) (ds := []) (G_row_sum.mono (by omega)) hr hgd rfl C.g_row_sum F_row_sum.kp b_row_sum .nil (fun _ _ _ => .nil) (L2N.takes_of rfl rfl rfl rfl) (a_cons (e_v 2) (a_cons (e_bin (or_add rfl) (e_bin (or_mulZ rfl) (e_tup (a_cons e_int a_nil)) (e_v 3)) (e_callTy (cr_tuple rfl) rfl C.f_tuple (by decide +kernel) (a_cons (e_v 1) a_nil))) (a_cons (e_v 4) a_nil)))))))
  (s_one (s_ret (e_v 2)))))
theorem ok_Ratio___sub__ (C : Cn K mg) {fd : FuncData} (Fd : FunD K "__sub__" "Ratio.__sub__" (defArgs (inCls (top 28) 4)) (defBody (inCls (top 28) 4)) (defScope (inCls (top 28) 4)) [] [] (He.ma K (He.ga K "Ratio") "__sub__") fd) : FnG P w K mg base 9 (He.ma K (He.ga K "Ratio") "__sub__") fd ["self", "other"] (SPx K (gq P w K) p_Ratio___sub__) := by
  have sc := sc_Ratio___sub__
  obtain ⟨fd_Ratio___init__, F_Ratio___init__⟩ := C.c.says.def_ 12 rfl
  have G_Ratio___init__ := (ok_Ratio___init__ (P := P) (w := w) (base := base) C F_Ratio___init__)
  replace F_Ratio___init__ : FunD K "__init__" "Ratio.__init__" (defArgs (inCls (top 28) 0)) (defBody (inCls (top 28) 0)) (defScope (inCls (top 28) 0)) (([.adr (dfA "Ratio" "__init__" 0)] : List He.Dv).map (He.Dv.v K)) [] (He.ma K (He.ga K "Ratio") "__init__") fd_Ratio___init__ := F_Ratio___init__
  obtain ⟨fd_ratio_of, F_ratio_of⟩ := C.c.says.def_ 18 rfl
  have G_ratio_of := (ok_ratio_of (P := P) (w := w) (base := base) C F_ratio_of)
  have b_ratio_of : Binds K fd_ratio_of ["value"] [] := F_ratio_of.bindsN fun _ _ _ _ _ _ us hl => match us, hl with | [_], _ => rfl
  obtain ⟨fd_row_product, F_row_product⟩ := C.c.says.def_ 19 rfl
  have G_row_product := (ok_row_product (P := P) (w := w) (base := base) C F_row_product)
  have b_row_product : Binds K fd_row_product ["one", "other"] [] := F_row_product.bindsN fun _ _ _ _ _ _ us hl => match us, hl with | [_, _], _ => rfl
  obtain ⟨fd_row_sum, F_row_sum⟩ := C.c.says.def_ 7 rfl
  have G_row_sum := (ok_row_sum (P := P) (w := w) (base := base) C F_row_sum)
  have b_row_sum : Binds K fd_row_sum ["one", "other", "times"] [] := F_row_sum.bindsN fun _ _ _ _ _ _ us hl => match us, hl with | [_, _, _], _ => rfl
  have nk_Ratio___init___2_ := kbn_pickF (ps := ["self", "top", "bottom"]) F_Ratio___init__ 3 [] [0, 1, 2] (List.cons_ne_nil _ _) fun _ _ _ _ _ _ _ us its ws h1 h2 h3 => match us, its, ws, h1, h2, h3 with | [_, _, _], [_], [], _, _, _ => by refine ⟨_, rfl, ?_⟩; rfl
  refine (fn_ok (k := 8) (N := N_Ratio___sub__) (b := B_p_Ratio___sub__) Fd sc fun cdv A outer s H E hr hgd => ?_)
  have hu := hr.units
  have hu1 : (A.deeper (envOfC "Ratio.__sub__" (defScope (inCls (top 28) 4)) s.heap.objs.size (He.ma K (He.ga K "Ratio") "__sub__") cdv)).units + (64 + 1) < cLine := by have := hr.un; omega
  unfold B_p_Ratio___sub__
  exact (s_cons (s_set (i := 2) sc.nd rfl (by first | exact .inl rfl | exact .inr rfl) (e_call (dd := []) (dvs := []) (ds := []) (G_ratio_of.mono (by omega)) hr hgd rfl C.g_ratio_of F_ratio_of.kp b_ratio_of .nil (fun _ _ _ => .nil) (L2N.takes_of rfl rfl rfl rfl) (a_cons (e_v 1) a_nil)))
  (s_cons (s_set (i := 3) sc.nd rfl (by first | exact .inl rfl | exact .inr rfl) (e_call (dd := []) (dvs := []) (ds := []) (G_row_sum.mono (by omega)) hr hgd rfl C.g_row_sum F_row_sum.kp b_row_sum .nil (fun _ _ _ => .nil) (L2N.takes_of rfl rfl rfl rfl) (a_cons (e_call (dd := []) (dvs := []) (ds := []) (G_row_product.mono (by omega)) hr hgd rfl C.g_row_product F_row_product.kp b_row_product .nil (fun _ _ _ => .nil) (L2N.takes_of rfl rfl rfl rfl) (a_cons (e_get rfl C.has_top (e_v 0)) (a_cons (e_get rfl C.has_bottom (e_v 2)) a_nil))) (a_cons (e_call (dd := []) (dvs := []) (ds := []) (G_row_product.mono (by omega)) hr hgd rfl C.g_row_product F_row_product.kp b_row_product .nil (fun _ _ _ => .nil) (L2N.takes_of rfl rfl rfl rfl) (a_cons (e_get rfl C.has_top (e_v 2)) (a_cons (e_get rfl C.has_bottom (e_v 0)) a_nil))) (a_cons (e_un ur_neg e_int) a_nil)))))
  (s_one (s_ret (e_newP (k := 6) (n := 2) (perm := [0, 1, 2]) C.mk_Ratio G_Ratio___init__ (hr.mono (by omega)) hgd rfl C.g_Ratio nk_Ratio___init___2_ (L2N.takes_of rfl rfl rfl rfl) (a_cons (e_v 3) (a_cons (e_call (dd := []) (dvs := []) (ds := []) (G_row_product.mono (by omega)) hr hgd rfl C.g_row_product F_row_product.kp b_row_product .nil (fun _ _ _ => .nil) (L2N.takes_of rfl rfl rfl rfl) (a_cons (e_get rfl C.has_bottom (e_v 0)) (a_cons (e_get rfl C.has_bottom (e_v 2)) a_nil))) a_nil)))))))
theorem ok_Ratio_later (C : Cn K mg) {fd : FuncData} (Fd : FunD K "later" "Ratio.later" (defArgs (inCls (top 28) 12)) (defBody (inCls (top 28) 12)) (defScope (inCls (top 28) 12)) [] [] (He.ma K (He.ga K "Ratio") "later") fd) : FnG P w K mg base 3 (He.ma K (He.ga K "Ratio") "later") fd ["self", "by"] (SPx K (gq P w K) p_Ratio_later) := by
  have sc := sc_Ratio_later
  obtain ⟨fd_is_whole, F_is_whole⟩ := C.c.says.def_ 0 rfl
  have G_is_whole := (ok_is_whole (P := P) (w := w) (base := base) C F_is_whole)
  have b_is_whole : Binds K fd_is_whole ["value"] [] := F_is_whole.bindsN fun _ _ _ _ _ _ us hl => match us, hl with | [_], _ => rfl
  refine (fn_ok (k := 2) (N := N_Ratio_later) (b := B_p_Ratio_later) Fd sc fun cdv A outer s H E hr hgd => ?_)
  have hu := hr.units
  have hu1 : (A.deeper (envOfC "Ratio.later" (defScope (inCls (top 28) 12)) s.heap.objs.size (He.ma K (He.ga K "Ratio") "later") cdv)).units + (64 + 1) < cLine := by have := hr.un; omega
  unfold B_p_Ratio_later
  exact (s_cons (s_if (t_ws (w_or (t_not (t_tru rfl (e_call (dd := []) (dvs := []) (ds := []) (G_is_whole.mono (by omega)) hr hgd rfl C.g_is_whole F_is_whole.kp b_is_whole .nil (fun _ _ _ => .nil) (L2N.takes_of rfl rfl rfl rfl) (a_cons (e_v 1) a_nil)))) (w_or1 (t_not (t_chain or_le or_le e_int (e_v 1) (e_gint rfl C.n_MOST_LATER)))))) (s_one (s_raise rfl (L2N.takes_of rfl rfl rfl rfl) (XI_.of (C.xp_InvalidCount (P := P) (w := w) (base := base))) (raisesX (C.xp_InvalidCount (P := P) (w := w) (base := base)).cls) pm_pos (hr.mono (by omega)) rfl C.g_InvalidCount (a_cons (e_v 1) a_nil))) s_nil)
  ss_bad)
theorem ok_Ratio_over (C : Cn K mg) {fd : FuncData} (Fd : FunD K "over" "Ratio.over" (defArgs (inCls (top 28) 10)) (defBody (inCls (top 28) 10)) (defScope (inCls (top 28) 10)) [] [] (He.ma K (He.ga K "Ratio") "over") fd) : FnG P w K mg base 9 (He.ma K (He.ga K "Ratio") "over") fd ["self", "other"] (SPx K (gq P w K) p_Ratio_over) := by
  have sc := sc_Ratio_over
  obtain ⟨fd_ratio_of, F_ratio_of⟩ := C.c.says.def_ 18 rfl
  have G_ratio_of := (ok_ratio_of (P := P) (w := w) (base := base) C F_ratio_of)
  have b_ratio_of : Binds K fd_ratio_of ["value"] [] := F_ratio_of.bindsN fun _ _ _ _ _ _ us hl => match us, hl with | [_], _ => rfl
  refine (fn_ok (k := 8) (N := N_Ratio_over) (b := B_p_Ratio_over) Fd sc fun cdv A outer s H E hr hgd => ?_)
  have hu := hr.units
  have hu1 : (A.deeper (envOfC "Ratio.over" (defScope (inCls (top 28) 10)) s.heap.objs.size (He.ma K (He.ga K "Ratio") "over") cdv)).units + (64 + 1) < cLine := by have := hr.un; omega
  unfold B_p_Ratio_over
  exact (s_cons (s_set (i := 2) sc.nd rfl (by first | exact .inl rfl | exact .inr rfl) (e_call (dd := []) (dvs := []) (ds := []) (G_ratio_of.mono (by omega)) hr hgd rfl C.g_ratio_of F_ratio_of.kp b_ratio_of .nil (fun _ _ _ => .nil) (L2N.takes_of rfl rfl rfl rfl) (a_cons (e_v 1) a_nil)))
  (s_cons (s_if (t_cmp (or_eq rfl hu) (e_get rfl C.has_top (e_v 2)) (e_tup (a_cons e_int a_nil))) (s_one (s_raise0 rfl (L2N.takes_of rfl rfl rfl rfl) (Fam.xb .r) C.x0_ZeroBelow.1 C.x0_ZeroBelow.2 (xr0B_ok C.xr_ZeroBelow) rfl C.g_ZeroBelow)) s_nil)
  ss_bad))
theorem ok_is_digits (C : Cn K mg) {fd : FuncData} (Fd : FunD K "is_digits" "is_digits" (defArgs (top 32)) (defBody (top 32)) (defScope (top 32)) [] [] (He.ga K "is_digits") fd) : FnG P w K mg base 1 (He.ga K "is_digits") fd ["text"] (SPx K (gq P w K) p_is_digits) := by
  have sc := sc_is_digits
  refine (fn_ok (k := 0) (N := N_is_digits) (b := B_p_is_digits) Fd sc fun cdv A outer s H E hr hgd => ?_)
  have hu := hr.units
  have hu1 : (A.deeper (envOfC "is_digits" (defScope (top 32)) s.heap.objs.size (He.ga K "is_digits") cdv)).units + (64 + 1) < cLine := by have := hr.un; omega
  unfold B_p_is_digits
  exact (s_one (s_ret (e_and rfl (e_chain or_le or_le e_int (e_callB (cr_len rfl) rfl C.f_len (by decide +kernel) (a_cons (e_v 0) a_nil)) e_int) (e_one (e_callB (cr_allL rfl rfl) rfl C.f_all (by decide +kernel) (a_cons (e_lcF (patOk_one (i := 1)) rfl rfl sc.nd (w_any rfl (e_v 0)) (blkOk_by (own := [("sign", 1)]) (N := N_is_digits) (sc := (defScope (top 32))) (by decide +kernel)) (fun _ _ _ _ _ => (pg_name (i := 1) sc.nd rfl (by first | exact .inl rfl | exact .inr rfl))) (fun _ _ _ _ _ => ts_nil) (fun _ _ _ _ _ => (e_cmp (or_in rfl) (e_v 1) e_str))) a_nil))))))
theorem ok_term_in (C : Cn K mg) {fd : FuncData} (Fd : FunD K "term_in" "term_in" (defArgs (top 33)) (defBody (top 33)) (defScope (top 33)) [] [] (He.ga K "term_in") fd) : FnG P w K mg base 2 (He.ga K "term_in") fd ["word"] (SPx K (gq P w K) p_term_in) := by
  have sc := sc_term_in
  obtain ⟨fd_is_digits, F_is_digits⟩ := C.c.says.def_ 23 rfl
  have G_is_digits := (ok_is_digits (P := P) (w := w) (base := base) C F_is_digits)
  have b_is_digits : Binds K fd_is_digits ["text"] [] := F_is_digits.bindsN fun _ _ _ _ _ _ us hl => match us, hl with | [_], _ => rfl
  refine (fn_ok (k := 1) (N := N_term_in) (b := B_p_term_in) Fd sc fun cdv A outer s H E hr hgd => ?_)
  have hu := hr.units
  have hu1 : (A.deeper (envOfC "term_in" (defScope (top 33)) s.heap.objs.size (He.ga K "term_in") cdv)).units + (64 + 1) < cLine := by have := hr.un; omega
  unfold B_p_term_in
  exact (s_cons (s_asg (e_m1 PySem.F.slot_str_partition PySem.F.type_str_partition mr_part (e_v 0) e_str) (g_tup (n := 3) rfl rfl (gs_name (i := 1) sc.nd rfl (by first | exact .inl rfl | exact .inr rfl) (gs_name (i := 2) sc.nd rfl (by first | exact .inl rfl | exact .inr rfl) (gs_name (i := 3) sc.nd rfl (by first | exact .inl rfl | exact .inr rfl) gs_nil gsNil_ne) (gsVar_ne gsNil_ne)) (gsVar_ne (gsVar_ne gsNil_ne)))))
  (s_cons (s_if (t_ws (w_and (t_cmp (or_eq rfl hu) (e_v 2) e_str) (w_and1 (t_tru rfl (e_m1 PySem.F.slot_str_startswith PySem.F.type_str_startswith mr_starts (e_v 0) e_str))))) (s_one (s_par (i := 1) (j := 3) rfl sc.nd rfl rfl (by decide) rfl rfl (a_cons e_str (a_cons (e_v 0) a_nil)) rfl)) s_nil)
  (s_cons (s_if (t_not (t_tru rfl (e_call (dd := []) (dvs := []) (ds := []) (G_is_digits.mono (by omega)) hr hgd rfl C.g_is_digits F_is_digits.kp b_is_digits .nil (fun _ _ _ => .nil) (L2N.takes_of rfl rfl rfl rfl) (a_cons (e_v 1) a_nil)))) (s_one (s_ret e_non)) s_nil)
  (s_cons (s_if (t_ws (w_and (t_cmp (or_eq rfl hu) (e_v 2) e_str) (w_and1 (t_not (t_tru rfl (e_m1 PySem.F.slot_str_startswith PySem.F.type_str_startswith mr_starts (e_v 0) e_str)))))) (s_one (s_ret (e_tup (a_cons (e_callTy cr_intS rfl C.f_int (by decide +kernel) (a_cons (e_v 1) a_nil)) a_nil)))) s_nil)
  ss_bad))))
theorem ok_row_in (C : Cn K mg) {fd : FuncData} (Fd : FunD K "row_in" "row_in" (defArgs (top 31)) (defBody (top 31)) (defScope (top 31)) [] [] (He.ga K "row_in") fd) : FnG P w K mg base 3 (He.ga K "row_in") fd ["text"] (SPx K (gq P w K) p_row_in) := by
  have sc := sc_row_in
  obtain ⟨fd_row_sum, F_row_sum⟩ := C.c.says.def_ 7 rfl
  have G_row_sum := (ok_row_sum (P := P) (w := w) (base := base) C F_row_sum)
  have b_row_sum : Binds K fd_row_sum ["one", "other", "times"] [] := F_row_sum.bindsN fun _ _ _ _ _ _ us hl => match us, hl with | [_, _, _], _ => rfl
  obtain ⟨fd_term_in, F_term_in⟩ := C.c.says.def_ 24 rfl
  have G_term_in := (ok_term_in (P := P) (w := w) (base := base) C F_term_in)
  have b_term_in : Binds K fd_term_in ["word"] [] := F_term_in.bindsN fun _ _ _ _ _ _ us hl => match us, hl with | [_], _ => rfl
  refine (fn_ok (k := 2) (N := N_row_in) (b := B_p_row_in) Fd sc fun cdv A outer s H E hr hgd => ?_)
  have hu := hr.units
  have hu1 : (A.deeper (envOfC "row_in" (defScope (top 31)) s.heap.objs.size (He.ga K "row_in") cdv)).units + (64 + 1) < cLine := by have := hr.un; omega
  unfold B_p_row_in
  exact (s_cons (s_set (i := 1) sc.nd rfl (by first | exact .inl rfl | exact .inr rfl) (e_tup (a_cons e_int a_nil)))
  (s_cons (s_set (i := 2) sc.nd rfl (by first | exact .inl rfl | exact .inr rfl) (e_if (t_tru rfl (e_m1 PySem.F.slot_str_startswith PySem.F.type_str_startswith mr_starts (e_v 0) e_str)) (e_sl rfl (e_v 0) (o_some e_int) o_none) (e_v 0)))
  (s_cons (s_set (i := 3) sc.nd rfl (by first | exact .inl rfl | exact .inr rfl) (e_if (t_tru rfl (e_m1 PySem.F.slot_str_startswith PySem.F.type_str_startswith mr_starts (e_v 0) e_str)) (e_un ur_neg e_int) e_int))
  (s_cons (s_set (i := 4) sc.nd rfl (by first | exact .inl rfl | exact .inr rfl) (e_m1 PySem.F.slot_str_split PySem.F.type_str_split mr_split (e_repl0 (e_v 2)) e_str))
  (s_cons (s_for (passes_of rfl) rfl (w_enum rfl rfl C.f_enumerate (a_cons (e_v 4) a_nil)) (g_tup (n := 2) rfl rfl (gs_name (i := 5) sc.nd rfl (by first | exact .inl rfl | exact .inr rfl) (gs_name (i := 6) sc.nd rfl (by first | exact .inl rfl | exact .inr rfl) gs_nil gsNil_ne) (gsVar_ne gsNil_ne))) (s_cons (s_set (i := 7) sc.nd rfl (by first | exact .inl rfl | exact .inr rfl) (e_if (t_cmp (or_eq rfl hu) (e_v 5) e_int) (e_v 3) (e_if (t_tru rfl (e_m1 PySem.F.slot_str_startswith PySem.F.type_str_startswith mr_starts (e_v 6) e_str)) (e_un ur_neg e_int) e_int)))
  (s_cons (s_set (i := 8) sc.nd rfl (by first | exact .inl rfl | exact .inr rfl) (e_call (dd := []) (dvs := []) (ds := []) (G_term_in.mono (by omega)) hr hgd rfl C.g_term_in F_term_in.kp b_term_in .nil (fun _ _ _ => .nil) (L2N.takes_of rfl rfl rfl rfl) (a_cons (e_if (t_ws (w_and (t_cmp or_gt (e_v 5) e_int) (w_and1 (t_tru rfl (e_m1 PySem.F.slot_str_startswith PySem.F.type_str_startswith mr_starts (e_v 6) e_str))))) (e_sl rfl (e_v 6) (o_some e_int) o_none) (e_v 6)) a_nil)))
  (s_cons (s_if (t_cmp or_is (e_v 8) e_non) (s_one (s_ret e_non)) s_nil)
  (s_one (s_set (i := 1) sc.nd rfl (by first | exact .inl rfl | exact .inr rfl) (e_call (dd := []) (dvs := []) (ds := []) (G_row_sum.mono (by omega)) hr hgd rfl C.g_row_sum F_row_sum.kp b_row_sum .nil (fun _ _ _ => .nil) (L2N.takes_of rfl rfl rfl rfl) (a_cons (e_v 1) (a_cons (e_v 8) (a_cons (e_v 7) a_nil))))))))))
  (s_one (s_ret (e_v 1))))))))
theorem ok_ratio_in (C : Cn K mg) {fd : FuncData} (Fd : FunD K "ratio_in" "ratio_in" (defArgs (top 30)) (defBody (top 30)) (defScope (top 30)) [] [] (He.ga K "ratio_in") fd) : FnG P w K mg base 8 (He.ga K "ratio_in") fd ["text"] (SPx K (gq P w K) p_ratio_in) := by
  have sc := sc_ratio_in
  obtain ⟨fd_Ratio___init__, F_Ratio___init__⟩ := C.c.says.def_ 12 rfl
  have G_Ratio___init__ := (ok_Ratio___init__ (P := P) (w := w) (base := base) C F_Ratio___init__)
  replace F_Ratio___init__ : FunD K "__init__" "Ratio.__init__" (defArgs (inCls (top 28) 0)) (defBody (inCls (top 28) 0)) (defScope (inCls (top 28) 0)) (([.adr (dfA "Ratio" "__init__" 0)] : List He.Dv).map (He.Dv.v K)) [] (He.ma K (He.ga K "Ratio") "__init__") fd_Ratio___init__ := F_Ratio___init__
  obtain ⟨fd_row_in, F_row_in⟩ := C.c.says.def_ 25 rfl
  have G_row_in := (ok_row_in (P := P) (w := w) (base := base) C F_row_in)
  have b_row_in : Binds K fd_row_in ["text"] [] := F_row_in.bindsN fun _ _ _ _ _ _ us hl => match us, hl with | [_], _ => rfl
  have nk_Ratio___init___2_ := kbn_pickF (ps := ["self", "top", "bottom"]) F_Ratio___init__ 3 [] [0, 1, 2] (List.cons_ne_nil _ _) fun _ _ _ _ _ _ _ us its ws h1 h2 h3 => match us, its, ws, h1, h2, h3 with | [_, _, _], [_], [], _, _, _ => by refine ⟨_, rfl, ?_⟩; rfl
  refine (fn_ok (k := 7) (N := N_ratio_in) (b := B_p_ratio_in) Fd sc fun cdv A outer s H E hr hgd => ?_)
  have hu := hr.units
  have hu1 : (A.deeper (envOfC "ratio_in" (defScope (top 30)) s.heap.objs.size (He.ga K "ratio_in") cdv)).units + (64 + 1) < cLine := by have := hr.un; omega
  unfold B_p_ratio_in
  exact (s_cons (s_par (i := 1) (j := 2) rfl sc.nd rfl rfl (by decide) rfl rfl (a_cons (e_v 0) (a_cons e_str a_nil)) rfl)
  (s_cons (s_if (t_ws (w_and (t_tru rfl (e_m1 PySem.F.slot_str_startswith PySem.F.type_str_startswith mr_starts (e_v 0) e_str)) (w_and (t_tru rfl e_bad) (w_and1 (t_cmp (or_eq rfl hu) e_bad e_int))))) (s_one (s_asg (e_m1 PySem.F.slot_str_partition PySem.F.type_str_partition mr_part (e_sl rfl (e_v 0) (o_some e_int) (o_some (e_un ur_neg e_int))) e_str) (g_tup (n := 3) rfl rfl (gs_name (i := 1) sc.nd rfl (by first | exact .inl rfl | exact .inr rfl) (gs_name (i := 3) sc.nd rfl (by first | exact .inl rfl | exact .inr rfl) (gs_name (i := 2) sc.nd rfl (by first | exact .inl rfl | exact .inr rfl) gs_nil gsNil_ne) (gsVar_ne gsNil_ne)) (gsVar_ne (gsVar_ne gsNil_ne)))))) s_nil)
  (s_cons (s_par (i := 4) (j := 5) rfl sc.nd rfl rfl (by decide) rfl rfl (a_cons (e_call (dd := []) (dvs := []) (ds := []) (G_row_in.mono (by omega)) hr hgd rfl C.g_row_in F_row_in.kp b_row_in .nil (fun _ _ _ => .nil) (L2N.takes_of rfl rfl rfl rfl) (a_cons (e_v 1) a_nil)) (a_cons (e_call (dd := []) (dvs := []) (ds := []) (G_row_in.mono (by omega)) hr hgd rfl C.g_row_in F_row_in.kp b_row_in .nil (fun _ _ _ => .nil) (L2N.takes_of rfl rfl rfl rfl) (a_cons (e_v 2) a_nil)) a_nil)) rfl)
  (s_cons (s_if (t_ws (w_or (t_cmp or_is (e_v 4) e_non) (w_or (t_cmp or_is (e_v 5) e_non) (w_or1 (t_cmp (or_eq rfl hu) (e_v 5) (e_tup (a_cons e_int a_nil))))))) (s_one (s_ret e_non)) s_nil)
  (s_one (s_ret (e_newP (k := 6) (n := 2) (perm := [0, 1, 2]) C.mk_Ratio G_Ratio___init__ (hr.mono (by omega)) hgd rfl C.g_Ratio nk_Ratio___init___2_ (L2N.takes_of rfl rfl rfl rfl) (a_cons (e_v 4) (a_cons (e_v 5) a_nil)))))))))
theorem ok_Ratio_read (C : Cn K mg) {fd : FuncData} (Fd : FunD K "read" "Ratio.read" (defArgs (inCls (top 28) 1)) (defBody (inCls (top 28) 1)) (defScope (inCls (top 28) 1)) [] [] (sfA K "Ratio" "read") fd) : FnG P w K mg base 9 (sfA K "Ratio" "read") fd ["text"] (SPx K (gq P w K) p_Ratio_read) := by
  have sc := sc_Ratio_read
  obtain ⟨fd_Ratio___str__, F_Ratio___str__⟩ := C.c.says.def_ 16 rfl
  have G_Ratio___str__ := (ok_Ratio___str__ (P := P) (w := w) (base := base) C F_Ratio___str__).toG
  have b_Ratio___str__ : Binds K fd_Ratio___str__ ["self"] [] := F_Ratio___str__.bindsN fun _ _ _ _ _ _ us hl => match us, hl with | [_], _ => rfl
  obtain ⟨fd_ratio_in, F_ratio_in⟩ := C.c.says.def_ 26 rfl
  have G_ratio_in := (ok_ratio_in (P := P) (w := w) (base := base) C F_ratio_in)
  have b_ratio_in : Binds K fd_ratio_in ["text"] [] := F_ratio_in.bindsN fun _ _ _ _ _ _ us hl => match us, hl with | [_], _ => rfl
  refine (fn_ok (k := 8) (N := N_Ratio_read) (b := B_p_Ratio_read) Fd sc fun cdv A outer s H E hr hgd => ?_)
  have hu := hr.units
  have hu1 : (A.deeper (envOfC "Ratio.read" (defScope (inCls (top 28) 1)) s.heap.objs.size (sfA K "Ratio" "read") cdv)).units + (64 + 1) < cLine := by have := hr.un; omega
  unfold B_p_Ratio_read
  exact (s_cons (s_set (i := 1) sc.nd rfl (by first | exact .inl rfl | exact .inr rfl) (e_if (t_tru rfl (e_callB (cr_isiI rfl C.isa_str C.ins_Ratio) rfl C.f_isinstance (by decide +kernel) (a_cons (e_v 0) (a_cons (e_bty rfl C.f_str (by decide +kernel)) a_nil)))) (e_call (dd := []) (dvs := []) (ds := []) (G_ratio_in.mono (by omega)) hr hgd rfl C.g_ratio_in F_ratio_in.kp b_ratio_in .nil (fun _ _ _ => .nil) (L2N.takes_of rfl rfl rfl rfl) (a_cons (e_v 0) a_nil)) e_non))
  (s_cons (s_if (t_ws (w_or (t_cmp or_is (e_v 1) e_non) (w_or1 (t_cmp (or_ne rfl hu) (e_callTy (cr_strI (k := 3) rfl C.slot_str.1 C.slot_str.2 G_Ratio___str__ (hr.mono (by omega)) hgd b_Ratio___str__) rfl C.f_str (by decide +kernel) (a_cons (e_v 1) a_nil)) (e_v 0))))) (s_one (s_raise rfl (L2N.takes_of rfl rfl rfl rfl) (XI_.of (C.xp_InvalidText (P := P) (w := w) (base := base))) (raisesX (C.xp_InvalidText (P := P) (w := w) (base := base)).cls) pm_pos (hr.mono (by omega)) rfl C.g_InvalidText (a_cons (e_v 0) a_nil))) s_nil)
  (s_one (s_ret (e_v 1)))))
theorem ok__law_dip (C : Cn K mg) {fd : FuncData} (Fd : FunD K "_law_dip" "_law_dip" (defArgs (top 36)) (defBody (top 36)) (defScope (top 36)) [] [] (He.ga K "_law_dip") fd) : FnG P w K mg base 1 (He.ga K "_law_dip") fd ["_law_well_here", "_law_many"] (SPx K (gq P w K) k06__law_dip) := by
  have sc := sc__law_dip
  refine (fn_ok (k := 0) (N := N__law_dip) (b := B_k06__law_dip) Fd sc fun cdv A outer s H E hr hgd => ?_)
  have hu := hr.units
  have hu1 : (A.deeper (envOfC "_law_dip" (defScope (top 36)) s.heap.objs.size (He.ga K "_law_dip") cdv)).units + (64 + 1) < cLine := by have := hr.un; omega
  unfold B_k06__law_dip
  exact (s_cons (s_asg (e_bin (or_add rfl) (e_ix rfl (e_v 0) e_int) e_int) (g_ix (e_v 0) e_int))
  (s_cons (s_if (t_cmp or_gt (e_ix rfl (e_v 0) e_int) e_int) (s_cons (s_set (i := 2) sc.nd rfl (by first | exact .inl rfl | exact .inr rfl) (e_bin or_mod (e_callTy cr_int rfl C.f_int (by decide +kernel) (a_cons (e_ix rfl (e_v 0) e_int) a_nil)) (e_v 1)))
  (s_cons (s_asg (e_bin or_fdiv (e_ix rfl (e_v 0) e_int) (e_v 1)) (g_ix (e_v 0) e_int))
  (s_one (s_ret (e_v 2))))) s_nil)
  (s_cons (s_set (i := 3) sc.nd rfl (by first | exact .inl rfl | exact .inr rfl) (e_callTy cr_int rfl C.f_int (by decide +kernel) (a_cons (e_ix rfl (e_v 0) e_int) a_nil)))
  (s_cons (s_asg (e_bin or_mod (e_callTy cr_int rfl C.f_int (by decide +kernel) (a_cons (e_bin (or_add rfl) (e_bin (or_add rfl) (e_bin (or_mul rfl) (e_v 3) (e_bin (or_add rfl) (e_bin or_mod (e_v 3) e_int) e_int)) (e_bin (or_mul rfl) e_int (e_ix rfl (e_v 0) e_int))) e_int) a_nil)) e_int) (g_ix (e_v 0) e_int))
  (s_one (s_ret (e_bin or_mod (e_callTy cr_int rfl C.f_int (by decide +kernel) (a_cons (e_bin or_fdiv (e_ix rfl (e_v 0) e_int) e_int) a_nil)) (e_v 1))))))))
theorem ok__law_any (C : Cn K mg) {fd : FuncData} (Fd : FunD K "_law_any" "_law_any" (defArgs (top 37)) (defBody (top 37)) (defScope (top 37)) [] [] (He.ga K "_law_any") fd) : FnG P w K mg base 2 (He.ga K "_law_any") fd ["_law_well_here", "_law_things"] (SPx K (gq P w K) k06__law_any) := by
  have sc := sc__law_any
  obtain ⟨fd__law_dip, F__law_dip⟩ := C.c.says.def_ 27 rfl
  have G__law_dip := (ok__law_dip (P := P) (w := w) (base := base) C F__law_dip)
  have b__law_dip : Binds K fd__law_dip ["_law_well_here", "_law_many"] [] := F__law_dip.bindsN fun _ _ _ _ _ _ us hl => match us, hl with | [_, _], _ => rfl
  refine (fn_ok (k := 1) (N := N__law_any) (b := B_k06__law_any) Fd sc fun cdv A outer s H E hr hgd => ?_)
  have hu := hr.units
  have hu1 : (A.deeper (envOfC "_law_any" (defScope (top 37)) s.heap.objs.size (He.ga K "_law_any") cdv)).units + (64 + 1) < cLine := by have := hr.un; omega
  unfold B_k06__law_any
  exact (s_one (s_ret (e_ix rfl (e_v 1) (e_call (dd := []) (dvs := []) (ds := []) (G__law_dip.mono (by omega)) hr hgd rfl C.g__law_dip F__law_dip.kp b__law_dip .nil (fun _ _ _ => .nil) (L2N.takes_of rfl rfl rfl rfl) (a_cons (e_v 0) (a_cons (e_callB (cr_len rfl) rfl C.f_len (by decide +kernel) (a_cons (e_v 1) a_nil)) a_nil))))))
theorem ok_Ratio___add__ (C : Cn K mg) {fd : FuncData} (Fd : FunD K "__add__" "Ratio.__add__" (defArgs (inCls (top 28) 2)) (defBody (inCls (top 28) 2)) (defScope (inCls (top 28) 2)) [] [] (He.ma K (He.ga K "Ratio") "__add__") fd) : FnG P w K mg base 9 (He.ma K (He.ga K "Ratio") "__add__") fd ["self", "other"] (SPx K (gq P w K) p_Ratio___add__) := by
  have sc := sc_Ratio___add__
  obtain ⟨fd_ratio_of, F_ratio_of⟩ := C.c.says.def_ 18 rfl
  have G_ratio_of := (ok_ratio_of (P := P) (w := w) (base := base) C F_ratio_of)
  have b_ratio_of : Binds K fd_ratio_of ["value"] [] := F_ratio_of.bindsN fun _ _ _ _ _ _ us hl => match us, hl with | [_], _ => rfl
  refine (fn_ok (k := 8) (N := N_Ratio___add__) (b := B_p_Ratio___add__) Fd sc fun cdv A outer s H E hr hgd => ?_)
  have hu := hr.units
  have hu1 : (A.deeper (envOfC "Ratio.__add__" (defScope (inCls (top 28) 2)) s.heap.objs.size (He.ma K (He.ga K "Ratio") "__add__") cdv)).units + (64 + 1) < cLine := by have := hr.un; omega
  unfold B_p_Ratio___add__
  exact (s_cons (s_set (i := 2) sc.nd rfl (by first | exact .inl rfl | exact .inr rfl) (e_call (dd := []) (dvs := []) (ds := []) (G_ratio_of.mono (by omega)) hr hgd rfl C.g_ratio_of F_ratio_of.kp b_ratio_of .nil (fun _ _ _ => .nil) (L2N.takes_of rfl rfl rfl rfl) (a_cons (e_v 1) a_nil)))
  ss_bad)
theorem ok_Ratio___mul__ (C : Cn K mg) {fd : FuncData} (Fd : FunD K "__mul__" "Ratio.__mul__" (defArgs (inCls (top 28) 6)) (defBody (inCls (top 28) 6)) (defScope (inCls (top 28) 6)) [] [] (He.ma K (He.ga K "Ratio") "__mul__") fd) : FnG P w K mg base 9 (He.ma K (He.ga K "Ratio") "__mul__") fd ["self", "other"] (SPx K (gq P w K) p_Ratio___mul__) := by
  have sc := sc_Ratio___mul__
  obtain ⟨fd_ratio_of, F_ratio_of⟩ := C.c.says.def_ 18 rfl
  have G_ratio_of := (ok_ratio_of (P := P) (w := w) (base := base) C F_ratio_of)
  have b_ratio_of : Binds K fd_ratio_of ["value"] [] := F_ratio_of.bindsN fun _ _ _ _ _ _ us hl => match us, hl with | [_], _ => rfl
  refine (fn_ok (k := 8) (N := N_Ratio___mul__) (b := B_p_Ratio___mul__) Fd sc fun cdv A outer s H E hr hgd => ?_)
  have hu := hr.units
  have hu1 : (A.deeper (envOfC "Ratio.__mul__" (defScope (inCls (top 28) 6)) s.heap.objs.size (He.ma K (He.ga K "Ratio") "__mul__") cdv)).units + (64 + 1) < cLine := by have := hr.un; omega
  unfold B_p_Ratio___mul__
  exact (s_cons (s_set (i := 2) sc.nd rfl (by first | exact .inl rfl | exact .inr rfl) (e_call (dd := []) (dvs := []) (ds := []) (G_ratio_of.mono (by omega)) hr hgd rfl C.g_ratio_of F_ratio_of.kp b_ratio_of .nil (fun _ _ _ => .nil) (L2N.takes_of rfl rfl rfl rfl) (a_cons (e_v 1) a_nil)))
  ss_bad)
theorem ok_Ratio___radd__ (C : Cn K mg) {fd : FuncData} (Fd : FunD K "__radd__" "Ratio.__radd__" (defArgs (inCls (top 28) 3)) (defBody (inCls (top 28) 3)) (defScope (inCls (top 28) 3)) [] [] (He.ma K (He.ga K "Ratio") "__radd__") fd) : FnG P w K mg base 12 (He.ma K (He.ga K "Ratio") "__radd__") fd ["self", "other"] (SPx K (gq P w K) p_Ratio___radd__) := by
  have sc := sc_Ratio___radd__
  obtain ⟨fd_Ratio___add__, F_Ratio___add__⟩ := C.c.says.def_ 29 rfl
  have G_Ratio___add__ := (ok_Ratio___add__ (P := P) (w := w) (base := base) C F_Ratio___add__)
  have b_Ratio___add__ : Binds K fd_Ratio___add__ ["self", "other"] [] := F_Ratio___add__.bindsN fun _ _ _ _ _ _ us hl => match us, hl with | [_, _], _ => rfl
  refine (fn_ok (k := 11) (N := N_Ratio___radd__) (b := B_p_Ratio___radd__) Fd sc fun cdv A outer s H E hr hgd => ?_)
  have hu := hr.units
  have hu1 : (A.deeper (envOfC "Ratio.__radd__" (defScope (inCls (top 28) 3)) s.heap.objs.size (He.ma K (He.ga K "Ratio") "__radd__") cdv)).units + (64 + 1) < cLine := by have := hr.un; omega
  unfold B_p_Ratio___radd__
  exact (s_one (s_ret (e_binL (C := "Ratio") (ts := ["str", "tuple", "list", "NoneType", "bool", "dict"]) rfl C.bl_Ratio_add_str_tuple_list_NoneType_bool_dict (by decide +kernel) (by decide +kernel) (G_Ratio___add__.mono (by omega)) hr hgd b_Ratio___add__ (L2N.takes_of rfl rfl rfl rfl) (e_v 0) (e_v 1))))
theorem ok_Ratio___rsub__ (C : Cn K mg) {fd : FuncData} (Fd : FunD K "__rsub__" "Ratio.__rsub__" (defArgs (inCls (top 28) 5)) (defBody (inCls (top 28) 5)) (defScope (inCls (top 28) 5)) [] [] (He.ma K (He.ga K "Ratio") "__rsub__") fd) : FnG P w K mg base 12 (He.ma K (He.ga K "Ratio") "__rsub__") fd ["self", "other"] (SPx K (gq P w K) p_Ratio___rsub__) := by
  have sc := sc_Ratio___rsub__
  obtain ⟨fd_Ratio___sub__, F_Ratio___sub__⟩ := C.c.says.def_ 20 rfl
  have G_Ratio___sub__ := (ok_Ratio___sub__ (P := P) (w := w) (base := base) C F_Ratio___sub__)
  have b_Ratio___sub__ : Binds K fd_Ratio___sub__ ["self", "other"] [] := F_Ratio___sub__.bindsN fun _ _ _ _ _ _ us hl => match us, hl with | [_, _], _ => rfl
  obtain ⟨fd_ratio_of, F_ratio_of⟩ := C.c.says.def_ 18 rfl
  have G_ratio_of := (ok_ratio_of (P := P) (w := w) (base := base) C F_ratio_of)
  have b_ratio_of : Binds K fd_ratio_of ["value"] [] := F_ratio_of.bindsN fun _ _ _ _ _ _ us hl => match us, hl with | [_], _ => rfl
  refine (fn_ok (k := 11) (N := N_Ratio___rsub__) (b := B_p_Ratio___rsub__) Fd sc fun cdv A outer s H E hr hgd => ?_)
  have hu := hr.units
  have hu1 : (A.deeper (envOfC "Ratio.__rsub__" (defScope (inCls (top 28) 5)) s.heap.objs.size (He.ma K (He.ga K "Ratio") "__rsub__") cdv)).units + (64 + 1) < cLine := by have := hr.un; omega
  unfold B_p_Ratio___rsub__
  exact (s_one (s_ret (e_binL (C := "Ratio") (ts := ["str", "tuple", "list", "NoneType", "bool", "dict"]) rfl C.bl_Ratio_sub_str_tuple_list_NoneType_bool_dict (by decide +kernel) (by decide +kernel) (G_Ratio___sub__.mono (by omega)) hr hgd b_Ratio___sub__ (L2N.takes_of rfl rfl rfl rfl) (e_call (dd := []) (dvs := []) (ds := []) (G_ratio_of.mono (by omega)) hr hgd rfl C.g_ratio_of F_ratio_of.kp b_ratio_of .nil (fun _ _ _ => .nil) (L2N.takes_of rfl rfl rfl rfl) (a_cons (e_v 1) a_nil)) (e_v 0))))
theorem okc__law_told (C : Cn K mg) {fd : FuncData} (Fd : FunD K "_law_told" "_law_told" (defArgs (top 38)) (defBody (top 38)) (defScope (top 38)) [] [] (He.ga K "_law_told") fd) : CalOk P w K mg base (gq P w K) N__law_told "_law_told" (defScope (top 38)) (He.ga K "_law_told") (defBody (top 38)) "_law_act" 14 B_k06__law_told := by
  have sc := sc__law_told
  obtain ⟨fd_Ratio___repr__, F_Ratio___repr__⟩ := C.c.says.def_ 17 rfl
  have G_Ratio___repr__ := (ok_Ratio___repr__ (P := P) (w := w) (base := base) C F_Ratio___repr__).toG
  have GZ_Ratio___repr__ := okz_Ratio___repr__ (P := P) (w := w) (base := base) C F_Ratio___repr__
  have GO_Ratio___repr__ := (ok_Ratio___repr__ (P := P) (w := w) (base := base) C F_Ratio___repr__)
  have b_Ratio___repr__ : Binds K fd_Ratio___repr__ ["self"] [] := F_Ratio___repr__.bindsN fun _ _ _ _ _ _ us hl => match us, hl with | [_], _ => rfl
  intro cdv A outer s H E th hr hgd act
  have hu := hr.units
  have hu1 : (A.deeper (envOfC "_law_told" (defScope (top 38)) s.heap.objs.size (He.ga K "_law_told") cdv)).units + (64 + 1) < cLine := by have := hr.un; omega
  unfold B_k06__law_told
  exact (s_cons (s_tryM rfl rfl rfl rfl sc.nd (L2N.takes_of rfl rfl rfl rfl)
  (fun W pn xe tk hpo => (s_one (s_expr (act _ _ _ _ _ tk))))
  (.as (i := 1) rfl rfl (tst_one ⟨rfl, by decide, .inl C.g_InvalidCount⟩) (exmT_ok1 C.tx__law_told_0) (fun a => by
    have hrH := roomH_markM hr (some (.ref a))
    exact (s_one (s_ret (e_lstF (a_cons e_str (a_cons (e_callB (cr_reprM rfl hgd hu1 (rm_1 (ownR_Z C.slr_Ratio.1 C.slr_Ratio.2 GZ_Ratio___repr__ rfl rfl (hrH.mono (by omega)) b_Ratio___repr__))) rfl C.f_repr (by decide +kernel) (a_cons (e_fld rfl C.fld_value (e_v 1)) a_nil)) a_nil)))))) (.as (i := 1) rfl rfl (tst_one ⟨rfl, by decide, .inl C.g_NotARatio⟩) (exmT_ok1 C.tx__law_told_1) (fun a => by
    have hrH := roomH_markM hr (some (.ref a))
    exact (s_one (s_ret (e_lstF (a_cons e_str (a_cons (e_callB (cr_reprM rfl hgd hu1 (rm_1 (ownR_Z C.slr_Ratio.1 C.slr_Ratio.2 GZ_Ratio___repr__ rfl rfl (hrH.mono (by omega)) b_Ratio___repr__))) rfl C.f_repr (by decide +kernel) (a_cons (e_fld rfl C.fld_value (e_v 1)) a_nil)) a_nil)))))) (.as (i := 1) rfl rfl (tst_one ⟨rfl, by decide, .inl C.g_InvalidText⟩) (exmT_ok1 C.tx__law_told_2) (fun a => by
    have hrH := roomH_markM hr (some (.ref a))
    exact (s_one (s_ret (e_lstF (a_cons e_str (a_cons (e_callB (cr_reprM rfl hgd hu1 (rm_1 (ownR_Z C.slr_Ratio.1 C.slr_Ratio.2 GZ_Ratio___repr__ rfl rfl (hrH.mono (by omega)) b_Ratio___repr__))) rfl C.f_repr (by decide +kernel) (a_cons (e_fld rfl C.fld_value (e_v 1)) a_nil)) a_nil)))))) (.un (tst_one ⟨rfl, by decide, .inl C.g_ZeroBelow⟩) (exmT_ok1 C.tx__law_told_3) (fun a => by
    have hrH := roomH_markM hr (some (.ref a))
    exact (s_one (s_ret (e_lstF (a_cons e_str (a_cons e_str a_nil)))))) (.un (tst_one ⟨rfl, by decide, .inl C.g_Gap⟩) (exmT_ok1 C.tx__law_told_4) (fun a => by
    have hrH := roomH_markM hr (some (.ref a))
    exact (s_one (s_ret (e_lstF (a_cons e_str (a_cons e_str a_nil)))))) .nil))))))
  (s_one (s_ret (e_lstF (a_cons e_str (a_cons e_str a_nil))))))
theorem ok__law_signs_right (C : Cn K mg) (T : Tbs K mg base mk_) {fd : FuncData} (Fd : FunD K "_law_signs_right" "_law_signs_right" (defArgs (top 39)) (defBody (top 39)) (defScope (top 39)) [] [] (He.ga K "_law_signs_right") fd) : FnG P w K mg base 18 (He.ga K "_law_signs_right") fd ["_law_ratio", "_law_odd"] (SPx K (gq P w K) k06__law_signs_right) := by
  have sc := sc__law_signs_right
  obtain ⟨fd_Ratio___add__, F_Ratio___add__⟩ := C.c.says.def_ 29 rfl
  have G_Ratio___add__ := (ok_Ratio___add__ (P := P) (w := w) (base := base) C F_Ratio___add__)
  have b_Ratio___add__ : Binds K fd_Ratio___add__ ["self", "other"] [] := F_Ratio___add__.bindsN fun _ _ _ _ _ _ us hl => match us, hl with | [_, _], _ => rfl
  obtain ⟨fd_Ratio___mul__, F_Ratio___mul__⟩ := C.c.says.def_ 30 rfl
  have G_Ratio___mul__ := (ok_Ratio___mul__ (P := P) (w := w) (base := base) C F_Ratio___mul__)
  have b_Ratio___mul__ : Binds K fd_Ratio___mul__ ["self", "other"] [] := F_Ratio___mul__.bindsN fun _ _ _ _ _ _ us hl => match us, hl with | [_, _], _ => rfl
  obtain ⟨fd_Ratio___radd__, F_Ratio___radd__⟩ := C.c.says.def_ 31 rfl
  have G_Ratio___radd__ := (ok_Ratio___radd__ (P := P) (w := w) (base := base) C F_Ratio___radd__)
  have b_Ratio___radd__ : Binds K fd_Ratio___radd__ ["self", "other"] [] := F_Ratio___radd__.bindsN fun _ _ _ _ _ _ us hl => match us, hl with | [_, _], _ => rfl
  obtain ⟨fd_Ratio___repr__, F_Ratio___repr__⟩ := C.c.says.def_ 17 rfl
  have G_Ratio___repr__ := (ok_Ratio___repr__ (P := P) (w := w) (base := base) C F_Ratio___repr__).toG
  have GO_Ratio___repr__ := (ok_Ratio___repr__ (P := P) (w := w) (base := base) C F_Ratio___repr__)
  have b_Ratio___repr__ : Binds K fd_Ratio___repr__ ["self"] [] := F_Ratio___repr__.bindsN fun _ _ _ _ _ _ us hl => match us, hl with | [_], _ => rfl
  obtain ⟨fd_Ratio___rsub__, F_Ratio___rsub__⟩ := C.c.says.def_ 32 rfl
  have G_Ratio___rsub__ := (ok_Ratio___rsub__ (P := P) (w := w) (base := base) C F_Ratio___rsub__)
  have b_Ratio___rsub__ : Binds K fd_Ratio___rsub__ ["self", "other"] [] := F_Ratio___rsub__.bindsN fun _ _ _ _ _ _ us hl => match us, hl with | [_, _], _ => rfl
  obtain ⟨fd_Ratio___sub__, F_Ratio___sub__⟩ := C.c.says.def_ 20 rfl
  have G_Ratio___sub__ := (ok_Ratio___sub__ (P := P) (w := w) (base := base) C F_Ratio___sub__)
  have b_Ratio___sub__ : Binds K fd_Ratio___sub__ ["self", "other"] [] := F_Ratio___sub__.bindsN fun _ _ _ _ _ _ us hl => match us, hl with | [_, _], _ => rfl
  obtain ⟨fd_Ratio_over, F_Ratio_over⟩ := C.c.says.def_ 22 rfl
  have G_Ratio_over := (ok_Ratio_over (P := P) (w := w) (base := base) C F_Ratio_over)
  have b_Ratio_over : Binds K fd_Ratio_over ["self", "other"] [] := F_Ratio_over.bindsN fun _ _ _ _ _ _ us hl => match us, hl with | [_, _], _ => rfl
  obtain ⟨fd__law_told, F__law_told⟩ := C.c.says.def_ 33 rfl
  have GC__law_told := okc__law_told (P := P) (w := w) (base := base) C F__law_told
  have b__law_told : Binds K fd__law_told ["_law_act"] [] := F__law_told.bindsN fun _ _ _ _ _ _ us hl => match us, hl with | [_], _ => rfl
  refine (fn_okT (k := 17) (N := N__law_signs_right) (b := B_k06__law_signs_right) Fd sc fun cdv A outer s H E hcod hr hgd => ?_)
  have hu := hr.units
  have hu1 : (A.deeper (envOfC "_law_signs_right" (defScope (top 39)) s.heap.objs.size (He.ga K "_law_signs_right") cdv)).units + (64 + 1) < cLine := by have := hr.un; omega
  have hcode : cdv = .ref (tcA K "_law_signs_right") := codOf_tab (tabB_tab C.tab__law_signs_right).2.2 (by rw [(tabB_tab C.tab__law_signs_right).1]; rfl) hcod
  unfold B_k06__law_signs_right
  exact (s_cons (s_set (i := 2) sc.nd rfl (by first | exact .inl rfl | exact .inr rfl) (e_lstF (a_cons e_str (a_cons (e_callB (cr_reprM rfl hgd hu1 (rm_1 (ownR_O C.slr_Ratio.1 C.slr_Ratio.2 GO_Ratio___repr__ (hr.mono (by omega)) b_Ratio___repr__))) rfl C.f_repr (by decide +kernel) (a_cons (e_v 1) a_nil)) a_nil))))
  (s_cons (s_set (i := 3) sc.nd rfl (by first | exact .inl rfl | exact .inr rfl) (e_lst (a_cons (e_lam (k := 15) (n := 1) (m := "_law_signs_right") (q := "_law_signs_right.<locals>.<lambda>") rfl C.g__law_told F__law_told b__law_told sc__law_told rfl (CalOk.mono GC__law_told (by omega)) hG__law_told (T _ (List.mem_of_getElem? (i := 1) rfl)) hcode rfl (hr.mono (by omega)) hgd rfl (L2N.takes_of rfl rfl rfl rfl) (LamX.lamS_by (by kernel_rfl)) rfl (fun _ _ _ _ _ => rfl) (fun A outer s H E f c' hr hgd => have hu := hr.units; have hu1 := un65 hr; (e_binL (C := "Ratio") (ts := ["str", "tuple", "list", "NoneType", "bool", "dict"]) rfl C.bl_Ratio_add_str_tuple_list_NoneType_bool_dict (by decide +kernel) (by decide +kernel) (G_Ratio___add__.mono (by omega)) hr hgd b_Ratio___add__ (L2N.takes_of rfl rfl rfl rfl) (e_v 0) (e_v 1)))) a_nil)))
  (s_cons (s_expr (e_ml (f := opAppend) rfl PySem.F.slot_list_append PySem.F.type_list_append mr_append (e_v 3) (a_cons (e_lam (k := 15) (n := 1) (m := "_law_signs_right") (q := "_law_signs_right.<locals>.<lambda>") rfl C.g__law_told F__law_told b__law_told sc__law_told rfl (CalOk.mono GC__law_told (by omega)) hG__law_told (T _ (List.mem_of_getElem? (i := 1) rfl)) hcode rfl (hr.mono (by omega)) hgd rfl (L2N.takes_of rfl rfl rfl rfl) (LamX.lamS_by (by kernel_rfl)) rfl (fun _ _ _ _ _ => rfl) (fun A outer s H E f c' hr hgd => have hu := hr.units; have hu1 := un65 hr; (e_binL (C := "Ratio") (ts := ["str", "tuple", "list", "NoneType", "bool", "dict"]) rfl C.bl_Ratio_sub_str_tuple_list_NoneType_bool_dict (by decide +kernel) (by decide +kernel) (G_Ratio___sub__.mono (by omega)) hr hgd b_Ratio___sub__ (L2N.takes_of rfl rfl rfl rfl) (e_v 0) (e_v 1)))) a_nil)))
  (s_cons (s_expr (e_ml (f := opAppend) rfl PySem.F.slot_list_append PySem.F.type_list_append mr_append (e_v 3) (a_cons (e_lam (k := 15) (n := 1) (m := "_law_signs_right") (q := "_law_signs_right.<locals>.<lambda>") rfl C.g__law_told F__law_told b__law_told sc__law_told rfl (CalOk.mono GC__law_told (by omega)) hG__law_told (T _ (List.mem_of_getElem? (i := 1) rfl)) hcode rfl (hr.mono (by omega)) hgd rfl (L2N.takes_of rfl rfl rfl rfl) (LamX.lamS_by (by kernel_rfl)) rfl (fun _ _ _ _ _ => rfl) (fun A outer s H E f c' hr hgd => have hu := hr.units; have hu1 := un65 hr; (e_binL (C := "Ratio") (ts := ["str", "tuple", "list", "NoneType", "bool", "dict"]) rfl C.bl_Ratio_mul_str_tuple_list_NoneType_bool_dict (by decide +kernel) (by decide +kernel) (G_Ratio___mul__.mono (by omega)) hr hgd b_Ratio___mul__ (L2N.takes_of rfl rfl rfl rfl) (e_v 0) (e_v 1)))) a_nil)))
  (s_cons (s_expr (e_ml (f := opAppend) rfl PySem.F.slot_list_append PySem.F.type_list_append mr_append (e_v 3) (a_cons (e_lam (k := 15) (n := 1) (m := "_law_signs_right") (q := "_law_signs_right.<locals>.<lambda>") rfl C.g__law_told F__law_told b__law_told sc__law_told rfl (CalOk.mono GC__law_told (by omega)) hG__law_told (T _ (List.mem_of_getElem? (i := 1) rfl)) hcode rfl (hr.mono (by omega)) hgd rfl (L2N.takes_of rfl rfl rfl rfl) (LamX.lamS_by (by kernel_rfl)) rfl (fun _ _ _ _ _ => rfl) (fun A outer s H E f c' hr hgd => have hu := hr.units; have hu1 := un65 hr; (e_meth (C := "Ratio") rfl C.cls_Ratio C.me_Ratio_over (G_Ratio_over.mono (by omega)) hr hgd b_Ratio_over (L2N.takes_of rfl rfl rfl rfl) (e_v 0) (a_cons (e_v 1) a_nil)))) a_nil)))
  (s_cons (s_expr (e_ml (f := opAppend) rfl PySem.F.slot_list_append PySem.F.type_list_append mr_append (e_v 3) (a_cons (e_lam (k := 15) (n := 1) (m := "_law_signs_right") (q := "_law_signs_right.<locals>.<lambda>") rfl C.g__law_told F__law_told b__law_told sc__law_told rfl (CalOk.mono GC__law_told (by omega)) hG__law_told (T _ (List.mem_of_getElem? (i := 1) rfl)) hcode rfl (hr.mono (by omega)) hgd rfl (L2N.takes_of rfl rfl rfl rfl) (LamX.lamS_by (by kernel_rfl)) rfl (fun _ _ _ _ _ => rfl) (fun A outer s H E f c' hr hgd => have hu := hr.units; have hu1 := un65 hr; (e_binR (C := "Ratio") (ts := ["str", "tuple", "list", "NoneType", "dict"]) rfl C.br_Ratio_sub boolR_sub (by decide +kernel) (by decide +kernel) (G_Ratio___rsub__.mono (by omega)) hr hgd b_Ratio___rsub__ (L2N.takes_of rfl rfl rfl rfl) (e_v 1) (e_v 0)))) a_nil)))
  (s_cons (s_expr (e_ml (f := opAppend) rfl PySem.F.slot_list_append PySem.F.type_list_append mr_append (e_v 3) (a_cons (e_if (t_not (t_tru rfl (e_callB (cr_isiS rfl) rfl C.f_isinstance (by decide +kernel) (a_cons (e_v 1) (a_cons (e_tup (a_cons (e_bty rfl C.f_str (by decide +kernel)) (a_cons (e_bty rfl C.f_tuple (by decide +kernel)) (a_cons (e_bty rfl C.f_list (by decide +kernel)) a_nil)))) a_nil))))) (e_lam (k := 15) (n := 1) (m := "_law_signs_right") (q := "_law_signs_right.<locals>.<lambda>") rfl C.g__law_told F__law_told b__law_told sc__law_told rfl (CalOk.mono GC__law_told (by omega)) hG__law_told (T _ (List.mem_of_getElem? (i := 1) rfl)) hcode rfl (hr.mono (by omega)) hgd rfl (L2N.takes_of rfl rfl rfl rfl) (LamX.lamS_by (by kernel_rfl)) rfl (fun _ _ _ _ _ => rfl) (fun A outer s H E f c' hr hgd => have hu := hr.units; have hu1 := un65 hr; (e_binR (C := "Ratio") (ts := ["NoneType", "dict"]) rfl C.br_Ratio_add boolR_add (by decide +kernel) (by decide +kernel) (G_Ratio___radd__.mono (by omega)) hr hgd b_Ratio___radd__ (L2N.takes_of rfl rfl rfl rfl) (e_v 1) (e_v 0)))) (e_v 2)) a_nil)))
  (s_one (s_ret (e_cmp (or_eq rfl hu) (e_v 3) (e_bin (or_mul rfl) (e_lstF (a_cons (e_v 2) a_nil)) e_int)))))))))))
theorem ok__law_right (C : Cn K mg) (T : Tbs K mg base mk_) {fd : FuncData} (Fd : FunD K "_law_right" "_law_right" (defArgs (top 40)) (defBody (top 40)) (defScope (top 40)) [] [] (He.ga K "_law_right") fd) : FnG P w K mg base 19 (He.ga K "_law_right") fd ["_law_well_here"] (SPx K (gq P w K) k06__law_right) := by
  have sc := sc__law_right
  obtain ⟨fd_Ratio___call__, F_Ratio___call__⟩ := C.c.says.def_ 1 rfl
  have G_Ratio___call__ := (ok_Ratio___call__ (P := P) (w := w) (base := base) C F_Ratio___call__)
  have b_Ratio___call__ : Binds K fd_Ratio___call__ ["self", "at"] [] := F_Ratio___call__.bindsN fun _ _ _ _ _ _ us hl => match us, hl with | [_, _], _ => rfl
  obtain ⟨fd_Ratio___eq__, F_Ratio___eq__⟩ := C.c.says.def_ 2 rfl
  have G_Ratio___eq__ := (ok_Ratio___eq__ (P := P) (w := w) (base := base) C F_Ratio___eq__)
  have b_Ratio___eq__ : Binds K fd_Ratio___eq__ ["self", "other"] [] := F_Ratio___eq__.bindsN fun _ _ _ _ _ _ us hl => match us, hl with | [_, _], _ => rfl
  obtain ⟨fd_Ratio___init__, F_Ratio___init__⟩ := C.c.says.def_ 12 rfl
  have G_Ratio___init__ := (ok_Ratio___init__ (P := P) (w := w) (base := base) C F_Ratio___init__)
  replace F_Ratio___init__ : FunD K "__init__" "Ratio.__init__" (defArgs (inCls (top 28) 0)) (defBody (inCls (top 28) 0)) (defScope (inCls (top 28) 0)) (([.adr (dfA "Ratio" "__init__" 0)] : List He.Dv).map (He.Dv.v K)) [] (He.ma K (He.ga K "Ratio") "__init__") fd_Ratio___init__ := F_Ratio___init__
  obtain ⟨fd_Ratio___pow__, F_Ratio___pow__⟩ := C.c.says.def_ 13 rfl
  have G_Ratio___pow__ := (ok_Ratio___pow__ (P := P) (w := w) (base := base) C F_Ratio___pow__)
  have b_Ratio___pow__ : Binds K fd_Ratio___pow__ ["self", "count"] [] := F_Ratio___pow__.bindsN fun _ _ _ _ _ _ us hl => match us, hl with | [_, _], _ => rfl
  obtain ⟨fd_Ratio___repr__, F_Ratio___repr__⟩ := C.c.says.def_ 17 rfl
  have G_Ratio___repr__ := (ok_Ratio___repr__ (P := P) (w := w) (base := base) C F_Ratio___repr__).toG
  have GO_Ratio___repr__ := (ok_Ratio___repr__ (P := P) (w := w) (base := base) C F_Ratio___repr__)
  have b_Ratio___repr__ : Binds K fd_Ratio___repr__ ["self"] [] := F_Ratio___repr__.bindsN fun _ _ _ _ _ _ us hl => match us, hl with | [_], _ => rfl
  obtain ⟨fd_Ratio___sub__, F_Ratio___sub__⟩ := C.c.says.def_ 20 rfl
  have G_Ratio___sub__ := (ok_Ratio___sub__ (P := P) (w := w) (base := base) C F_Ratio___sub__)
  have b_Ratio___sub__ : Binds K fd_Ratio___sub__ ["self", "other"] [] := F_Ratio___sub__.bindsN fun _ _ _ _ _ _ us hl => match us, hl with | [_, _], _ => rfl
  obtain ⟨fd_Ratio_later, F_Ratio_later⟩ := C.c.says.def_ 21 rfl
  have G_Ratio_later := (ok_Ratio_later (P := P) (w := w) (base := base) C F_Ratio_later)
  have b_Ratio_later : Binds K fd_Ratio_later ["self", "by"] [] := F_Ratio_later.bindsN fun _ _ _ _ _ _ us hl => match us, hl with | [_, _], _ => rfl
  obtain ⟨fd_Ratio_over, F_Ratio_over⟩ := C.c.says.def_ 22 rfl
  have G_Ratio_over := (ok_Ratio_over (P := P) (w := w) (base := base) C F_Ratio_over)
  have b_Ratio_over : Binds K fd_Ratio_over ["self", "other"] [] := F_Ratio_over.bindsN fun _ _ _ _ _ _ us hl => match us, hl with | [_, _], _ => rfl
  obtain ⟨P_Ratio_read, fd_Ratio_read, F_Ratio_read⟩ := C.c.stat 0 rfl
  have G_Ratio_read := (ok_Ratio_read (P := P) (w := w) (base := base) C F_Ratio_read)
  have b_Ratio_read : Binds K fd_Ratio_read ["text"] [] := F_Ratio_read.bindsN fun _ _ _ _ _ _ us hl => match us, hl with | [_], _ => rfl
  obtain ⟨fd__law_any, F__law_any⟩ := C.c.says.def_ 28 rfl
  have G__law_any := (ok__law_any (P := P) (w := w) (base := base) C F__law_any)
  have b__law_any : Binds K fd__law_any ["_law_well_here", "_law_things"] [] := F__law_any.bindsN fun _ _ _ _ _ _ us hl => match us, hl with | [_, _], _ => rfl
  obtain ⟨fd__law_dip, F__law_dip⟩ := C.c.says.def_ 27 rfl
  have G__law_dip := (ok__law_dip (P := P) (w := w) (base := base) C F__law_dip)
  have b__law_dip : Binds K fd__law_dip ["_law_well_here", "_law_many"] [] := F__law_dip.bindsN fun _ _ _ _ _ _ us hl => match us, hl with | [_, _], _ => rfl
  obtain ⟨fd__law_signs_right, F__law_signs_right⟩ := C.c.says.def_ 34 rfl
  have G__law_signs_right := (ok__law_signs_right (P := P) (w := w) (base := base) C T F__law_signs_right)
  have b__law_signs_right : Binds K fd__law_signs_right ["_law_ratio", "_law_odd"] [] := F__law_signs_right.bindsN fun _ _ _ _ _ _ us hl => match us, hl with | [_, _], _ => rfl
  obtain ⟨fd__law_told, F__law_told⟩ := C.c.says.def_ 33 rfl
  have GC__law_told := okc__law_told (P := P) (w := w) (base := base) C F__law_told
  have b__law_told : Binds K fd__law_told ["_law_act"] [] := F__law_told.bindsN fun _ _ _ _ _ _ us hl => match us, hl with | [_], _ => rfl
  have nk_Ratio___init___0_bottom_top := kbn_pickF (ps := ["self", "top", "bottom"]) F_Ratio___init__ 1 ["bottom", "top"] [0, 2, 1] (List.cons_ne_nil _ _) fun _ _ _ _ _ _ _ us its ws h1 h2 h3 => match us, its, ws, h1, h2, h3 with | [_], [_], [_, _], _, _, _ => by refine ⟨_, rfl, ?_⟩; rfl
  have nk_Ratio___init___2_ := kbn_pickF (ps := ["self", "top", "bottom"]) F_Ratio___init__ 3 [] [0, 1, 2] (List.cons_ne_nil _ _) fun _ _ _ _ _ _ _ us its ws h1 h2 h3 => match us, its, ws, h1, h2, h3 with | [_, _, _], [_], [], _, _, _ => by refine ⟨_, rfl, ?_⟩; rfl
  obtain ⟨its_Ratio_later, mk_Ratio_later_by⟩ := kbn_pick0 (ps := ["self", "by"]) F_Ratio_later 1 ["by"] [0, 1] fun _ _ _ _ _ _ us ws h1 h2 => match us, ws, h1, h2 with | [_], [_], _, _ => rfl
  refine (fn_okT (k := 18) (N := N__law_right) (b := B_k06__law_right) Fd sc fun cdv A outer s H E hcod hr hgd => ?_)
  have hu := hr.units
  have hu1 : (A.deeper (envOfC "_law_right" (defScope (top 40)) s.heap.objs.size (He.ga K "_law_right") cdv)).units + (64 + 1) < cLine := by have := hr.un; omega
  have hcode : cdv = .ref (tcA K "_law_right") := codOf_tab (tabB_tab C.tab__law_right).2.2 (by rw [(tabB_tab C.tab__law_right).1]; rfl) hcod
  unfold B_k06__law_right
  exact (s_cons (s_set (i := 1) sc.nd rfl (by first | exact .inl rfl | exact .inr rfl) (e_lstF (a_cons e_non (a_cons (e_lstF (a_cons e_int a_nil)) (a_cons (e_tup a_nil) (a_cons (e_tup (a_cons e_int (a_cons e_bl a_nil))) (a_cons (e_tup (a_cons e_str a_nil)) (a_cons (e_tup (a_cons e_int (a_cons e_non a_nil))) (a_cons e_str (a_cons e_int (a_cons e_dct0 (a_cons (e_tup (a_cons (e_tup (a_cons e_int a_nil)) a_nil)) a_nil))))))))))))
  (s_cons (s_asg (e_tup (a_cons (e_call (dd := []) (dvs := []) (ds := []) (G__law_any.mono (by omega)) hr hgd rfl C.g__law_any F__law_any.kp b__law_any .nil (fun _ _ _ => .nil) (L2N.takes_of rfl rfl rfl rfl) (a_cons (e_v 0) (a_cons (e_v 1) a_nil))) (a_cons (e_call (dd := []) (dvs := []) (ds := []) (G__law_any.mono (by omega)) hr hgd rfl C.g__law_any F__law_any.kp b__law_any .nil (fun _ _ _ => .nil) (L2N.takes_of rfl rfl rfl rfl) (a_cons (e_v 0) (a_cons (e_v 1) a_nil))) a_nil))) (g_tup (n := 2) rfl rfl (gs_name (i := 2) sc.nd rfl (by first | exact .inl rfl | exact .inr rfl) (gs_name (i := 3) sc.nd rfl (by first | exact .inl rfl | exact .inr rfl) gs_nil gsNil_ne) (gsVar_ne gsNil_ne))))
  (s_cons (s_set (i := 4) sc.nd rfl (by first | exact .inl rfl | exact .inr rfl) (e_newP (k := 6) (n := 2) (perm := [0, 1, 2]) C.mk_Ratio G_Ratio___init__ (hr.mono (by omega)) hgd rfl C.g_Ratio nk_Ratio___init___2_ (L2N.takes_of rfl rfl rfl rfl) (a_cons (e_tup (a_cons (e_call (dd := []) (dvs := []) (ds := []) (G__law_dip.mono (by omega)) hr hgd rfl C.g__law_dip F__law_dip.kp b__law_dip .nil (fun _ _ _ => .nil) (L2N.takes_of rfl rfl rfl rfl) (a_cons (e_v 0) (a_cons e_int a_nil))) (a_cons e_int a_nil))) (a_cons (e_tup (a_cons (e_bin (or_add rfl) e_int (e_call (dd := []) (dvs := []) (ds := []) (G__law_dip.mono (by omega)) hr hgd rfl C.g__law_dip F__law_dip.kp b__law_dip .nil (fun _ _ _ => .nil) (L2N.takes_of rfl rfl rfl rfl) (a_cons (e_v 0) (a_cons e_int a_nil)))) (a_cons e_int (a_cons e_int a_nil)))) a_nil))))
  (s_cons (s_set (i := 5) sc.nd rfl (by first | exact .inl rfl | exact .inr rfl) (e_lst (a_cons (e_lam (k := 16) (n := 0) (m := "_law_right") (q := "_law_right.<locals>.<lambda>") rfl C.g__law_told F__law_told b__law_told sc__law_told rfl (CalOk.mono GC__law_told (by omega)) hG__law_told (T _ (List.mem_of_getElem? (i := 0) rfl)) hcode rfl (hr.mono (by omega)) hgd rfl (L2N.takes_of rfl rfl rfl rfl) (LamX.lamS_by (by kernel_rfl)) rfl (fun _ _ _ _ _ => rfl) (fun A outer s H E f c' hr hgd => have hu := hr.units; have hu1 := un65 hr; (e_newP (k := 6) (n := 2) (perm := [0, 1, 2]) C.mk_Ratio G_Ratio___init__ (hr.mono (by omega)) hgd rfl C.g_Ratio nk_Ratio___init___2_ (L2N.takes_of rfl rfl rfl rfl) (a_cons (e_v 2) (a_cons (e_v 3) a_nil))))) a_nil)))
  (s_cons (s_expr (e_ml (f := opAppend) rfl PySem.F.slot_list_append PySem.F.type_list_append mr_append (e_v 5) (a_cons (e_lam (k := 16) (n := 0) (m := "_law_right") (q := "_law_right.<locals>.<lambda>") rfl C.g__law_told F__law_told b__law_told sc__law_told rfl (CalOk.mono GC__law_told (by omega)) hG__law_told (T _ (List.mem_of_getElem? (i := 0) rfl)) hcode rfl (hr.mono (by omega)) hgd rfl (L2N.takes_of rfl rfl rfl rfl) (LamX.lamS_by (by kernel_rfl)) rfl (fun _ _ _ _ _ => rfl) (fun A outer s H E f c' hr hgd => have hu := hr.units; have hu1 := un65 hr; (e_newP (k := 6) (n := 2) (perm := [0, 1, 2]) C.mk_Ratio G_Ratio___init__ (hr.mono (by omega)) hgd rfl C.g_Ratio nk_Ratio___init___2_ (L2N.takes_of rfl rfl rfl rfl) (a_cons (e_tup (a_cons e_int a_nil)) (a_cons (e_v 3) a_nil))))) a_nil)))
  (s_cons (s_expr (e_ml (f := opAppend) rfl PySem.F.slot_list_append PySem.F.type_list_append mr_append (e_v 5) (a_cons (e_lam (k := 16) (n := 0) (m := "_law_right") (q := "_law_right.<locals>.<lambda>") rfl C.g__law_told F__law_told b__law_told sc__law_told rfl (CalOk.mono GC__law_told (by omega)) hG__law_told (T _ (List.mem_of_getElem? (i := 0) rfl)) hcode rfl (hr.mono (by omega)) hgd rfl (L2N.takes_of rfl rfl rfl rfl) (LamX.lamS_by (by kernel_rfl)) rfl (fun _ _ _ _ _ => rfl) (fun A outer s H E f c' hr hgd => have hu := hr.units; have hu1 := un65 hr; (e_newPK (k := 6) (ks := ["bottom", "top"]) (perm := [0, 2, 1]) C.mk_Ratio G_Ratio___init__ (hr.mono (by omega)) hgd rfl C.g_Ratio nk_Ratio___init___0_bottom_top (L2N.takes_of rfl rfl rfl rfl) (k_cons (e_tup (a_cons e_int a_nil)) (k_cons (e_v 2) k_nil))))) a_nil)))
  (s_cons (s_expr (e_ml (f := opAppend) rfl PySem.F.slot_list_append PySem.F.type_list_append mr_append (e_v 5) (a_cons (e_lam (k := 16) (n := 0) (m := "_law_right") (q := "_law_right.<locals>.<lambda>") rfl C.g__law_told F__law_told b__law_told sc__law_told rfl (CalOk.mono GC__law_told (by omega)) hG__law_told (T _ (List.mem_of_getElem? (i := 0) rfl)) hcode rfl (hr.mono (by omega)) hgd rfl (L2N.takes_of rfl rfl rfl rfl) (LamX.lamS_by (by kernel_rfl)) rfl (fun _ _ _ _ _ => rfl) (fun A outer s H E f c' hr hgd => have hu := hr.units; have hu1 := un65 hr; (e_newP (k := 6) (n := 2) (perm := [0, 1, 2]) C.mk_Ratio G_Ratio___init__ (hr.mono (by omega)) hgd rfl C.g_Ratio nk_Ratio___init___2_ (L2N.takes_of rfl rfl rfl rfl) (a_cons (e_tup (a_cons e_int (a_cons e_int a_nil))) (a_cons (e_tup (a_cons e_int (a_cons e_int a_nil))) a_nil))))) a_nil)))
  (s_cons (s_expr (e_ml (f := opAppend) rfl PySem.F.slot_list_append PySem.F.type_list_append mr_append (e_v 5) (a_cons (e_lam (k := 16) (n := 0) (m := "_law_right") (q := "_law_right.<locals>.<lambda>") rfl C.g__law_told F__law_told b__law_told sc__law_told rfl (CalOk.mono GC__law_told (by omega)) hG__law_told (T _ (List.mem_of_getElem? (i := 0) rfl)) hcode rfl (hr.mono (by omega)) hgd rfl (L2N.takes_of rfl rfl rfl rfl) (LamX.lamS_by (by kernel_rfl)) rfl (fun _ _ _ _ _ => rfl) (fun A outer s H E f c' hr hgd => have hu := hr.units; have hu1 := un65 hr; (e_newP (k := 6) (n := 2) (perm := [0, 1, 2]) C.mk_Ratio G_Ratio___init__ (hr.mono (by omega)) hgd rfl C.g_Ratio nk_Ratio___init___2_ (L2N.takes_of rfl rfl rfl rfl) (a_cons (e_tup (a_cons e_int a_nil)) (a_cons (e_bin (or_mulZ rfl) (e_tup (a_cons e_int a_nil)) (e_bin (or_add rfl) e_int (e_call (dd := []) (dvs := []) (ds := []) (G__law_dip.mono (by omega)) hr hgd rfl C.g__law_dip F__law_dip.kp b__law_dip .nil (fun _ _ _ => .nil) (L2N.takes_of rfl rfl rfl rfl) (a_cons (e_v 0) (a_cons e_int a_nil))))) a_nil))))) a_nil)))
  (s_cons (s_set (i := 6) sc.nd rfl (by first | exact .inl rfl | exact .inr rfl) (e_lst (a_cons (e_lstF (a_cons e_str (a_cons (e_callB (cr_reprM rfl hgd hu1 (rm_1 (ownR_O C.slr_Ratio.1 C.slr_Ratio.2 GO_Ratio___repr__ (hr.mono (by omega)) b_Ratio___repr__))) rfl C.f_repr (by decide +kernel) (a_cons (e_v 2) a_nil)) a_nil))) (a_cons (e_lstF (a_cons e_str (a_cons (e_callB (cr_reprM rfl hgd hu1 (rm_1 (ownR_O C.slr_Ratio.1 C.slr_Ratio.2 GO_Ratio___repr__ (hr.mono (by omega)) b_Ratio___repr__))) rfl C.f_repr (by decide +kernel) (a_cons (e_v 3) a_nil)) a_nil))) (a_cons (e_lstF (a_cons e_str (a_cons (e_callB (cr_reprM rfl hgd hu1 (rm_1 (ownR_O C.slr_Ratio.1 C.slr_Ratio.2 GO_Ratio___repr__ (hr.mono (by omega)) b_Ratio___repr__))) rfl C.f_repr (by decide +kernel) (a_cons (e_v 2) a_nil)) a_nil))) (a_cons (e_lstF (a_cons e_str (a_cons e_str a_nil))) (a_cons (e_lstF (a_cons e_str (a_cons e_str a_nil))) a_nil)))))))
  (s_cons (s_expr (e_ml (f := opAppend) rfl PySem.F.slot_list_append PySem.F.type_list_append mr_append (e_v 5) (a_cons (e_lam (k := 16) (n := 0) (m := "_law_right") (q := "_law_right.<locals>.<lambda>") rfl C.g__law_told F__law_told b__law_told sc__law_told rfl (CalOk.mono GC__law_told (by omega)) hG__law_told (T _ (List.mem_of_getElem? (i := 0) rfl)) hcode rfl (hr.mono (by omega)) hgd rfl (L2N.takes_of rfl rfl rfl rfl) (LamX.lamS_by (by kernel_rfl)) rfl (fun _ _ _ _ _ => rfl) (fun A outer s H E f c' hr hgd => have hu := hr.units; have hu1 := un65 hr; (e_binL (C := "Ratio") (ts := ["int"]) rfl C.bl_Ratio_pow_int (by decide +kernel) (by decide +kernel) (G_Ratio___pow__.mono (by omega)) hr hgd b_Ratio___pow__ (L2N.takes_of rfl rfl rfl rfl) (e_v 4) e_int))) a_nil)))
  (s_cons (s_expr (e_ml (f := opAppend) rfl PySem.F.slot_list_append PySem.F.type_list_append mr_append (e_v 5) (a_cons (e_lam (k := 16) (n := 0) (m := "_law_right") (q := "_law_right.<locals>.<lambda>") rfl C.g__law_told F__law_told b__law_told sc__law_told rfl (CalOk.mono GC__law_told (by omega)) hG__law_told (T _ (List.mem_of_getElem? (i := 0) rfl)) hcode rfl (hr.mono (by omega)) hgd rfl (L2N.takes_of rfl rfl rfl rfl) (LamX.lamS_by (by kernel_rfl)) rfl (fun _ _ _ _ _ => rfl) (fun A outer s H E f c' hr hgd => have hu := hr.units; have hu1 := un65 hr; (e_binL (C := "Ratio") (ts := ["int"]) rfl C.bl_Ratio_pow_int (by decide +kernel) (by decide +kernel) (G_Ratio___pow__.mono (by omega)) hr hgd b_Ratio___pow__ (L2N.takes_of rfl rfl rfl rfl) (e_v 4) e_int))) a_nil)))
  (s_cons (s_expr (e_ml (f := opAppend) rfl PySem.F.slot_list_append PySem.F.type_list_append mr_append (e_v 5) (a_cons (e_lam (k := 16) (n := 0) (m := "_law_right") (q := "_law_right.<locals>.<lambda>") rfl C.g__law_told F__law_told b__law_told sc__law_told rfl (CalOk.mono GC__law_told (by omega)) hG__law_told (T _ (List.mem_of_getElem? (i := 0) rfl)) hcode rfl (hr.mono (by omega)) hgd rfl (L2N.takes_of rfl rfl rfl rfl) (LamX.lamS_by (by kernel_rfl)) rfl (fun _ _ _ _ _ => rfl) (fun A outer s H E f c' hr hgd => have hu := hr.units; have hu1 := un65 hr; (e_meth (C := "Ratio") rfl C.cls_Ratio C.me_Ratio_over (G_Ratio_over.mono (by omega)) hr hgd b_Ratio_over (L2N.takes_of rfl rfl rfl rfl) (e_v 4) (a_cons e_int a_nil)))) a_nil)))
  (s_cons (s_expr (e_ml (f := opAppend) rfl PySem.F.slot_list_append PySem.F.type_list_append mr_append (e_v 5) (a_cons (e_lam (k := 16) (n := 0) (m := "_law_right") (q := "_law_right.<locals>.<lambda>") rfl C.g__law_told F__law_told b__law_told sc__law_told rfl (CalOk.mono GC__law_told (by omega)) hG__law_told (T _ (List.mem_of_getElem? (i := 0) rfl)) hcode rfl (hr.mono (by omega)) hgd rfl (L2N.takes_of rfl rfl rfl rfl) (LamX.lamS_by (by kernel_rfl)) rfl (fun _ _ _ _ _ => rfl) (fun A outer s H E f c' hr hgd => have hu := hr.units; have hu1 := un65 hr; (e_meth (C := "Ratio") rfl C.cls_Ratio C.me_Ratio_over (G_Ratio_over.mono (by omega)) hr hgd b_Ratio_over (L2N.takes_of rfl rfl rfl rfl) (e_v 4) (a_cons (e_binL (C := "Ratio") (ts := ["str", "tuple", "list", "NoneType", "bool", "dict"]) rfl C.bl_Ratio_sub_str_tuple_list_NoneType_bool_dict (by decide +kernel) (by decide +kernel) (G_Ratio___sub__.mono (by omega)) hr hgd b_Ratio___sub__ (L2N.takes_of rfl rfl rfl rfl) (e_v 4) (e_v 4)) a_nil)))) a_nil)))
  (s_cons (s_set (i := 6) sc.nd rfl (by first | exact .inl rfl | exact .inr rfl) (e_bin (or_addM rfl) (e_v 6) (e_lst (a_cons (e_lstF (a_cons e_str (a_cons e_str a_nil))) (a_cons (e_lstF (a_cons e_str (a_cons e_str a_nil))) (a_cons (e_lstF (a_cons e_str (a_cons e_str a_nil))) (a_cons (e_lstF (a_cons e_str (a_cons e_str a_nil))) a_nil)))))))
  (s_cons (s_set (i := 7) sc.nd rfl (by first | exact .inl rfl | exact .inr rfl) (e_call (dd := []) (dvs := []) (ds := []) (G__law_any.mono (by omega)) hr hgd rfl C.g__law_any F__law_any.kp b__law_any .nil (fun _ _ _ => .nil) (L2N.takes_of rfl rfl rfl rfl) (a_cons (e_v 0) (a_cons (e_lstF (a_cons e_bl (a_cons e_non (a_cons e_str (a_cons (e_tup (a_cons e_int a_nil)) (a_cons (e_v 4) a_nil)))))) a_nil))))
  (s_cons (s_expr (e_ml (f := opAppend) rfl PySem.F.slot_list_append PySem.F.type_list_append mr_append (e_v 5) (a_cons (e_lam (k := 16) (n := 0) (m := "_law_right") (q := "_law_right.<locals>.<lambda>") rfl C.g__law_told F__law_told b__law_told sc__law_told rfl (CalOk.mono GC__law_told (by omega)) hG__law_told (T _ (List.mem_of_getElem? (i := 0) rfl)) hcode rfl (hr.mono (by omega)) hgd rfl (L2N.takes_of rfl rfl rfl rfl) (LamX.lamS_by (by kernel_rfl)) rfl (fun _ _ _ _ _ => rfl) (fun A outer s H E f c' hr hgd => have hu := hr.units; have hu1 := un65 hr; (e_callI (C := "Ratio") rfl C.co_Ratio (G_Ratio___call__.mono (by omega)) hr hgd b_Ratio___call__ (L2N.takes_of rfl rfl rfl rfl) (e_v 4) (a_cons (e_v 7) a_nil)))) a_nil)))
  (s_cons (s_expr (e_ml (f := opAppend) rfl PySem.F.slot_list_append PySem.F.type_list_append mr_append (e_v 5) (a_cons (e_lam (k := 16) (n := 0) (m := "_law_right") (q := "_law_right.<locals>.<lambda>") rfl C.g__law_told F__law_told b__law_told sc__law_told rfl (CalOk.mono GC__law_told (by omega)) hG__law_told (T _ (List.mem_of_getElem? (i := 0) rfl)) hcode rfl (hr.mono (by omega)) hgd rfl (L2N.takes_of rfl rfl rfl rfl) (LamX.lamS_by (by kernel_rfl)) rfl (fun _ _ _ _ _ => rfl) (fun A outer s H E f c' hr hgd => have hu := hr.units; have hu1 := un65 hr; (e_meth (C := "Ratio") rfl C.cls_Ratio C.me_Ratio_later (G_Ratio_later.mono (by omega)) hr hgd b_Ratio_later (L2N.takes_of rfl rfl rfl rfl) (e_v 4) (a_cons (e_v 7) a_nil)))) a_nil)))
  (s_cons (s_expr (e_ml (f := opAppend) rfl PySem.F.slot_list_append PySem.F.type_list_append mr_append (e_v 5) (a_cons (e_lam (k := 16) (n := 0) (m := "_law_right") (q := "_law_right.<locals>.<lambda>") rfl C.g__law_told F__law_told b__law_told sc__law_told rfl (CalOk.mono GC__law_told (by omega)) hG__law_told (T _ (List.mem_of_getElem? (i := 0) rfl)) hcode rfl (hr.mono (by omega)) hgd rfl (L2N.takes_of rfl rfl rfl rfl) (LamX.lamS_by (by kernel_rfl)) rfl (fun _ _ _ _ _ => rfl) (fun A outer s H E f c' hr hgd => have hu := hr.units; have hu1 := un65 hr; (e_meth (C := "Ratio") rfl C.cls_Ratio C.me_Ratio_later (G_Ratio_later.mono (by omega)) hr hgd b_Ratio_later (L2N.takes_of rfl rfl rfl rfl) (e_v 4) (a_cons e_int a_nil)))) a_nil)))
  (s_cons (s_expr (e_ml (f := opAppend) rfl PySem.F.slot_list_append PySem.F.type_list_append mr_append (e_v 5) (a_cons (e_lam (k := 16) (n := 0) (m := "_law_right") (q := "_law_right.<locals>.<lambda>") rfl C.g__law_told F__law_told b__law_told sc__law_told rfl (CalOk.mono GC__law_told (by omega)) hG__law_told (T _ (List.mem_of_getElem? (i := 0) rfl)) hcode rfl (hr.mono (by omega)) hgd rfl (L2N.takes_of rfl rfl rfl rfl) (LamX.lamS_by (by kernel_rfl)) rfl (fun _ _ _ _ _ => rfl) (fun A outer s H E f c' hr hgd => have hu := hr.units; have hu1 := un65 hr; (e_methK (C := "Ratio") (ks := ["by"]) (perm := [0, 1]) rfl C.cls_Ratio C.me_Ratio_later (G_Ratio_later.mono (by omega)) hr hgd mk_Ratio_later_by (L2N.takes_of rfl rfl rfl rfl) (e_v 4) (k_cons (e_un ur_neg e_int) k_nil)))) a_nil)))
  (s_cons (s_expr (e_ml (f := opAppend) rfl PySem.F.slot_list_append PySem.F.type_list_append mr_append (e_v 5) (a_cons (e_lam (k := 16) (n := 0) (m := "_law_right") (q := "_law_right.<locals>.<lambda>") rfl C.g__law_told F__law_told b__law_told sc__law_told rfl (CalOk.mono GC__law_told (by omega)) hG__law_told (T _ (List.mem_of_getElem? (i := 0) rfl)) hcode rfl (hr.mono (by omega)) hgd rfl (L2N.takes_of rfl rfl rfl rfl) (LamX.lamS_by (by kernel_rfl)) rfl (fun _ _ _ _ _ => rfl) (fun A outer s H E f c' hr hgd => have hu := hr.units; have hu1 := un65 hr; (e_stat (C := "Ratio") rfl P_Ratio_read F_Ratio_read.kp (G_Ratio_read.mono (by omega)) hr hgd b_Ratio_read (L2N.takes_of rfl rfl rfl rfl) rfl C.g_Ratio (a_cons (e_v 7) a_nil)))) a_nil)))
  (s_cons (s_set (i := 6) sc.nd rfl (by first | exact .inl rfl | exact .inr rfl) (e_bin (or_addM rfl) (e_v 6) (e_lst (a_cons (e_lstF (a_cons e_str (a_cons (e_callB (cr_reprM rfl hgd hu1 (rm_1 (ownR_O C.slr_Ratio.1 C.slr_Ratio.2 GO_Ratio___repr__ (hr.mono (by omega)) b_Ratio___repr__))) rfl C.f_repr (by decide +kernel) (a_cons (e_v 7) a_nil)) a_nil))) (a_cons (e_lstF (a_cons e_str (a_cons (e_callB (cr_reprM rfl hgd hu1 (rm_1 (ownR_O C.slr_Ratio.1 C.slr_Ratio.2 GO_Ratio___repr__ (hr.mono (by omega)) b_Ratio___repr__))) rfl C.f_repr (by decide +kernel) (a_cons (e_v 7) a_nil)) a_nil))) (a_cons (e_lstF (a_cons e_str (a_cons e_str a_nil))) (a_cons (e_lstF (a_cons e_str (a_cons e_str a_nil))) a_nil)))))))
  (s_cons (s_expr (e_ml (f := opAppend) rfl PySem.F.slot_list_append PySem.F.type_list_append mr_append (e_v 6) (a_cons (e_if (t_cmp (or_neI (k := 1) rfl hu C.eqc G_Ratio___eq__ (hr.mono (by omega)) hgd b_Ratio___eq__) (e_v 7) e_str) (e_lstF (a_cons e_str (a_cons (e_callB (cr_reprM rfl hgd hu1 (rm_1 (ownR_O C.slr_Ratio.1 C.slr_Ratio.2 GO_Ratio___repr__ (hr.mono (by omega)) b_Ratio___repr__))) rfl C.f_repr (by decide +kernel) (a_cons (e_v 7) a_nil)) a_nil))) (e_lstF (a_cons e_str (a_cons e_str a_nil)))) a_nil)))
  (s_cons (s_if (t_cmp (or_ne rfl hu) (e_v 5) (e_v 6)) (s_one (s_ret e_bl)) s_nil)
  (s_one (s_ret (e_callB (cr_allL rfl rfl) rfl C.f_all (by decide +kernel) (a_cons (e_lcF (patOk_one (i := 8)) rfl rfl sc.nd (w_any rfl (e_lstF (a_cons e_bl (a_cons e_non (a_cons e_str (a_cons (e_tup (a_cons e_int (a_cons e_int a_nil))) (a_cons (e_lstF (a_cons (e_v 4) a_nil)) (a_cons e_dct0 a_nil)))))))) (blkOk_by (own := [("_law_each", 8)]) (N := N__law_right) (sc := (defScope (top 40))) (by decide +kernel)) (fun _ _ _ _ _ => (pg_name (i := 8) sc.nd rfl (by first | exact .inl rfl | exact .inr rfl))) (fun _ _ _ _ _ => ts_nil) (fun _ _ _ _ _ => (e_call (dd := []) (dvs := []) (ds := []) (G__law_signs_right.mono (by omega)) hr hgd rfl C.g__law_signs_right F__law_signs_right.kp b__law_signs_right .nil (fun _ _ _ => .nil) takesF (a_cons (e_v 4) (a_cons (e_v 8) a_nil))))) a_nil)))))))))))))))))))))))))))
theorem ok__law_well (C : Cn K mg) {fd : FuncData} (Fd : FunD K "_law_well" "_law_well" (defArgs (top 35)) (defBody (top 35)) (defScope (top 35)) [] [] (He.ga K "_law_well") fd) : FnG P w K mg base 1 (He.ga K "_law_well") fd ["_law_script", "_law_spot"] (SPx K (gq P w K) k06__law_well) := by
  have sc := sc__law_well
  refine (fn_ok (k := 0) (N := N__law_well) (b := B_k06__law_well) Fd sc fun cdv A outer s H E hr hgd => ?_)
  have hu := hr.units
  have hu1 : (A.deeper (envOfC "_law_well" (defScope (top 35)) s.heap.objs.size (He.ga K "_law_well") cdv)).units + (64 + 1) < cLine := by have := hr.un; omega
  unfold B_k06__law_well
  exact (s_cons (s_set (i := 2) sc.nd rfl (by first | exact .inl rfl | exact .inr rfl) (e_bin (or_add rfl) e_int (e_v 1)))
  (s_cons (s_for (passes_of rfl) rfl (w_any rfl (e_sl rfl (e_v 0) o_none (o_some e_int))) (g_name (i := 3) sc.nd rfl (by first | exact .inl rfl | exact .inr rfl)) (s_one (s_set (i := 2) sc.nd rfl (by first | exact .inl rfl | exact .inr rfl) (e_bin or_mod (e_callTy cr_int rfl C.f_int (by decide +kernel) (a_cons (e_bin (or_add rfl) (e_bin (or_add rfl) (e_bin (or_mul rfl) (e_v 2) e_int) (e_bin (or_mul rfl) (e_v 3) e_int)) e_int) a_nil)) e_int))))
  (s_cons (s_set (i := 4) sc.nd rfl (by first | exact .inl rfl | exact .inr rfl) (e_if (t_cmp or_lt (e_v 1) (e_callB (cr_len rfl) rfl C.f_len (by decide +kernel) (a_cons (e_v 0) a_nil))) (e_ix rfl (e_v 0) (e_v 1)) (e_bin (or_add rfl) (e_bin (or_mul rfl) (e_v 2) e_int) (e_v 1))))
  (s_cons (s_set (i := 5) sc.nd rfl (by first | exact .inl rfl | exact .inr rfl) (e_if (t_ws (w_or (t_cmp or_lt (e_v 4) e_int) (w_or1 (t_cmp or_ge (e_v 4) (e_bin or_pow e_int e_int))))) (e_callB cr_abs rfl C.f_abs (by decide +kernel) (a_cons (e_v 4) a_nil)) e_int))
  (s_one (s_ret (e_lst (a_cons (e_v 5) (a_cons (e_bin or_mod (e_callTy cr_int rfl C.f_int (by decide +kernel) (a_cons (e_bin (or_add rfl) (e_bin (or_add rfl) (e_bin (or_mul rfl) (e_v 4) e_int) (e_bin (or_mul rfl) (e_v 2) e_int)) e_int) a_nil)) e_int) (a_cons e_int a_nil))))))))))
theorem ok_law (C : Cn K mg) (T : Tbs K mg base mk_) {fd : FuncData} (Fd : FunD K "law" "law" (defArgs (top 41)) (defBody (top 41)) (defScope (top 41)) [] [] (He.ga K "law") fd) : FnG P w K mg base 20 (He.ga K "law") fd ["_law_script"] (SPx K (gq P w K) k06_law) := by
  have sc := sc_law
  obtain ⟨fd__law_right, F__law_right⟩ := C.c.says.def_ 35 rfl
  have G__law_right := (ok__law_right (P := P) (w := w) (base := base) C T F__law_right)
  have b__law_right : Binds K fd__law_right ["_law_well_here"] [] := F__law_right.bindsN fun _ _ _ _ _ _ us hl => match us, hl with | [_], _ => rfl
  obtain ⟨fd__law_well, F__law_well⟩ := C.c.says.def_ 36 rfl
  have G__law_well := (ok__law_well (P := P) (w := w) (base := base) C F__law_well)
  have b__law_well : Binds K fd__law_well ["_law_script", "_law_spot"] [] := F__law_well.bindsN fun _ _ _ _ _ _ us hl => match us, hl with | [_, _], _ => rfl
  refine (fn_ok (k := 19) (N := N_law) (b := B_k06_law) Fd sc fun cdv A outer s H E hr hgd => ?_)
  have hu := hr.units
  have hu1 : (A.deeper (envOfC "law" (defScope (top 41)) s.heap.objs.size (He.ga K "law") cdv)).units + (64 + 1) < cLine := by have := hr.un; omega
  unfold B_k06_law
  exact (s_cons (s_for (passes_of rfl) rfl (w_rng1 rfl C.f_range (a_cons (e_callB (cr_max rfl) rfl C.f_max (by decide +kernel) (a_cons e_int (a_cons (e_callB (cr_min rfl) rfl C.f_min (by decide +kernel) (a_cons (e_callB (cr_len rfl) rfl C.f_len (by decide +kernel) (a_cons (e_v 0) a_nil)) (a_cons e_int a_nil))) a_nil))) a_nil)) (g_name (i := 1) sc.nd rfl (by first | exact .inl rfl | exact .inr rfl)) (s_one (s_if (t_not (t_tru rfl (e_call (dd := []) (dvs := []) (ds := []) (G__law_right.mono (by omega)) hr hgd rfl C.g__law_right F__law_right.kp b__law_right .nil (fun _ _ _ => .nil) (L2N.takes_of rfl rfl rfl rfl) (a_cons (e_call (dd := []) (dvs := []) (ds := []) (G__law_well.mono (by omega)) hr hgd rfl C.g__law_well F__law_well.kp b__law_well .nil (fun _ _ _ => .nil) (L2N.takes_of rfl rfl rfl rfl) (a_cons (e_v 0) (a_cons (e_v 1) a_nil))) a_nil)))) (s_one (s_ret e_bl)) s_nil)))
  (s_one (s_ret e_bl)))
end
end M
/-! the head, the end -/
namespace M
open PySem PySem.W PySem.Calls PyProof.Rows
theorem facts_ {P : Program} {w : World} {K : PySem.W.Frag} {h : Heap} {mg : Str → Option Value} {f : Addr} (X : K.In h) (G : h.Ns mainGlobals mg) (hfa : mg ("law" : Str) = some (.ref f)) (c : SaysP bB_ fa_ fn_ pd_ K) :
    ∃ fd : FuncData, (∀ (s : Shared) (v : Value), BindsTo s fd ⟨[v], []⟩ [("_law_script", v)]) ∧ (∀ p ∈ mk_, tabB K p.1 = true) ∧ (mk_.map fun p => ttA K p.1).Nodup ∧ ∀ base : Heap, Tbs K mg base mk_ → FnG P w K mg base 20 f fd ["_law_script"] (SPx K (gq P w K) k06_law) := by
  have C : Cn K mg := ⟨c, h, X, G⟩
  obtain ⟨fd, F⟩ := c.says.def_ 37 rfl
  have e := hfa.symm.trans C.g_law
  cases e
  have b := L2.FunD.bindsA (ps := ["_law_script"]) F fun _ _ _ _ _ _ us hl => match us, hl with | [_], _ => rfl
  exact ⟨fd, fun s v => b s [v] rfl, (by
    intro p hp
    simp only [mk_, List.mem_cons, List.not_mem_nil, or_false] at hp
    rcases hp with rfl | rfl
    · exact C.tab__law_right
    · exact C.tab__law_signs_right), of_decide_eq_true C.tabnd, fun base T => ok_law C T F⟩
end M
section
open PySem PySem.W PySem.Calls PyProof.Rows
theorem M.holds_of (lawH : ∀ ns : List Int, ns.length ≤ 63 → ∃ st, M.k06_law [M.D.lst (ns.map M.D.int)] (M.sto0 M.mk_) = M.R.ok (M.D.bl true) st) : PySem.Challenge.rw_evenkeeps_k06_ratios_refused.Holds := by
  w_on; o_law
  refine HandSHeadRun.head_any (r := M.R_) (q := M.qv_) (H := M.hk_) (ob := M.ob_) (M := 9000) (loose := M.names_) (d := HandSHeadRun.topDef M.R_.prog 41) (kwd := []) M.ob_eq_
    (by kernel_rfl) (fun s => by kernel_rfl) M.run_ (by kernel_rfl) (by kernel_rfl) (by kernel_rfl) (by rfl) (by first | assumption | decide +kernel) (by decide +kernel) ⟨rfl, rfl, rfl, rfl, rfl, by decide +kernel⟩ ?hw ?hc
  case hw => w_witness2
  case hc =>
    refine M.walk_ofT (mk := M.mk_) (l := PySem.Challenge.rw_evenkeeps_k06_ratios_refused) (n := 63) (k := 20) (x := "_law_script") (f := M.k06_law) rfl (by decide) (by kernel_rfl) ⟨rfl, by decide, by decide⟩ (by kernel_rfl) ?F lawH
    intro w mg fa h Y G hmg0
    obtain ⟨K, KX, c⟩ := Y
    have hmg : mg ("law" : PySem.Str) = some (.ref fa) := by
      have e : (HandSHeadRun.topDef M.R_.prog 41).name = ("law" : PySem.Str) := by kernel_rfl
      rw [← e]
      exact hmg0
    obtain ⟨fd, hb, hF⟩ := M.facts_ (P := M.R_.prog) (w := w) KX G hmg c
    exact ⟨K, fd, KX, hb, hF⟩
end
/-! TX: laws of texts: split of join. -/
namespace M
open PySem PySem.Spec PyProof.Rows

end M
/-! TX2: texts as lists of signs: startswith, partition, lstrip, slices. -/
namespace M
open PySem PySem.Spec PyProof.Rows PySem.W Builtin Builtin.Str

/-! ### lstrip -/
/-! ### slices -/
end M
/-! RL: laws of the embedding's functions: loops, comprehensions, texts. -/
namespace M
open PySem L2

theorem lstAt_new (st : Sto) (xs : List D) : lstAt (st ++ [.lst xs]) st.length = some xs := by
  unfold lstAt
  rw [List.getElem?_append_right (Nat.le_refl _), Nat.sub_self]
  rfl
/-! ### texts -/
theorem strOk_append (a b : Str) : PyData.strOk (a ++ b) = (PyData.strOk a && PyData.strOk b) := by
  show (a.cps ++ b.cps).all _ = _
  rw [Array.all_append]
  rfl
theorem strOk_of (s : String) : PyData.strOk (Str.ofString s) = true := by
  unfold PyData.strOk
  rw [Str.ofString_eq_toList]
  simp only [List.all_toArray, List.all_map, List.all_eq_true]
  intro c _
  have h : c.val.toNat < 0x110000 := by
    have := c.valid
    simp only [UInt32.isValidChar, Nat.isValidChar] at this
    omega
  exact decide_eq_true h
/-! ### steps -/
theorem sSeq_nx {i j : IS} {env e1 : Env} {st s1 : Sto} (h : i env st = .nx e1 s1) : sSeq i j env st = j e1 s1 := by
  show kSeq j (i env st) = _
  rw [h]; rfl
theorem sSet_ok {k : Nat} {e : IE} {env : Env} {st s : Sto} {d : D} (h : e env st = .ok d s) : sSet k e env st = .nx (env.set k (some d)) s := by
  show liftS (e env st) env _ = _
  rw [h]; rfl
theorem runB_ret {b : IS} {n p : Nat} {ds : List D} {st s : Sto} {d : D} (hl : ds.length = p) (h : b (ds.map some ++ List.replicate (n - p) none) st = .ret d s) : runB b n p ds st = .ok d s := by
  unfold runB
  rw [if_pos hl, h]; rfl
end M
/-! SM0: the embedding's functions step by step, for simp; loops by place. -/
namespace M
open PySem PySem.W
section
variable {i j k : IE} {a b : IA} {p q : IS} {t u : IT} {env : Env} {st : Sto} {d e : D} {n m : Nat}
@[simp] theorem R_ok {α β : Type} {a : α} {st : Sto} {k : α → Sto → R β} : (R.ok a st).bind k = k a st := Eq.trans rfl rfl
@[simp] theorem R_exc {α β : Type} {C fs} {st : Sto} {k : α → Sto → R β} : (R.exc C fs st).bind k = .exc C fs st := Eq.trans rfl rfl
@[simp] theorem R_bad {α β : Type} {k : α → Sto → R β} : (R.bad : R α).bind k = .bad := Eq.trans rfl rfl
@[simp] theorem ofO_s {x : D × Sto} : ofO (some x) = .ok x.1 x.2 := Eq.trans rfl rfl
@[simp] theorem ofO_n : ofO none = .bad := Eq.trans rfl rfl
@[simp] theorem iC_d : iC d env st = .ok d st := Eq.trans rfl rfl
@[simp] theorem iVar_d : iVar n env st = match env[n]? with | some (some d) => .ok d st | _ => .bad := Eq.trans rfl rfl
@[simp] theorem iBin_d {f : Op2} : iBin f i j env st = (i env st).bind fun a s1 => (j env s1).bind fun b s2 => ofO (f a b s2) := Eq.trans rfl rfl
@[simp] theorem iUn_d {f : Op1} : iUn f i env st = (i env st).bind fun a s1 => ofO (f a s1) := Eq.trans rfl rfl
@[simp] theorem iN_d {f : OpN} : iN f a env st = (a env st).bind fun ds s => ofO (f ds s) := Eq.trans rfl rfl
@[simp] theorem iChain_d {f g : Op2} : iChain f g i j k env st = (i env st).bind fun a s1 => (j env s1).bind fun b s2 => (ofO (f a b s2)).bind (kChain g k b env) := Eq.trans rfl rfl
@[simp] theorem kChain_t {g : Op2} : kChain g k d env (.bl true) st = (k env st).bind fun c s4 => ofO (g d c s4) := Eq.trans rfl rfl
@[simp] theorem kChain_f {g : Op2} : kChain g k d env (.bl false) st = .ok (.bl false) st := Eq.trans rfl rfl
@[simp] theorem tTru_d : tTru i env st = (i env st).bind fun d s => match truD s d with | some k => .ok k s | none => .bad := Eq.trans rfl rfl
@[simp] theorem tNot_d : tNot' t env st = (t env st).bind fun k s => .ok (!k) s := Eq.trans rfl rfl
@[simp] theorem tAnd_d : tAnd' t u env st = (t env st).bind fun k s => if k = true then u env s else .ok false s := Eq.trans rfl rfl
@[simp] theorem tOr_d : tOr' t u env st = (t env st).bind fun k s => if k = true then .ok true s else u env s := Eq.trans rfl rfl
@[simp] theorem iAnd_d : iAnd i j env st = (i env st).bind fun d s => match truD s d with | some true => j env s | some false => .ok d s | none => .bad := Eq.trans rfl rfl
@[simp] theorem iOr_d : iOr i j env st = (i env st).bind fun d s => match truD s d with | some true => .ok d s | some false => j env s | none => .bad := by
  unfold iOr
  rfl
@[simp] theorem iNot_d : iNot i env st = (i env st).bind kNot := Eq.trans rfl rfl
@[simp] theorem iIf_d : iIf t i j env st = (t env st).bind fun k s => if k = true then i env s else j env s := Eq.trans rfl rfl
@[simp] theorem aNil_d : aNil env st = .ok [] st := Eq.trans rfl rfl
@[simp] theorem aCons_d : aCons i a env st = (i env st).bind fun d s => (a env s).bind fun ds s2 => .ok (d :: ds) s2 := Eq.trans rfl rfl
@[simp] theorem aStar_d : aStar i a env st = (i env st).bind fun x s => match aseq s x with | some xs => (a env s).bind fun r s2 => .ok (xs ++ r) s2 | none => .bad := Eq.trans rfl rfl
@[simp] theorem sNil_d : sNil env st = .nx env st := Eq.trans rfl rfl
@[simp] theorem sSeq_d : sSeq p q env st = kSeq q (p env st) := Eq.trans rfl rfl
@[simp] theorem kSeq_nx : kSeq q (.nx env st) = q env st := Eq.trans rfl rfl
@[simp] theorem kSeq_ret : kSeq q (.ret d st) = .ret d st := Eq.trans rfl rfl
@[simp] theorem kSeq_bk : kSeq q (.bk env st) = .bk env st := Eq.trans rfl rfl
@[simp] theorem kSeq_ct : kSeq q (.ct env st) = .ct env st := Eq.trans rfl rfl
@[simp] theorem liftS_ok {α : Type} {x : α} {k : α → Sto → RS} : liftS (.ok x st) env k = k x st := Eq.trans rfl rfl
@[simp] theorem sExpr_d : sExpr i env st = liftS (i env st) env fun _ s => .nx env s := Eq.trans rfl rfl
@[simp] theorem sRet_d : sRet i env st = liftS (i env st) env fun d s => .ret d s := Eq.trans rfl rfl
@[simp] theorem sRetN_d : sRetN env st = .ret .non st := Eq.trans rfl rfl
@[simp] theorem sBreak_d : sBreak env st = .bk env st := Eq.trans rfl rfl
@[simp] theorem sCont_d : sCont env st = .ct env st := Eq.trans rfl rfl
@[simp] theorem sIf_d : sIf t p q env st = liftS (t env st) env fun k s => if k = true then p env s else q env s := Eq.trans rfl rfl
@[simp] theorem sSet_d : sSet n i env st = liftS (i env st) env fun d s => .nx (env.set n (some d)) s := Eq.trans rfl rfl
@[simp] theorem sPar_d : sPar n m a env st = liftS (a env st) env fun ds s => match ds with | [d, e] => .nx ((env.set n (some d)).set m (some e)) s | _ => .bad := Eq.trans rfl rfl
@[simp] theorem sPar3_d {l : Nat} : sPar3 n m l a env st = liftS (a env st) env fun ds s => match ds with | [d, e, f] => .nx (((env.set n (some d)).set m (some e)).set l (some f)) s | _ => .bad := Eq.trans rfl rfl
@[simp] theorem sAsg_d {g : IG} : sAsg g i env st = liftS (i env st) env fun d s => liftS (g d env s) env fun env' s' => .nx env' s' := Eq.trans rfl rfl
@[simp] theorem gVar_d : gVar n d env st = .ok (env.set n (some d)) st := Eq.trans rfl rfl
@[simp] theorem gTup_d {g : IGs} : gTup' n g d env st = match d with | .tup xs => if xs.length = n then g xs env st else .bad | .lst xs => if xs.length = n then g xs env st else .bad | _ => .bad := Eq.trans rfl rfl
@[simp] theorem gsNil_d : gsNil [] env st = .ok env st := Eq.trans rfl rfl
@[simp] theorem gsVar_d {g : IGs} {ds : List D} : gsVar n g (d :: ds) env st = g ds (env.set n (some d)) st := Eq.trans rfl rfl
@[simp] theorem gsCons_d {g : IG} {h : IGs} {ds : List D} : gsCons g h (d :: ds) env st = (g d env st).bind fun env' s => h ds env' s := Eq.trans rfl rfl
@[simp] theorem gIx_d : gIx i j d env st = (i env st).bind fun o s => (j env s).bind fun k s2 => kSet d o k env s2 := Eq.trans rfl rfl
@[simp] theorem tYes_d : tYes' env st = .ok true st := Eq.trans rfl rfl
@[simp] theorem iCall_d {f : Fn} {dd : List D} : iCall f dd a env st = (a env st).bind fun ds s => f (ds ++ dd) s := Eq.trans rfl rfl
@[simp] theorem oNone_d : oNone env st = .ok none st := Eq.trans rfl rfl
@[simp] theorem oSome_d : oSome i env st = (i env st).bind kPart := Eq.trans rfl rfl
@[simp] theorem kPart_i {x : Int} : kPart (.int x) st = .ok (some x) st := Eq.trans rfl rfl
@[simp] theorem iSl_d {lo hi : IO} : iSl i lo hi env st = (i env st).bind fun a s => (lo env s).bind fun l s1 => (hi env s1).bind fun u s2 => ofO (opSl a l u s2) := Eq.trans rfl rfl
@[simp] theorem tBl_d : tBl i env st = (i env st).bind kBl := Eq.trans rfl rfl
@[simp] theorem kBl_b {x : Bool} : kBl (.bl x) st = .ok x st := Eq.trans rfl rfl
@[simp] theorem iM1_d {f : Op2} : iM1 f i j env st = (i env st).bind fun a s1 => if isS a = true then (j env s1).bind fun b s2 => ofO (f a b s2) else .bad := Eq.trans rfl rfl
@[simp] theorem isS_s {x : Str} : isS (.str x) = true := Eq.trans rfl rfl
@[simp] theorem iMl_d {f : D → OpN} : iMl f i a env st = (i env st).bind fun x s1 => if isL s1 x = true then (a env s1).bind fun ds s2 => ofO (f x ds s2) else .bad := Eq.trans rfl rfl
@[simp] theorem iJs_n {acc : Str} : iJs [] acc env st = .ok (.str acc) st := Eq.trans rfl rfl
@[simp] theorem iJs_c {is : List IE} {acc : Str} : iJs (i :: is) acc env st = (i env st).bind fun d s => kJs acc (iJs is) d env s := Eq.trans rfl rfl
@[simp] theorem iCallV_d {fs : List (Str × Fn)} : iCallV fs i a env st = (i env st).bind fun d s => kCallV fs d a env s := Eq.trans rfl rfl
@[simp] theorem kCallV_1 {x : Str} {f : Fn} : kCallV [(x, f)] (.glo x) a env st = (a env st).bind fun ds s2 => f ds s2 := by
  unfold kCallV
  simp [List.lookup]
@[simp] theorem wAny_d : wAny i env st = (i env st).bind kAnyW := Eq.trans rfl rfl
@[simp] theorem kAny_tup {xs : List D} : kAnyW (.tup xs) st = .ok (nxL xs, xs.length) st := Eq.trans rfl rfl
@[simp] theorem kAny_lst {xs : List D} : kAnyW (.lst xs) st = .ok (nxL xs, xs.length) st := Eq.trans rfl rfl
@[simp] theorem kAny_str {x : Str} : kAnyW (.str x) st = .ok (nxS x, x.cps.size) st := Eq.trans rfl rfl
@[simp] theorem sFor_d {w : IW} {g : IG} : sFor w g p env st = liftS (w env st) env fun a s => forL a.1 g p a.2 0 env s := Eq.trans rfl rfl
@[simp] theorem sWhile_d {mm : Env → Sto → Nat} : sWhile mm t p env st = sWhileN t p (mm env st) env st := Eq.trans rfl rfl
@[simp] theorem iCompF_d {w : IW} {pt : Pat} : iCompF w pt t i env st = (w env st).bind fun a s => (compF a.1 pt t i (wipeE env pt.slots) a.2 0 [] s).bind fun xs s2 => .ok (.lst xs) s2 := Eq.trans rfl rfl
@[simp] theorem runB_d {ds : List D} : runB p n m ds st = if ds.length = m then endB (p (ds.map some ++ List.replicate (n - m) none) st) else .bad := Eq.trans rfl rfl
@[simp] theorem endB_ret : endB (.ret d st) = .ok d st := Eq.trans rfl rfl
@[simp] theorem endB_nx : endB (.nx env st) = .ok .non st := Eq.trans rfl rfl
@[simp] theorem tru_b {x : Bool} : truD st (.bl x) = some x := Eq.trans rfl rfl
@[simp] theorem isNon_n : D.isNon .non = true := Eq.trans rfl rfl
@[simp] theorem isNon_tup {xs : List D} : D.isNon (.tup xs) = false := Eq.trans rfl rfl
@[simp] theorem isNon_lst {xs : List D} : D.isNon (.lst xs) = false := Eq.trans rfl rfl
@[simp] theorem isNon_int {x : Int} : D.isNon (.int x) = false := Eq.trans rfl rfl
@[simp] theorem isNon_bl {x : Bool} : D.isNon (.bl x) = false := Eq.trans rfl rfl
@[simp] theorem isNon_str {x : Str} : D.isNon (.str x) = false := Eq.trans rfl rfl
@[simp] theorem isNon_ref {x : Nat} : D.isNon (.ref x) = false := Eq.trans rfl rfl
@[simp] theorem opIs_d {neg : Bool} : opIs neg d .non st = some (.bl (if neg then !d.isNon else d.isNon), st) := Eq.trans rfl rfl
end
theorem sizeLine_big : 1000000 ≤ sizeLine := by decide
@[simp] theorem le_size {n : Nat} (h : n ≤ 1000000) : (n ≤ sizeLine) = True := eq_true (Nat.le_trans h sizeLine_big)
@[simp] theorem opTup_d {ds : List D} {st : Sto} : opTup ds st = if ds.length ≤ sizeLine then some (.tup ds, st) else none := Eq.trans rfl rfl
@[simp] theorem opLst_d {ds : List D} {st : Sto} : opLst ds st = if ds.length ≤ sizeLine then some (.ref st.length, st ++ [.lst ds]) else none := Eq.trans rfl rfl
@[simp] theorem opLstF_d {ds : List D} {st : Sto} : opLstF ds st = if ds.length ≤ sizeLine then some (.lst ds, st) else none := Eq.trans rfl rfl
/-! ### texts written -/
theorem ofString_inj {a b : String} : Str.ofString a = Str.ofString b ↔ a = b := by
  constructor
  · intro h
    rw [Str.ofString_eq_toList, Str.ofString_eq_toList] at h
    have h2 := congrArg (fun s : Str => s.cps.toList) h
    simp only [List.toList_toArray] at h2
    have h3 : a.toList = b.toList := by
      have inj : ∀ {l m : List Char}, l.map Char.toNat = m.map Char.toNat → l = m := by
        intro l
        induction l with
        | nil => intro m h; cases m <;> simp_all
        | cons c l ih =>
          intro m h
          cases m with
          | nil => simp at h
          | cons d m =>
            simp only [List.map_cons, List.cons.injEq] at h
            rw [ih h.2, Char.ext (UInt32.toNat_inj.mp h.1)]
      exact inj h2
    exact String.toList_inj.mp h3
  · rintro rfl; rfl
@[simp] theorem eq_lit {a b : String} {st : Sto} : opEq false (.str (Str.ofString a)) (.str (Str.ofString b)) st = some (.bl (decide (a = b)), st) := by
  simp [opEq, ofString_inj]
@[simp] theorem ne_lit {a b : String} {st : Sto} : opEq true (.str (Str.ofString a)) (.str (Str.ofString b)) st = some (.bl (!decide (a = b)), st) := by
  simp [opEq, ofString_inj]
/-! ### loops -/
/-- a for over a list, by place: P what holds ahead of the i-th item -/
theorem forL_idx {nx : Nx} {g : IG} {b : IS} {xs : List D} (P : Nat → Env → Sto → Prop) (hn : ∀ i st, nx i st = some xs[i]?)
    (step : ∀ i d, xs[i]? = some d → ∀ env st, P i env st → ∃ e1 s1, g d env st = .ok e1 s1 ∧ ∃ e2 s2, (b e1 s1 = .nx e2 s2 ∨ b e1 s1 = .ct e2 s2) ∧ P (i + 1) e2 s2) :
    ∀ (m i : Nat) (env : Env) (st : Sto), i ≤ xs.length → xs.length ≤ i + m → P i env st → ∃ e2 s2, forL nx g b m i env st = .nx e2 s2 ∧ P xs.length e2 s2
  | 0, i, env, st, h0, hl, h => ⟨env, st, by unfold forL; rw [hn, List.getElem?_eq_none (by omega)], by rw [show xs.length = i by omega]; exact h⟩
  | m + 1, i, env, st, h0, hl, h => by
    unfold forL
    rw [hn]
    cases q : xs[i]? with
    | none =>
      have := List.getElem?_eq_none_iff.mp q
      exact ⟨env, st, rfl, by rw [show xs.length = i by omega]; exact h⟩
    | some d =>
      obtain ⟨e1, s1, h1, e2, s2, h2, h3⟩ := step i d q env st h
      have hi := (List.getElem?_eq_some_iff.mp q).1
      obtain ⟨e3, s3, h4, h5⟩ := forL_idx P hn step m (i + 1) e2 s2 (by omega) (by omega) h3
      refine ⟨e3, s3, ?_, h5⟩
      show liftS (g d env st) env (fun env1 s1 => kWhile b (forL nx g b m (i + 1)) (b env1 s1)) = _
      rw [h1]
      show kWhile b (forL nx g b m (i + 1)) (b e1 s1) = _
      rcases h2 with h2 | h2
      · rw [h2]; exact h4
      · rw [h2]; exact h4
end M
/-! RB0: stores that grow; lists; loops (taken from the texts for joins). -/
namespace M
open PySem PySem.W Builtin Builtin.Str
theorem lst_lt {st : Sto} {q : Nat} {xs : List D} (h : lstAt st q = some xs) : q < st.length := by
  cases hq : st[q]? with
  | none => simp [lstAt, hq] at h
  | some o => exact (List.getElem?_eq_some_iff.mp hq).1
theorem lst_set {st : Sto} {q : Nat} {xs : List D} (h : lstAt st q = some xs) (ys : List D) : lstAt (st.set q (.lst ys)) q = some ys := by
  simp [lstAt, List.getElem?_set_self (lst_lt h)]
theorem app_at {st : Sto} {q : Nat} {xs : List D} (h : lstAt st q = some xs) (hl : xs.length < 1000000) (d : D) : opAppend (.ref q) [d] st = some (.non, st.set q (.lst (xs ++ [d]))) := by
  have : xs.length < sizeLine := Nat.lt_of_lt_of_le hl sizeLine_big
  simp [opAppend, h, this]
theorem isL_at {st : Sto} {q : Nat} {xs : List D} (h : lstAt st q = some xs) : isL st (.ref q) = true := by simp [isL, h]
theorem addM {st : Sto} {a b : D} {xs ys : List D} (h1 : alst st a = some xs) (h2 : alst st b = some ys) (hl : xs.length + ys.length ≤ 1000000) : opAddM a b st = some (.ref st.length, st ++ [.lst (xs ++ ys)]) := by
  have : xs.length + ys.length ≤ sizeLine := Nat.le_trans hl sizeLine_big
  simp [opAddM, h1, h2, this]
theorem len_lst (xs : List D) (st : Sto) : opLen [.lst xs] st = some (.int xs.length, st) := rfl
theorem forL_map {α : Type} {g : IG} {b : IS} {l : List α} {F : α → D} (P : List α → Env → Sto → Prop)
    (step : ∀ a r env st, a ∈ l → P (a :: r) env st → ∃ e1 s1, g (F a) env st = .ok e1 s1 ∧ ∃ e2 s2, (b e1 s1 = .nx e2 s2 ∨ b e1 s1 = .ct e2 s2) ∧ P r e2 s2) :
    ∀ (m i : Nat) (env : Env) (st : Sto), l.length ≤ i + m → i ≤ l.length → P (l.drop i) env st → ∃ e2 s2, forL (nxL (l.map F)) g b m i env st = .nx e2 s2 ∧ P [] e2 s2
  | 0, i, env, st, h1, h2, h => by
    have e : l.drop i = [] := List.drop_of_length_le (by omega)
    rw [e] at h
    exact ⟨env, st, by unfold forL nxL; rw [List.getElem?_eq_none (by simp; omega)], h⟩
  | m + 1, i, env, st, h1, h2, h => by
    unfold forL nxL
    by_cases hi : i < l.length
    · rw [List.getElem?_map, List.getElem?_eq_getElem hi]
      rw [List.drop_eq_getElem_cons hi] at h
      obtain ⟨e1, s1, q1, e2, s2, q2, q3⟩ := step _ _ env st (List.getElem_mem hi) h
      obtain ⟨e3, s3, q4, q5⟩ := forL_map P step m (i + 1) e2 s2 (by omega) (by omega) q3
      refine ⟨e3, s3, ?_, q5⟩
      show liftS (g (F l[i]) env st) env (fun env1 s1 => kWhile b (forL (nxL (l.map F)) g b m (i + 1)) (b env1 s1)) = _
      rw [q1]
      show kWhile b (forL (nxL (l.map F)) g b m (i + 1)) (b e1 s1) = _
      rcases q2 with q2 | q2
      · rw [q2]; exact q4
      · rw [q2]; exact q4
    · have e : l.drop i = [] := List.drop_of_length_le (by omega)
      rw [e] at h
      rw [List.getElem?_eq_none (by simp; omega)]
      exact ⟨env, st, rfl, h⟩
theorem opMax_nat (a b : Nat) (st : Sto) : opMax [.int a, .int b] st = some (.int ((max a b : Nat) : Int), st) := by
  simp [opMax]
  omega
/-- what is not in l keeps -/
def Kp (st st' : Sto) (l : List Nat) : Prop := st.length ≤ st'.length ∧ ∀ i : Nat, i ∉ l → i < st.length → st'[i]? = st[i]?
theorem Kp.refl (st : Sto) (l : List Nat) : Kp st st l := ⟨Nat.le_refl _, fun _ _ _ => rfl⟩
theorem Kp.trans {a b c : Sto} {l : List Nat} (h1 : Kp a b l) (h2 : Kp b c l) : Kp a c l := ⟨Nat.le_trans h1.1 h2.1, fun i hi hl => (h2.2 i hi (Nat.lt_of_lt_of_le hl h1.1)).trans (h1.2 i hi hl)⟩
theorem Kp.mono {a b : Sto} {l l' : List Nat} (h1 : Kp a b l) (h : ∀ q ∈ l, q ∈ l') : Kp a b l' := ⟨h1.1, fun i hi hl => h1.2 i (fun m => hi (h i m)) hl⟩
theorem Kp.set {st : Sto} {q : Nat} {o : O} : Kp st (st.set q o) [q] := ⟨Nat.le_of_eq (List.length_set).symm, fun i hi _ => List.getElem?_set_ne fun e => hi (by rw [e]; exact List.mem_cons_self)⟩
theorem Kp.push {st : Sto} {o : O} : Kp st (st ++ [o]) [] := ⟨by simp, fun i _ hl => List.getElem?_append_left hl⟩
theorem Kp.lst {st st' : Sto} {l : List Nat} (k : Kp st st' l) (q : Nat) (xs : List D) (hq : q ∉ l) (h : lstAt st q = some xs) : lstAt st' q = some xs := by
  unfold lstAt at h ⊢
  rw [k.2 q hq (lst_lt h)]
  exact h
theorem ixr {st : Sto} {q : Nat} {xs : List D} {d : D} (h : lstAt st q = some xs) (i : Int) (hi : 0 ≤ i) (e : xs[i.toNat]? = some d) : opIx (.ref q) (.int i) st = some (d, st) := by
  have lt : i < xs.length := by have := (List.getElem?_eq_some_iff.mp e).1; omega
  have g := (List.getElem?_eq_some_iff.mp e).2
  simp [opIx, aseq, h, L2.atI, L2.ixN, hi, lt, g]
theorem ixl {xs : List D} {d : D} (i : Int) (hi : 0 ≤ i) (e : xs[i.toNat]? = some d) (st : Sto) : opIx (.lst xs) (.int i) st = some (d, st) := by
  have lt : i < xs.length := by have := (List.getElem?_eq_some_iff.mp e).1; omega
  have g := (List.getElem?_eq_some_iff.mp e).2
  simp [opIx, aseq, L2.atI, L2.ixN, hi, lt, g]
theorem kset {st : Sto} {q : Nat} {xs : List D} (h : lstAt st q = some xs) (i : Int) (hi : 0 ≤ i) (lt : i.toNat < xs.length) (d : D) (env : Env) : kSet d (.ref q) (.int i) env st = .ok env (st.set q (.lst (xs.set i.toNat d))) := by
  have lt : i < xs.length := by omega
  simp [kSet, h, L2.ixN, hi, lt]
theorem mul_small {i j : Int} (h : smallI i ∨ smallI j) (st : Sto) : opMul (.int i) (.int j) st = some (.int (i * j), st) := by
  show (if smallI i ∨ smallI j then some (D.int (i * j), st) else _) = _
  rw [if_pos h]
theorem mod_pos {i j : Int} (h : 0 < j) (st : Sto) : opMod (.int i) (.int j) st = some (.int (i % j), st) := by
  show (if 0 < j then some (D.int (i % j), st) else _) = _
  rw [if_pos h]
theorem rng_at (n : Nat) (i : Nat) (st : Sto) : nxR 0 n i st = some ((List.range n).map fun k : Nat => D.int k)[i]? := by
  unfold nxR
  rw [List.getElem?_map]
  by_cases h : i < n
  · rw [if_pos h, List.getElem?_range h]
    simp
  · rw [if_neg h, List.getElem?_eq_none (by simp; omega)]
    rfl
theorem rng1 {e : IE} {env : Env} {st st' : Sto} {n : Nat} (he : e env st = .ok (.int n) st') (hn : n ≤ 1000000) : wRng1 (aCons e aNil) env st = .ok (nxR 0 n, n) st' := by
  have h62 : -(2 ^ 62 : Int) ≤ (n : Int) ∧ (n : Int) < 2 ^ 62 := by omega
  have k : kRng1 [.int n] st' = .ok (nxR 0 n, n) st' := by
    unfold kRng1
    simp only [if_pos h62, Int.toNat_natCast]
  unfold wRng1
  rw [aCons_d, he, R_ok, aNil_d, R_ok, R_ok, k]
/-- a for over range(n) whose store moves -/
theorem forL_rng {g : IG} {b : IS} {n : Nat} (P : Nat → Env → Sto → Prop)
    (step : ∀ i, i < n → ∀ env st, P i env st → ∃ e1 s1, g (.int i) env st = .ok e1 s1 ∧ ∃ e2 s2, (b e1 s1 = .nx e2 s2 ∨ b e1 s1 = .ct e2 s2) ∧ P (i + 1) e2 s2) {env : Env} {st : Sto} (h : P 0 env st) : ∃ e2 s2, forL (nxR 0 n) g b n 0 env st = .nx e2 s2 ∧ P n e2 s2 := by
  have := forL_idx (nx := nxR 0 n) (g := g) (b := b) (xs := (List.range n).map fun k : Nat => D.int k) P (rng_at n) (fun i d hd env st hp => by
    obtain ⟨hi, e⟩ := List.getElem?_eq_some_iff.mp hd
    simp at hi e
    subst e
    exact step i hi env st hp) n 0 env st (Nat.zero_le _) (by simp) h
  rw [List.length_map, List.length_range] at this
  exact this
end M
/-! RB1: the law's well: a number drawn, one of some things, the well made. -/
namespace M
open PySem PySem.W Builtin Builtin.Str
def Pool (st : Sto) (g : Nat) : Prop := ∃ a b c : Int, lstAt st g = some [.int a, .int b, .int c] ∧ 0 ≤ a ∧ 0 ≤ b ∧ b < 998244353
theorem Pool.keep {st st' : Sto} {g : Nat} {l : List Nat} (h : Pool st g) (k : Kp st st' l) (hg : g ∉ l) : Pool st' g := by
  obtain ⟨a, b, n, h1, h2⟩ := h
  exact ⟨a, b, n, k.lst _ _ hg h1, h2⟩
theorem fdiv_pos {i j : Int} (h : 0 < j) (h2 : j ≤ 1000) (st : Sto) : opFdiv (.int i) (.int j) st = some (.int (i / j), st) := by
  have : j.natAbs.log2 ≤ j.natAbs := Nat.log2_le_self _
  have h3 : 0 < j ∧ j.natAbs.log2 < 9000 := ⟨h, by omega⟩
  unfold opFdiv
  simp only [if_pos h3]
theorem dip_ok {st : Sto} {g : Nat} {many : Int} (h : Pool st g) (h1 : 0 < many) (h2 : many ≤ 1000) :
    ∃ r st', k06__law_dip [.ref g, .int many] st = .ok (.int r) st' ∧ 0 ≤ r ∧ r < many ∧ Pool st' g ∧ Kp st st' [g] ∧ st'.length = st.length := by
  obtain ⟨a, b, c, hl, a0, b0, b1⟩ := h
  have e2 := ixr hl 2 (by decide) (d := .int c) rfl
  have k2 : ∀ env, kSet (.int (c + 1)) (.ref g) (.int 2) env st = .ok env (st.set g (.lst [.int a, .int b, .int (c + 1)])) := fun env => kset hl 2 (by decide) (by show (2 : Nat) < 3; decide) (.int (c + 1)) env
  have hl1 := lst_set hl [.int a, .int b, .int (c + 1)]
  have f0 := ixr hl1 0 (by decide) (d := .int a) rfl
  have f1 := ixr hl1 1 (by decide) (d := .int b) rfl
  have f2 := ixr hl1 2 (by decide) (d := .int (c + 1)) rfl
  have md := fun i st => mod_pos (i := i) h1 st
  have fd := fun i st => fdiv_pos (i := i) h1 h2 st
  by_cases ha : 0 < a
  · have k0 : ∀ env, kSet (.int (a / many)) (.ref g) (.int 0) env (st.set g (.lst [.int a, .int b, .int (c + 1)])) = .ok env ((st.set g (.lst [.int a, .int b, .int (c + 1)])).set g (.lst [.int (a / many), .int b, .int (c + 1)])) := fun env => kset hl1 0 (by decide) (by show (0 : Nat) < 3; decide) (.int (a / many)) env
    refine ⟨a % many, _, ?_, Int.emod_nonneg _ (by omega), Int.emod_lt_of_pos _ h1, ⟨a / many, b, c + 1, lst_set hl1 [.int (a / many), .int b, .int (c + 1)], Int.ediv_nonneg a0 (by omega), b0, b1⟩, ?_, by simp⟩
    · simp [k06__law_dip, B_k06__law_dip, e2, opAdd]
      rw [k2]
      simp [f0, opCmp, ha, opInt, md, fd]
      rw [k0]
      simp
    · rw [List.set_set]; exact Kp.set
  · have m1 := fun j st => mul_small (i := b) (j := j) (.inl (by unfold smallI; omega)) st
    have m2 := fun j st => mul_small (i := 6151) (j := j) (.inl (by unfold smallI; decide)) st
    have mb := fun st => mod_pos (i := b) (j := 48611) (by decide) st
    have mq := fun i st => mod_pos (i := i) (j := 998244353) (by decide) st
    have fq := fun i st => fdiv_pos (i := i) (j := 131) (by decide) (by decide) st
    obtain ⟨v, hv⟩ : ∃ v, v = (b * (b % 48611 + 8191) + 6151 * (c + 1) + 11) % 998244353 := ⟨_, rfl⟩
    have v0 : 0 ≤ v := by rw [hv]; exact Int.emod_nonneg _ (by decide)
    have v1 : v < 998244353 := by rw [hv]; exact Int.emod_lt_of_pos _ (by decide)
    have k1 : ∀ env, kSet (.int v) (.ref g) (.int 1) env (st.set g (.lst [.int a, .int b, .int (c + 1)])) = .ok env ((st.set g (.lst [.int a, .int b, .int (c + 1)])).set g (.lst [.int a, .int v, .int (c + 1)])) := fun env => kset hl1 1 (by decide) (by show (1 : Nat) < 3; decide) (.int v) env
    have hl2 := lst_set hl1 [.int a, .int v, .int (c + 1)]
    have g1 := ixr hl2 1 (by decide) (d := .int v) rfl
    simp only [List.set_set] at hl2 g1 k1
    refine ⟨v / 131 % many, _, ?_, Int.emod_nonneg _ (by omega), Int.emod_lt_of_pos _ h1, ⟨a, v, c + 1, hl2, a0, v0, v1⟩, ?_, by simp⟩
    · simp [k06__law_dip, B_k06__law_dip, e2, opAdd]
      rw [k2]
      simp [f0, f1, f2, opCmp, ha, opInt, opAdd, m1, m2, mb, mq, ← hv]
      rw [k1]
      simp [g1, fq, opInt, md]
    · exact Kp.set
theorem any_ok {st : Sto} {g : Nat} {xs : List D} (h : Pool st g) (h1 : 0 < xs.length) (h2 : xs.length ≤ 1000) :
    ∃ (i : Nat) (hi : i < xs.length) (st' : Sto), k06__law_any [.ref g, .lst xs] st = .ok xs[i] st' ∧ Pool st' g ∧ Kp st st' [g] ∧ st'.length = st.length := by
  obtain ⟨r, st', e, r0, r1, p, k, l⟩ := dip_ok (many := (xs.length : Int)) h (by omega) (by omega)
  have hi : r.toNat < xs.length := by omega
  have ix := ixl (xs := xs) (d := xs[r.toNat]) r r0 (List.getElem?_eq_getElem hi) st'
  exact ⟨r.toNat, hi, st', by simp [k06__law_any, B_k06__law_any, len_lst, e, ix], p, k, l⟩
end M
/-! RB2: ratios made and refused; what is told of a call. -/
namespace M
open PySem PySem.W Builtin Builtin.Str
theorem nine {P : Nat → Prop} (h : P 0 ∧ P 1 ∧ P 2 ∧ P 3 ∧ P 4 ∧ P 5 ∧ P 6 ∧ P 7 ∧ P 8) : ∀ t, t < 9 → P t := fun t ht => by
  obtain ⟨h0, h1, h2, h3, h4, h5, h6, h7, h8⟩ := h
  have : t = 0 ∨ t = 1 ∨ t = 2 ∨ t = 3 ∨ t = 4 ∨ t = 5 ∨ t = 6 ∨ t = 7 ∨ t = 8 := by omega
  rcases this with rfl | rfl | rfl | rfl | rfl | rfl | rfl | rfl | rfl <;> assumption
theorem five {P : Nat → Prop} (h : P 0 ∧ P 1 ∧ P 2 ∧ P 3 ∧ P 4) : ∀ t, t < 5 → P t := fun t ht => by
  obtain ⟨h0, h1, h2, h3, h4⟩ := h
  have : t = 0 ∨ t = 1 ∨ t = 2 ∨ t = 3 ∨ t = 4 := by omega
  rcases this with rfl | rfl | rfl | rfl | rfl <;> assumption
/-! ### the ratios of the law -/
abbrev tA (t : Nat) : D := .tup [.int (t : Int), .int 1]
abbrev bA (e : Nat) : D := .tup [.int (1 + (e : Int)), .int 0, .int 1]
abbrev z0 : D := .tup [.int 0]
abbrev fsR (a b : D) : List (Str × D) := [("top", a), ("bottom", b)]
theorem low_is : ∀ t, t < 9 → ∀ e, e < 5 → ∀ s, p_lowest [tA t, bA e] s = .ok (.tup [tA t, bA e]) s := by
  refine nine ⟨?_, ?_, ?_, ?_, ?_, ?_, ?_, ?_, ?_⟩ <;> refine five ⟨?_, ?_, ?_, ?_, ?_⟩ <;> (intro s; kernel_rfl)
theorem trim_t : ∀ t, t < 9 → ∀ s, p_trimmed [tA t] s = .ok (tA t) s := nine ⟨fun s => by kernel_rfl, fun s => by kernel_rfl, fun s => by kernel_rfl, fun s => by kernel_rfl, fun s => by kernel_rfl, fun s => by kernel_rfl, fun s => by kernel_rfl, fun s => by kernel_rfl, fun s => by kernel_rfl⟩
theorem trim_b : ∀ e, e < 5 → ∀ s, p_trimmed [bA e] s = .ok (bA e) s := five ⟨fun s => by kernel_rfl, fun s => by kernel_rfl, fun s => by kernel_rfl, fun s => by kernel_rfl, fun s => by kernel_rfl⟩
theorem row_t (t : Nat) (s : Sto) : p_is_row [tA t] s = .ok (.bl true) s := by kernel_rfl
theorem row_b (e : Nat) (s : Sto) : p_is_row [bA e] s = .ok (.bl true) s := by kernel_rfl
/-- what makes a ratio -/
structure Mkr (top bot t' b' A B : D) : Prop where
  rt : ∀ s, p_is_row [top] s = .ok (.bl true) s
  rb : ∀ s, p_is_row [bot] s = .ok (.bl true) s
  tt : ∀ s, p_trimmed [top] s = .ok t' s
  tb : ∀ s, p_trimmed [bot] s = .ok b' s
  nz : ∀ s, opEq false b' z0 s = some (.bl false, s)
  lo : ∀ s, p_lowest [t', b'] s = .ok (.tup [A, B]) s
theorem init_ok {top bot t' b' A B : D} (h : Mkr top bot t' b' A B) (s : Sto) : p_Ratio___init__ [.ref s.length, top, bot] (s ++ [.ins "Ratio" []]) = .ok .non (s ++ [.ins "Ratio" (fsR A B)]) := by
  simp [p_Ratio___init__, B_p_Ratio___init__, h.rt, h.rb, h.tt, h.tb, h.nz, h.lo, gFld, gsCons, kFld, putD]
  decide
theorem init_no1 {top bot : D} {n : Nat} {s : Sto} (h : p_is_row [top] s = .ok (.bl false) s) : p_Ratio___init__ [.ref n, top, bot] s = .exc "InvalidCount" [("value", top)] s := by
  simp [p_Ratio___init__, B_p_Ratio___init__, h, truD, sRaise, gCat]
  rfl
theorem init_no2 {top bot : D} {n : Nat} {s : Sto} (h : p_is_row [top] s = .ok (.bl true) s) (h2 : p_is_row [bot] s = .ok (.bl false) s) : p_Ratio___init__ [.ref n, top, bot] s = .exc "InvalidCount" [("value", bot)] s := by
  simp [p_Ratio___init__, B_p_Ratio___init__, h, h2, truD, sRaise, gCat]
  rfl
theorem init_z {top bot : D} {n : Nat} {s : Sto} (h : p_is_row [top] s = .ok (.bl true) s) (h2 : p_is_row [bot] s = .ok (.bl true) s) (h3 : p_trimmed [bot] s = .ok z0 s) : p_Ratio___init__ [.ref n, top, bot] s = .exc "ZeroBelow" [] s := by
  have e : opEq false z0 z0 s = some (.bl true, s) := by kernel_rfl
  simp [p_Ratio___init__, B_p_Ratio___init__, h, h2, h3, e, truD, sRaise0]
  rfl
/-! ### what is told -/
abbrev csR : List (Str × Fn) := [("Ratio", p_Ratio___repr__)]
theorem told_c {d : D} {x : Str} {s : Sto} (h : opReprM csR [d] s = some (.str x, s)) : k06__law_told (.exc "InvalidCount" [("value", d)] s) = .ok (.lst [.str "count", .str x]) s := by
  have e : k06__law_told (.exc "InvalidCount" [("value", d)] s) = endB (kSeq (sRet (iN opLstF (aCons (iC (.str "given")) (aCons (iC (.str "")) aNil)))) (clrS 1 (sRet (iN opLstF (aCons (iC (.str "count")) (aCons (iN (opReprM csR) (aCons (iUn (opFld (fl_k06 "value") "value") (iVar 1)) aNil)) aNil))) [some .non, some (.exc "InvalidCount" [("value", d)])] s))) := by kernel_rfl
  rw [e]
  have f : opFld (fl_k06 "value") "value" (.exc "InvalidCount" [("value", d)]) s = some (d, s) := by kernel_rfl
  simp [f, h, clrS]
theorem told_r {d : D} {x : Str} {s : Sto} (h : opReprM csR [d] s = some (.str x, s)) : k06__law_told (.exc "NotARatio" [("value", d)] s) = .ok (.lst [.str "ratio", .str x]) s := by
  have e : k06__law_told (.exc "NotARatio" [("value", d)] s) = endB (kSeq (sRet (iN opLstF (aCons (iC (.str "given")) (aCons (iC (.str "")) aNil)))) (clrS 1 (sRet (iN opLstF (aCons (iC (.str "ratio")) (aCons (iN (opReprM csR) (aCons (iUn (opFld (fl_k06 "value") "value") (iVar 1)) aNil)) aNil))) [some .non, some (.exc "NotARatio" [("value", d)])] s))) := by kernel_rfl
  rw [e]
  have f : opFld (fl_k06 "value") "value" (.exc "NotARatio" [("value", d)]) s = some (d, s) := by kernel_rfl
  simp [f, h, clrS]
theorem told_t {d : D} {x : Str} {s : Sto} (h : opReprM csR [d] s = some (.str x, s)) : k06__law_told (.exc "InvalidText" [("value", d)] s) = .ok (.lst [.str "text", .str x]) s := by
  have e : k06__law_told (.exc "InvalidText" [("value", d)] s) = endB (kSeq (sRet (iN opLstF (aCons (iC (.str "given")) (aCons (iC (.str "")) aNil)))) (clrS 1 (sRet (iN opLstF (aCons (iC (.str "text")) (aCons (iN (opReprM csR) (aCons (iUn (opFld (fl_k06 "value") "value") (iVar 1)) aNil)) aNil))) [some .non, some (.exc "InvalidText" [("value", d)])] s))) := by kernel_rfl
  rw [e]
  have f : opFld (fl_k06 "value") "value" (.exc "InvalidText" [("value", d)]) s = some (d, s) := by kernel_rfl
  simp [f, h, clrS]
theorem told_z (s : Sto) : k06__law_told (.exc "ZeroBelow" [] s) = .ok (.lst [.str "zero", .str ""]) s := by kernel_rfl
theorem told_g (d : D) (s : Sto) : k06__law_told (.ok d s) = .ok (.lst [.str "given", .str ""]) s := by kernel_rfl
end M
/-! RB3: the odd values; the calls of the law, one by one. -/
namespace M
open PySem PySem.W Builtin Builtin.Str
abbrev tbR : O := .tbl "_law_right" "_law_right.<locals>.<lambda>"
abbrev tbS : O := .tbl "_law_signs_right" "_law_signs_right.<locals>.<lambda>"
def odds : List D := [.non, .lst [.int 1], .tup [], .tup [.int 1, .bl true], .tup [.str "1"], .tup [.int 1, .non], .str "12", .int 5, .dct [] [], .tup [.tup [.int 1]]]
/-- an odd value: no row, and told -/
structure Odd (d : D) (x : Str) : Prop where
  row : ∀ s, p_is_row [d] s = .ok (.bl false) s
  rpr : ∀ s, opReprM csR [d] s = some (.str x, s)
  ok : PyData.strOk x = true
theorem odd_is {d : D} (h : d ∈ odds) : ∃ x, Odd d x := by
  simp only [odds, List.mem_cons, List.not_mem_nil, or_false] at h
  rcases h with rfl | rfl | rfl | rfl | rfl | rfl | rfl | rfl | rfl | rfl
  · exact ⟨"None", fun s => by kernel_rfl, fun s => by kernel_rfl, by kernel_rfl⟩
  · exact ⟨"[1]", fun s => by kernel_rfl, fun s => by kernel_rfl, by kernel_rfl⟩
  · exact ⟨"()", fun s => by kernel_rfl, fun s => by kernel_rfl, by kernel_rfl⟩
  · exact ⟨"(1, True)", fun s => by kernel_rfl, fun s => by kernel_rfl, by kernel_rfl⟩
  · exact ⟨"('1',)", fun s => by kernel_rfl, fun s => by kernel_rfl, by kernel_rfl⟩
  · exact ⟨"(1, None)", fun s => by kernel_rfl, fun s => by kernel_rfl, by kernel_rfl⟩
  · exact ⟨"'12'", fun s => by kernel_rfl, fun s => by kernel_rfl, by kernel_rfl⟩
  · exact ⟨"5", fun s => by kernel_rfl, fun s => by kernel_rfl, by kernel_rfl⟩
  · exact ⟨"{}", fun s => by kernel_rfl, fun s => by kernel_rfl, by kernel_rfl⟩
  · exact ⟨"((1,),)", fun s => by kernel_rfl, fun s => by kernel_rfl, by kernel_rfl⟩
/-- what a call of the law tells -/
def Td (J : IE) (E : Env) (d : D) (g : Nat) (s : Sto) : Prop := ∃ s', k06__law_told (J E s) = .ok d s' ∧ Kp s s' [g] ∧ Pool s' g
theorem td_exc {J : IE} {E : Env} {d : D} {g : Nat} {s s1 : Sto} {C : Str} {fs : List (Str × D)} (h : J E s = .exc C fs s1) (ht : k06__law_told (.exc C fs s1) = .ok d s1) (k : Kp s s1 [g]) (p : Pool s1 g) : Td J E d g s := ⟨s1, by rw [h, ht], k, p⟩
theorem kp_push {s : Sto} {o : O} {l : List Nat} : Kp s (s ++ [o]) l := Kp.push.mono fun _ h => nomatch h
theorem pool_push {s : Sto} {g : Nat} {o : O} (h : Pool s g) : Pool (s ++ [o]) g := h.keep (l := []) Kp.push (fun h => nomatch h)
theorem newP_exc {perm : List Nat} {ds zs : List D} {n m : Nat} {s s1 : Sto} {C : Str} {fs : List (Str × D)} (h1 : ds.length = n) (h2 : zs.length = m) (h : p_Ratio___init__ (gPick perm (.ref s.length :: (ds ++ zs))) (s ++ [.ins "Ratio" []]) = .exc C fs s1) : opNewP "Ratio" p_Ratio___init__ n m perm ds zs s = .exc C fs s1 := by
  unfold opNewP opNew
  rw [if_pos ⟨h1, h2⟩]
  simp only [h]
theorem newP_ok {perm : List Nat} {ds zs : List D} {n m : Nat} {s s1 : Sto} (h1 : ds.length = n) (h2 : zs.length = m) (h : p_Ratio___init__ (gPick perm (.ref s.length :: (ds ++ zs))) (s ++ [.ins "Ratio" []]) = .ok .non s1) : opNewP "Ratio" p_Ratio___init__ n m perm ds zs s = .ok (.ref s.length) s1 := by
  unfold opNewP opNew
  rw [if_pos ⟨h1, h2⟩]
  simp only [h]
  rfl
/-- the law's variables -/
abbrev EV (g r : Nat) (a b : D) (t5 t6 t7 t8 : Option D) : Env := [some (.ref g), some (.lst odds), some a, some b, some (.ref r), t5, t6, t7, t8]
def J3 : IE := (iNewP "Ratio" p_Ratio___init__ 2 0 [0, 1, 2] (aCons (iVar 2) (aCons (iVar 3) aNil)) aNil)
def J4 : IE := (iNewP "Ratio" p_Ratio___init__ 2 0 [0, 1, 2] (aCons (iN opTup (aCons (iC (.int 1)) aNil)) (aCons (iVar 3) aNil)) aNil)
def J5 : IE := (iNewP "Ratio" p_Ratio___init__ 0 2 [0, 2, 1] aNil (aCons (iN opTup (aCons (iC (.int 0)) aNil)) (aCons (iVar 2) aNil)))
def J6 : IE := (iNewP "Ratio" p_Ratio___init__ 2 0 [0, 1, 2] (aCons (iN opTup (aCons (iC (.int 2)) (aCons (iC (.int 3)) aNil))) (aCons (iN opTup (aCons (iC (.int 0)) (aCons (iC (.int 0)) aNil))) aNil)) aNil)
def J7 : IE := (iNewP "Ratio" p_Ratio___init__ 2 0 [0, 1, 2] (aCons (iN opTup (aCons (iC (.int 0)) aNil)) (aCons (iBin opMulZ (iN opTup (aCons (iC (.int 0)) aNil)) (iBin opAdd (iC (.int 1)) (iCall k06__law_dip [] (aCons (iVar 0) (aCons (iC (.int 4)) aNil))))) aNil)) aNil)
section
variable {g r : Nat} {a b : D} {t5 t6 t7 t8 : Option D} {x y : Str} {s : Sto}
theorem td_3 (p : Pool s g) (h : Odd a x) : Td J3 (EV g r a b t5 t6 t7 t8) (.lst [.str "count", .str x]) g s := by
  refine td_exc (C := "InvalidCount") (fs := [("value", a)]) (s1 := s ++ [.ins "Ratio" []]) ?_ (told_c (h.rpr _)) kp_push (pool_push p)
  have e := newP_exc (perm := [0, 1, 2]) (ds := [a, b]) (zs := []) (s := s) rfl rfl (init_no1 (n := s.length) (bot := b) (h.row (s ++ [.ins "Ratio" []])))
  simp [J3, iNewP]
  exact e
theorem td_4 (p : Pool s g) (h : Odd b x) : Td J4 (EV g r a b t5 t6 t7 t8) (.lst [.str "count", .str x]) g s := by
  refine td_exc (C := "InvalidCount") (fs := [("value", b)]) (s1 := s ++ [.ins "Ratio" []]) ?_ (told_c (h.rpr _)) kp_push (pool_push p)
  have e := newP_exc (perm := [0, 1, 2]) (ds := [.tup [.int 1], b]) (zs := []) (s := s) rfl rfl (init_no2 (n := s.length) (by kernel_rfl) (h.row (s ++ [.ins "Ratio" []])))
  simp [J4, iNewP]
  exact e
theorem td_5 (p : Pool s g) (h : Odd a x) : Td J5 (EV g r a b t5 t6 t7 t8) (.lst [.str "count", .str x]) g s := by
  refine td_exc (C := "InvalidCount") (fs := [("value", a)]) (s1 := s ++ [.ins "Ratio" []]) ?_ (told_c (h.rpr _)) kp_push (pool_push p)
  have e := newP_exc (perm := [0, 2, 1]) (ds := []) (zs := [.tup [.int 0], a]) (s := s) rfl rfl (init_no1 (n := s.length) (bot := .tup [.int 0]) (h.row (s ++ [.ins "Ratio" []])))
  simp [J5, iNewP]
  exact e
theorem td_6 (p : Pool s g) : Td J6 (EV g r a b t5 t6 t7 t8) (.lst [.str "zero", .str ""]) g s := by
  refine td_exc (C := "ZeroBelow") (fs := []) (s1 := s ++ [.ins "Ratio" []]) ?_ (told_z _) kp_push (pool_push p)
  have e := newP_exc (perm := [0, 1, 2]) (ds := [.tup [.int 2, .int 3], .tup [.int 0, .int 0]]) (zs := []) (s := s) rfl rfl (init_z (n := s.length) (by kernel_rfl) (by kernel_rfl) (by kernel_rfl))
  simp [J6, iNewP]
  exact e
theorem zs_is : ∀ k : Nat, k < 4 → ∀ s, opMulZ (.tup [.int 0]) (.int (1 + (k : Int))) s = some (.tup (List.replicate (k + 1) (.int 0)), s) ∧ p_is_row [.tup (List.replicate (k + 1) (.int 0))] s = .ok (.bl true) s ∧ p_trimmed [.tup (List.replicate (k + 1) (.int 0))] s = .ok z0 s := fun k hk s => by
  have : k = 0 ∨ k = 1 ∨ k = 2 ∨ k = 3 := by omega
  rcases this with rfl | rfl | rfl | rfl <;> exact ⟨by kernel_rfl, by kernel_rfl, by kernel_rfl⟩
theorem td_7 (p : Pool s g) : Td J7 (EV g r a b t5 t6 t7 t8) (.lst [.str "zero", .str ""]) g s := by
  obtain ⟨d, s1, e1, d0, d1, p1, k1, l1⟩ := dip_ok (many := 4) p (by decide) (by decide)
  obtain ⟨k, rfl⟩ : ∃ k : Nat, d = (k : Int) := ⟨d.toNat, by omega⟩
  have hk : k < 4 := by omega
  obtain ⟨z1, _, _⟩ := zs_is k hk s1
  obtain ⟨_, z2, z3⟩ := zs_is k hk (s1 ++ [.ins "Ratio" []])
  refine td_exc (C := "ZeroBelow") (fs := []) (s1 := s1 ++ [.ins "Ratio" []]) ?_ (told_z _) (k1.trans kp_push) (pool_push p1)
  have e := newP_exc (perm := [0, 1, 2]) (ds := [.tup [.int 0], .tup (List.replicate (k + 1) (.int 0))]) (zs := []) (s := s1) rfl rfl (init_z (n := s1.length) (by kernel_rfl) z2 z3)
  have ad : ∀ s, opAdd (.int 1) (.int (k : Int)) s = some (.int (1 + (k : Int)), s) := fun s => rfl
  simp [J7, iNewP, e1, ad, z1]
  exact e
end
end M
/-! RB4: signs, over, powers, numbers, distances, reading. -/
namespace M
open PySem PySem.W Builtin Builtin.Str
abbrev o1 : D := .tup [.int 1]
abbrev insR (a b : D) : O := .ins "Ratio" (fsR a b)
section
variable {s : Sto} {r : Nat} {A B : D}
theorem ins_at (h : s[r]? = some (insR A B)) : insD s (.ref r) = some ((("Ratio" : Str), fsR A B) : Str × List (Str × D)) := by simp [insD, h]
theorem get_top (h : s[r]? = some (insR A B)) : opGet ["Ratio"] "top" (.ref r) s = some (A, s) := by simp [opGet, ins_at h]
theorem get_bot (h : s[r]? = some (insR A B)) : opGet ["Ratio"] "bottom" (.ref r) s = some (B, s) := by
  have e : ("bottom" : Str) ≠ ("top" : Str) := by decide
  have e2 : (("bottom" : Str) == ("top" : Str)) = false := by decide
  simp [opGet, ins_at h, List.lookup, e2]
theorem push_self (o : O) : (s ++ [o])[s.length]? = some o := by simp
theorem push_at {o o' : O} (h : s[r]? = some o) : (s ++ [o'])[r]? = some o := by rw [List.getElem?_append_left (List.getElem?_eq_some_iff.mp h).1]; exact h
/-! ### ratio_of -/
theorem mk_z : Mkr z0 o1 z0 o1 z0 o1 := ⟨fun s => by kernel_rfl, fun s => by kernel_rfl, fun s => by kernel_rfl, fun s => by kernel_rfl, fun s => by kernel_rfl, fun s => by kernel_rfl⟩
theorem new_ok {top bot t' b' A B : D} (h : Mkr top bot t' b' A B) (s : Sto) : opNewP "Ratio" p_Ratio___init__ 2 0 [0, 1, 2] [top, bot] [] s = .ok (.ref s.length) (s ++ [insR A B]) :=
  newP_ok (perm := [0, 1, 2]) (ds := [top, bot]) (zs := []) rfl rfl (init_ok h s)
theorem of_zero (s : Sto) : p_ratio_of [.int 0] s = .ok (.ref s.length) (s ++ [insR z0 o1]) := by
  have e1 : opIsiI ["Ratio"] [] (isaT tl_Ratio) [.int 0, .glo "Ratio"] s = some (.bl false, s) := by kernel_rfl
  have e2 : p_is_whole [.int 0] s = .ok (.bl true) s := by kernel_rfl
  have e3 := new_ok mk_z s
  simp [p_ratio_of, B_p_ratio_of, e1, e2, truD, iNewP, e3]
theorem of_self (h : s[r]? = some (insR A B)) : p_ratio_of [.ref r] s = .ok (.ref r) s := by
  have e1 : opIsiI ["Ratio"] [] (isaT tl_Ratio) [.ref r, .glo "Ratio"] s = some (.bl true, s) := by
    have : clsD (.glo "Ratio") = some (.own "Ratio") := rfl
    have t : isaT tl_Ratio (.own "Ratio") (.own "Ratio") = some true := by kernel_rfl
    simp [opIsiI, ins_at h, this, t]
  simp [p_ratio_of, B_p_ratio_of, e1, truD]
theorem over_zero {v : D} {k : Nat} {s1 : Sto} (h : p_ratio_of [v] s = .ok (.ref k) s1) (hk : s1[k]? = some (insR z0 B)) : p_Ratio_over [.ref r, v] s = .exc "ZeroBelow" [] s1 := by
  have e : opEq false z0 z0 s1 = some (.bl true, s1) := by kernel_rfl
  simp [p_Ratio_over, B_p_Ratio_over, h, get_top hk, e, truD, sRaise0]
  rfl
theorem m_over (h : s[r]? = some (insR A B)) : kM0 "Ratio" "over" s (.ref r) = true := by
  have e : (fsR A B).lookup ("over" : Str) = none := by kernel_rfl
  simp [kM0, ins_at h, e]
theorem m_later (h : s[r]? = some (insR A B)) : kM0 "Ratio" "later" s (.ref r) = true := by
  have e : (fsR A B).lookup ("later" : Str) = none := by kernel_rfl
  simp [kM0, ins_at h, e]
end
/-! ### ratio - ratio -/
abbrev abN (t e : Nat) : D := .tup [.int ((t : Int) * (1 + (e : Int))), .int (1 + (e : Int)), .int (t : Int), .int 1]
abbrev bbN (e : Nat) : D := .tup [.int ((1 + (e : Int)) * (1 + (e : Int))), .int 0, .int (2 * (1 + (e : Int))), .int 0, .int 1]
theorem ab_is : ∀ t, t < 9 → ∀ e, e < 5 → ∀ s, p_row_product [tA t, bA e] s = .ok (abN t e) s := by
  refine nine ⟨?_, ?_, ?_, ?_, ?_, ?_, ?_, ?_, ?_⟩ <;> refine five ⟨?_, ?_, ?_, ?_, ?_⟩ <;> (intro s; kernel_rfl)
theorem bb_is : ∀ e, e < 5 → ∀ s, p_row_product [bA e, bA e] s = .ok (bbN e) s := by
  refine five ⟨?_, ?_, ?_, ?_, ?_⟩ <;> (intro s; kernel_rfl)
theorem dif_is : ∀ t, t < 9 → ∀ e, e < 5 → ∀ s, p_row_sum [abN t e, abN t e, .int (-1)] s = .ok z0 s := by
  refine nine ⟨?_, ?_, ?_, ?_, ?_, ?_, ?_, ?_, ?_⟩ <;> refine five ⟨?_, ?_, ?_, ?_, ?_⟩ <;> (intro s; kernel_rfl)
theorem mk_d : ∀ e, e < 5 → Mkr z0 (bbN e) z0 (bbN e) z0 o1 := by
  refine five ⟨?_, ?_, ?_, ?_, ?_⟩ <;> exact ⟨fun s => by kernel_rfl, fun s => by kernel_rfl, fun s => by kernel_rfl, fun s => by kernel_rfl, fun s => by kernel_rfl, fun s => by kernel_rfl⟩
section
variable {s : Sto} {r t e : Nat}
theorem sub_is (ht : t < 9) (he : e < 5) (h : s[r]? = some (insR (tA t) (bA e))) : p_Ratio___sub__ [.ref r, .ref r] s = .ok (.ref s.length) (s ++ [insR z0 o1]) := by
  have e1 := of_self h
  have e2 := ab_is t ht e he s
  have e3 := bb_is e he s
  have e4 := dif_is t ht e he s
  have e5 := new_ok (mk_d e he) s
  have e6 : opNeg (.int 1) s = some (.int (-1), s) := rfl
  simp [p_Ratio___sub__, B_p_Ratio___sub__, e1, get_top h, get_bot h, e2, e3, e4, e6, iNewP, e5]
end
def J9 : IE := (iBinL "Ratio" ["int"] p_Ratio___pow__ (iVar 4) (iC (.int 7)))
def J10 : IE := (iBinL "Ratio" ["int"] p_Ratio___pow__ (iVar 4) (iC (.int 64)))
def J11 : IE := (iMeth "Ratio" "over" p_Ratio_over (iVar 4) (aCons (iC (.int 0)) aNil))
def J12 : IE := (iMeth "Ratio" "over" p_Ratio_over (iVar 4) (aCons (iBinL "Ratio" ["str", "tuple", "list", "NoneType", "bool", "dict"] p_Ratio___sub__ (iVar 4) (iVar 4)) aNil))
def J15 : IE := (iCallO "Ratio" p_Ratio___call__ (iVar 4) (aCons (iVar 7) aNil))
def J16 : IE := (iMeth "Ratio" "later" p_Ratio_later (iVar 4) (aCons (iVar 7) aNil))
def J17 : IE := (iMeth "Ratio" "later" p_Ratio_later (iVar 4) (aCons (iC (.int 21)) aNil))
def J18 : IE := (iMethK "Ratio" "later" p_Ratio_later 1 [0, 1] (iVar 4) (aCons (iUn opNeg (iC (.int 1))) aNil))
def J19 : IE := (iCall p_Ratio_read [] (aCons (iVar 7) aNil))
section
variable {g r t e : Nat} {a b w : D} {t5 t6 t7 t8 : Option D} {s : Sto}
theorem td_9 (p : Pool s g) (h : s[r]? = some (insR (tA t) (bA e))) : Td J9 (EV g r a b t5 t6 t7 t8) (.lst [.str "count", .str "7"]) g s := by
  refine td_exc (C := "InvalidCount") (fs := [("value", .int 7)]) (s1 := s) ?_ (told_c (by kernel_rfl)) (Kp.refl _ _) p
  have e1 : p_Ratio___pow__ [.ref r, .int 7] s = .exc "InvalidCount" [("value", .int 7)] s := by kernel_rfl
  have e2 : okR "Ratio" ["int"] s (.int 7) = true := by kernel_rfl
  simp [J9, iBinL, kBinL, ins_at h, e1, e2]
theorem td_10 (p : Pool s g) (h : s[r]? = some (insR (tA t) (bA e))) : Td J10 (EV g r a b t5 t6 t7 t8) (.lst [.str "count", .str "64"]) g s := by
  refine td_exc (C := "InvalidCount") (fs := [("value", .int 64)]) (s1 := s) ?_ (told_c (by kernel_rfl)) (Kp.refl _ _) p
  have e1 : p_Ratio___pow__ [.ref r, .int 64] s = .exc "InvalidCount" [("value", .int 64)] s := by kernel_rfl
  have e2 : okR "Ratio" ["int"] s (.int 64) = true := by kernel_rfl
  simp [J10, iBinL, kBinL, ins_at h, e1, e2]
theorem td_11 (p : Pool s g) (h : s[r]? = some (insR (tA t) (bA e))) : Td J11 (EV g r a b t5 t6 t7 t8) (.lst [.str "zero", .str ""]) g s := by
  refine td_exc (C := "ZeroBelow") (fs := []) (s1 := s ++ [insR z0 o1]) ?_ (told_z _) kp_push (pool_push p)
  have e1 := over_zero (r := r) (of_zero s) (push_self (s := s) (insR z0 o1))
  simp [J11, iMeth, m_over h, e1]
theorem td_12 (ht : t < 9) (he : e < 5) (p : Pool s g) (h : s[r]? = some (insR (tA t) (bA e))) : Td J12 (EV g r a b t5 t6 t7 t8) (.lst [.str "zero", .str ""]) g s := by
  refine td_exc (C := "ZeroBelow") (fs := []) (s1 := s ++ [insR z0 o1]) ?_ (told_z _) kp_push (pool_push p)
  have e0 := sub_is ht he h
  have e1 := over_zero (r := r) (of_self (push_self (s := s) (insR z0 o1))) (push_self (s := s) (insR z0 o1))
  have e2 : okR "Ratio" ["str", "tuple", "list", "NoneType", "bool", "dict"] s (.ref r) = true := by simp [okR, ins_at h]
  simp [J12, iMeth, m_over h, iBinL, kBinL, ins_at h, e0, e1, e2]
theorem td_17 (p : Pool s g) (h : s[r]? = some (insR (tA t) (bA e))) : Td J17 (EV g r a b t5 t6 t7 t8) (.lst [.str "count", .str "21"]) g s := by
  refine td_exc (C := "InvalidCount") (fs := [("value", .int 21)]) (s1 := s) ?_ (told_c (by kernel_rfl)) (Kp.refl _ _) p
  have e1 : p_Ratio_later [.ref r, .int 21] s = .exc "InvalidCount" [("value", .int 21)] s := by kernel_rfl
  simp [J17, iMeth, m_later h, e1]
theorem td_18 (p : Pool s g) (h : s[r]? = some (insR (tA t) (bA e))) : Td J18 (EV g r a b t5 t6 t7 t8) (.lst [.str "count", .str "-1"]) g s := by
  refine td_exc (C := "InvalidCount") (fs := [("value", .int (-1))]) (s1 := s) ?_ (told_c (by kernel_rfl)) (Kp.refl _ _) p
  have e1 : p_Ratio_later (gPick [0, 1] ([.ref r] ++ ([] ++ [.int (-1)]))) s = .exc "InvalidCount" [("value", .int (-1))] s := by kernel_rfl
  have e2 : opNeg (.int 1) s = some (.int (-1), s) := rfl
  simp [J18, iMethK, m_later h, e2, kPick]
  exact e1
end
end M
/-! RB5: a ratio shown; the values that are no numbers. -/
namespace M
open PySem PySem.W Builtin Builtin.Str
def txO : R D → Str
  | .ok (.str x) _ => x
  | _ => Str.empty
def tX (t : Nat) : Str := txO (p_row_text [tA t] [])
def bX (e : Nat) : Str := txO (p_row_text [bA e] [])
theorem tx_is : ∀ t, t < 9 → (∀ s, p_row_text [tA t] s = .ok (.str (tX t)) s) ∧ (tX t).length ≤ 20 := nine ⟨⟨fun s => by kernel_rfl, by decide +kernel⟩, ⟨fun s => by kernel_rfl, by decide +kernel⟩, ⟨fun s => by kernel_rfl, by decide +kernel⟩, ⟨fun s => by kernel_rfl, by decide +kernel⟩, ⟨fun s => by kernel_rfl, by decide +kernel⟩, ⟨fun s => by kernel_rfl, by decide +kernel⟩, ⟨fun s => by kernel_rfl, by decide +kernel⟩, ⟨fun s => by kernel_rfl, by decide +kernel⟩, ⟨fun s => by kernel_rfl, by decide +kernel⟩⟩
theorem bx_is : ∀ e, e < 5 → (∀ s, p_row_text [bA e] s = .ok (.str (bX e)) s) ∧ (bX e).length ≤ 20 := five ⟨⟨fun s => by kernel_rfl, by decide +kernel⟩, ⟨fun s => by kernel_rfl, by decide +kernel⟩, ⟨fun s => by kernel_rfl, by decide +kernel⟩, ⟨fun s => by kernel_rfl, by decide +kernel⟩, ⟨fun s => by kernel_rfl, by decide +kernel⟩⟩
theorem bo_is : ∀ e, e < 5 → ∀ s, opEq false (bA e) o1 s = some (.bl false, s) := five ⟨fun s => by kernel_rfl, fun s => by kernel_rfl, fun s => by kernel_rfl, fun s => by kernel_rfl, fun s => by kernel_rfl⟩
theorem tx_ok : ∀ t, t < 9 → PyData.strOk (tX t) = true := nine ⟨by kernel_rfl, by kernel_rfl, by kernel_rfl, by kernel_rfl, by kernel_rfl, by kernel_rfl, by kernel_rfl, by kernel_rfl, by kernel_rfl⟩
theorem bx_ok : ∀ e, e < 5 → PyData.strOk (bX e) = true := five ⟨by kernel_rfl, by kernel_rfl, by kernel_rfl, by kernel_rfl, by kernel_rfl⟩
def sX (t e : Nat) : Str := ((((Str.empty ++ ("(" : Str)) ++ tX t) ++ (")/(" : Str)) ++ bX e) ++ (")" : Str)
def rX (t e : Nat) : Str := ((Str.empty ++ ("Ratio(" : Str)) ++ sX t e) ++ (")" : Str)
theorem l_app (a b : Str) : (a ++ b).length = a.length + b.length := by
  show (a.cps ++ b.cps).size = _
  rw [Array.size_append]
  rfl
theorem sX_len {t e : Nat} (ht : t < 9) (he : e < 5) : (sX t e).length ≤ 60 := by
  have h1 := (tx_is t ht).2
  have h2 := (bx_is e he).2
  have c1 : (Str.empty).length = 0 := rfl
  have c2 : ("(" : Str).length = 1 := by decide
  have c3 : (")/(" : Str).length = 3 := by decide
  have c4 : (")" : Str).length = 1 := by decide
  unfold sX
  simp only [l_app, c1, c2, c3, c4]
  omega
theorem rX_len {t e : Nat} (ht : t < 9) (he : e < 5) : (rX t e).length ≤ 100 := by
  have h := sX_len ht he
  have c1 : (Str.empty).length = 0 := rfl
  have c2 : ("Ratio(" : Str).length = 6 := by decide
  have c4 : (")" : Str).length = 1 := by decide
  unfold rX
  simp only [l_app, c1, c2, c4]
  omega
theorem rX_ok {t e : Nat} (ht : t < 9) (he : e < 5) : PyData.strOk (rX t e) = true := by
  have c1 : PyData.strOk Str.empty = true := by kernel_rfl
  unfold rX sX
  simp only [strOk_append, strOk_of, tx_ok t ht, bx_ok e he, c1, Bool.and_self]
section
variable {s : Sto} {r t e : Nat}
theorem js_ok {acc y : Str} {k : Str → Env → Sto → R D} {env : Env} (h : acc.length + y.length ≤ 1000) : kJs acc k (.str y) env s = k (acc ++ y) env s := by
  have : (acc ++ y).length ≤ sizeLine := by rw [l_app]; exact Nat.le_trans h (Nat.le_trans (by decide) sizeLine_big)
  unfold kJs
  simp only [if_pos this]
theorem fmt_s {y : Str} (h : y.length ≤ 1000) : opFmt (.str y) s = some (.str y, s) := by
  have : y.length ≤ sizeLine := Nat.le_trans h (Nat.le_trans (by decide) sizeLine_big)
  unfold opFmt
  simp only [if_pos this]
theorem str_is (ht : t < 9) (he : e < 5) (h : s[r]? = some (insR (tA t) (bA e))) : p_Ratio___str__ [.ref r] s = .ok (.str (sX t e)) s := by
  obtain ⟨e1, l1⟩ := tx_is t ht
  obtain ⟨e2, l2⟩ := bx_is e he
  have c1 : (Str.empty).length = 0 := rfl
  have c2 : ("(" : Str).length = 1 := by decide
  have c3 : (")/(" : Str).length = 3 := by decide
  have c4 : (")" : Str).length = 1 := by decide
  have f1 := fmt_s (s := s) (y := tX t) (by omega)
  have f2 := fmt_s (s := s) (y := bX e) (by omega)
  simp [p_Ratio___str__, B_p_Ratio___str__, get_bot h, bo_is e he, get_top h, e1, e2, f1, f2]
  rw [js_ok (by rw [c1, c2]; decide)]
  simp [get_top h, e1, f1]
  rw [js_ok (by simp only [l_app, c1, c2]; omega)]
  simp
  rw [js_ok (by simp only [l_app, c1, c2, c3]; omega)]
  simp [get_bot h, e2, f2]
  rw [js_ok (by simp only [l_app, c1, c2, c3]; omega)]
  simp
  rw [js_ok (by simp only [l_app, c1, c2, c3, c4]; omega)]
  simp [sX]
theorem repr_is (ht : t < 9) (he : e < 5) (h : s[r]? = some (insR (tA t) (bA e))) : p_Ratio___repr__ [.ref r] s = .ok (.str (rX t e)) s := by
  have l := sX_len ht he
  have c1 : (Str.empty).length = 0 := rfl
  have c2 : ("Ratio(" : Str).length = 6 := by decide
  have c4 : (")" : Str).length = 1 := by decide
  have f : opFmtI "Ratio" p_Ratio___str__ (.ref r) s = some (.str (sX t e), s) := by simp [opFmtI, ins_at h, str_is ht he h, optR, strR]
  simp [p_Ratio___repr__, B_p_Ratio___repr__]
  rw [js_ok (by rw [c1, c2]; decide)]
  simp [f]
  rw [js_ok (by simp only [l_app, c1, c2]; omega)]
  simp
  rw [js_ok (by simp only [l_app, c1, c2, c4]; omega)]
  simp [rX]
theorem rpr_ref (ht : t < 9) (he : e < 5) (h : s[r]? = some (insR (tA t) (bA e))) : opReprM csR [.ref r] s = some (.str (rX t e), s) := by
  simp [opReprM, ins_at h, List.lookup, repr_is ht he h, optR, strR]
theorem rpr_lst (ht : t < 9) (he : e < 5) (h : s[r]? = some (insR (tA t) (bA e))) : opReprM csR [.lst [.ref r]] s = some (.str (listText [rX t e]), s) := by
  have l := rX_len ht he
  have e1 : insD s (.lst [.ref r]) = none := rfl
  have l2 : (rX t e).length ≤ 1000000 := by omega
  simp [opReprM, e1, ins_at h, List.lookup, opReprO, repr_is ht he h, optR, kOne, l2]
end
end M
/-! RB6: the values that are no numbers: asked for a value, a distance, a text. -/
namespace M
open PySem PySem.W Builtin Builtin.Str
abbrev tyR : List String := ["str", "tuple", "list", "NoneType", "int", "bool", "dict"]
def wrongs (r : Nat) : List D := [.bl true, .non, .str "3", .tup [.int 3], .ref r]
/-- such a value, told as x -/
structure Wr (w : D) (x : Str) (r t e : Nat) : Prop where
  nw : ∀ s, s[r]? = some (insR (tA t) (bA e)) → p_is_whole [w] s = .ok (.bl false) s
  rp : ∀ s, s[r]? = some (insR (tA t) (bA e)) → opReprM csR [w] s = some (.str x, s)
  ok : PyData.strOk x = true
  tx : (w = .str "3" ∧ x = "'3'") ∨ ((∀ s, s[r]? = some (insR (tA t) (bA e)) → opIsiI ["Ratio"] [] (isaT tl_str) [w, .ty "str"] s = some (.bl false, s)) ∧ ∀ s, s[r]? = some (insR (tA t) (bA e)) → opEqI "Ratio" tyR p_Ratio___eq__ true w (.str "3") s = some (.bl true, s))
section
variable {g r t e : Nat} {a b w : D} {t5 t6 t7 t8 : Option D} {s : Sto} {x : Str}
theorem isi_ref {u : D} {tb : Tg → Tg → Option Bool} {c : Tg} (h : s[r]? = some (insR (tA t) (bA e))) (hc : clsD u = some c) {k : Bool} (ht : tb (.own "Ratio") c = some k) : opIsiI ["Ratio"] [] tb [.ref r, u] s = some (.bl k, s) := by
  simp [opIsiI, ins_at h, hc, ht]
theorem whole_ref (h : s[r]? = some (insR (tA t) (bA e))) : p_is_whole [.ref r] s = .ok (.bl false) s := by
  have e1 : opIsiI ["Ratio"] [] (isaT tl_int) [.ref r, .ty "int"] s = some (.bl false, s) := isi_ref h (c := .ty "int") rfl (by kernel_rfl)
  simp [p_is_whole, B_p_is_whole, e1, truD]
theorem ne_ref (h : s[r]? = some (insR (tA t) (bA e))) : opEqI "Ratio" tyR p_Ratio___eq__ true (.ref r) (.str "3") s = some (.bl true, s) := by
  have e0 : okR "Ratio" tyR s (.str "3") = true := by kernel_rfl
  have e1 : p_Ratio___eq__ [.ref r, .str "3"] s = .ok (.bl false) s := by kernel_rfl
  simp [opEqI, ins_at h, e0, e1, optR, kNe]
theorem wrong_is (ht : t < 9) (he : e < 5) (h : w ∈ wrongs r) : ∃ x, Wr w x r t e := by
  simp only [wrongs, List.mem_cons, List.not_mem_nil, or_false] at h
  rcases h with rfl | rfl | rfl | rfl | rfl
  · exact ⟨"True", fun s _ => by kernel_rfl, fun s _ => by kernel_rfl, by kernel_rfl, .inr ⟨fun s _ => by kernel_rfl, fun s _ => by kernel_rfl⟩⟩
  · exact ⟨"None", fun s _ => by kernel_rfl, fun s _ => by kernel_rfl, by kernel_rfl, .inr ⟨fun s _ => by kernel_rfl, fun s _ => by kernel_rfl⟩⟩
  · exact ⟨"'3'", fun s _ => by kernel_rfl, fun s _ => by kernel_rfl, by kernel_rfl, .inl ⟨rfl, rfl⟩⟩
  · exact ⟨"(3,)", fun s _ => by kernel_rfl, fun s _ => by kernel_rfl, by kernel_rfl, .inr ⟨fun s _ => by kernel_rfl, fun s _ => by kernel_rfl⟩⟩
  · exact ⟨rX t e, fun s hs => whole_ref hs, fun s hs => rpr_ref ht he hs, rX_ok ht he, .inr ⟨fun s hs => isi_ref hs (c := .ty "str") rfl (by kernel_rfl), fun s hs => ne_ref hs⟩⟩
theorem td_15 (p : Pool s g) (h : s[r]? = some (insR (tA t) (bA e))) (W : Wr w x r t e) : Td J15 (EV g r a b t5 t6 (some w) t8) (.lst [.str "count", .str x]) g s := by
  refine td_exc (C := "InvalidCount") (fs := [("value", w)]) (s1 := s) ?_ (told_c (W.rp _ h)) (Kp.refl _ _) p
  have e1 : p_Ratio___call__ [.ref r, w] s = .exc "InvalidCount" [("value", w)] s := by
    simp [p_Ratio___call__, B_p_Ratio___call__, W.nw s h, truD, sRaise, gCat]
    rfl
  simp [J15, iCallO, kCallO, ins_at h, e1]
theorem td_16 (p : Pool s g) (h : s[r]? = some (insR (tA t) (bA e))) (W : Wr w x r t e) : Td J16 (EV g r a b t5 t6 (some w) t8) (.lst [.str "count", .str x]) g s := by
  refine td_exc (C := "InvalidCount") (fs := [("value", w)]) (s1 := s) ?_ (told_c (W.rp _ h)) (Kp.refl _ _) p
  have e1 : p_Ratio_later [.ref r, w] s = .exc "InvalidCount" [("value", w)] s := by
    simp [p_Ratio_later, B_p_Ratio_later, W.nw s h, truD, sRaise, gCat]
    rfl
  simp [J16, iMeth, m_later h, e1]
theorem mk_3 : Mkr (.tup [.int 3]) o1 (.tup [.int 3]) o1 (.tup [.int 3]) o1 := ⟨fun s => by kernel_rfl, fun s => by kernel_rfl, fun s => by kernel_rfl, fun s => by kernel_rfl, fun s => by kernel_rfl, fun s => by kernel_rfl⟩
theorem in_3 (s : Sto) : p_ratio_in [.str "3"] s = .ok (.ref s.length) (s ++ [insR (.tup [.int 3]) o1]) := by
  have e1 : p_row_in [.str "3"] s = .ok (.tup [.int 3]) s := by kernel_rfl
  have e2 : p_row_in [.str "1"] s = .ok o1 s := by kernel_rfl
  have e3 : opStarts (.str "3") (.str "(") s = some (.bl false, s) := by kernel_rfl
  have e4 : opEq false o1 z0 s = some (.bl false, s) := by kernel_rfl
  have e5 := new_ok mk_3 s
  simp [p_ratio_in, B_p_ratio_in, e1, e2, e3, e4, opIs, D.isNon, truD, iNewP, e5]
theorem str_3 {k : Nat} (h : s[k]? = some (insR (.tup [.int 3]) o1)) : p_Ratio___str__ [.ref k] s = .ok (.str "3") s := by
  have e1 : opEq false o1 o1 s = some (.bl true, s) := by kernel_rfl
  have e2 : p_row_text [.tup [.int 3]] s = .ok (.str "3") s := by kernel_rfl
  have e3 : opFmt (.str "3") s = some (.str "3", s) := by kernel_rfl
  simp [p_Ratio___str__, B_p_Ratio___str__, get_bot h, get_top h, e1, e2, e3]
theorem read_3 (s : Sto) : p_Ratio_read [.str "3"] s = .ok (.ref s.length) (s ++ [insR (.tup [.int 3]) o1]) := by
  have e1 : opIsiI ["Ratio"] [] (isaT tl_str) [.str "3", .ty "str"] s = some (.bl true, s) := by kernel_rfl
  have e2 := in_3 s
  have q := push_self (s := s) (insR (.tup [.int 3]) o1)
  have e3 := str_3 q
  have e4 : opStrI "Ratio" p_Ratio___str__ [.ref s.length] (s ++ [insR (.tup [.int 3]) o1]) = some (.str "3", s ++ [insR (.tup [.int 3]) o1]) := by simp [opStrI, ins_at q, e3, optR, strR]
  have e5 : opEq true (.str "3") (.str "3") (s ++ [insR (.tup [.int 3]) o1]) = some (.bl false, s ++ [insR (.tup [.int 3]) o1]) := by kernel_rfl
  simp [p_Ratio_read, B_p_Ratio_read, e1, e2, opIs, D.isNon, e4, e5, truD]
theorem td_19 (p : Pool s g) (h : s[r]? = some (insR (tA t) (bA e))) (W : Wr w x r t e) : (w = .str "3" ∧ Td J19 (EV g r a b t5 t6 (some w) t8) (.lst [.str "given", .str ""]) g s) ∨ ((∀ s, s[r]? = some (insR (tA t) (bA e)) → opEqI "Ratio" tyR p_Ratio___eq__ true w (.str "3") s = some (.bl true, s)) ∧ Td J19 (EV g r a b t5 t6 (some w) t8) (.lst [.str "text", .str x]) g s) := by
  rcases W.tx with ⟨rfl, _⟩ | ⟨h1, h2⟩
  · refine .inl ⟨rfl, s ++ [insR (.tup [.int 3]) o1], ?_, kp_push, pool_push p⟩
    have e1 := read_3 s
    have e2 : J19 (EV g r a b t5 t6 (some (.str "3")) t8) s = .ok (.ref s.length) (s ++ [insR (.tup [.int 3]) o1]) := by simp [J19, e1]
    rw [e2, told_g]
  · refine .inr ⟨h2, td_exc (C := "InvalidText") (fs := [("value", w)]) (s1 := s) ?_ (told_t (W.rp _ h)) (Kp.refl _ _) p⟩
    have e1 : p_Ratio_read [w] s = .exc "InvalidText" [("value", w)] s := by
      simp [p_Ratio_read, B_p_Ratio_read, h1 s h, opIs, D.isNon, truD, sRaise, gCat]
      rfl
    simp [J19, e1]
end
end M
/-! RB7: what was told compared; the signs refused. -/
namespace M
open PySem PySem.W Builtin Builtin.Str
abbrev dW (p : Str × Str) : D := .lst [.str p.1, .str p.2]
abbrev pW (p : Str × Str) : PyData := .list [.str p.1, .str p.2]
def okWs (l : List (Str × Str)) : Prop := ∀ p ∈ l, PyData.strOk p.1 = true ∧ PyData.strOk p.2 = true
theorem toP_w {p : Str × Str} (h1 : PyData.strOk p.1 = true) (h2 : PyData.strOk p.2 = true) (st : Sto) (n : Nat) : toP st (n + 2) (dW p) = some (pW p) := by
  have a1 : toP st (n + 1) (.str p.1) = some (.str p.1) := if_pos h1
  have a2 : toP st (n + 1) (.str p.2) = some (.str p.2) := if_pos h2
  show (allP (toP st (n + 1)) [.str p.1, .str p.2]).map PyData.list = _
  simp only [allP, a1, a2]
  rfl
theorem toP_ws (st : Sto) (n : Nat) : ∀ {l : List (Str × Str)}, okWs l → allP (toP st (n + 2)) (l.map dW) = some (l.map pW)
  | [], _ => rfl
  | p :: l, h => by
    have ih := toP_ws st n (l := l) fun q m => h q (List.mem_cons_of_mem _ m)
    have e := toP_w (h p List.mem_cons_self).1 (h p List.mem_cons_self).2 st n
    simp only [List.map_cons, allP, e, ih]
theorem eqv_ws : ∀ l : List (Str × Str), PyData.eqvAll (l.map pW) (l.map pW) = true
  | [] => rfl
  | p :: l => by
    have ih := eqv_ws l
    simp only [List.map_cons]
    simp [PyData.eqvAll, PyData.eqv, ih]
/-- a list of words, in the store or not -/
def LsW (a : D) (l : List (Str × Str)) (st : Sto) : Prop := (∃ k, a = .ref k ∧ lstAt st k = some (l.map dW)) ∨ a = .lst (l.map dW)
theorem LsW.toP {a : D} {l : List (Str × Str)} {st : Sto} (h : LsW a l st) (ok : okWs l) : M.toP st 64 a = some (.list (l.map pW)) := by
  have t := toP_ws st 61 ok
  rcases h with ⟨k, rfl, h⟩ | rfl
  · show (match lstAt st k with
      | some xs => (allP (M.toP st 63) xs).map PyData.list
      | none => none) = _
    rw [h]
    show (allP (M.toP st 63) (l.map dW)).map PyData.list = _
    rw [t]; rfl
  · show (allP (M.toP st 63) (l.map dW)).map PyData.list = _
    rw [t]; rfl
theorem same_ws {a b : D} {l : List (Str × Str)} {st : Sto} (ha : LsW a l st) (hb : LsW b l st) (ok : okWs l) (neg : Bool) : opEq neg a b st = some (.bl (!neg), st) := by
  have e1 := ha.toP ok
  have e2 := hb.toP ok
  have na : ∀ x, a ≠ .str x := fun x z => by
    subst z
    rcases ha with ⟨k, z, _⟩ | z <;> cases z
  unfold opEq
  split
  · exact absurd rfl (na _)
  · rw [e1, e2]
    have v : PyData.eqv (.list (l.map pW)) (.list (l.map pW)) = true := by
      show PyData.eqvAll _ _ = true
      exact eqv_ws l
    simp only [v]
    cases neg <;> rfl
/-! ### the signs -/
def vals (r : Nat) : List D := [.bl true, .non, .str "n", .tup [.int 1, .int 2], .lst [.ref r], .dct [] []]
structure Sg (v : D) (x : Str) (r t e : Nat) : Prop where
  of : ∀ s, s[r]? = some (insR (tA t) (bA e)) → p_ratio_of [v] s = .exc "NotARatio" [("value", v)] s
  rp : ∀ s, s[r]? = some (insR (tA t) (bA e)) → opReprM csR [v] s = some (.str x, s)
  ok : PyData.strOk x = true
  l : ∀ s, s[r]? = some (insR (tA t) (bA e)) → okR "Ratio" ["str", "tuple", "list", "NoneType", "bool", "dict"] s v = true
  b : ∀ fn s, s[r]? = some (insR (tA t) (bA e)) → kBinR "Ratio" ["str", "tuple", "list", "NoneType", "dict"] fn v (.ref r) s = fn [.ref r, v] s
  i : (∀ s, opIsiS [v, .tup [.ty "str", .ty "tuple", .ty "list"]] s = some (.bl true, s)) ∨ ((∀ s, opIsiS [v, .tup [.ty "str", .ty "tuple", .ty "list"]] s = some (.bl false, s)) ∧ ∀ fn s, s[r]? = some (insR (tA t) (bA e)) → kBinR "Ratio" ["NoneType", "dict"] fn v (.ref r) s = fn [.ref r, v] s)
section
variable {r t e : Nat} {v : D} {x : Str} {s : Sto}
theorem binR_is {ts : List String} {fn : Fn} {ty : String} (h : s[r]? = some (insR (tA t) (bA e))) (ht : tagD s v = some (.ty ty)) (hm : ty = "bool" ∨ ty ∈ ts) : kBinR "Ratio" ts fn v (.ref r) s = fn [.ref r, v] s := by
  unfold kBinR
  rw [ins_at h]
  simp only [ht, if_pos hm]
  rfl
theorem strOk_lt (h : PyData.strOk x = true) : PyData.strOk (listText [x]) = true := by
  have : listText [x] = ("[" : Str) ++ x ++ ("]" : Str) := by
    first
    | rfl
    | simp [listText, Str.join]
  rw [this, strOk_append, strOk_append, h, strOk_of, strOk_of]
  rfl
theorem sign_is (ht : t < 9) (he : e < 5) (h : v ∈ vals r) : ∃ x, Sg v x r t e := by
  simp only [vals, List.mem_cons, List.not_mem_nil, or_false] at h
  rcases h with rfl | rfl | rfl | rfl | rfl | rfl
  · exact ⟨"True", fun s _ => by kernel_rfl, fun s _ => by kernel_rfl, by kernel_rfl, fun s _ => by kernel_rfl, fun fn s hs => binR_is (ty := "bool") hs rfl (by decide), .inr ⟨fun s => by kernel_rfl, fun fn s hs => binR_is (ty := "bool") hs rfl (by decide)⟩⟩
  · exact ⟨"None", fun s _ => by kernel_rfl, fun s _ => by kernel_rfl, by kernel_rfl, fun s _ => by kernel_rfl, fun fn s hs => binR_is (ty := "NoneType") hs rfl (by decide), .inr ⟨fun s => by kernel_rfl, fun fn s hs => binR_is (ty := "NoneType") hs rfl (by decide)⟩⟩
  · exact ⟨"'n'", fun s _ => by kernel_rfl, fun s _ => by kernel_rfl, by kernel_rfl, fun s _ => by kernel_rfl, fun fn s hs => binR_is (ty := "str") hs rfl (by decide), .inl fun s => by kernel_rfl⟩
  · exact ⟨"(1, 2)", fun s _ => by kernel_rfl, fun s _ => by kernel_rfl, by kernel_rfl, fun s _ => by kernel_rfl, fun fn s hs => binR_is (ty := "tuple") hs rfl (by decide), .inl fun s => by kernel_rfl⟩
  · exact ⟨listText [rX t e], fun s _ => by kernel_rfl, fun s hs => rpr_lst ht he hs, strOk_lt (rX_ok ht he), fun s _ => by kernel_rfl, fun fn s hs => binR_is (ty := "list") hs rfl (by decide), .inl fun s => by kernel_rfl⟩
  · exact ⟨"{}", fun s _ => by kernel_rfl, fun s _ => by kernel_rfl, by kernel_rfl, fun s _ => by kernel_rfl, fun fn s hs => binR_is (ty := "dict") hs rfl (by decide), .inr ⟨fun s => by kernel_rfl, fun fn s hs => binR_is (ty := "dict") hs rfl (by decide)⟩⟩
abbrev dR (x : Str) : D := dW (("ratio" : Str), x)
theorem tld (G : Sg v x r t e) (h : s[r]? = some (insR (tA t) (bA e))) : k06__law_told (.exc "NotARatio" [("value", v)] s) = .ok (dR x) s := told_r (G.rp s h)
theorem add_no (G : Sg v x r t e) (h : s[r]? = some (insR (tA t) (bA e))) : p_Ratio___add__ [.ref r, v] s = .exc "NotARatio" [("value", v)] s := by simp [p_Ratio___add__, B_p_Ratio___add__, G.of s h]; rfl
theorem sub_no (G : Sg v x r t e) (h : s[r]? = some (insR (tA t) (bA e))) : p_Ratio___sub__ [.ref r, v] s = .exc "NotARatio" [("value", v)] s := by simp [p_Ratio___sub__, B_p_Ratio___sub__, G.of s h]; rfl
theorem mul_no (G : Sg v x r t e) (h : s[r]? = some (insR (tA t) (bA e))) : p_Ratio___mul__ [.ref r, v] s = .exc "NotARatio" [("value", v)] s := by simp [p_Ratio___mul__, B_p_Ratio___mul__, G.of s h]; rfl
theorem over_no (G : Sg v x r t e) (h : s[r]? = some (insR (tA t) (bA e))) : p_Ratio_over [.ref r, v] s = .exc "NotARatio" [("value", v)] s := by simp [p_Ratio_over, B_p_Ratio_over, G.of s h]; rfl
theorem rsub_no (G : Sg v x r t e) (h : s[r]? = some (insR (tA t) (bA e))) : p_Ratio___rsub__ [.ref r, v] s = .exc "NotARatio" [("value", v)] s := by
  simp [p_Ratio___rsub__, B_p_Ratio___rsub__, iBinL, G.of s h]
  rfl
theorem radd_no (G : Sg v x r t e) (h : s[r]? = some (insR (tA t) (bA e))) : p_Ratio___radd__ [.ref r, v] s = .exc "NotARatio" [("value", v)] s := by
  simp [p_Ratio___radd__, B_p_Ratio___radd__, iBinL, kBinL, ins_at h, G.l s h, add_no G h]
  rfl
end
end M
/-! RB8: all signs refuse an operand. -/
namespace M
open PySem PySem.W Builtin Builtin.Str
structure Tb (st : Sto) : Prop where
  a : st[0]? = some tbR
  b : st[1]? = some tbS
theorem Tb.push {st : Sto} (h : Tb st) (o : O) : Tb (st ++ [o]) := ⟨push_at h.a, push_at h.b⟩
theorem lamS_is {j : IE} {E : Env} {s : Sto} (h : s[1]? = some tbS) : iLam 1 "_law_signs_right" "_law_signs_right.<locals>.<lambda>" k06__law_told j E s = k06__law_told (j E s) := by
  unfold iLam
  rw [h]
  simp
theorem lamR_is {j : IE} {E : Env} {s : Sto} (h : s[0]? = some tbR) : iLam 0 "_law_right" "_law_right.<locals>.<lambda>" k06__law_told j E s = k06__law_told (j E s) := by
  unfold iLam
  rw [h]
  simp
abbrev ES (r : Nat) (v : D) (d p : Option D) : Env := [some (.ref r), some v, d, p]
def sS0 : IS := (sSet 2 (iN opLstF (aCons (iC (.str "ratio")) (aCons (iN (opReprM [("Ratio", p_Ratio___repr__)]) (aCons (iVar 1) aNil)) aNil))))
def sS1 : IS := (sSet 3 (iN opLst (aCons (iLam 1 "_law_signs_right" "_law_signs_right.<locals>.<lambda>" k06__law_told (iBinL "Ratio" ["str", "tuple", "list", "NoneType", "bool", "dict"] p_Ratio___add__ (iVar 0) (iVar 1))) aNil)))
def sS2 : IS := (sExpr (iMl opAppend (iVar 3) (aCons (iLam 1 "_law_signs_right" "_law_signs_right.<locals>.<lambda>" k06__law_told (iBinL "Ratio" ["str", "tuple", "list", "NoneType", "bool", "dict"] p_Ratio___sub__ (iVar 0) (iVar 1))) aNil)))
def sS3 : IS := (sExpr (iMl opAppend (iVar 3) (aCons (iLam 1 "_law_signs_right" "_law_signs_right.<locals>.<lambda>" k06__law_told (iBinL "Ratio" ["str", "tuple", "list", "NoneType", "bool", "dict"] p_Ratio___mul__ (iVar 0) (iVar 1))) aNil)))
def sS4 : IS := (sExpr (iMl opAppend (iVar 3) (aCons (iLam 1 "_law_signs_right" "_law_signs_right.<locals>.<lambda>" k06__law_told (iMeth "Ratio" "over" p_Ratio_over (iVar 0) (aCons (iVar 1) aNil))) aNil)))
def sS5 : IS := (sExpr (iMl opAppend (iVar 3) (aCons (iLam 1 "_law_signs_right" "_law_signs_right.<locals>.<lambda>" k06__law_told (iBinR "Ratio" ["str", "tuple", "list", "NoneType", "dict"] p_Ratio___rsub__ (iVar 1) (iVar 0))) aNil)))
def sS6 : IS := (sExpr (iMl opAppend (iVar 3) (aCons (iIf (tNot' (tTru (iN opIsiS (aCons (iVar 1) (aCons (iN opTup (aCons (iC (.ty "str")) (aCons (iC (.ty "tuple")) (aCons (iC (.ty "list")) aNil)))) aNil))))) (iLam 1 "_law_signs_right" "_law_signs_right.<locals>.<lambda>" k06__law_told (iBinR "Ratio" ["NoneType", "dict"] p_Ratio___radd__ (iVar 1) (iVar 0))) (iVar 2)) aNil)))
def sS7 : IS := (sRet (iBin (opEq false) (iVar 3) (iBin opMul (iN opLstF (aCons (iVar 2) aNil)) (iC (.int 6)))))
theorem signs_eq : B_k06__law_signs_right = (sSeq sS0 (sSeq sS1 (sSeq sS2 (sSeq sS3 (sSeq sS4 (sSeq sS5 (sSeq sS6 sS7))))))) := rfl
section
variable {r t e : Nat} {v : D} {x : Str} {s : Sto}
/-- one thing more is told -/
theorem app_S {J : IE} {E : Env} {xs : List D} {d : D} (hE : E[3]? = some (some (.ref s.length))) (hx : xs.length < 100) (h : J E (s ++ [.lst xs]) = .ok d (s ++ [.lst xs])) : sExpr (iMl opAppend (iVar 3) (aCons J aNil)) E (s ++ [.lst xs]) = .nx E (s ++ [.lst (xs ++ [d])]) := by
  have l := lstAt_new s xs
  have a := app_at l (by omega) d
  simp [hE, isL_at l, h, a]
theorem mul6 (d : D) (st : Sto) : opMul (.lst [d]) (.int 6) st = some (.lst [d, d, d, d, d, d], st) := by
  have big := sizeLine_big
  have q : -(2 ^ 63) ≤ (6 : Int) ∧ (6 : Int) < 2 ^ 63 ∧ [d].length * (6 : Int).toNat ≤ sizeLine := ⟨by decide, by decide, by simp only [List.length_singleton]; omega⟩
  unfold opMul
  simp only
  rw [if_pos q]
  rfl
theorem signs_ok (G : Sg v x r t e) (h : s[r]? = some (insR (tA t) (bA e))) (T : Tb s) : k06__law_signs_right [.ref r, v] s = .ok (.bl true) (s ++ [.lst [dR x, dR x, dR x, dR x, dR x, dR x]]) := by
  have hp : ∀ xs, (s ++ [O.lst xs])[r]? = some (insR (tA t) (bA e)) := fun xs => push_at h
  have tp : ∀ xs, (s ++ [O.lst xs])[1]? = some tbS := fun xs => push_at T.b
  have ex : ∀ {J : IE} {p : Option D} (s : Sto), s[1]? = some tbS → s[r]? = some (insR (tA t) (bA e)) → J (ES r v (some (dR x)) p) s = .exc "NotARatio" [("value", v)] s → iLam 1 "_law_signs_right" "_law_signs_right.<locals>.<lambda>" k06__law_told J (ES r v (some (dR x)) p) s = .ok (dR x) s := fun s h1 h2 hj => by
    rw [lamS_is h1, hj, tld G h2]
  have h0 : sS0 (ES r v none none) s = .nx (ES r v (some (dR x)) none) s := by simp [sS0, G.rp s h]
  have h1 : sS1 (ES r v (some (dR x)) none) s = .nx (ES r v (some (dR x)) (some (.ref s.length))) (s ++ [.lst [dR x]]) := by
    have q := ex (J := (iBinL "Ratio" ["str", "tuple", "list", "NoneType", "bool", "dict"] p_Ratio___add__ (iVar 0) (iVar 1))) (p := none) s T.b h (by simp [iBinL, kBinL, ins_at h, G.l s h, add_no G h])
    simp [sS1, q]
  let E : Env := ES r v (some (dR x)) (some (.ref s.length))
  have h2 : sS2 E (s ++ [.lst [dR x]]) = .nx E (s ++ [.lst [dR x, dR x]]) := app_S rfl (by simp) (ex _ (tp _) (hp _) (by simp [iBinL, kBinL, ins_at (hp _), G.l _ (hp _), sub_no G (hp _)]))
  have h3 : sS3 E (s ++ [.lst [dR x, dR x]]) = .nx E (s ++ [.lst [dR x, dR x, dR x]]) := app_S rfl (by simp) (ex _ (tp _) (hp _) (by simp [iBinL, kBinL, ins_at (hp _), G.l _ (hp _), mul_no G (hp _)]))
  have h4 : sS4 E (s ++ [.lst [dR x, dR x, dR x]]) = .nx E (s ++ [.lst [dR x, dR x, dR x, dR x]]) := app_S rfl (by simp) (ex _ (tp _) (hp _) (by simp [iMeth, m_over (hp _), over_no G (hp _)]))
  have h5 : sS5 E (s ++ [.lst [dR x, dR x, dR x, dR x]]) = .nx E (s ++ [.lst [dR x, dR x, dR x, dR x, dR x]]) := app_S rfl (by simp) (ex _ (tp _) (hp _) (by simp [iBinR, G.b _ _ (hp _), rsub_no G (hp _)]))
  have h6 : sS6 E (s ++ [.lst [dR x, dR x, dR x, dR x, dR x]]) = .nx E (s ++ [.lst [dR x, dR x, dR x, dR x, dR x, dR x]]) := by
    refine app_S rfl (by simp) ?_
    rcases G.i with gi | ⟨gi, gb⟩
    · simp [E, gi, truD]
    · have q := ex (J := (iBinR "Ratio" ["NoneType", "dict"] p_Ratio___radd__ (iVar 1) (iVar 0))) (p := some (.ref s.length)) (s ++ [.lst [dR x, dR x, dR x, dR x, dR x]]) (tp _) (hp _) (by simp [iBinR, gb _ _ (hp _), radd_no G (hp _)])
      simp [E, gi, truD, q]
  have h7 : sS7 E (s ++ [.lst [dR x, dR x, dR x, dR x, dR x, dR x]]) = .ret (.bl true) (s ++ [.lst [dR x, dR x, dR x, dR x, dR x, dR x]]) := by
    have q := same_ws (a := .ref s.length) (b := .lst [dR x, dR x, dR x, dR x, dR x, dR x]) (l := [("ratio", x), ("ratio", x), ("ratio", x), ("ratio", x), ("ratio", x), ("ratio", x)]) (st := s ++ [.lst [dR x, dR x, dR x, dR x, dR x, dR x]]) (.inl ⟨_, rfl, lstAt_new s _⟩) (.inr rfl) (fun p hp => by
      have : p = (("ratio" : Str), x) := by simpa using hp
      subst this
      exact ⟨strOk_of _, G.ok⟩) false
    simp [sS7, E, mul6, q]
  show runB B_k06__law_signs_right 4 2 [.ref r, v] s = _
  rw [signs_eq]
  refine runB_ret rfl ?_
  show (sSeq sS0 _) (ES r v none none) s = _
  rw [sSeq_nx h0, sSeq_nx h1, sSeq_nx h2, sSeq_nx h3, sSeq_nx h4, sSeq_nx h5, sSeq_nx h6, h7]
end
end M
/-! RB9: the steps of one number. -/
namespace M
open PySem PySem.W Builtin Builtin.Str
def rS0 : IS := (sSet 1 (iN opLstF (aCons (iC .non) (aCons (iN opLstF (aCons (iC (.int 1)) aNil)) (aCons (iN opTup aNil) (aCons (iN opTup (aCons (iC (.int 1)) (aCons (iC (.bl true)) aNil))) (aCons (iN opTup (aCons (iC (.str "1")) aNil)) (aCons (iN opTup (aCons (iC (.int 1)) (aCons (iC .non) aNil))) (aCons (iC (.str "12")) (aCons (iC (.int 5)) (aCons (iC (.dct [] [])) (aCons (iN opTup (aCons (iN opTup (aCons (iC (.int 1)) aNil)) aNil)) aNil))))))))))))
def rS1 : IS := (sAsg (gTup' 2 (gsVar 2 (gsVar 3 gsNil))) (iN opTup (aCons (iCall k06__law_any [] (aCons (iVar 0) (aCons (iVar 1) aNil))) (aCons (iCall k06__law_any [] (aCons (iVar 0) (aCons (iVar 1) aNil))) aNil))))
def rS2 : IS := (sSet 4 (iNewP "Ratio" p_Ratio___init__ 2 0 [0, 1, 2] (aCons (iN opTup (aCons (iCall k06__law_dip [] (aCons (iVar 0) (aCons (iC (.int 9)) aNil))) (aCons (iC (.int 1)) aNil))) (aCons (iN opTup (aCons (iBin opAdd (iC (.int 1)) (iCall k06__law_dip [] (aCons (iVar 0) (aCons (iC (.int 5)) aNil)))) (aCons (iC (.int 0)) (aCons (iC (.int 1)) aNil)))) aNil)) aNil))
def rS3 : IS := (sSet 5 (iN opLst (aCons (iLam 0 "_law_right" "_law_right.<locals>.<lambda>" k06__law_told (iNewP "Ratio" p_Ratio___init__ 2 0 [0, 1, 2] (aCons (iVar 2) (aCons (iVar 3) aNil)) aNil)) aNil)))
def rS4 : IS := (sExpr (iMl opAppend (iVar 5) (aCons (iLam 0 "_law_right" "_law_right.<locals>.<lambda>" k06__law_told (iNewP "Ratio" p_Ratio___init__ 2 0 [0, 1, 2] (aCons (iN opTup (aCons (iC (.int 1)) aNil)) (aCons (iVar 3) aNil)) aNil)) aNil)))
def rS5 : IS := (sExpr (iMl opAppend (iVar 5) (aCons (iLam 0 "_law_right" "_law_right.<locals>.<lambda>" k06__law_told (iNewP "Ratio" p_Ratio___init__ 0 2 [0, 2, 1] aNil (aCons (iN opTup (aCons (iC (.int 0)) aNil)) (aCons (iVar 2) aNil)))) aNil)))
def rS6 : IS := (sExpr (iMl opAppend (iVar 5) (aCons (iLam 0 "_law_right" "_law_right.<locals>.<lambda>" k06__law_told (iNewP "Ratio" p_Ratio___init__ 2 0 [0, 1, 2] (aCons (iN opTup (aCons (iC (.int 2)) (aCons (iC (.int 3)) aNil))) (aCons (iN opTup (aCons (iC (.int 0)) (aCons (iC (.int 0)) aNil))) aNil)) aNil)) aNil)))
def rS7 : IS := (sExpr (iMl opAppend (iVar 5) (aCons (iLam 0 "_law_right" "_law_right.<locals>.<lambda>" k06__law_told (iNewP "Ratio" p_Ratio___init__ 2 0 [0, 1, 2] (aCons (iN opTup (aCons (iC (.int 0)) aNil)) (aCons (iBin opMulZ (iN opTup (aCons (iC (.int 0)) aNil)) (iBin opAdd (iC (.int 1)) (iCall k06__law_dip [] (aCons (iVar 0) (aCons (iC (.int 4)) aNil))))) aNil)) aNil)) aNil)))
def rS8 : IS := (sSet 6 (iN opLst (aCons (iN opLstF (aCons (iC (.str "count")) (aCons (iN (opReprM [("Ratio", p_Ratio___repr__)]) (aCons (iVar 2) aNil)) aNil))) (aCons (iN opLstF (aCons (iC (.str "count")) (aCons (iN (opReprM [("Ratio", p_Ratio___repr__)]) (aCons (iVar 3) aNil)) aNil))) (aCons (iN opLstF (aCons (iC (.str "count")) (aCons (iN (opReprM [("Ratio", p_Ratio___repr__)]) (aCons (iVar 2) aNil)) aNil))) (aCons (iN opLstF (aCons (iC (.str "zero")) (aCons (iC (.str "")) aNil))) (aCons (iN opLstF (aCons (iC (.str "zero")) (aCons (iC (.str "")) aNil))) aNil)))))))
def rS9 : IS := (sExpr (iMl opAppend (iVar 5) (aCons (iLam 0 "_law_right" "_law_right.<locals>.<lambda>" k06__law_told (iBinL "Ratio" ["int"] p_Ratio___pow__ (iVar 4) (iC (.int 7)))) aNil)))
def rS10 : IS := (sExpr (iMl opAppend (iVar 5) (aCons (iLam 0 "_law_right" "_law_right.<locals>.<lambda>" k06__law_told (iBinL "Ratio" ["int"] p_Ratio___pow__ (iVar 4) (iC (.int 64)))) aNil)))
def rS11 : IS := (sExpr (iMl opAppend (iVar 5) (aCons (iLam 0 "_law_right" "_law_right.<locals>.<lambda>" k06__law_told (iMeth "Ratio" "over" p_Ratio_over (iVar 4) (aCons (iC (.int 0)) aNil))) aNil)))
def rS12 : IS := (sExpr (iMl opAppend (iVar 5) (aCons (iLam 0 "_law_right" "_law_right.<locals>.<lambda>" k06__law_told (iMeth "Ratio" "over" p_Ratio_over (iVar 4) (aCons (iBinL "Ratio" ["str", "tuple", "list", "NoneType", "bool", "dict"] p_Ratio___sub__ (iVar 4) (iVar 4)) aNil))) aNil)))
def rS13 : IS := (sSet 6 (iBin opAddM (iVar 6) (iN opLst (aCons (iN opLstF (aCons (iC (.str "count")) (aCons (iC (.str "7")) aNil))) (aCons (iN opLstF (aCons (iC (.str "count")) (aCons (iC (.str "64")) aNil))) (aCons (iN opLstF (aCons (iC (.str "zero")) (aCons (iC (.str "")) aNil))) (aCons (iN opLstF (aCons (iC (.str "zero")) (aCons (iC (.str "")) aNil))) aNil)))))))
def rS14 : IS := (sSet 7 (iCall k06__law_any [] (aCons (iVar 0) (aCons (iN opLstF (aCons (iC (.bl true)) (aCons (iC .non) (aCons (iC (.str "3")) (aCons (iN opTup (aCons (iC (.int 3)) aNil)) (aCons (iVar 4) aNil)))))) aNil))))
def rS15 : IS := (sExpr (iMl opAppend (iVar 5) (aCons (iLam 0 "_law_right" "_law_right.<locals>.<lambda>" k06__law_told (iCallO "Ratio" p_Ratio___call__ (iVar 4) (aCons (iVar 7) aNil))) aNil)))
def rS16 : IS := (sExpr (iMl opAppend (iVar 5) (aCons (iLam 0 "_law_right" "_law_right.<locals>.<lambda>" k06__law_told (iMeth "Ratio" "later" p_Ratio_later (iVar 4) (aCons (iVar 7) aNil))) aNil)))
def rS17 : IS := (sExpr (iMl opAppend (iVar 5) (aCons (iLam 0 "_law_right" "_law_right.<locals>.<lambda>" k06__law_told (iMeth "Ratio" "later" p_Ratio_later (iVar 4) (aCons (iC (.int 21)) aNil))) aNil)))
def rS18 : IS := (sExpr (iMl opAppend (iVar 5) (aCons (iLam 0 "_law_right" "_law_right.<locals>.<lambda>" k06__law_told (iMethK "Ratio" "later" p_Ratio_later 1 [0, 1] (iVar 4) (aCons (iUn opNeg (iC (.int 1))) aNil))) aNil)))
def rS19 : IS := (sExpr (iMl opAppend (iVar 5) (aCons (iLam 0 "_law_right" "_law_right.<locals>.<lambda>" k06__law_told (iCall p_Ratio_read [] (aCons (iVar 7) aNil))) aNil)))
def rS20 : IS := (sSet 6 (iBin opAddM (iVar 6) (iN opLst (aCons (iN opLstF (aCons (iC (.str "count")) (aCons (iN (opReprM [("Ratio", p_Ratio___repr__)]) (aCons (iVar 7) aNil)) aNil))) (aCons (iN opLstF (aCons (iC (.str "count")) (aCons (iN (opReprM [("Ratio", p_Ratio___repr__)]) (aCons (iVar 7) aNil)) aNil))) (aCons (iN opLstF (aCons (iC (.str "count")) (aCons (iC (.str "21")) aNil))) (aCons (iN opLstF (aCons (iC (.str "count")) (aCons (iC (.str "-1")) aNil))) aNil)))))))
def rS21 : IS := (sExpr (iMl opAppend (iVar 6) (aCons (iIf (tBl (iBin (opEqI "Ratio" ["str", "tuple", "list", "NoneType", "int", "bool", "dict"] p_Ratio___eq__ true) (iVar 7) (iC (.str "3")))) (iN opLstF (aCons (iC (.str "text")) (aCons (iN (opReprM [("Ratio", p_Ratio___repr__)]) (aCons (iVar 7) aNil)) aNil))) (iN opLstF (aCons (iC (.str "given")) (aCons (iC (.str "")) aNil)))) aNil)))
def rS22 : IS := (sIf (tBl (iBin (opEq true) (iVar 5) (iVar 6))) (sRet (iC (.bl false))) sNil)
def rS23 : IS := (sRet (iN opAll (aCons (iCompF (wAny (iN opLstF (aCons (iC (.bl true)) (aCons (iC .non) (aCons (iC (.str "n")) (aCons (iN opTup (aCons (iC (.int 1)) (aCons (iC (.int 2)) aNil))) (aCons (iN opLstF (aCons (iVar 4) aNil)) (aCons (iC (.dct [] [])) aNil)))))))) (.one 8) tYes' (iCall k06__law_signs_right [] (aCons (iVar 4) (aCons (iVar 8) aNil)))) aNil)))
theorem right_eq : B_k06__law_right = (sSeq rS0 (sSeq rS1 (sSeq rS2 (sSeq rS3 (sSeq rS4 (sSeq rS5 (sSeq rS6 (sSeq rS7 (sSeq rS8 (sSeq rS9 (sSeq rS10 (sSeq rS11 (sSeq rS12 (sSeq rS13 (sSeq rS14 (sSeq rS15 (sSeq rS16 (sSeq rS17 (sSeq rS18 (sSeq rS19 (sSeq rS20 (sSeq rS21 (sSeq rS22 rS23))))))))))))))))))))))) := rfl
theorem lst_ne {st : Sto} {i k : Nat} {xs : List D} {o : O} (h : lstAt st i = some xs) (h2 : st[k]? = some o) (ho : ∀ ys, o ≠ .lst ys) : k ≠ i := fun z => by
  subst z
  unfold lstAt at h
  rw [h2] at h
  cases o <;> first | exact ho _ rfl | cases h
/-- the store between two calls: told so far at p -/
structure Z (g r p t e : Nat) (l : List (Str × Str)) (s : Sto) : Prop where
  T : Tb s
  P : Pool s g
  I : s[r]? = some (insR (tA t) (bA e))
  L : lstAt s p = some (l.map dW)
  n : p ≠ g
section
variable {g r p q t e : Nat} {l l' : List (Str × Str)} {s s' : Sto} {w : Str × Str} {E : Env} {J : IE}
theorem Pool.ne (h : Pool s g) {k : Nat} {o : O} (h2 : s[k]? = some o) (ho : ∀ ys, o ≠ .lst ys) : k ≠ g := by
  obtain ⟨a, b, c, h, _⟩ := h
  exact lst_ne h h2 ho
theorem Z.out (z : Z g r p t e l s) : (0 ∉ [g, p]) ∧ (1 ∉ [g, p]) ∧ r ∉ [g, p] := by
  have f : ∀ ys, tbR ≠ O.lst ys := fun ys z => by cases z
  have f2 : ∀ ys, tbS ≠ O.lst ys := fun ys z => by cases z
  have f3 : ∀ ys, insR (tA t) (bA e) ≠ O.lst ys := fun ys z => by cases z
  have a1 := z.P.ne z.T.a f
  have a2 := lst_ne z.L z.T.a f
  have b1 := z.P.ne z.T.b f2
  have b2 := lst_ne z.L z.T.b f2
  have c1 := z.P.ne z.I f3
  have c2 := lst_ne z.L z.I f3
  simp only [List.mem_cons, List.not_mem_nil, or_false, not_or]
  exact ⟨⟨a1, a2⟩, ⟨b1, b2⟩, c1, c2⟩
theorem at_lt {k : Nat} {o : O} (h : s[k]? = some o) : k < s.length := (List.getElem?_eq_some_iff.mp h).1
theorem Z.keep (z : Z g r p t e l s) (k : Kp s s' [g, p]) (P : Pool s' g) (L : lstAt s' p = some (l'.map dW)) : Z g r p t e l' s' := by
  obtain ⟨o0, o1, o2⟩ := z.out
  exact ⟨⟨by rw [k.2 0 o0 (at_lt z.T.a)]; exact z.T.a, by rw [k.2 1 o1 (at_lt z.T.b)]; exact z.T.b⟩, P, by rw [k.2 r o2 (at_lt z.I)]; exact z.I, L, z.n⟩
theorem Z.push (z : Z g r p t e l s) (o : O) : Z g r p t e l (s ++ [o]) := z.keep kp_push (pool_push z.P) (Kp.lst (l := []) Kp.push p _ (fun h => nomatch h) z.L)
theorem Z.kp (z : Z g r p t e l s) (k : Kp s s' [g]) (P : Pool s' g) : Z g r p t e l s' :=
  z.keep (k.mono fun x m => by rw [List.mem_singleton.mp m]; exact List.mem_cons_self) P (k.lst p _ (fun m => z.n (List.mem_singleton.mp m)) z.L)
/-- one call more is told -/
theorem app_R (z : Z g r p t e l s) (hE : E[5]? = some (some (.ref p))) (hl : l.length < 100) (td : Td J E (dW w) g s) :
    ∃ s', sExpr (iMl opAppend (iVar 5) (aCons (iLam 0 "_law_right" "_law_right.<locals>.<lambda>" k06__law_told J) aNil)) E s = .nx E s' ∧ Z g r p t e (l ++ [w]) s' ∧ Kp s s' [g, p] := by
  obtain ⟨s1, e1, k1, p1⟩ := td
  have np : p ∉ [g] := fun m => z.n (List.mem_singleton.mp m)
  have L1 := k1.lst p _ np z.L
  have a := app_at L1 (by rw [List.length_map]; omega) (dW w)
  have kk : Kp s (s1.set p (.lst (l.map dW ++ [dW w]))) [g, p] := (k1.mono fun x m => by rw [List.mem_singleton.mp m]; exact List.mem_cons_self).trans (Kp.set.mono fun x m => by rw [List.mem_singleton.mp m]; simp)
  refine ⟨s1.set p (.lst (l.map dW ++ [dW w])), ?_, z.keep kk (p1.keep (l := [p]) Kp.set fun m => z.n (List.mem_singleton.mp m).symm) ?_, kk⟩
  · simp [hE, isL_at z.L, lamR_is z.T.a, e1, a]
  · rw [lst_set L1, List.map_append]
    rfl
/-- the due list -/
structure Du (g p q : Nat) (ys : List (Str × Str)) (s : Sto) : Prop where
  L : lstAt s q = some (ys.map dW)
  g : q ≠ g
  p : q ≠ p
theorem Du.keep {ys : List (Str × Str)} (d : Du g p q ys s) (k : Kp s s' [g, p]) : Du g p q ys s' := ⟨k.lst q _ (by simp only [List.mem_cons, List.not_mem_nil, or_false, not_or]; exact ⟨d.g, d.p⟩) d.L, d.g, d.p⟩
theorem Du.new {ys : List (Str × Str)} (z : Z g r p t e l s) : Du g p s.length ys (s ++ [.lst (ys.map dW)]) := by
  have h1 := lst_lt z.L
  obtain ⟨a, b, c, h, _⟩ := z.P
  have h2 := lst_lt h
  exact ⟨lstAt_new s _, by omega, by omega⟩
/-- the due list gets four words more -/
theorem add_due {ys zs : List (Str × Str)} (z : Z g r p t e l s) (d : Du g p q ys s) (hy : ys.length + zs.length ≤ 1000) : opAddM (.ref q) (.ref s.length) (s ++ [.lst (zs.map dW)]) = some (.ref (s.length + 1), (s ++ [.lst (zs.map dW)]) ++ [.lst ((ys ++ zs).map dW)]) ∧ Z g r p t e l ((s ++ [.lst (zs.map dW)]) ++ [.lst ((ys ++ zs).map dW)]) ∧ Du g p (s.length + 1) (ys ++ zs) ((s ++ [.lst (zs.map dW)]) ++ [.lst ((ys ++ zs).map dW)]) := by
  have d1 := d.keep (s' := s ++ [.lst (zs.map dW)]) kp_push
  have l2 := lstAt_new s (zs.map dW)
  have z1 := z.push (.lst (zs.map dW))
  have e := addM (st := s ++ [.lst (zs.map dW)]) (a := .ref q) (b := .ref s.length) (xs := ys.map dW) (ys := zs.map dW) (show alst (s ++ [.lst (zs.map dW)]) (.ref q) = some (ys.map dW) from d1.L) (show alst (s ++ [.lst (zs.map dW)]) (.ref s.length) = some (zs.map dW) from l2) (by simp only [List.length_map]; omega)
  rw [← List.map_append] at e
  have hl : (s ++ [O.lst (zs.map dW)]).length = s.length + 1 := by simp
  rw [hl] at e
  refine ⟨e, z1.push _, ?_⟩
  have n := Du.new (ys := ys ++ zs) z1
  rw [hl] at n
  exact n
theorem mk_r (ht : t < 9) (he : e < 5) : Mkr (tA t) (bA e) (tA t) (bA e) (tA t) (bA e) := by
  have nz : ∀ e, e < 5 → ∀ s, opEq false (bA e) z0 s = some (.bl false, s) := five ⟨fun s => by kernel_rfl, fun s => by kernel_rfl, fun s => by kernel_rfl, fun s => by kernel_rfl, fun s => by kernel_rfl⟩
  exact ⟨row_t t, row_b e, trim_t t ht, trim_b e he, nz e he, low_is t ht e he⟩
/-- a comprehension over a list, all of it true, the store moves -/
theorem compF_lst {e : IE} {env0 : Env} {v : Nat} {xs : List D} (hz : xs.length ≤ 1000000) (Q : Sto → Prop) (step : ∀ d ∈ xs, ∀ st, Q st → ∃ st', e (env0.set v (some d)) st = .ok (.bl true) st' ∧ Q st') :
    ∀ (m i : Nat) (st : Sto), i + m = xs.length → Q st → ∃ st', compF (nxL xs) (.one v) tYes' e env0 m i (List.replicate i (.bl true)) st = .ok (List.replicate xs.length (.bl true)) st' ∧ Q st'
  | 0, i, st, hm, h => by
    have : i = xs.length := by omega
    subst this
    refine ⟨st, ?_, h⟩
    unfold compF nxL
    rw [List.getElem?_eq_none (Nat.le_refl _)]
  | m + 1, i, st, hm, h => by
    have hi : i < xs.length := by omega
    obtain ⟨st', h1, h2⟩ := step xs[i] (List.getElem_mem hi) st h
    obtain ⟨st'', h3, h4⟩ := compF_lst hz Q step m (i + 1) st' (by omega) h2
    refine ⟨st'', ?_, h4⟩
    unfold compF nxL
    rw [List.getElem?_eq_getElem hi]
    show (((tYes' (env0.set v (some xs[i]))) st).nox).bind (fun k s1 => if k = true then ((e (env0.set v (some xs[i])) s1).nox).bind fun v' s2 => if (List.replicate i (D.bl true)).length < sizeLine then compF (nxL xs) (.one v) tYes' e env0 m (i + 1) (List.replicate i (D.bl true) ++ [v']) s2 else .bad else compF (nxL xs) (.one v) tYes' e env0 m (i + 1) (List.replicate i (D.bl true)) s1) = _
    rw [tYes_d]
    show ((e (env0.set v (some xs[i])) st).nox).bind (fun v' s2 => if (List.replicate i (D.bl true)).length < sizeLine then compF (nxL xs) (.one v) tYes' e env0 m (i + 1) (List.replicate i (D.bl true) ++ [v']) s2 else .bad) = _
    rw [h1]
    show (if (List.replicate i (D.bl true)).length < sizeLine then compF (nxL xs) (.one v) tYes' e env0 m (i + 1) (List.replicate i (D.bl true) ++ [.bl true]) st' else .bad) = _
    have big := sizeLine_big
    rw [if_pos (by rw [List.length_replicate]; omega), show List.replicate i (D.bl true) ++ [D.bl true] = List.replicate (i + 1) (D.bl true) from (List.replicate_succ').symm, h3]
end
end M
/-! RB10: what one number asks is right. -/
namespace M
open PySem PySem.W Builtin Builtin.Str
theorem r_two {g : Nat} {st : Sto} (P : Pool st g) : ∃ a b st', a ∈ odds ∧ b ∈ odds ∧ rS1 [some (.ref g), some (.lst odds), none, none, none, none, none, none, none] st = .nx [some (.ref g), some (.lst odds), some a, some b, none, none, none, none, none] st' ∧ Pool st' g ∧ Kp st st' [g] := by
  obtain ⟨i, hi, s1, e1, p1, k1, _⟩ := any_ok (xs := odds) P (by decide) (by decide)
  obtain ⟨j, hj, s2, e2, p2, k2, _⟩ := any_ok (xs := odds) p1 (by decide) (by decide)
  exact ⟨odds[i], odds[j], s2, List.getElem_mem hi, List.getElem_mem hj, by simp [rS1, e1, e2], p2, k1.trans k2⟩
theorem r_ratio {g : Nat} {a b : D} {st : Sto} (P : Pool st g) : ∃ (t e : Nat) (st' : Sto) (r : Nat), t < 9 ∧ e < 5 ∧ rS2 [some (.ref g), some (.lst odds), some a, some b, none, none, none, none, none] st = .nx (EV g r a b none none none none) st' ∧ Pool st' g ∧ Kp st st' [g] ∧ st'[r]? = some (insR (tA t) (bA e)) := by
  obtain ⟨d1, s1, e1, a1, b1, p1, k1, _⟩ := dip_ok (many := 9) P (by decide) (by decide)
  obtain ⟨d2, s2, e2, a2, b2, p2, k2, _⟩ := dip_ok (many := 5) p1 (by decide) (by decide)
  obtain ⟨t, rfl⟩ : ∃ k : Nat, d1 = (k : Int) := ⟨d1.toNat, by omega⟩
  obtain ⟨e, rfl⟩ : ∃ k : Nat, d2 = (k : Int) := ⟨d2.toNat, by omega⟩
  have ht : t < 9 := by omega
  have he : e < 5 := by omega
  have n := new_ok (mk_r ht he) s2
  have ad : ∀ s, opAdd (.int 1) (.int (e : Int)) s = some (.int (1 + (e : Int)), s) := fun s => rfl
  exact ⟨t, e, s2 ++ [insR (tA t) (bA e)], s2.length, ht, he, by simp [rS2, iNewP, e1, e2, ad, n], pool_push p2, (k1.trans k2).trans kp_push, push_self _⟩
theorem okWs_of {l : List (Str × Str)} (h : l.all (fun p => PyData.strOk p.1 && PyData.strOk p.2) = true) : okWs l := fun p hp => by
  have := List.all_eq_true.mp h p hp
  simpa using this
theorem right_ok {g : Nat} {st : Sto} (T : Tb st) (P : Pool st g) : ∃ s', k06__law_right [.ref g] st = .ok (.bl true) s' ∧ Tb s' := by
  have h0 : rS0 [some (.ref g), none, none, none, none, none, none, none, none] st = .nx [some (.ref g), some (.lst odds), none, none, none, none, none, none, none] st := by
    simp [rS0, odds]
  obtain ⟨a, b, s1, ha, hb, h1, p1, k1⟩ := r_two P
  obtain ⟨xa, oa⟩ := odd_is ha
  obtain ⟨xb, ob⟩ := odd_is hb
  obtain ⟨t, e, s2, r, ht, he, h2, p2, k2, i2⟩ := r_ratio (a := a) (b := b) p1
  have nt : ∀ {k : Nat} {o : O}, st[k]? = some o → (∀ ys, o ≠ .lst ys) → s2[k]? = some o := fun hk ho => by
    have n := P.ne hk ho
    have kk := k1.trans k2
    rw [kk.2 _ (by simpa using n) (at_lt hk)]
    exact hk
  have T2 : Tb s2 := ⟨nt T.a (fun ys z => by cases z), nt T.b (fun ys z => by cases z)⟩
  -- the list of what is told
  obtain ⟨s3, q3, k3, p3⟩ := td_3 (g := g) (r := r) (a := a) (b := b) (t5 := none) (t6 := none) (t7 := none) (t8 := none) p2 oa
  have h3 : rS3 (EV g r a b none none none none) s2 = .nx (EV g r a b (some (.ref s3.length)) none none none) (s3 ++ [.lst [dW ("count", xa)]]) := by
    have q3' : k06__law_told (iNewP (Str.ofString "Ratio") p_Ratio___init__ 2 0 [0, 1, 2] (aCons (iVar 2) (aCons (iVar 3) aNil)) aNil (EV g r a b none none none none) s2) = .ok (dW ("count", xa)) s3 := q3
    have lam := (lamR_is (j := J3) (E := EV g r a b none none none none) T2.a).trans q3
    have e : iLam 0 "_law_right" "_law_right.<locals>.<lambda>" k06__law_told (iNewP "Ratio" p_Ratio___init__ 2 0 [0, 1, 2] (aCons (iVar 2) (aCons (iVar 3) aNil)) aNil) (EV g r a b none none none none) s2 = .ok (dW ("count", xa)) s3 := lam
    unfold rS3
    rw [sSet_d, iN_d, aCons_d, e]
    simp
  have z3 : Z g r s3.length t e [("count", xa)] (s3 ++ [.lst [dW ("count", xa)]]) := by
    have f : ∀ {k : Nat} {o : O}, s2[k]? = some o → (∀ ys, o ≠ .lst ys) → s3[k]? = some o := fun hk ho => by
      rw [k3.2 _ (by simpa using p2.ne hk ho) (at_lt hk)]
      exact hk
    have hg : g < s3.length := by
      obtain ⟨a, b, c, h, _⟩ := p3
      exact lst_lt h
    exact ⟨⟨push_at (f T2.a fun ys z => by cases z), push_at (f T2.b fun ys z => by cases z)⟩, pool_push p3, push_at (f i2 fun ys z => by cases z), lstAt_new s3 _, by omega⟩
  generalize hp : s3.length = p at h3 z3
  generalize hs : s3 ++ [O.lst [dW ("count", xa)]] = s4 at h3 z3
  -- the calls refused
  obtain ⟨s5, h4, z4, _⟩ := app_R (E := EV g r a b (some (.ref p)) none none none) (w := ("count", xb)) z3 rfl (by simp) (td_4 z3.P ob)
  obtain ⟨s6, h5, z5, _⟩ := app_R (E := EV g r a b (some (.ref p)) none none none) (w := ("count", xa)) z4 rfl (by simp) (td_5 z4.P oa)
  obtain ⟨s7, h6, z6, _⟩ := app_R (E := EV g r a b (some (.ref p)) none none none) (w := ("zero", "")) z5 rfl (by simp) (td_6 z5.P)
  obtain ⟨s8, h7, z7, _⟩ := app_R (E := EV g r a b (some (.ref p)) none none none) (w := ("zero", "")) z6 rfl (by simp) (td_7 z6.P)
  -- what is due
  have h8 : rS8 (EV g r a b (some (.ref p)) none none none) s8 = .nx (EV g r a b (some (.ref p)) (some (.ref s8.length)) none none) (s8 ++ [.lst (([("count", xa), ("count", xb), ("count", xa), ("zero", ""), ("zero", "")] : List (Str × Str)).map dW)]) := by
    simp [rS8, oa.rpr, ob.rpr]
  have d8 := Du.new (ys := ([("count", xa), ("count", xb), ("count", xa), ("zero", ""), ("zero", "")] : List (Str × Str))) z7
  have z8 := z7.push (.lst (([("count", xa), ("count", xb), ("count", xa), ("zero", ""), ("zero", "")] : List (Str × Str)).map dW))
  generalize hq : s8.length = q at h8 d8
  generalize hs9 : s8 ++ [O.lst (([("count", xa), ("count", xb), ("count", xa), ("zero", ""), ("zero", "")] : List (Str × Str)).map dW)] = s9 at h8 d8 z8
  obtain ⟨s10, h9, z9, k9⟩ := app_R (E := EV g r a b (some (.ref p)) (some (.ref q)) none none) (w := ("count", "7")) z8 rfl (by simp) (td_9 z8.P z8.I)
  obtain ⟨s11, h10, z10, k10⟩ := app_R (E := EV g r a b (some (.ref p)) (some (.ref q)) none none) (w := ("count", "64")) z9 rfl (by simp) (td_10 z9.P z9.I)
  obtain ⟨s12, h11, z11, k11⟩ := app_R (E := EV g r a b (some (.ref p)) (some (.ref q)) none none) (w := ("zero", "")) z10 rfl (by simp) (td_11 z10.P z10.I)
  obtain ⟨s13, h12, z12, k12⟩ := app_R (E := EV g r a b (some (.ref p)) (some (.ref q)) none none) (w := ("zero", "")) z11 rfl (by simp) (td_12 ht he z11.P z11.I)
  have d12 := (((d8.keep k9).keep k10).keep k11).keep k12
  obtain ⟨a13, z13, d13⟩ := add_due (zs := ([("count", "7"), ("count", "64"), ("zero", ""), ("zero", "")] : List (Str × Str))) z12 d12 (by simp)
  have h13 : rS13 (EV g r a b (some (.ref p)) (some (.ref q)) none none) s13 = .nx (EV g r a b (some (.ref p)) (some (.ref (s13.length + 1))) none none) ((s13 ++ [.lst (([("count", "7"), ("count", "64"), ("zero", ""), ("zero", "")] : List (Str × Str)).map dW)]) ++ [.lst ((([("count", xa), ("count", xb), ("count", xa), ("zero", ""), ("zero", "")] : List (Str × Str)) ++ ([("count", "7"), ("count", "64"), ("zero", ""), ("zero", "")] : List (Str × Str))).map dW)]) := by
    simp only [List.map_cons, List.map_nil] at a13
    unfold rS13
    rw [sSet_d, iBin_d]
    simp [a13]
  generalize hq2 : s13.length + 1 = q2 at h13 d13
  generalize hs14 : (s13 ++ [O.lst (([("count", "7"), ("count", "64"), ("zero", ""), ("zero", "")] : List (Str × Str)).map dW)]) ++ [O.lst ((([("count", xa), ("count", xb), ("count", xa), ("zero", ""), ("zero", "")] : List (Str × Str)) ++ ([("count", "7"), ("count", "64"), ("zero", ""), ("zero", "")] : List (Str × Str))).map dW)] = s14 at h13 z13 d13
  -- a wrong value
  obtain ⟨i, hi, s15, e14, p14, k14, _⟩ := any_ok (xs := wrongs r) z13.P (by simp [wrongs]) (by simp [wrongs])
  have hw : (wrongs r)[i] ∈ wrongs r := List.getElem_mem hi
  generalize hwv : (wrongs r)[i] = w at e14 hw
  obtain ⟨xw, W⟩ := wrong_is ht he hw
  have h14 : rS14 (EV g r a b (some (.ref p)) (some (.ref q2)) none none) s14 = .nx (EV g r a b (some (.ref p)) (some (.ref q2)) (some w) none) s15 := by
    have e14' : k06__law_any [.ref g, .lst [.bl true, .non, .str "3", .tup [.int 3], .ref r]] s14 = .ok w s15 := e14
    simp [rS14, e14']
  have z14 := z13.kp k14 p14
  have d14 := d13.keep (k14.mono fun x m => by rw [List.mem_singleton.mp m]; exact List.mem_cons_self)
  obtain ⟨s16, h15, z15, k15⟩ := app_R (E := EV g r a b (some (.ref p)) (some (.ref q2)) (some w) none) (w := ("count", xw)) z14 rfl (by simp) (td_15 z14.P z14.I W)
  obtain ⟨s17, h16, z16, k16⟩ := app_R (E := EV g r a b (some (.ref p)) (some (.ref q2)) (some w) none) (w := ("count", xw)) z15 rfl (by simp) (td_16 z15.P z15.I W)
  obtain ⟨s18, h17, z17, k17⟩ := app_R (E := EV g r a b (some (.ref p)) (some (.ref q2)) (some w) none) (w := ("count", "21")) z16 rfl (by simp) (td_17 z16.P z16.I)
  obtain ⟨s19, h18, z18, k18⟩ := app_R (E := EV g r a b (some (.ref p)) (some (.ref q2)) (some w) none) (w := ("count", "-1")) z17 rfl (by simp) (td_18 z17.P z17.I)
  -- read
  have rd : ∃ u : Str × Str, okWs [u] ∧ Td J19 (EV g r a b (some (.ref p)) (some (.ref q2)) (some w) none) (dW u) g s19 ∧ ∀ t6 s, s[r]? = some (insR (tA t) (bA e)) → (iIf (tBl (iBin (opEqI "Ratio" ["str", "tuple", "list", "NoneType", "int", "bool", "dict"] p_Ratio___eq__ true) (iVar 7) (iC (.str "3")))) (iN opLstF (aCons (iC (.str "text")) (aCons (iN (opReprM [("Ratio", p_Ratio___repr__)]) (aCons (iVar 7) aNil)) aNil))) (iN opLstF (aCons (iC (.str "given")) (aCons (iC (.str "")) aNil)))) (EV g r a b (some (.ref p)) t6 (some w) none) s = .ok (dW u) s := by
    rcases td_19 (t5 := some (.ref p)) (t6 := some (.ref q2)) (t8 := none) (a := a) (b := b) z18.P z18.I W with ⟨rfl, td⟩ | ⟨ne, td⟩
    · refine ⟨("given", ""), okWs_of (by kernel_rfl), td, fun t6 s hs => ?_⟩
      have ne : opEqI "Ratio" tyR p_Ratio___eq__ true (.str "3") (.str "3") s = some (.bl false, s) := by kernel_rfl
      simp [ne]
    · refine ⟨("text", xw), fun p hp => ?_, td, fun t6 s hs => ?_⟩
      · have : p = (("text" : Str), xw) := by simpa using hp
        subst this
        exact ⟨strOk_of _, W.ok⟩
      · simp [ne s hs, W.rp s hs]
  obtain ⟨u, ou, td19, if21⟩ := rd
  obtain ⟨s20, h19, z19, k19⟩ := app_R (E := EV g r a b (some (.ref p)) (some (.ref q2)) (some w) none) (w := u) z18 rfl (by simp) td19
  have d19 := ((((d14.keep k15).keep k16).keep k17).keep k18).keep k19
  obtain ⟨a20, z20, d20⟩ := add_due (zs := ([("count", xw), ("count", xw), ("count", "21"), ("count", "-1")] : List (Str × Str))) z19 d19 (by simp)
  have h20 : rS20 (EV g r a b (some (.ref p)) (some (.ref q2)) (some w) none) s20 = .nx (EV g r a b (some (.ref p)) (some (.ref (s20.length + 1))) (some w) none) ((s20 ++ [.lst (([("count", xw), ("count", xw), ("count", "21"), ("count", "-1")] : List (Str × Str)).map dW)]) ++ [.lst (((([("count", xa), ("count", xb), ("count", xa), ("zero", ""), ("zero", "")] : List (Str × Str)) ++ ([("count", "7"), ("count", "64"), ("zero", ""), ("zero", "")] : List (Str × Str))) ++ ([("count", xw), ("count", xw), ("count", "21"), ("count", "-1")] : List (Str × Str))).map dW)]) := by
    simp only [List.map_cons, List.map_nil] at a20
    have rw_ := W.rp s20 z19.I
    unfold rS20
    rw [sSet_d, iBin_d]
    simp [rw_, a20]
  generalize hq3 : s20.length + 1 = q3 at h20 d20
  generalize hs21 : (s20 ++ [O.lst (([("count", xw), ("count", xw), ("count", "21"), ("count", "-1")] : List (Str × Str)).map dW)]) ++ [O.lst (((([("count", xa), ("count", xb), ("count", xa), ("zero", ""), ("zero", "")] : List (Str × Str)) ++ ([("count", "7"), ("count", "64"), ("zero", ""), ("zero", "")] : List (Str × Str))) ++ ([("count", xw), ("count", xw), ("count", "21"), ("count", "-1")] : List (Str × Str))).map dW)] = s21 at h20 z20 d20
  -- the last word that is due
  have ap := app_at d20.L (by simp) (dW u)
  have h21 : rS21 (EV g r a b (some (.ref p)) (some (.ref q3)) (some w) none) s21 = .nx (EV g r a b (some (.ref p)) (some (.ref q3)) (some w) none) (s21.set q3 (.lst ((((([("count", xa), ("count", xb), ("count", xa), ("zero", ""), ("zero", "")] : List (Str × Str)) ++ ([("count", "7"), ("count", "64"), ("zero", ""), ("zero", "")] : List (Str × Str))) ++ ([("count", xw), ("count", xw), ("count", "21"), ("count", "-1")] : List (Str × Str))).map dW) ++ [dW u]))) := by
    have i21 := if21 (some (.ref q3)) s21 z20.I
    unfold rS21
    rw [sExpr_d, iMl_d, iVar_d]
    simp only [List.getElem?_cons_succ, List.getElem?_cons_zero, R_ok]
    rw [isL_at d20.L, if_pos rfl, aCons_d, i21, R_ok, aNil_d, R_ok, R_ok, ap]
    rfl
  have L22 := lst_set d20.L (((((([("count", xa), ("count", xb), ("count", xa), ("zero", ""), ("zero", "")] : List (Str × Str)) ++ ([("count", "7"), ("count", "64"), ("zero", ""), ("zero", "")] : List (Str × Str))) ++ ([("count", xw), ("count", xw), ("count", "21"), ("count", "-1")] : List (Str × Str))).map dW) ++ [dW u]))
  have kq : Kp s21 (s21.set q3 (.lst ((((([("count", xa), ("count", xb), ("count", xa), ("zero", ""), ("zero", "")] : List (Str × Str)) ++ ([("count", "7"), ("count", "64"), ("zero", ""), ("zero", "")] : List (Str × Str))) ++ ([("count", xw), ("count", xw), ("count", "21"), ("count", "-1")] : List (Str × Str))).map dW) ++ [dW u]))) [q3] := Kp.set
  have P22 := kq.lst p _ (fun m => d20.p (List.mem_singleton.mp m).symm) z20.L
  have n0 : 0 ≠ q3 := lst_ne d20.L z20.T.a (fun ys z => by cases z)
  have n1 : 1 ≠ q3 := lst_ne d20.L z20.T.b (fun ys z => by cases z)
  have nr : r ≠ q3 := lst_ne d20.L z20.I (fun ys z => by cases z)
  have T22 : Tb (s21.set q3 (.lst ((((([("count", xa), ("count", xb), ("count", xa), ("zero", ""), ("zero", "")] : List (Str × Str)) ++ ([("count", "7"), ("count", "64"), ("zero", ""), ("zero", "")] : List (Str × Str))) ++ ([("count", xw), ("count", xw), ("count", "21"), ("count", "-1")] : List (Str × Str))).map dW) ++ [dW u]))) := ⟨by rw [kq.2 0 (by simpa using n0) (at_lt z20.T.a)]; exact z20.T.a, by rw [kq.2 1 (by simpa using n1) (at_lt z20.T.b)]; exact z20.T.b⟩
  have I22 : (s21.set q3 (.lst ((((([("count", xa), ("count", xb), ("count", xa), ("zero", ""), ("zero", "")] : List (Str × Str)) ++ ([("count", "7"), ("count", "64"), ("zero", ""), ("zero", "")] : List (Str × Str))) ++ ([("count", xw), ("count", xw), ("count", "21"), ("count", "-1")] : List (Str × Str))).map dW) ++ [dW u])))[r]? = some (insR (tA t) (bA e)) := by rw [kq.2 r (by simpa using nr) (at_lt z20.I)]; exact z20.I
  generalize hs22 : s21.set q3 (O.lst ((((([("count", xa), ("count", xb), ("count", xa), ("zero", ""), ("zero", "")] : List (Str × Str)) ++ ([("count", "7"), ("count", "64"), ("zero", ""), ("zero", "")] : List (Str × Str))) ++ ([("count", xw), ("count", xw), ("count", "21"), ("count", "-1")] : List (Str × Str))).map dW) ++ [dW u])) = s22 at h21 L22 P22 T22 I22
  have okl : okWs ([("count", xa), ("count", xb), ("count", xa), ("zero", ""), ("zero", ""), ("count", "7"), ("count", "64"), ("zero", ""), ("zero", ""), ("count", xw), ("count", xw), ("count", "21"), ("count", "-1"), u]) := by
    have c : ∀ z : Str, PyData.strOk z = true → ∀ pq : Str × Str, pq = (("count" : Str), z) → PyData.strOk pq.1 = true ∧ PyData.strOk pq.2 = true := fun z hz pq e => by subst e; exact ⟨strOk_of _, hz⟩
    have zz : ∀ pq : Str × Str, pq = (("zero" : Str), ("" : Str)) → PyData.strOk pq.1 = true ∧ PyData.strOk pq.2 = true := fun pq e => by subst e; exact ⟨strOk_of _, strOk_of _⟩
    intro pq hpq
    simp only [List.mem_cons, List.not_mem_nil, or_false] at hpq
    rcases hpq with h | h | h | h | h | h | h | h | h | h | h | h | h | h
    · exact c xa oa.ok pq h
    · exact c xb ob.ok pq h
    · exact c xa oa.ok pq h
    · exact zz pq h
    · exact zz pq h
    · exact c "7" (strOk_of _) pq h
    · exact c "64" (strOk_of _) pq h
    · exact zz pq h
    · exact zz pq h
    · exact c xw W.ok pq h
    · exact c xw W.ok pq h
    · exact c "21" (strOk_of _) pq h
    · exact c "-1" (strOk_of _) pq h
    · exact ou pq (by rw [h]; exact List.mem_singleton.mpr rfl)
  have eq22 := same_ws (a := .ref p) (b := .ref q3) (st := s22) (.inl ⟨p, rfl, P22⟩) (.inl ⟨q3, rfl, L22⟩) okl true
  have h22 : rS22 (EV g r a b (some (.ref p)) (some (.ref q3)) (some w) none) s22 = .nx (EV g r a b (some (.ref p)) (some (.ref q3)) (some w) none) s22 := by
    simp [rS22, eq22]
  obtain ⟨s23, e23, T23, _⟩ := compF_lst (e := (iCall k06__law_signs_right [] (aCons (iVar 4) (aCons (iVar 8) aNil)))) (env0 := EV g r a b (some (.ref p)) (some (.ref q3)) (some w) none) (v := 8) (xs := vals r) (by simp [vals]) (fun s => Tb s ∧ s[r]? = some (insR (tA t) (bA e))) (fun d hd s ⟨hT, hI⟩ => by
    obtain ⟨x, G⟩ := sign_is ht he hd
    have so := signs_ok G hI hT
    exact ⟨s ++ [.lst [dR x, dR x, dR x, dR x, dR x, dR x]], by simp [so], hT.push _, push_at hI⟩) 6 0 s22 rfl ⟨T22, I22⟩
  have e23' : compF (nxL (vals r)) (.one 8) tYes' (iCall k06__law_signs_right [] (aCons (iVar 4) (aCons (iVar 8) aNil))) (EV g r a b (some (.ref p)) (some (.ref q3)) (some w) none) 6 0 [] s22 = .ok (List.replicate (vals r).length (.bl true)) s23 := e23
  have w23 : wAny (iN opLstF (aCons (iC (.bl true)) (aCons (iC .non) (aCons (iC (.str "n")) (aCons (iN opTup (aCons (iC (.int 1)) (aCons (iC (.int 2)) aNil))) (aCons (iN opLstF (aCons (iVar 4) aNil)) (aCons (iC (.dct [] [])) aNil))))))) (EV g r a b (some (.ref p)) (some (.ref q3)) (some w) none) s22 = .ok (nxL (vals r), 6) s22 := by
    simp [vals]
  have h23 : rS23 (EV g r a b (some (.ref p)) (some (.ref q3)) (some w) none) s22 = .ret (.bl true) s23 := by
    unfold rS23
    rw [sRet_d, iN_d, aCons_d, iCompF_d, w23, R_ok]
    rw [show wipeE (EV g r a b (some (.ref p)) (some (.ref q3)) (some w) none) (Pat.one 8).slots = EV g r a b (some (.ref p)) (some (.ref q3)) (some w) none from rfl]
    dsimp only
    rw [e23']
    have al : opAll [.lst (List.replicate (vals r).length (.bl true))] s23 = some (.bl true, s23) := by kernel_rfl
    simp only [R_ok, aNil_d, al]
    rfl
  refine ⟨s23, ?_, T23⟩
  show runB B_k06__law_right 9 1 [.ref g] st = _
  rw [right_eq]
  refine runB_ret rfl ?_
  show (sSeq rS0 _) [some (.ref g), none, none, none, none, none, none, none, none] st = _
  rw [sSeq_nx h0, sSeq_nx h1, sSeq_nx h2, sSeq_nx h3, sSeq_nx (show rS4 _ _ = _ from h4), sSeq_nx (show rS5 _ _ = _ from h5), sSeq_nx (show rS6 _ _ = _ from h6), sSeq_nx (show rS7 _ _ = _ from h7), sSeq_nx h8, sSeq_nx (show rS9 _ _ = _ from h9), sSeq_nx (show rS10 _ _ = _ from h10), sSeq_nx (show rS11 _ _ = _ from h11), sSeq_nx (show rS12 _ _ = _ from h12), sSeq_nx h13, sSeq_nx h14, sSeq_nx (show rS15 _ _ = _ from h15), sSeq_nx (show rS16 _ _ = _ from h16), sSeq_nx (show rS17 _ _ = _ from h17), sSeq_nx (show rS18 _ _ = _ from h18), sSeq_nx (show rS19 _ _ = _ from h19), sSeq_nx h20, sSeq_nx h21, sSeq_nx h22, h23]
end M
/-! Rk06: the law. -/
namespace M
open PySem PySem.W Builtin Builtin.Str
abbrev st06 : Sto := [tbR, tbS]
theorem st06_tb : Tb st06 := ⟨rfl, rfl⟩
theorem sFor_nx {w : IW} {g : IG} {b : IS} {env e2 : Env} {st s1 s2 : Sto} {nx : Nx} {m : Nat} (hw : w env st = .ok (nx, m) s1) (h : forL nx g b m 0 env s1 = .nx e2 s2) : sFor w g b env st = .nx e2 s2 := by
  show liftS (w env st) env (fun a s => forL a.1 g b a.2 0 env s) = _
  rw [hw]
  exact h
theorem pow18 (st : Sto) : opPow (.int 10) (.int 18) st = some (.int 1000000000000000000, st) := by kernel_rfl
theorem well_is (ns : List Int) (i : Nat) (hn : ns.length ≤ 63) (st : Sto) : ∃ d x : Int, 0 ≤ d ∧ 0 ≤ x ∧ x < 998244353 ∧ k06__law_well [.lst (ns.map .int), .int i] st = .ok (.ref st.length) (st ++ [.lst [.int d, .int x, .int 0]]) := by
  have loop := forL_map (g := gVar 3) (b := (sSet 2 (iBin opMod (iN opInt (aCons (iBin opAdd (iBin opAdd (iBin opMul (iVar 2) (iC (.int 6007))) (iBin opMul (iVar 3) (iC (.int 19)))) (iC (.int 5))) aNil)) (iC (.int 998244353))))) (l := ns.take 4) (F := D.int) (fun _ env s => ∃ (x : Int) (g3 : Option D), env = [some (.lst (ns.map .int)), some (.int i), some (.int x), g3, none, none] ∧ s = st) (fun a r env s _ ⟨x, g3, q1, q2⟩ => by
    subst q1 q2
    have m3 := fun st => mul_small (i := x) (j := 6007) (.inr (by unfold smallI; decide)) st
    have m4 := fun st => mul_small (i := a) (j := 19) (.inr (by unfold smallI; decide)) st
    have p2 := fun i st => mod_pos (i := i) (j := 998244353) (by decide) st
    exact ⟨[some (.lst (ns.map .int)), some (.int i), some (.int x), some (.int a), none, none], s, rfl, [some (.lst (ns.map .int)), some (.int i), some (.int ((x * 6007 + a * 19 + 5) % 998244353)), some (.int a), none, none], s, .inl (by simp [m3, m4, opAdd, opInt, p2]), _, _, rfl, rfl⟩) (ns.take 4).length 0 [some (.lst (ns.map .int)), some (.int i), some (.int (41 + i)), none, none, none] st (by omega) (Nat.zero_le _) ⟨_, _, rfl, rfl⟩
  obtain ⟨e2, s2, l1, x, g3, rfl, rfl⟩ := loop
  have sl : opSl (.lst (ns.map D.int)) none (some 4) s2 = some (.lst ((ns.take 4).map D.int), s2) := by
    show some (D.lst (((ns.map D.int).drop (HT.sIx (ns.map D.int).length 0 none)).take (HT.sIx (ns.map D.int).length (ns.map D.int).length (some (4 : Int)) - HT.sIx (ns.map D.int).length 0 none)), s2) = _
    rw [show (4 : Int) = ((4 : Nat) : Int) from rfl, HT.sIx_nat, HT.sIx_none]
    congr 2
    rw [List.map_take]
    by_cases h4 : 4 ≤ (ns.map D.int).length
    · rw [Nat.min_eq_left h4]; rfl
    · rw [Nat.min_eq_right (by omega), List.take_of_length_le (by simp), List.take_of_length_le (by omega)]; rfl
  -- the number of this turn
  obtain ⟨own, ow⟩ : ∃ own : Int, (iIf (tBl (iBin opLt (iVar 1) (iN opLen (aCons (iVar 0) aNil)))) (iBin opIx (iVar 0) (iVar 1)) (iBin opAdd (iBin opMul (iVar 2) (iC (.int 53))) (iVar 1))) [some (.lst (ns.map .int)), some (.int i), some (.int x), g3, none, none] s2 = .ok (.int own) s2 := by
    by_cases h : i < ns.length
    · refine ⟨ns[i], ?_⟩
      have ix := ixl (xs := ns.map D.int) (d := .int ns[i]) (i : Int) (by omega) (by rw [Int.toNat_natCast, List.getElem?_map, List.getElem?_eq_getElem h]; rfl) s2
      have lt : (i : Int) < (ns.length : Int) := by omega
      simp [len_lst, opCmp, lt, ix]
    · have lt : ¬ ((i : Int) < (ns.length : Int)) := by omega
      have m3 := fun st => mul_small (i := x) (j := 53) (.inr (by unfold smallI; decide)) st
      exact ⟨x * 53 + i, by simp [len_lst, opCmp, lt, m3, opAdd]⟩
  obtain ⟨dg, d0, dw⟩ : ∃ d : Int, 0 ≤ d ∧ (iIf (tOr' (tBl (iBin opLt (iVar 4) (iC (.int 0)))) (tBl (iBin opGe (iVar 4) (iBin opPow (iC (.int 10)) (iC (.int 18)))))) (iN opAbs (aCons (iVar 4) aNil)) (iC (.int 0))) [some (.lst (ns.map .int)), some (.int i), some (.int x), g3, some (.int own), none] s2 = .ok (.int d) s2 := by
    by_cases h1 : own < 0
    · exact ⟨-own, by omega, by simp [opCmp, h1, opAbs]⟩
    · by_cases h2 : 1000000000000000000 ≤ own
      · exact ⟨own, by omega, by simp [opCmp, h1, h2, pow18, opAbs]⟩
      · exact ⟨0, by omega, by simp [opCmp, h1, h2, pow18]⟩
  have m5 := fun st => mul_small (i := own) (j := 3301) (.inr (by unfold smallI; decide)) st
  have m6 := fun st => mul_small (i := x) (j := 7) (.inr (by unfold smallI; decide)) st
  have p2 := fun i st => mod_pos (i := i) (j := 998244353) (by decide) st
  refine ⟨dg, (own * 3301 + x * 7 + 271) % 998244353, d0, Int.emod_nonneg _ (by decide), Int.emod_lt_of_pos _ (by decide), ?_⟩
  show runB B_k06__law_well 6 2 [.lst (ns.map .int), .int i] s2 = _
  unfold B_k06__law_well
  refine runB_ret rfl ?_
  have h1 : (sSet 2 (iBin opAdd (iC (.int 41)) (iVar 1))) [some (.lst (ns.map .int)), some (.int i), none, none, none, none] s2 = .nx [some (.lst (ns.map .int)), some (.int i), some (.int (41 + i)), none, none, none] s2 := by simp [opAdd]
  have h2 : (sFor (wAny (iSl (iVar 0) oNone (oSome (iC (.int 4))))) (gVar 3) (sSet 2 (iBin opMod (iN opInt (aCons (iBin opAdd (iBin opAdd (iBin opMul (iVar 2) (iC (.int 6007))) (iBin opMul (iVar 3) (iC (.int 19)))) (iC (.int 5))) aNil)) (iC (.int 998244353))))) [some (.lst (ns.map .int)), some (.int i), some (.int (41 + i)), none, none, none] s2 = .nx [some (.lst (ns.map .int)), some (.int i), some (.int x), g3, none, none] s2 := by
    have w : (wAny (iSl (iVar 0) oNone (oSome (iC (.int 4))))) [some (.lst (ns.map .int)), some (.int i), some (.int (41 + i)), none, none, none] s2 = .ok (nxL ((ns.take 4).map D.int), (ns.take 4).length) s2 := by
      simp
      rw [sl]
      simp
    exact sFor_nx w l1
  show (sSeq _ _) [some (.lst (ns.map .int)), some (.int i), none, none, none, none] s2 = _
  rw [sSeq_nx h1, sSeq_nx h2, sSeq_nx (sSet_ok ow)]
  show (sSeq _ _) [some (.lst (ns.map .int)), some (.int i), some (.int x), g3, some (.int own), none] s2 = _
  rw [sSeq_nx (sSet_ok dw)]
  show (sRet _) [some (.lst (ns.map .int)), some (.int i), some (.int x), g3, some (.int own), some (.int dg)] s2 = _
  simp [m5, m6, opAdd, opInt, p2]
theorem law_k06 : ∀ ns : List Int, ns.length ≤ 63 → ∃ st, k06_law [.lst (ns.map .int)] st06 = .ok (.bl true) st := by
  intro ns hn
  obtain ⟨m, hm⟩ : ∃ m : Nat, m = max 2 (min ns.length 5) := ⟨_, rfl⟩
  obtain ⟨e2, s2, h1, g1, h2, _⟩ := forL_rng (n := m) (g := gVar 1) (b := (sIf (tNot' (tTru (iCall k06__law_right [] (aCons (iCall k06__law_well [] (aCons (iVar 0) (aCons (iVar 1) aNil))) aNil)))) (sRet (iC (.bl false))) sNil)) (fun _ env s => ∃ g1, env = [some (.lst (ns.map .int)), g1] ∧ Tb s) (fun i hi env s ⟨g1, q, hT⟩ => by
    subst q
    obtain ⟨d, x, d0, x0, x1, e1⟩ := well_is ns i hn s
    obtain ⟨s', e3, T3⟩ := right_ok (g := s.length) (hT.push (.lst [.int d, .int x, .int 0])) ⟨d, x, 0, lstAt_new s _, d0, x0, x1⟩
    exact ⟨[some (.lst (ns.map .int)), some (.int i)], s, rfl, [some (.lst (ns.map .int)), some (.int i)], s', .inl (by simp [e1, e3, truD]), _, rfl, T3⟩) (env := [some (.lst (ns.map .int)), none]) (st := st06) ⟨none, rfl, st06_tb⟩
  have mn : ∀ st, opMin [.int (ns.length : Int), .int 5] st = some (.int (min ns.length 5 : Nat), st) := fun st => by
    simp [opMin]
    omega
  have mx : ∀ st, opMax [.int 2, .int (min ns.length 5 : Nat)] st = some (.int m, st) := fun st => by
    rw [hm]
    exact opMax_nat 2 (min ns.length 5) st
  have rg := rng1 (e := (iN opMax (aCons (iC (.int 2)) (aCons (iN opMin (aCons (iN opLen (aCons (iVar 0) aNil)) (aCons (iC (.int 5)) aNil))) aNil)))) (env := [some (.lst (ns.map .int)), none]) (st := st06) (st' := st06) (n := m) (by simp [len_lst]; rw [mn]; simp; rw [mx]; simp) (by omega)
  refine ⟨s2, ?_⟩
  show runB B_k06_law 2 1 [.lst (ns.map .int)] st06 = _
  unfold B_k06_law
  refine runB_ret rfl ?_
  show (sSeq _ _) [some (.lst (ns.map .int)), none] st06 = _
  have hf : (sFor (wRng1 (aCons (iN opMax (aCons (iC (.int 2)) (aCons (iN opMin (aCons (iN opLen (aCons (iVar 0) aNil)) (aCons (iC (.int 5)) aNil))) aNil))) aNil)) (gVar 1) (sIf (tNot' (tTru (iCall k06__law_right [] (aCons (iCall k06__law_well [] (aCons (iVar 0) (aCons (iVar 1) aNil))) aNil)))) (sRet (iC (.bl false))) sNil)) [some (.lst (ns.map .int)), none] st06 = .nx e2 s2 := sFor_nx rg h1
  rw [sSeq_nx hf]
  rfl
end M
/-! the end -/
open PySem PySem.W PySem.Calls PyProof.Rows
theorem PySem.Challenge.cw_evenkeeps_k06_ratios_refused_holds : PySem.Challenge.rw_evenkeeps_k06_ratios_refused.Holds :=
  M.holds_of M.law_k06
