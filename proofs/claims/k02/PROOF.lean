import PyProof.Rows.All
import Wide.All
import OpenK.AllK
import Wide.FinOn
import HandS.ForMost
import HandS.Exc
import HandS.ExcOwn
import HandS.WordsExc
import HandS.CallSlots
import HandS.Defaults
import HandS.Head0
import HandS.Head1
import HandS.Head2
import HandS.HeadEnd
import HandS.HeadHook1
import HandS.HeadHook2
import HandS.ExcCtx
import HandS.Lambda
import KE.KDictKeyed
import KE.KDictItemsList
import KE.KeyNested
import HandS.Wide
import HandS.TupAny
import HandS.TupMul
import HandS.IsInst
import HandS.Flow
import HandS.TryOnly
import HandS.ExcInit
import HandS.ExcIs
import KE.KExcInit
import HandS.Small
import HandS.ExcValue
import HandS.ExcField
import PyProof.ReprRoads
import KE.KExcIs
import KE.KNestM
import HandS.MakeKw
import HandS.MakeKwOnly
import HandS.Property
import KE.KOpsOwn
import KE.KCallOwn
import KE.KFmtOwn
import PyProof.InstNe
import HandS.FStr
import HandS.StrMore
import HandS.RaiseMore
import OpenK.KOps
import HandS.Star
import KE.DataMinMax
import HandS.Flt
import PyProof.Rows.StrMeet
import PyProof.Rows.SortStr
import PyProof.Rows.SetFrom
import PyProof.SetKind
import HandS.Set
import HandS.Strs
import HandS.SetBool
import PyProof.Draws
import HandS.Iter
import HandS.Style
import HandS.HotCalls
import KE.KTryMore
import KE.Datum
import KE.DatumIndex
import HandS.ExcInitHot
import PyProof.MaxThree
import HandS.Zip
import HandS.Sort
import HandS.GenList
import HandS.Conv
import OpenK.KWalk
import PyProof.ReprHeads
import PyProof.ReprHeadsTuple
import HandS.DictTup
import HandS.ListItems
import KE.KDictDisplayH
import KE.KDictWalk
import KE.KDictCopyH
import KE.SortKeyHeap
import HandS.SortKw
import HandS.TupLen
import PyProof.SetRoads
import PyProof.DictWalks
import PyProof.DictDisplay
import HandS.DictComp
import HandS.TupSets
import KE.SortData
import KE.KTupSum
import HandS.Text
import HandS.ReplaceLit
import KE.KAssignIn
import PyProof.StrReplace2
import PyProof.NoPylong
import HandS.WideBits
import PySem.Challenge.RW_evenkeeps_k02_ratios_made
import HandS.Hot
import PyProof.StrLawsTight
import PyProof.StrLawsChain
import PyProof.StrLawsFirst
import KE.KIntText
import KE.IntTextLaws
import PyProof.StrCalls6
set_option Elab.async false
set_option linter.all false
set_option maxRecDepth 100000
set_option maxHeartbeats 0
/-! MH: what the head asks. -/
namespace M
open PySem PySem.Spec PyProof.Rows L2
open He (eqO eqO_ok ba)
section
variable {n : Nat} {B : PySem.W.Frag → Bool} {fa : List He.Fa} {fn : List He.DefD} {K : PySem.W.Frag}
/-- own classes, then the base's mro -/
def over (tail : List Value) : List Value → Bool
  | .ref _ :: r => over tail r
  | l => l == tail
inductive Tg where
  | ty (n : String)
  | own (C : Str)
  deriving DecidableEq
def Tg.val (g : Str → Addr) : Tg → Value
  | .ty n => .type n
  | .own C => .ref (g C)
/-- a family of exceptions -/
inductive Fam where
  | v | l | r
  deriving DecidableEq
def Fam.nm : Fam → String
  | .v => "ValueError"
  | .l => "LookupError"
  | .r => "RuntimeError"
def Fam.new : Fam → String
  | .v => "ValueError.__new__"
  | .l => "LookupError.__new__"
  | .r => "RuntimeError.__new__"
def Fam.ini : Fam → String
  | .v => "ValueError.__init__"
  | .l => "LookupError.__init__"
  | .r => "RuntimeError.__init__"
def Fam.tail (f : Fam) : List Value := [.type f.nm, .type "Exception", .type "BaseException", .type "object"]
/-- the class object -/
def xclsB (K : PySem.W.Frag) (f : Fam) (C : Addr) : Bool := match K.lookup C with
  | some ⟨.type t, _, .cls cd, sl⟩ => (match cd.mro, sl.toList with
    | .ref c1 :: bm, [_, _, _, _, some (.builtin n), _] => decide (t = "type") && (decide (c1 = C) && (decide (n = f.new) && (!cd.hasDel && (cd.hasDict && over f.tail bm))))
    | _, _ => false)
  | _ => false
def xcB (K : PySem.W.Frag) (f : Fam) (C : Addr) : Bool := xclsB K f C && (eqO (PySem.W.findIn K (.ref C) "__setattr__") (some (some (.builtin "object.__setattr__"))) && (decide (PySem.W.subIn K (.ref C) (.type "BaseException") = some true) && (decide (PySem.W.typeIn K (.ref C) = some (.type "type")) && PySem.W.keepIn K (.ref C))))
/-- isinstance, fields -/
def xfAll (K : PySem.W.Frag) (C : Addr) : Bool := xfB K C && ((PySem.W.clsIn K C).isSome && (eqO (PySem.W.findIn K (.ref C) "__class__") (some (some (.builtin "object.__class__"))) && (eqO (PySem.W.specialIn K (.builtin "object.__class__") "__get__") (some (some (.builtin "getset_descriptor.__get__"))) && (decide (PySem.W.takesIn K (.builtin "object.__class__") = some true) && decide (PySem.W.mroIn K C (.type "object") = some true)))))
/-- an own exception class: its name, family, the fields of its __init__ (none: it has none) -/
structure XD where
  nm : Str
  fam : Fam
  fs : Option (List Str)
def XD.ok (K : PySem.W.Frag) (d : XD) : Bool := xfAll K (He.ga K d.nm) && (match d.fs with
  | none => PySem.W.excIn K (He.ga K d.nm) d.fam.tail d.fam.new && PySem.W.keepIn K (.ref (He.ga K d.nm))
  | some fs => xcB K d.fam (He.ga K d.nm) && (fs.all (fun f => eqO (PySem.W.findIn K (.ref (He.ga K d.nm)) f) (some none)) && (eqO (PySem.W.findIn K (.ref (He.ga K d.nm)) "__init__") (some (some (.ref (He.ma K (He.ga K d.nm) "__init__")))) && decide (PySem.W.typeIn K (.ref (He.ma K (He.ga K d.nm) "__init__")) = some (.type "function")))))
/-- isinstance's table -/
def isaB (K : PySem.W.Frag) (q : Tg × Tg × Bool) : Bool := decide (PySem.W.kitOne K (q.1.val (He.ga K)) (q.2.1.val (He.ga K)) = some q.2.2)
def isaT (tb : List (Tg × Tg × Bool)) (t c : Tg) : Option Bool := (tb.find? fun q => decide (q.1 = t) && decide (q.2.1 = c)).map fun q => q.2.2
def ttA (K : PySem.W.Frag) (x : Str) : Addr := match PySem.W.tabIn K x with
  | some (_, p) => p
  | none => 0
/-- isinstance of its instances -/
def insB (K : PySem.W.Frag) (x : Str) : Bool := (He.Fa.cls x).ok K && (eqO (PySem.W.findIn K (.ref (He.ga K x)) "__class__") (some (some (.builtin "object.__class__"))) && (eqO (PySem.W.specialIn K (.builtin "object.__class__") "__get__") (some (some (.builtin "getset_descriptor.__get__"))) &&
  (decide (PySem.W.takesIn K (.builtin "object.__class__") = some true) && decide (PySem.W.mroIn K (He.ga K x) (.type "object") = some true))))
/-- its own __eq__ -/
def eqcB (K : PySem.W.Frag) (x : Str) (ts : List String) : Bool := eqO (PySem.W.findIn K (.ref (He.ga K x)) "__eq__") (some (some (.ref (He.ma K (He.ga K x) "__eq__")))) && (PySem.W.isFn K (.ref (He.ma K (He.ga K x) "__eq__")) && (eqO (PySem.W.findIn K (.ref (He.ga K x)) "__ne__") (some (some (.builtin "object.__ne__"))) &&
  (decide (PySem.W.mroIn K (He.ga K x) (.type "object") = some true) && ts.all fun t => decide (PySem.W.subIn K (.type t) (.ref (He.ga K x)) = some false))))
/-- str(o), repr(o) by own methods -/
def slotB (K : PySem.W.Frag) (x m : Str) : Bool := eqO (PySem.W.findIn K (.ref (He.ga K x)) m) (some (some (.ref (He.ma K (He.ga K x) m)))) && PySem.W.isFn K (.ref (He.ma K (He.ga K x) m))
/-- a property's object, its getter -/
def ppA (K : PySem.W.Frag) (x f : Str) : Addr := He.ma K (He.ga K x) f
def pgA (K : PySem.W.Frag) (x f : Str) : Addr := match PySem.W.recIn K (ppA K x f) "property" with
  | some (.ref g :: _) => g
  | _ => 0
def isRef (g : Addr) : Option (List Value) → Bool
  | some (.ref a :: _) => decide (a = g)
  | _ => false
def propB (K : PySem.W.Frag) (x f : Str) : Bool := eqO (PySem.W.findIn K (.ref (He.ga K x)) f) (some (some (.ref (ppA K x f)))) && (eqO (PySem.W.specialIn K (.ref (ppA K x f)) "__get__") (some (some (.builtin "property.__get__"))) && (decide (PySem.W.takesIn K (.ref (ppA K x f)) = some true) &&
  isRef (pgA K x f) (PySem.W.recIn K (ppA K x f) "property")))
/-- a staticmethod's record, its def -/
def sfA (K : PySem.W.Frag) (x f : Str) : Addr := match PySem.W.recIn K (ppA K x f) "staticmethod" with
  | some (.ref g :: _) => g
  | _ => 0
def statB (K : PySem.W.Frag) (x f : Str) : Bool := PySem.W.readsIn K (He.ga K x) (.type "type") && (eqO (PySem.W.specialIn K (.ref (He.ga K x)) "__getattribute__") (some (some (.builtin "type.__getattribute__"))) && ((match PySem.W.findCls K (.ref (He.ga K x)) (.type "type") f with
  | some (.get (.builtin g) (.ref p) .none (.ref D)) => decide (g = "staticmethod.__get__") && (decide (p = ppA K x f) && decide (D = He.ga K x))
  | _ => false) && isRef (sfA K x f) (PySem.W.recIn K (ppA K x f) "staticmethod")))
/-- a property's getter, a staticmethod's def -/
structure PD where
  stat : Bool
  cls : Str
  fld : Str
  name : Str
  qual : Str
  params : Arguments
  body : List Stmt
  scope : Scope
def fnA (K : PySem.W.Frag) (a : Addr) : He.FnW := match K.lookup a with
  | some ⟨_, _, .func fd, _⟩ => some (fd.name, fd.qualname, fd.params, fd.body, fd.scope, fd.globals, fd.closure, fd.builtins)
  | _ => none
def PD.val (d : PD) : He.FnW := some (d.name, d.qual, d.params, .stmts d.body, d.scope, mainGlobals, [], builtinsNs)
def PD.adr (K : PySem.W.Frag) (d : PD) : Addr := if d.stat = true then sfA K d.cls d.fld else pgA K d.cls d.fld
def PD.ok (K : PySem.W.Frag) (d : PD) : Bool := (if d.stat = true then statB K d.cls d.fld else propB K d.cls d.fld) && (PySem.W.keepIn K (.ref (d.adr K)) && (match K.lookup (d.adr K) with
  | some ⟨_, _, .func fd, _⟩ => PySem.W.codeIn K fd.code d.qual && (He.dflB K fd.defaults [] && He.kwdB K fd.kwdefaults [])
  | _ => false))
abbrev AlP : Type := Bool × He.AlD × List He.FnW
def obsP (B : PySem.W.Frag → Bool) (fa : List He.Fa) (fn : List He.DefD) (pd : List PD) (K : PySem.W.Frag) : AlP := (B K && pd.all (fun d => d.ok K), He.obsD fa fn K, pd.map fun d => fnA K (d.adr K))
def valP (fn : List He.DefD) (pd : List PD) : AlP := (true, He.valD fn, pd.map PD.val)
def SaysP (B : PySem.W.Frag → Bool) (fa : List He.Fa) (fn : List He.DefD) (pd : List PD) (K : PySem.W.Frag) : Prop := obsP B fa fn pd K = valP fn pd
/-- what the head explores of an object -/
def kidsO (o : Obj) : List Addr := match o.data with
  | .seq its _ => its.toList.flatMap He.refV
  | .dict es _ => es.toList.flatMap fun e => He.refV e.val
  | .func fd => He.refV fd.code ++ (He.refV fd.defaults ++ He.refV fd.kwdefaults)
  | .cls cd => [cd.ns]
  | .fields vs => if vs.toList.length < 12 then vs.toList.flatMap He.refV else []
  | _ => []
def kidsG (g : Addr → Option Obj) : List Addr → List Addr
  | [] => []
  | a :: r => match g a with
    | some o => kidsO o ++ kidsG g r
    | none => kidsG g r
/-- what the module's names reach, layer by layer (never compared: cheap in the kernel) -/
def asL (g : Addr → Option Obj) : Nat → List Addr → List Addr
  | 0, l => l
  | n + 1, l => l ++ asL g n (kidsG g l)
def obsPG (n : Nat) (B : PySem.W.Frag → Bool) (fa : List He.Fa) (fn : List He.DefD) (pd : List PD) (g : Addr → Option Obj) : AlP := obsP B fa fn pd (He.frG g (asL g n [mainGlobals] ++ [cStatics]))
def hookP (n : Nat) (B : PySem.W.Frag → Bool) (fa : List He.Fa) (fn : List He.DefD) (pd : List PD) : PySem.W.Hook where
  α := AlP
  obs := fun s => obsPG n B fa fn pd s.heap.get?
  val := fun _ => valP fn pd
  says := fun _ h => ∃ K : PySem.W.Frag, K.In h ∧ SaysP B fa fn pd K
  of := fun _ _ e => ⟨_, He.frG_in, e⟩
  keeps := fun _ _ _ ⟨K, hK, c⟩ k => ⟨K, PySem.W.Frag.In.keeps hK k, c⟩
variable {pd : List PD}
theorem obsPG_eq {g : Addr → Option Obj} {s : Shared} (h : ∀ a, g a = s.heap.get? a) : obsPG n B fa fn pd g = (hookP n B fa fn pd).obs s := by
  have e : g = s.heap.get? := funext h
  rw [e] <;> rfl
def fmtB (K : PySem.W.Frag) (x : Str) : Bool := eqO (PySem.W.findIn K (.ref (He.ga K x)) "__format__") (some (some (.builtin "object.__format__"))) && decide (PySem.W.mroIn K (He.ga K x) (.type "object") = some true)
def xr0B (K : PySem.W.Frag) (x : Str) : Bool := decide (PySem.W.subIn K (.ref (He.ga K x)) (.type "BaseException") = some true) && decide (PySem.W.typeIn K (.ref (He.ga K x)) = some (.type "type"))
/-- a default that is a tuple: its address, its things -/
def dtB (K : PySem.W.Frag) (a : Addr) (vs : List He.Dv) : Bool := match K.lookup a with
  | some ⟨.type c, _, .seq its _, _⟩ => decide (c = "tuple") && (decide (its.size ≤ sizeLine) && He.relAll (vs.map (He.Dv.v K)) its.toList)
  | _ => false
end
end M
/-! tables -/
namespace M
open PySem
def tl_Ratio : List (Tg × Tg × Bool) := [(.ty "str", .own "Ratio", false), (.ty "tuple", .own "Ratio", false), (.ty "list", .own "Ratio", false), (.ty "NoneType", .own "Ratio", false), (.ty "int", .own "Ratio", false), (.ty "bool", .own "Ratio", false), (.ty "dict", .own "Ratio", false), (.own "Ratio", .own "Ratio", true)]
def tl_bool : List (Tg × Tg × Bool) := [(.ty "str", .ty "bool", false), (.ty "tuple", .ty "bool", false), (.ty "list", .ty "bool", false), (.ty "NoneType", .ty "bool", false), (.ty "int", .ty "bool", false), (.ty "bool", .ty "bool", true), (.ty "dict", .ty "bool", false), (.own "Ratio", .ty "bool", false)]
def tl_int : List (Tg × Tg × Bool) := [(.ty "str", .ty "int", false), (.ty "tuple", .ty "int", false), (.ty "list", .ty "int", false), (.ty "NoneType", .ty "int", false), (.ty "int", .ty "int", true), (.ty "bool", .ty "int", true), (.ty "dict", .ty "int", false), (.own "Ratio", .ty "int", false)]
def tl_str : List (Tg × Tg × Bool) := [(.ty "str", .ty "str", true), (.ty "tuple", .ty "str", false), (.ty "list", .ty "str", false), (.ty "NoneType", .ty "str", false), (.ty "int", .ty "str", false), (.ty "bool", .ty "str", false), (.ty "dict", .ty "str", false), (.own "Ratio", .ty "str", false)]
def tl_tuple : List (Tg × Tg × Bool) := [(.ty "str", .ty "tuple", false), (.ty "tuple", .ty "tuple", true), (.ty "list", .ty "tuple", false), (.ty "NoneType", .ty "tuple", false), (.ty "int", .ty "tuple", false), (.ty "bool", .ty "tuple", false), (.ty "dict", .ty "tuple", false), (.own "Ratio", .ty "tuple", false)]
end M
/-! the run of the top -/
namespace M
noncomputable section
open PySem PySem.Spec PyProof.Rows L2
def top (i : Nat) : Stmt := PySem.Challenge.pw_evenkeeps_k02_ratios_made.main.body.getD i (.Pass ⟨0, 0, 0, 0⟩)
def inCls (st : Stmt) (j : Nat) : Stmt := match st with
  | .ClassDef _ _ _ b _ _ _ _ _ _ _ => b.getD j (.Pass ⟨0, 0, 0, 0⟩)
  | s => s
abbrev dF (x : Str) (i : Nat) : He.DefD := ⟨(x, none), x, x, defArgs (top i), defBody (top i), defScope (top i), [], []⟩
abbrev dM (c m q : Str) (i j : Nat) : He.DefD := ⟨(c, some m), m, q, defArgs (inCls (top i) j), defBody (inCls (top i) j), defScope (inCls (top i) j), [], []⟩
def dfA (x m : Str) (i : Nat) (K : PySem.W.Frag) : Addr := match K.lookup (He.ma K (He.ga K x) m) with
  | some ⟨_, _, .func fd, _⟩ => (match fd.defaults with
    | .ref T => (match K.lookup T with
      | some ⟨_, _, .seq its _, _⟩ => (match its[i]? with
        | some (.ref a) => a
        | _ => 0)
      | _ => 0)
    | _ => 0)
  | _ => 0
abbrev dP (st : Bool) (c m q : Str) (i j : Nat) : PD := ⟨st, c, m, m, q, defArgs (inCls (top i) j), defBody (inCls (top i) j), defScope (inCls (top i) j)⟩
def fn_ : List He.DefD := [dM "Ratio" "__eq__" "Ratio.__eq__" 27 14, dF "is_whole" 12, dF "is_row" 23, dF "divisor_of" 13, dF "plain" 18, dF "trimmed" 15, dF "row_sum" 16, dF "rest_of" 19, dF "common_row" 20, dF "quotient" 21, dF "lowest" 24, ⟨("Ratio", some "__init__"), "__init__", "Ratio.__init__", defArgs (inCls (top 27) 0), defBody (inCls (top 27) 0), defScope (inCls (top 27) 0), [.adr (dfA "Ratio" "__init__" 0)], []⟩, dF "power_text" 25, dF "row_text" 26, dM "Ratio" "__str__" "Ratio.__str__" 27 15, dF "is_digits" 31, dF "term_in" 32, dF "row_in" 30, dF "ratio_in" 29, dF "_law_dip" 35, dF "_law_any" 36, dF "_law_row" 37, dF "_law_drawn_row" 44, dF "_law_multiplied" 38, dM "Ratio" "__bool__" "Ratio.__bool__" 27 13, dM "Ratio" "__repr__" "Ratio.__repr__" 27 16, dF "_law_common" 42, dF "_law_rest" 41, dF "_law_is_low" 43, dF "_law_poly_text" 39, dF "_law_ratio_text" 40, dF "_law_seen_right" 45, dF "_law_right" 46, dF "_law_well" 34, dF "law" 47, dM "InvalidText" "__init__" "InvalidText.__init__" 4 0, dM "InvalidCount" "__init__" "InvalidCount.__init__" 6 0]
def xd_ : List XD := [⟨"InvalidText", .v, some ["value"]⟩, ⟨"ZeroBelow", .r, none⟩, ⟨"InvalidCount", .v, some ["value"]⟩]
def pd_ : List PD := [dP true "Ratio" "read" "Ratio.read" 27 1]
def fa_ : List He.Fa := [.glo "Gap", .glo "InvalidCount", .glo "InvalidText", .glo "NotARatio", .glo "Ratio", .glo "ZeroBelow", .glo "_law_any", .glo "_law_common", .glo "_law_dip", .glo "_law_drawn_row", .glo "_law_is_low", .glo "_law_multiplied", .glo "_law_poly_text", .glo "_law_ratio_text", .glo "_law_rest", .glo "_law_right", .glo "_law_row", .glo "_law_seen_right", .glo "_law_well", .glo "common_row", .glo "divisor_of", .glo "fraction", .glo "is_digits", .glo "is_row", .glo "is_whole", .glo "lowest", .glo "plain", .glo "power_text", .glo "quotient", .glo "ratio_in", .glo "ratio_of", .glo "rest_of", .glo "row_in", .glo "row_product", .glo "row_sum", .glo "row_text", .glo "term_in", .glo "trimmed", .glo "value_at", .free "abs", .free "all", .free "bool", .free "enumerate", .free "int", .free "isinstance", .free "len", .free "list", .free "max", .free "min", .free "range", .free "repr", .free "str", .free "tuple", .free "zip", .int "MOST_POWER" 6, .int "MOST_READ" 99, .glo "law", .mkr "Ratio", .cls "Ratio", .noat "Ratio" "bottom", .noat "Ratio" "top"]
def bs_ (K : PySem.W.Frag) : List Bool := [insB K "Ratio", eqcB K "Ratio" ["str", "tuple", "list", "NoneType", "int", "bool", "dict"], slotB K "Ratio" "__str__", slotB K "Ratio" "__repr__", tl_Ratio.all (isaB K), tl_bool.all (isaB K), tl_int.all (isaB K), tl_str.all (isaB K), tl_tuple.all (isaB K), xd_.all (fun d => d.ok K), xr0B K "ZeroBelow", fmtB K "Ratio", slotB K "Ratio" "__bool__", dtB K (dfA "Ratio" "__init__" 0 K) [.int 1]]
def bB_ (K : PySem.W.Frag) : Bool := (bs_ K).all id
end
noncomputable section
open PySem PySem.W PySem.Calls PyProof.Rows
abbrev R_ : OpenRow := OpenLaw.row PySem.Challenge.rw_evenkeeps_k02_ratios_made
abbrev qv_ : Program := view R_.prog [47]
def names_ : List PySem.Str := (["_wall", "TextError", "KeepError", "InvalidText", "NotARatio", "InvalidCount", "ZeroBelow", "Gap", "MOST_POWER", "MOST_READ", "is_whole", "divisor_of", "fraction", "trimmed", "row_sum", "row_product", "plain", "rest_of", "common_row", "quotient", "value_at", "is_row", "lowest", "power_text", "row_text", "Ratio", "ratio_of", "ratio_in", "row_in", "is_digits"] : List PySem.Str) ++ (["term_in", "_law_well", "_law_dip", "_law_any", "_law_row", "_law_multiplied", "_law_poly_text", "_law_ratio_text", "_law_rest", "_law_common", "_law_is_low", "_law_drawn_row", "_law_seen_right", "_law_right"] : List PySem.Str)
abbrev hk_ : PySem.W.Hook := hookP 6 bB_ fa_ fn_ pd_
def ob_ (s : PySem.W.SharedT) : AlP := obsPG 6 bB_ fa_ fn_ pd_ (HandSHeadRun.getT s)
theorem ob_eq_ (s : PySem.W.SharedT) : ob_ s = hk_.obs s.abs := obsPG_eq (HandSHeadRun.getT_eq s)
theorem runA_ (w : World) (os : OsState) : (HandSHeadRun.endF (HandSHeadRun.stepQ (HandSHeadRun.denQ HandSHeadRun.tabQ) R_.prog w) 9000 R_.prog w os).map (fun s => (HandSHeadRun.looksF R_.prog (boot_heap w.params) s.abs, HandSHeadRun.seenQ qv_ names_ (importedModules R_.prog.main.body) (fun s => xlAt qv_ [] s && recOk R_.toRowW.records s) s.abs)) = some (true, openGood qv_ names_) := by
  kernel_rfl
theorem runB_ (w : World) (os : OsState) : (HandSHeadRun.endF (HandSHeadRun.stepQ (HandSHeadRun.denQ HandSHeadRun.tabQ) R_.prog w) 9000 R_.prog w os).map (fun s => ((ob_ s).1, (ob_ s).2.2)) = some (true, pd_.map PD.val) := by
  kernel_rfl
theorem runC0_ (w : World) (os : OsState) : (HandSHeadRun.endF (HandSHeadRun.stepQ (HandSHeadRun.denQ HandSHeadRun.tabQ) R_.prog w) 9000 R_.prog w os).map (fun s => (ob_ s).2.1.1) = some true := by
  kernel_rfl
theorem runC1_ (w : World) (os : OsState) : (HandSHeadRun.endF (HandSHeadRun.stepQ (HandSHeadRun.denQ HandSHeadRun.tabQ) R_.prog w) 9000 R_.prog w os).map (fun s => (ob_ s).2.1.2) = some ((He.valD fn_).2) := by
  kernel_rfl
theorem map_two {α β γ : Type} {x : Option α} {f : α → β × γ} {a : β} {l : γ} (h1 : x.map (fun s => (f s).1) = some a) (h2 : x.map (fun s => (f s).2) = some l) : x.map f = some (a, l) := by
  cases x with
  | none => cases h1
  | some s =>
    simp only [Option.map_some, Option.some.injEq] at h1 h2 ⊢
    rw [← h1, ← h2]
theorem runC_ (w : World) (os : OsState) : (HandSHeadRun.endF (HandSHeadRun.stepQ (HandSHeadRun.denQ HandSHeadRun.tabQ) R_.prog w) 9000 R_.prog w os).map (fun s => (ob_ s).2.1) = some (He.valD fn_) := map_two (f := fun s => (ob_ s).2.1) (runC0_ w os) (runC1_ w os)
theorem map_all {α β γ A B C : Type} {x : Option α} {f : α → β} {g : α → γ} {ob : α → A × B × C} {a : β} {b : γ} {c : A} {d : B} {e : C} (hA : x.map (fun s => (f s, g s)) = some (a, b)) (hB : x.map (fun s => ((ob s).1, (ob s).2.2)) = some (c, e)) (hC : x.map (fun s => (ob s).2.1) = some d) : x.map (fun s => (f s, g s, ob s)) = some (a, b, (c, d, e)) := by
  cases x with
  | none => cases hC
  | some s =>
    simp only [Option.map_some, Option.some.injEq, Prod.mk.injEq] at hA hB hC ⊢
    obtain ⟨h1, h2⟩ := hA
    obtain ⟨h3, h4⟩ := hB
    refine ⟨h1, h2, ?_⟩
    rw [← h3, ← hC, ← h4]
theorem run_ (w : World) : HandSHeadRun.RunEq R_ qv_ hk_ ob_ 9000 names_ w := fun os => map_all (runA_ w os) (runB_ w os) (runC_ w os)
end
end M
/-! M1: data, the view, what stands for what; results; the readings TI, TS. -/
namespace M
open PySem PySem.Spec PyProof.Rows L2

/-- a datum: texts, ints, tuples; a list or an instance that nobody changes any more; an exception; n: a mutable thing of the store -/
inductive D where
  | non | bl (b : Bool) | int (i : Int) | str (x : Str) | ty (n : String) | glo (x : Str)
  | tup (xs : List D) | lst (xs : List D) | dct (ks : List Key) (xs : List D) | obj (C : Str) (fs : List (Str × D)) | exc (C : Str) (fs : List (Str × D)) | ref (n : Nat)
  /-- a tuple of which more is known: it has no dict -/
  | tpl (xs : List D)
  /-- a function that was made: where it stands, its code object, that object's name, what it knows -/
  | adr (f c : Addr) (q : Str) (xs : List D) (vs : List V)
  deriving Inhabited
/-- a mutable thing -/
inductive O where
  | lst (xs : List D) | dct (kvs : List (Key × D)) | ins (C : Str) (fs : List (Str × D))
  /-- a dict whose keys are tuples of numbers, texts and None -/
  | dcn (t : Bool) (kvs : List (List Leaf × D))
  /-- .. while a loop walks it -/
  | lck (t : Bool) (kvs : List (List Leaf × D))
  /-- a dict whose keys are pairs of such a tuple and a number; lk: .. while something walks it -/
  | dcp (lk : Bool) (kvs : List ((List Leaf × Int) × D))
  /-- x's table of code objects: those that it tells bear the name q -/
  | tbl (x q : Str)
  deriving Inhabited
abbrev Sto := List O
abbrev Env := List (Option D)

/-- an exception's object -/
def exq (a C : Addr) (d : Option Addr) : HO := .ext fun h => ∃ (o : Obj) (vs : Array Value), h.get? a = some o ∧ o.cls = .ref C ∧ o.dict = d ∧ o.data = .fields vs ∧ vs[2]? = some .none

/-- where names stand; with the program and the world -/
structure GG where
  f : Str → Addr
  P : Program
  w : World
  t : Str → Addr
  /-- where the exception stands that is handled -/
  hd : Option Addr
instance : CoeFun GG (fun _ => Str → Addr) := ⟨GG.f⟩
instance : Coe GG (Str → Addr) := ⟨GG.f⟩
/-- the view: K the written part, g where names stand, ρ where the store's things stand, Z what is out of reach, H the heap -/
structure Vw where
  K : PySem.W.Frag
  g : GG
  Z : Addr → Prop
  ρ : List Addr
  H : Hp
abbrev Vw.to (W : Vw) (ρ : List Addr) (H : Hp) : Vw := { W with ρ := ρ, H := H }
/-- what nobody changes -/
def Vw.fro (W : Vw) (a : Addr) : Prop := a ∉ W.ρ ∧ ¬ W.Z a
def WrT (K : PySem.W.Frag) (a : Addr) (ys : List V) : Prop := ∃ (o : Obj) (its : Array Value) (n : Nat), K.lookup a = some o ∧ o.cls = .type "tuple" ∧ o.data = .seq its n ∧ its.size ≤ sizeLine ∧ Vals ys its.toList
def WrL (K : PySem.W.Frag) (a : Addr) (ys : List V) : Prop := ∃ (its : Array Value) (n : Nat), K.lookup a = some ({ cls := .type "list", data := .seq its n } : Obj) ∧ its.size ≤ sizeLine ∧ Vals ys its.toList
def Vw.Tup (W : Vw) (a : Addr) (ys : List V) : Prop := (Rd W.H a (.tup ys) ∧ W.fro a) ∨ WrT W.K a ys
/-- of which more is known -/
def Vw.Tpl (W : Vw) (a : Addr) (ys : List V) : Prop := (∃ o, W.H a = some (.frz o (.tup ys)) ∧ o.dict = none) ∧ W.fro a
theorem Vw.Tpl.tup {W : Vw} {a : Addr} {ys : List V} (h : W.Tpl a ys) : W.Tup a ys := let ⟨⟨o, e, _⟩, f⟩ := h; .inl ⟨.inr ⟨o, e⟩, f⟩
def Vw.Lst (W : Vw) (a : Addr) (ys : List V) : Prop := (Rd W.H a (.lst ys) ∧ W.fro a) ∨ WrL W.K a ys
theorem Vw.Tup.sq {W : Vw} {a : Addr} {ys : List V} (h : W.Tup a ys) : SqT W.K W.H a ys := by
  rcases h with ⟨h, _⟩ | h
  · exact .inl h
  · exact .inr h
theorem Vw.Lst.sq {W : Vw} {a : Addr} {ys : List V} (h : W.Lst a ys) : SqL W.K W.H a ys := by
  rcases h with ⟨h, _⟩ | ⟨its, n, h1, h2⟩
  · exact .inl h
  · exact .inr ⟨_, its, n, h1, rfl, rfl, rfl, h2⟩

mutual
/-- the datum d stands for the value v -/
inductive RV (W : Vw) : D → V → Prop
  | non : RV W .non .non
  | bl (b : Bool) : RV W (.bl b) (.bl b)
  | int (i : Int) : RV W (.int i) (.int i)
  | str (x : Str) : RV W (.str x) (.str x)
  | ty (n : String) : RV W (.ty n) (.ty n)
  | glo (x : Str) : RV W (.glo x) (.ref (W.g x))
  | tup {a : Addr} {xs : List D} {ys : List V} : W.Tup a ys → RVs W xs ys → RV W (.tup xs) (.ref a)
  | lst {a : Addr} {xs : List D} {ys : List V} : W.Lst a ys → RVs W xs ys → RV W (.lst xs) (.ref a)
  | dct {a : Addr} {ks : List Key} {xs : List D} {ys : List (Key × V)} : Rd W.H a (.dK ys) → W.fro a → ys.map (·.1) = ks → RVs W xs (ys.map (·.2)) → RV W (.dct ks xs) (.ref a)
  | obj {a dx : Addr} {C : Str} {fs : List (Str × D)} {gs : List (Str × V)} : W.H a = some (.ins (W.g C) dx gs) → W.fro a → RFs W fs gs → RV W (.obj C fs) (.ref a)
  | exc {a : Addr} {d : Option Addr} {C : Str} {fs : List (Str × D)} {gs : List (Str × V)} : W.H a = some (exq a (W.g C) d) → W.fro a → (d = none → gs = []) → (∀ dx, d = some dx → W.H dx = some (.xd gs) ∧ W.fro dx) → RFs W fs gs → RV W (.exc C fs) (.ref a)
  | ref {n : Nat} {a : Addr} : W.ρ[n]? = some a → RV W (.ref n) (.ref a)
  | tpl {a : Addr} {xs : List D} {ys : List V} : W.Tpl a ys → RVs W xs ys → RV W (.tpl xs) (.ref a)
  | adr {a c : Addr} {q : Str} {xs : List D} {vs : List V} : W.H c = some (LamX.CodeO c q) → W.fro c → RVs W xs vs → RV W (.adr a c q xs vs) (.ref a)
inductive RVs (W : Vw) : List D → List V → Prop
  | nil : RVs W [] []
  | cons {d : D} {v : V} {ds : List D} {vs : List V} : RV W d v → RVs W ds vs → RVs W (d :: ds) (v :: vs)
inductive RFs (W : Vw) : List (Str × D) → List (Str × V) → Prop
  | nil : RFs W [] []
  | cons {f : Str} {d : D} {v : V} {ds : List (Str × D)} {vs : List (Str × V)} : RV W d v → RFs W ds vs → RFs W ((f, d) :: ds) ((f, v) :: vs)
end

/-- later: more things in the store, what is not in it stands -/
structure Ext (W : Vw) (ρ' : List Addr) (H' : Hp) : Prop where
  pre : W.ρ <+: ρ'
  new : ∀ a ∈ ρ', a ∈ W.ρ ∨ W.H a = none
  keep : ∀ a o, W.H a = some o → a ∉ W.ρ → H' a = some o
  /-- what is locked stands, too -/
  frz : ∀ a o u, W.H a = some (.frz o u) → H' a = some (.frz o u)

section
variable {W : Vw} {ρ' ρ'' : List Addr} {H' H'' : Hp}
theorem Ext.refl : Ext W W.ρ W.H := ⟨List.prefix_refl _, fun _ h => .inl h, fun _ _ h _ => h, fun _ _ _ h => h⟩
theorem Ext.notin (x : Ext W ρ' H') {a : Addr} {o : HO} (h : W.H a = some o) (n : a ∉ W.ρ) : a ∉ ρ' := fun m => by
  rcases x.new a m with q | q
  · exact n q
  · rw [h] at q; cases q
theorem Ext.trans (x : Ext W ρ' H') (y : Ext (W.to ρ' H') ρ'' H'') : Ext W ρ'' H'' where
  pre := x.pre.trans y.pre
  new := fun a m => by
    rcases y.new a m with q | q
    · exact x.new a q
    · by_cases m2 : a ∈ W.ρ
      · exact .inl m2
      · refine .inr ?_
        cases e : W.H a with
        | none => rfl
        | some o =>
          have z := x.keep a o e m2
          rw [show H' a = none from q] at z
          cases z
  keep := fun a o h n => y.keep a o (x.keep a o h n) (x.notin h n)
  frz := fun a o u h => y.frz a o u (x.frz a o u h)
theorem fro_mono (x : Ext W ρ' H') {a : Addr} {o : HO} (h : W.H a = some o) (f : W.fro a) : (W.to ρ' H').fro a := ⟨x.notin h f.1, f.2⟩
theorem rd_mono (x : Ext W ρ' H') {a : Addr} {u : HO} (h : Rd W.H a u) (f : W.fro a) : Rd H' a u ∧ (W.to ρ' H').fro a := by
  rcases h with h | ⟨o, h⟩
  · exact ⟨.inl (x.keep _ _ h f.1), fro_mono x h f⟩
  · exact ⟨.inr ⟨o, x.keep _ _ h f.1⟩, fro_mono x h f⟩
theorem Vw.Tup.mono (x : Ext W ρ' H') {a : Addr} {ys : List V} (h : W.Tup a ys) : (W.to ρ' H').Tup a ys := by
  rcases h with ⟨h | ⟨o, h⟩, f⟩ | h
  · exact .inl ⟨.inl (x.keep _ _ h f.1), fro_mono x h f⟩
  · exact .inl ⟨.inr ⟨o, x.keep _ _ h f.1⟩, fro_mono x h f⟩
  · exact .inr h
theorem Vw.Tpl.mono (x : Ext W ρ' H') {a : Addr} {ys : List V} (h : W.Tpl a ys) : (W.to ρ' H').Tpl a ys := let ⟨⟨o, e, d⟩, f⟩ := h; ⟨⟨o, x.keep _ _ e f.1, d⟩, fro_mono x e f⟩
theorem Vw.Lst.mono (x : Ext W ρ' H') {a : Addr} {ys : List V} (h : W.Lst a ys) : (W.to ρ' H').Lst a ys := by
  rcases h with ⟨h | ⟨o, h⟩, f⟩ | h
  · exact .inl ⟨.inl (x.keep _ _ h f.1), fro_mono x h f⟩
  · exact .inl ⟨.inr ⟨o, x.keep _ _ h f.1⟩, fro_mono x h f⟩
  · exact .inr h
theorem pre_get {α : Type} {l l' : List α} (h : l <+: l') {n : Nat} {a : α} (e : l[n]? = some a) : l'[n]? = some a := by
  obtain ⟨t, rfl⟩ := h
  rw [List.getElem?_append_left (List.getElem?_eq_some_iff.mp e).1]
  exact e
mutual
theorem RV.mono (x : Ext W ρ' H') : ∀ {d : D} {v : V}, RV W d v → RV (W.to ρ' H') d v
  | _, _, .non => .non
  | _, _, .bl b => .bl b
  | _, _, .int i => .int i
  | _, _, .str s => .str s
  | _, _, .ty n => .ty n
  | _, _, .glo s => .glo (W := W.to ρ' H') s
  | _, _, .tup h r => .tup (h.mono x) (r.mono x)
  | _, _, .lst h r => .lst (h.mono x) (r.mono x)
  | _, _, .dct h f e r => .dct (rd_mono x h f).1 (rd_mono x h f).2 e (r.mono x)
  | _, _, .obj h f r => .obj (x.keep _ _ h f.1) (fro_mono x h f) (r.mono x)
  | _, _, .exc h f a b r => .exc (x.keep _ _ h f.1) (fro_mono x h f) a (fun dx e => ⟨x.keep _ _ (b dx e).1 (b dx e).2.1, fro_mono x (b dx e).1 (b dx e).2⟩) (r.mono x)
  | _, _, .ref h => .ref (pre_get x.pre h)
  | _, _, .tpl h r => .tpl (h.mono x) (r.mono x)
  | _, _, .adr h f r => .adr (x.keep _ _ h f.1) (fro_mono x h f) (r.mono x)
theorem RVs.mono (x : Ext W ρ' H') : ∀ {d : List D} {v : List V}, RVs W d v → RVs (W.to ρ' H') d v
  | _, _, .nil => .nil
  | _, _, .cons h r => .cons (h.mono x) (r.mono x)
theorem RFs.mono (x : Ext W ρ' H') : ∀ {d : List (Str × D)} {v : List (Str × V)}, RFs W d v → RFs (W.to ρ' H') d v
  | _, _, .nil => .nil
  | _, _, .cons h r => .cons (h.mono x) (r.mono x)
end
end

def leafV : Leaf → V
  | .none => .non
  | .num i => .int i
  | .text x => .str x
abbrev lfK (P : Program) (w : World) : HeapKind P w (List Leaf) := tupleKind (leafKind P w)
abbrev NP (p : List Leaf × Addr × V) (q : List Leaf × Addr × Value) : Prop := p.1 = q.1 ∧ p.2.1 = q.2.1 ∧ RelV p.2.2 q.2.2
/-- the dict at a, its entries: keys, where their tuples stand, values -/
def dcnO (P : Program) (w : World) (a : Addr) (xs : List (List Leaf × Addr × V)) : HO := .ext fun h => xs.length ≤ sizeLine ∧ (a == sysModules) = false ∧ ∃ vs : List (List Leaf × Addr × Value), Paired NP xs vs ∧
  ∃ o es ep, h.get? a = some o ∧ o.ExactDict ∧ o.data = .dict es ep ∧ es.toList = vs.map (entryOfKey (lfK P w)) ∧ (vs.map (·.1)).Nodup
/-- an entry -/
def Vw.Key (W : Vw) (t : Bool) (a : Addr) (ys : List V) : Prop := match t with
  | true => W.Tpl a ys
  | false => W.Tup a ys
theorem Vw.Key.tup {W : Vw} {t : Bool} {a : Addr} {ys : List V} (h : W.Key t a ys) : W.Tup a ys := by
  cases t with
  | true => exact Vw.Tpl.tup h
  | false => exact h
theorem Vw.Key.mono {W : Vw} {ρ' : List Addr} {H' : Hp} (x : Ext W ρ' H') {t : Bool} {a : Addr} {ys : List V} (h : W.Key t a ys) : (W.to ρ' H').Key t a ys := by
  cases t with
  | true => exact Vw.Tpl.mono x h
  | false => exact Vw.Tup.mono x h
def EN (W : Vw) (t : Bool) (p : List Leaf × D) (x : List Leaf × Addr × V) : Prop := p.1 = x.1 ∧ W.Key t x.2.1 (x.1.map leafV) ∧ RV W p.2 x.2.2
/-! pairs as keys -/
abbrev PKy := List Leaf × Int
def nkL : Leaf → NestedKey
  | .none => .none
  | .num i => .num i
  | .text x => .text x
def nkP (k : PKy) : NestedKey := .tup [.tup (k.1.map nkL), .num k.2]
abbrev NPP (p : PKy × Addr × V) (q : NestedKey × Addr × Value) : Prop := nkP p.1 = q.1 ∧ p.2.1 = q.2.1 ∧ RelV p.2.2 q.2.2
def dcpO (P : Program) (w : World) (a : Addr) (xs : List (PKy × Addr × V)) : HO := .ext fun h => xs.length ≤ sizeLine ∧ (a == sysModules) = false ∧ ∃ vs : List (NestedKey × Addr × Value), Paired NPP xs vs ∧
  ∃ o es ep, h.get? a = some o ∧ o.ExactDict ∧ o.data = .dict es ep ∧ es.toList = vs.map (entryOfKey (nestedKind P w)) ∧ (vs.map (·.1)).Nodup
def Vw.PairAt (W : Vw) (b : Addr) (k : PKy) : Prop := ∃ c, W.Tup b [.ref c, .int k.2] ∧ W.Tup c (k.1.map leafV)
theorem Vw.PairAt.map {W W' : Vw} (f : ∀ {a : Addr} {ys : List V}, W.Tup a ys → W'.Tup a ys) {b : Addr} {k : PKy} (h : W.PairAt b k) : W'.PairAt b k := let ⟨c, h1, h2⟩ := h; ⟨c, f h1, f h2⟩
def EPk (W : Vw) (p : PKy × D) (x : PKy × Addr × V) : Prop := p.1 = x.1 ∧ W.PairAt x.2.1 x.1 ∧ RV W p.2 x.2.2
def LkO (lk : Bool) (u v : HO) : Prop := match lk with
  | false => u = v
  | true => ∃ od, u = .frz od v
def KnC (W : Vw) (q : Str) (cv : Value) : Prop := ∃ c, cv = .ref c ∧ W.H c = some (LamX.CodeO c q) ∧ W.fro c
/-- the thing o of the store stands at a -/
def OR (W : Vw) (a : Addr) : O → Prop
  | .lst xs => ∃ ys, W.H a = some (.lst ys) ∧ RVs W xs ys
  | .dct kvs => ∃ ys : List (Key × V), W.H a = some (.dK ys) ∧ kvs.map (·.1) = ys.map (·.1) ∧ RVs W (kvs.map (·.2)) (ys.map (·.2))
  | .ins C fs => ∃ dx gs, W.H a = some (.ins (W.g C) dx gs) ∧ RFs W fs gs
  | .dcn t kvs => ∃ xs : List (List Leaf × Addr × V), W.H a = some (dcnO W.g.P W.g.w a xs) ∧ Paired (EN W t) kvs xs
  | .lck t kvs => ∃ (od : Obj) (xs : List (List Leaf × Addr × V)), W.H a = some (.frz od (dcnO W.g.P W.g.w a xs)) ∧ Paired (EN W t) kvs xs
  | .dcp lk kvs => ∃ (u : HO) (xs : List (PKy × Addr × V)), W.H a = some u ∧ LkO lk u (dcpO W.g.P W.g.w a xs) ∧ Paired (EPk W) kvs xs
  | .tbl x q => a = W.g.t x ∧ ∃ ps : Array Value, W.H a = some (.tbl ps) ∧ TriplesOk ps.toList ∧ ∀ (pos : Pos) (cv : Value), codeAmong pos ps.toList = some cv → KnC W q cv
structure Sim (W : Vw) (st : Sto) : Prop where
  len : W.ρ.length = st.length
  nd : W.ρ.Nodup
  nz : ∀ a ∈ W.ρ, ¬ W.Z a
  zt : ∀ a, W.Z a → ∃ o, W.H a = some o
  at_ : ∀ (n : Nat) (o : O) (a : Addr), st[n]? = some o → W.ρ[n]? = some a → OR W a o
  hot : ∀ a, W.g.hd = some a → ∃ C d, W.H a = some (exq a C d) ∧ W.fro a
structure EnvR (W : Vw) (env : Env) (σ : L2.St) : Prop where
  len : env.length = σ.length
  at_ : ∀ (i : Nat) (d : D), env[i]? = some (some d) → ∃ v, σ[i]? = some (some v) ∧ RV W d v
theorem EnvR.mono {W : Vw} {ρ' : List Addr} {H' : Hp} (x : Ext W ρ' H') {env : Env} {σ : L2.St} (h : EnvR W env σ) : EnvR (W.to ρ' H') env σ :=
  ⟨h.len, fun i d e => by obtain ⟨v, e1, r⟩ := h.at_ i d e; exact ⟨v, e1, r.mono x⟩⟩
theorem OR.some {W : Vw} {a : Addr} {o : O} (h : OR W a o) : ∃ u, W.H a = some u := by
  cases o with
  | lst xs => obtain ⟨_, e, _⟩ := h; exact ⟨_, e⟩
  | dct xs => obtain ⟨_, e, _⟩ := h; exact ⟨_, e⟩
  | ins C xs => obtain ⟨_, _, e, _⟩ := h; exact ⟨_, e⟩
  | dcn t xs => obtain ⟨_, e, _⟩ := h; exact ⟨_, e⟩
  | lck t xs => obtain ⟨_, _, e, _⟩ := h; exact ⟨_, e⟩
  | dcp lk xs => obtain ⟨_, _, e, _⟩ := h; exact ⟨_, e⟩
  | tbl x q => obtain ⟨_, _, e, _⟩ := h; exact ⟨_, e⟩
theorem Sim.tr {W : Vw} {st : Sto} (S : Sim W st) {a : Addr} (h : a ∈ W.ρ) : ∃ u, W.H a = some u := by
  obtain ⟨n, hn⟩ := List.mem_iff_getElem?.mp h
  have hl : n < st.length := by rw [← S.len]; exact (List.getElem?_eq_some_iff.mp hn).1
  exact (S.at_ n _ a (List.getElem?_eq_getElem hl) hn).some

/-! ### results -/
inductive R (α : Type) where
  | ok (a : α) (st : Sto)
  | exc (C : Str) (fs : List (Str × D)) (st : Sto)
  | bad
  deriving Inhabited
def R.bind {α β : Type} (r : R α) (k : α → Sto → R β) : R β := match r with
  | .ok a st => k a st
  | .exc C fs st => .exc C fs st
  | .bad => .bad
inductive RS where
  | nx (env : Env) (st : Sto)
  | ret (d : D) (st : Sto)
  | bk (env : Env) (st : Sto)
  | ct (env : Env) (st : Sto)
  | exc (C : Str) (fs : List (Str × D)) (env : Env) (st : Sto)
  | bad
  deriving Inhabited
abbrev IE := Env → Sto → R D
abbrev IA := Env → Sto → R (List D)
abbrev IT := Env → Sto → R Bool
abbrev IS := Env → Sto → RS

/-- what flies: its fields -/
def XR (W : Vw) (fs : List (Str × D)) (d : Option Addr) : Prop := ∃ gs, RFs W fs gs ∧ (d = none → gs = []) ∧ ∀ dx, d = some dx → W.H dx = some (.xd gs) ∧ W.fro dx
/-- what a result asks of what follows; P: how a result stands for a value -/
def Post {α β : Type} (W : Vw) (P : Vw → α → β → Prop) (r : R α) (Q : β → Hp → Prop) (E : XK) : Prop := match r with
  | .ok a st => ∀ ρ' H' b, Ext W ρ' H' → Sim (W.to ρ' H') st → P (W.to ρ' H') a b → Q b H'
  | .exc C fs st => ∀ ρ' H' d, Ext W ρ' H' → Sim (W.to ρ' H') st → XR (W.to ρ' H') fs d → E (.ref (W.g C)) d H'
  | .bad => False
def PostS (W : Vw) (r : RS) (N : Ends) (E : WX) : Prop := match r with
  | .nx env st => ∀ ρ' H' σ', Ext W ρ' H' → Sim (W.to ρ' H') st → EnvR (W.to ρ' H') env σ' → N.nx σ' H'
  | .ret d st => ∀ ρ' H' v, Ext W ρ' H' → Sim (W.to ρ' H') st → RV (W.to ρ' H') d v → N.rt v H'
  | .bk env st => ∀ ρ' H' σ', Ext W ρ' H' → Sim (W.to ρ' H') st → EnvR (W.to ρ' H') env σ' → N.bk σ' H'
  | .ct env st => ∀ ρ' H' σ', Ext W ρ' H' → Sim (W.to ρ' H') st → EnvR (W.to ρ' H') env σ' → N.ct σ' H'
  | .exc C fs env st => ∀ ρ' H' σ' d, Ext W ρ' H' → Sim (W.to ρ' H') st → EnvR (W.to ρ' H') env σ' → XR (W.to ρ' H') fs d → E (.ref (W.g C)) d σ' H'
  | .bad => False
theorem Post.ext {α β : Type} {W : Vw} {ρ' : List Addr} {H' : Hp} {P : Vw → α → β → Prop} {r : R α} {Q : β → Hp → Prop} {E : XK} (x : Ext W ρ' H') (h : Post W P r Q E) : Post (W.to ρ' H') P r Q E := by
  cases r with
  | ok a st => exact fun ρ2 H2 b y => h ρ2 H2 b (x.trans y)
  | exc C fs st => exact fun ρ2 H2 d y => h ρ2 H2 d (x.trans y)
  | bad => exact h
theorem PostS.ext {W : Vw} {ρ' : List Addr} {H' : Hp} {r : RS} {N : Ends} {E : WX} (x : Ext W ρ' H') (h : PostS W r N E) : PostS (W.to ρ' H') r N E := by
  cases r with
  | nx a st => exact fun ρ2 H2 b y => h ρ2 H2 b (x.trans y)
  | ret a st => exact fun ρ2 H2 b y => h ρ2 H2 b (x.trans y)
  | bk a st => exact fun ρ2 H2 b y => h ρ2 H2 b (x.trans y)
  | ct a st => exact fun ρ2 H2 b y => h ρ2 H2 b (x.trans y)
  | exc C fs e st => exact fun ρ2 H2 s d y => h ρ2 H2 s d (x.trans y)
  | bad => exact h
def PB (_ : Vw) (a b : Bool) : Prop := a = b
abbrev PostE (W : Vw) (r : R D) (Q : VK) (E : XK) : Prop := Post W RV r Q E
abbrev PostT (W : Vw) (r : R Bool) (Q : Bool → Hp → Prop) (E : XK) : Prop := Post W PB r Q E

/-- the frame of a body's walk: the written part, the names, the wish -/
structure Fx where
  K : PySem.W.Frag
  g : GG
  E : WX
/-- a state of the embedding stands for σ, H -/
structure At (F : Fx) (W : Vw) (st : Sto) (env : Env) (σ : L2.St) (H : Hp) : Prop where
  k : W.K = F.K
  g : W.g = F.g
  h : W.H = H
  sim : Sim W st
  env : EnvR W env σ
abbrev Fx.at_ (F : Fx) (σ : L2.St) : XK := fun c d H => F.E c d σ H
def TX {α β : Type} (P : Vw → α → β → Prop) (F : Fx) (i : Env → Sto → R α) : L2.St → Hp → (β → Hp → Prop) → Prop := fun σ H Q => ∃ W st env, At F W st env σ H ∧ Post W P (i env st) Q (F.at_ σ)
abbrev TI (F : Fx) (i : IE) : TE := TX RV F i
abbrev TA_ (F : Fx) (i : IA) : TA := TX RVs F i
abbrev TT_ (F : Fx) (i : IT) : TT := TX PB F i
def TS_ (F : Fx) (i : IS) : TS := fun N σ H => ∃ W st env, At F W st env σ H ∧ PostS W (i env st) N F.E
theorem At.next {F : Fx} {W : Vw} {st st' : Sto} {env : Env} {σ : L2.St} {H H' : Hp} {ρ' : List Addr} (a : At F W st env σ H) (x : Ext W ρ' H') (s : Sim (W.to ρ' H') st') : At F (W.to ρ' H') st' env σ H' :=
  ⟨a.k, a.g, rfl, s, a.env.mono x⟩

/-- a value in hand, what follows -/
def TK {α β : Type} (P : Vw → α → β → Prop) {γ δ : Type} (P' : Vw → γ → δ → Prop) (F : Fx) (k : α → Env → Sto → R γ) (b : β) : L2.St → Hp → (δ → Hp → Prop) → Prop :=
  fun σ H Q => ∃ W st env a, At F W st env σ H ∧ P W a b ∧ Post W P' (k a env st) Q (F.at_ σ)
theorem TX.bind {α β γ δ : Type} {P : Vw → α → β → Prop} {P' : Vw → γ → δ → Prop} {F : Fx} {i : Env → Sto → R α} {k : α → Env → Sto → R γ} {σ : L2.St} {H : Hp} {Q : δ → Hp → Prop}
    (h : TX P' F (fun env st => (i env st).bind fun a s1 => k a env s1) σ H Q) : TX P F i σ H fun b H' => TK P P' F k b σ H' Q := by
  obtain ⟨W, st, env, A, p⟩ := h
  refine ⟨W, st, env, A, ?_⟩
  have p' : Post W P' ((i env st).bind fun a s1 => k a env s1) Q (F.at_ σ) := p
  cases r : i env st with
  | ok a s1 =>
    rw [r] at p'
    exact fun ρ' H' b x s q => ⟨W.to ρ' H', s1, env, a, A.next x s, q, Post.ext x p'⟩
  | exc C fs s1 => rw [r] at p'; exact p'
  | bad => rw [r] at p'; exact p'
theorem PE.imp {X : Cx} {e : Expr} {t t' : TE} (h : PE X e t) (w : ∀ σ H Q, t' σ H Q → t σ H Q) : PE X e t' := ⟨fun p s σ H Q I q => h.run p s σ H Q I (w σ H Q q)⟩
theorem PT.imp {X : Cx} {e : Expr} {t t' : TT} (h : PT X e t) (w : ∀ σ H Q, t' σ H Q → t σ H Q) : PT X e t' := ⟨fun p s σ H Q I q => h.run p s σ H Q I (w σ H Q q)⟩
theorem PW.imp {X : Cx} {e : Expr} {t t' : TT} (h : PW X e t) (w : ∀ σ H Q, t' σ H Q → t σ H Q) : PW X e t' := ⟨fun wh p s σ H Q I q => h.run wh p s σ H Q I (w σ H Q q)⟩
theorem PA.imp {X : Cx} {e : List Expr} {t t' : TA} (h : PA X e t) (w : ∀ σ H Q, t' σ H Q → t σ H Q) : PA X e t' := ⟨fun o p s σ H Q I q => h.run o p s σ H Q I (w σ H Q q)⟩
theorem PS.imp {X : Cx} {e : Stmt} {t t' : TS} (h : PS X e t) (w : ∀ N σ H, t' N σ H → t N σ H) : PS X e t' := ⟨fun p s σ H N I q => h.run p s σ H N I (w N σ H q)⟩
theorem PSs.imp {X : Cx} {e : List Stmt} {t t' : TS} (h : PSs X e t) (w : ∀ N σ H, t' N σ H → t N σ H) : PSs X e t' := ⟨fun p s σ H N I q => h.run p s σ H N I (w N σ H q)⟩
end M
/-! M2: the store's moves; operators. -/
namespace M
open PySem PySem.Spec PyProof.Rows L2

section
variable {W : Vw} {ρ' : List Addr} {H' : Hp} {st : Sto} {a p : Addr} {u : HO}
theorem KnC.mono (x : Ext W ρ' H') {q : Str} {cv : Value} (h : KnC W q cv) : KnC (W.to ρ' H') q cv := let ⟨c, e, h1, f⟩ := h; ⟨c, e, x.keep _ _ h1 f.1, fro_mono x h1 f⟩
theorem OR.mono (x : Ext W ρ' H') (e : H' a = W.H a) : ∀ {o : O}, OR W a o → OR (W.to ρ' H') a o
  | .lst xs, ⟨ys, h, r⟩ => ⟨ys, e.trans h, r.mono x⟩
  | .dct kvs, ⟨ys, h, k, r⟩ => ⟨ys, e.trans h, k, r.mono x⟩
  | .ins C fs, ⟨dx, gs, h, r⟩ => ⟨dx, gs, e.trans h, r.mono x⟩
  | .dcn t kvs, ⟨xs, h, r⟩ => ⟨xs, e.trans h, Paired.mapP r fun p y z => ⟨z.1, z.2.1.mono x, z.2.2.mono x⟩⟩
  | .lck t kvs, ⟨od, xs, h, r⟩ => ⟨od, xs, e.trans h, Paired.mapP r fun p y z => ⟨z.1, z.2.1.mono x, z.2.2.mono x⟩⟩
  | .dcp lk kvs, ⟨u, xs, h, l, r⟩ => ⟨u, xs, e.trans h, l, Paired.mapP r fun p y z => ⟨z.1, z.2.1.map (fun t => t.mono x), z.2.2.mono x⟩⟩
  | .tbl x1 q1, ⟨ha, ps, h, t, k⟩ => ⟨ha, ps, e.trans h, t, fun pos cv hc => (k pos cv hc).mono x⟩
theorem ext_new (o : List Addr) (ho : ∀ a ∈ o, W.H a = none) (hp : W.H p = none) : Ext W (W.ρ ++ o) (upd W.H p u) where
  pre := List.prefix_append _ _
  new := fun a m => (List.mem_append.mp m).imp id (ho a)
  keep := fun b v h _ => by rw [upd_ne (ne_of_none h hp)]; exact h
  frz := fun b o u h => by rw [upd_ne (ne_of_none h hp)]; exact h
theorem ext_new0 (hp : W.H p = none) : Ext W W.ρ (upd W.H p u) where
  pre := List.prefix_refl _
  new := fun a m => .inl m
  keep := fun b v h _ => by rw [upd_ne (ne_of_none h hp)]; exact h
  frz := fun b o u h => by rw [upd_ne (ne_of_none h hp)]; exact h
theorem Sim.frozen (S : Sim W st) (x : Ext W W.ρ H') (k : ∀ a ∈ W.ρ, H' a = W.H a) : Sim (W.to W.ρ H') st where
  len := S.len
  nd := S.nd
  nz := S.nz
  zt := fun a h => by
    obtain ⟨o, e⟩ := S.zt a h
    exact ⟨o, x.keep a o e fun m => S.nz a m h⟩
  at_ := fun n o a h1 h2 => (S.at_ n o a h1 h2).mono x (k a (List.mem_of_getElem? h2))
  hot := fun a h => let ⟨C, d, e, f⟩ := S.hot a h; ⟨C, d, x.keep a _ e f.1, fro_mono x e f⟩
theorem Sim.new0 (S : Sim W st) (hp : W.H p = none) : Sim (W.to W.ρ (upd W.H p u)) st := S.frozen (ext_new0 hp) fun a m => by
  obtain ⟨o, e⟩ := S.tr m
  rw [upd_ne (ne_of_none e hp)]
theorem Sim.new (S : Sim W st) (hp : W.H p = none) {o : O} (h : OR (W.to (W.ρ ++ [p]) (upd W.H p u)) p o) : Sim (W.to (W.ρ ++ [p]) (upd W.H p u)) (st ++ [o]) := by
  have x : Ext W (W.ρ ++ [p]) (upd W.H p u) := ext_new [p] (fun a m => by rw [List.mem_singleton.mp m]; exact hp) hp
  have np : p ∉ W.ρ := fun m => by
    obtain ⟨v, e⟩ := S.tr m
    rw [hp] at e; cases e
  refine ⟨by simp [S.len], ?_, fun a m z => ?_, fun a z => ?_, fun n q a h1 h2 => ?_, fun a h => let ⟨C, d, e, f⟩ := S.hot a h; ⟨C, d, x.keep a _ e f.1, fro_mono x e f⟩⟩
  · exact List.nodup_append.mpr ⟨S.nd, by simp, fun a m b n e => by rw [List.mem_singleton.mp n] at e; rw [e] at m; exact np m⟩
  · rcases List.mem_append.mp m with m | m
    · exact S.nz a m z
    · obtain ⟨v, e⟩ := S.zt a z
      rw [List.mem_singleton.mp m, hp] at e; cases e
  · obtain ⟨v, e⟩ := S.zt a z
    exact ⟨v, x.keep a v e fun m => S.nz a m z⟩
  · by_cases hn : n < st.length
    · rw [List.getElem?_append_left hn] at h1
      rw [List.getElem?_append_left (by rw [S.len]; exact hn)] at h2
      have m := List.mem_of_getElem? h2
      obtain ⟨v, e⟩ := S.tr m
      exact (S.at_ n q a h1 h2).mono x (upd_ne (ne_of_none e hp))
    · have hn' : n = st.length := by
        have := (List.getElem?_eq_some_iff.mp h1).1
        simp at this; omega
      subst hn'
      rw [List.getElem?_append_right (by omega)] at h1
      rw [List.getElem?_append_right (by rw [S.len]; omega)] at h2
      simp at h1
      simp [S.len] at h2
      subst h1 h2
      exact h
theorem ref_new (S : Sim W st) : RV (W.to (W.ρ ++ [p]) H') (.ref st.length) (.ref p) := .ref (by
  show (W.ρ ++ [p])[st.length]? = some p
  rw [List.getElem?_append_right (by rw [S.len]; omega), S.len]
  simp)
/-- it is not locked -/
def NoFrz (H : Hp) (a : Addr) : Prop := ∀ o u, H a ≠ some (.frz o u)
theorem nf_lst {H : Hp} {a : Addr} {xs : List V} (h : H a = some (.lst xs)) : NoFrz H a := fun o u z => by rw [h] at z; cases z
theorem nf_dK {H : Hp} {a : Addr} {xs : List (Key × V)} (h : H a = some (.dK xs)) : NoFrz H a := fun o u z => by rw [h] at z; cases z
theorem nf_ins {H : Hp} {a C dx : Addr} {xs : List (Str × V)} (h : H a = some (.ins C dx xs)) : NoFrz H a := fun o u z => by rw [h] at z; cases z
theorem nf_ext {H : Hp} {a : Addr} {φ : Heap → Prop} (h : H a = some (.ext φ)) : NoFrz H a := fun o u z => by rw [h] at z; cases z
theorem nf_dcn {H : Hp} {a : Addr} {P : Program} {w : World} {xs : List (List Leaf × Addr × V)} (h : H a = some (dcnO P w a xs)) : NoFrz H a := fun o u z => by rw [h] at z; cases z
theorem ext_put (m : a ∈ W.ρ) (nf : NoFrz W.H a := by first | assumption | exact nf_lst (by assumption) | exact nf_dK (by assumption) | exact nf_ins (by assumption) | exact nf_dcn (by assumption) | exact nf_ext (by assumption)) : Ext W W.ρ (upd W.H a u) where
  pre := List.prefix_refl _
  new := fun a m => .inl m
  keep := fun b v h n => by rw [upd_ne (fun e => by rw [e] at n; exact n m)]; exact h
  frz := fun b o v h => by rw [upd_ne (fun e => by rw [e] at h; exact nf _ _ h)]; exact h
theorem Sim.put (S : Sim W st) {n : Nat} (hn : W.ρ[n]? = some a) {o : O} (h : OR (W.to W.ρ (upd W.H a u)) a o) (nf : NoFrz W.H a := by first | assumption | exact nf_lst (by assumption) | exact nf_dK (by assumption) | exact nf_ins (by assumption) | exact nf_dcn (by assumption) | exact nf_ext (by assumption)) : Sim (W.to W.ρ (upd W.H a u)) (st.set n o) := by
  have m := List.mem_of_getElem? hn
  have x : Ext W W.ρ (upd W.H a u) := ext_put m
  refine ⟨by simp [S.len], S.nd, S.nz, fun b z => ?_, fun k q b h1 h2 => ?_, fun a h => let ⟨C, d, e, f⟩ := S.hot a h; ⟨C, d, x.keep a _ e f.1, fro_mono x e f⟩⟩
  · obtain ⟨v, e⟩ := S.zt b z
    exact ⟨v, x.keep b v e fun m => S.nz b m z⟩
  · by_cases hk : k = n
    · subst hk
      rw [hn] at h2
      cases h2
      have hl : k < st.length := by rw [← S.len]; exact (List.getElem?_eq_some_iff.mp hn).1
      rw [List.getElem?_set_self hl] at h1
      cases h1
      exact h
    · rw [List.getElem?_set_ne (Ne.symm hk)] at h1
      refine (S.at_ k q b h1 h2).mono x (upd_ne fun e => hk ?_)
      subst e
      exact (List.getElem?_inj (List.getElem?_eq_some_iff.mp h2).1 S.nd).mp (h2.trans hn.symm)
theorem new_fro (S : Sim W st) (hp : W.H p = none) : (W.to W.ρ H').fro p := by
  refine ⟨fun m => ?_, fun z => ?_⟩
  · obtain ⟨v, e⟩ := S.tr m
    rw [hp] at e
    cases e
  · obtain ⟨v, e⟩ := S.zt p z
    rw [hp] at e
    cases e
theorem tup_new (S : Sim W st) (hp : W.H p = none) {xs : List D} {ys : List V} (r : RVs W xs ys) : RV (W.to W.ρ (upd W.H p (.tup ys))) (.tup xs) (.ref p) :=
  .tup (.inl ⟨.inl upd_same, new_fro S hp⟩) (r.mono (ext_new0 hp))
theorem lst_or (hp : W.H p = none) {xs : List D} {ys : List V} (r : RVs W xs ys) : OR (W.to (W.ρ ++ [p]) (upd W.H p (.lst ys))) p (.lst xs) :=
  ⟨ys, upd_same, r.mono (ext_new [p] (fun a m => by rw [List.mem_singleton.mp m]; exact hp) hp)⟩
end

/-! ### operators by values -/
abbrev Op1 := D → Sto → Option (D × Sto)
abbrev Op2 := D → D → Sto → Option (D × Sto)
abbrev OpN := List D → Sto → Option (D × Sto)
def PostO (W : Vw) (o : Option (D × Sto)) (Q : VK) : Prop := match o with
  | some (a, st) => ∀ ρ' H' b, Ext W ρ' H' → Sim (W.to ρ' H') st → RV (W.to ρ' H') a b → Q b H'
  | none => False
def ofO (o : Option (D × Sto)) : R D := match o with
  | some (a, st) => .ok a st
  | none => .bad
theorem PostO.of {W : Vw} {o : Option (D × Sto)} {Q : VK} {E : XK} (h : PostE W (ofO o) Q E) : PostO W o Q := by
  cases o with
  | none => exact h
  | some x => exact h
/-- the view and the store at H -/
structure In (F : Fx) (W : Vw) (st : Sto) (H : Hp) : Prop where
  k : W.K = F.K
  g : W.g = F.g
  h : W.H = H
  sim : Sim W st
def r1 (F : Fx) (op : Op1) : V → Hp → VK → Prop := fun x H Q => ∃ W st a, In F W st H ∧ RV W a x ∧ PostO W (op a st) Q
def r2 (F : Fx) (op : Op2) : R2 := fun x y H Q => ∃ W st a b, In F W st H ∧ RV W a x ∧ RV W b y ∧ PostO W (op a b st) Q
def rN (F : Fx) (op : OpN) : List V → Hp → VK → Prop := fun xs H Q => ∃ W st ds, In F W st H ∧ RVs W ds xs ∧ PostO W (op ds st) Q
section
variable {W : Vw} {st : Sto} {Q : VK} {d : D} {v : V}
/-- the answer is d, nothing changed -/
theorem PostO.now (h : PostO W (some (d, st)) Q) (S : Sim W st) (r : RV W d v) : Q v W.H := h W.ρ W.H v Ext.refl S r
theorem PostO.list {p : Addr} {xs : List D} {ys : List V} (h : PostO W (some (.ref st.length, st ++ [.lst xs])) Q) (S : Sim W st) (r : RVs W xs ys) (hp : W.H p = none) : Q (.ref p) (upd W.H p (.lst ys)) :=
  h (W.ρ ++ [p]) _ _ (ext_new [p] (fun a m => by rw [List.mem_singleton.mp m]; exact hp) hp) (S.new hp (lst_or hp r)) (ref_new S)
theorem PostO.tuple {p : Addr} {xs : List D} {ys : List V} (h : PostO W (some (.tup xs, st)) Q) (S : Sim W st) (r : RVs W xs ys) (hp : W.H p = none) : Q (.ref p) (upd W.H p (.tup ys)) :=
  h W.ρ _ _ (ext_new0 hp) (S.new0 hp) (tup_new S hp r)
theorem RVs.length : ∀ {xs : List D} {ys : List V}, RVs W xs ys → xs.length = ys.length
  | _, _, .nil => rfl
  | _, _, .cons _ r => by rw [List.length_cons, List.length_cons, r.length]
theorem RVs.append : ∀ {xs xs' : List D} {ys ys' : List V}, RVs W xs ys → RVs W xs' ys' → RVs W (xs ++ xs') (ys ++ ys')
  | _, _, _, _, .nil, q => q
  | _, _, _, _, .cons h r, q => .cons h (r.append q)
theorem RVs.take : ∀ {xs : List D} {ys : List V} (n : Nat), RVs W xs ys → RVs W (xs.take n) (ys.take n)
  | _, _, 0, _ => by simp only [List.take_zero]; exact .nil
  | _, _, _ + 1, .nil => .nil
  | _, _, n + 1, .cons h r => .cons h (r.take n)
theorem RVs.drop : ∀ {xs : List D} {ys : List V} (n : Nat), RVs W xs ys → RVs W (xs.drop n) (ys.drop n)
  | _, _, 0, q => q
  | _, _, _ + 1, .nil => .nil
  | _, _, n + 1, .cons h r => r.drop n
theorem RVs.get : ∀ {xs : List D} {ys : List V} {n : Nat} {d : D}, RVs W xs ys → xs[n]? = some d → ∃ v, ys[n]? = some v ∧ RV W d v
  | _, _, _, _, .nil, e => by simp at e
  | _, _, 0, _, .cons h r, e => by simp at e; subst e; exact ⟨_, rfl, h⟩
  | _, _, n + 1, _, .cons h r, e => by
    obtain ⟨v, e1, q⟩ := r.get (n := n) (by simpa using e)
    exact ⟨v, by simpa using e1, q⟩
theorem RVs.set : ∀ {xs : List D} {ys : List V} (n : Nat) {d : D} {v : V}, RVs W xs ys → RV W d v → RVs W (xs.set n d) (ys.set n v)
  | _, _, _, _, _, .nil, _ => .nil
  | _, _, 0, _, _, .cons h r, q => .cons q r
  | _, _, n + 1, _, _, .cons h r, q => .cons h (r.set n q)
theorem RVs.rep : ∀ {xs : List D} {ys : List V} (n : Nat), RVs W xs ys → RVs W (List.replicate n xs).flatten (List.replicate n ys).flatten
  | _, _, 0, _ => .nil
  | _, _, n + 1, q => by rw [List.replicate_succ, List.replicate_succ, List.flatten_cons, List.flatten_cons]; exact q.append (q.rep n)
def lstAt (st : Sto) (n : Nat) : Option (List D) := match st[n]? with
  | some (.lst xs) => some xs
  | _ => none
theorem lstAt_eq {st : Sto} {n : Nat} {xs : List D} (h : lstAt st n = some xs) : st[n]? = some (.lst xs) := by
  unfold lstAt at h
  split at h
  · cases h; assumption
  · cases h
/-- a list of the store -/
def mlst (st : Sto) : D → Option (List D)
  | .ref n => lstAt st n
  | _ => none
/-- any list -/
def alst (st : Sto) : D → Option (List D)
  | .ref n => lstAt st n
  | .lst xs => some xs
  | _ => none
/-- list or tuple -/
def aseq (st : Sto) : D → Option (List D)
  | .ref n => lstAt st n
  | .lst xs => some xs
  | .tpl xs => some xs
  | .tup xs => some xs
  | _ => none
theorem mlst_at (S : Sim W st) {d : D} {v : V} {xs : List D} (h : mlst st d = some xs) (r : RV W d v) : ∃ n a ys, d = .ref n ∧ v = .ref a ∧ W.ρ[n]? = some a ∧ st[n]? = some (.lst xs) ∧ W.H a = some (.lst ys) ∧ RVs W xs ys := by
  cases r with
  | ref e =>
    rename_i n a
    have q := lstAt_eq (show lstAt st n = some xs from h)
    obtain ⟨ys, e1, r1⟩ := S.at_ n _ a q e
    exact ⟨n, a, ys, rfl, rfl, e, q, e1, r1⟩
  | _ => cases h
theorem alst_at (S : Sim W st) {d : D} {v : V} {xs : List D} (h : alst st d = some xs) (r : RV W d v) : ∃ a ys, v = .ref a ∧ SqL W.K W.H a ys ∧ RVs W xs ys := by
  cases r with
  | ref e =>
    rename_i n a
    have q := lstAt_eq (show lstAt st n = some xs from h)
    obtain ⟨ys, e1, r1⟩ := S.at_ n _ a q e
    exact ⟨a, ys, rfl, .inl (.inl e1), r1⟩
  | lst h1 r1 => cases h; exact ⟨_, _, rfl, h1.sq, r1⟩
  | _ => cases h
theorem aseq_at (S : Sim W st) {d : D} {v : V} {xs : List D} (h : aseq st d = some xs) (r : RV W d v) : ∃ a ys, v = .ref a ∧ (SqL W.K W.H a ys ∨ SqT W.K W.H a ys) ∧ RVs W xs ys := by
  cases r with
  | ref e =>
    rename_i n a
    have q := lstAt_eq (show lstAt st n = some xs from h)
    obtain ⟨ys, e1, r1⟩ := S.at_ n _ a q e
    exact ⟨a, ys, rfl, .inl (.inl (.inl e1)), r1⟩
  | lst h1 r1 => cases h; exact ⟨_, _, rfl, .inl h1.sq, r1⟩
  | tup h1 r1 => cases h; exact ⟨_, _, rfl, .inr h1.sq, r1⟩
  | tpl h1 r1 => cases h; exact ⟨_, _, rfl, .inr h1.tup.sq, r1⟩
  | _ => cases h
theorem tup_at {xs : List D} {v : V} (r : RV W (.tup xs) v) : ∃ a ys, v = .ref a ∧ SqT W.K W.H a ys ∧ RVs W xs ys := by
  cases r with
  | tup h1 r1 => exact ⟨_, _, rfl, h1.sq, r1⟩

/-! ### arithmetic -/
variable {X : Cx} {F : Fx}
theorem OpR.or {f : Value → Value → Sem Value} {r r' : R2} (a : OpR X f r) (b : OpR X f r') : OpR X f (fun x y H Q => r x y H Q ∨ r' x y H Q) :=
  fun p s σ H x y v u Q I rx ry h => h.elim (a p s σ H x y v u Q I rx ry) (b p s σ H x y v u Q I rx ry)
theorem OpR.imp {f : Value → Value → Sem Value} {r r' : R2} (a : OpR X f r) (h : ∀ x y H Q, r' x y H Q → r x y H Q) : OpR X f r' :=
  fun p s σ H x y v u Q I rx ry q => a p s σ H x y v u Q I rx ry (h x y H Q q)
theorem CallR.imp {f : Value} {r r' : List V → Hp → VK → Prop} (a : CallR X f r) (h : ∀ x H Q, r' x H Q → r x H Q) : CallR X f r' :=
  fun p s σ H x u Q I rx q => a p s σ H x u Q I rx (h x H Q q)
theorem CallR.or {f : Value} {r r' : List V → Hp → VK → Prop} (a : CallR X f r) (b : CallR X f r') : CallR X f (fun x H Q => r x H Q ∨ r' x H Q) :=
  fun p s σ H x u Q I rx h => h.elim (a p s σ H x u Q I rx) (b p s σ H x u Q I rx)

/-- any list, as it stands -/
def LsE (K : PySem.W.Frag) (H : Hp) (a : Addr) (ys : List V) : Prop := Rd H a (.lst ys) ∨ WrL K a ys
theorem LsE.at_ {pins : List (Addr × Obj)} {s : Shared} {σ : L2.St} {H : Hp} {a : Addr} {ys : List V} (h : LsE X.K H a ys) (I : Inv X pins σ H s) : ys.length ≤ sizeLine ∧ ∃ (its : List Value) (n : Nat), Vals ys its ∧ ys.length = its.length ∧ s.heap.get? a = some ({ cls := .type "list", data := .seq its.toArray n } : Obj) := by
  rcases h with h | ⟨its, n, hk, hz, r⟩
  · obtain ⟨z, its, n, r, e⟩ := h.ok I.hok
    exact ⟨z, its, n, r, r.length, e⟩
  · have l := r.length
    exact ⟨by rw [l]; simpa using hz, its.toList, n, r, l, by simpa using I.kIn _ _ hk⟩
theorem op_catL : OpR X (binaryOp .Add) (fun x y H Q => ∃ a b xs ys, x = .ref a ∧ y = .ref b ∧ LsE X.K H a xs ∧ LsE X.K H b ys ∧ xs.length + ys.length ≤ sizeLine ∧ ∀ p, H p = none → Q (.ref p) (upd H p (.lst (xs ++ ys)))) := fun pins s σ H x y v u Q I rx ry ⟨a, b, xs, ys, ex, ey, ha, hb, hz, q⟩ => by
  subst ex ey
  cases rx
  cases ry
  obtain ⟨_, is1, n1, r1, l1, e1⟩ := ha.at_ I
  obtain ⟨_, is2, n2, r2, l2, e2⟩ := hb.at_ I
  refine PySem.P.add_list e1 e2 ?_ (by simp only [List.size_toArray]; omega)
  rw [List.append_toArray]
  exact ⟨.ref _, _, I.lnew (t' := s.toks) (r1.append r2) (by rw [List.length_append]; exact hz), rfl, q _ I.fresh⟩
theorem rep_arr (is : List Value) (m : Nat) : List.foldl (fun u v => u ++ v) #[] (List.replicate (if is.toArray.isEmpty = true then 0 else m) is.toArray) = (List.replicate m is).flatten.toArray := by
  have z := foldl_rep is m []
  cases is with
  | nil => simp
  | cons b r => simpa using z
theorem op_repL : OpR X (binaryOp .Mult) (fun x y H Q => ∃ a k xs, x = .ref a ∧ y = .int k ∧ LsE X.K H a xs ∧ -(2 ^ 63) ≤ k ∧ k < 2 ^ 63 ∧ xs.length * k.toNat ≤ sizeLine ∧ ∀ p, H p = none → Q (.ref p) (upd H p (.lst (List.replicate k.toNat xs).flatten))) := fun pins s σ H x y v u Q I rx ry ⟨a, k, xs, ex, ey, ha, h1, h2, hz, q⟩ => by
  subst ex ey
  cases rx
  obtain ⟨tk, rfl⟩ := ry
  obtain ⟨_, is, n, r, l, e⟩ := ha.at_ I
  have z1 : is.toArray.size * k.toNat ≤ sizeLine := by rw [List.size_toArray, ← l]; exact hz
  have z2 : (sizeLine : Nat) ≤ (2 ^ 63 - 1) / 8 := by decide
  have m1 := AutoListH.list___mul___list_int_3 a is.toArray n k tk (by rw [fitsIndex_both h1 h2]; simp) (by omega) (by rw [notLongL z1]; simp)
  refine wpAny_binaryOp_repeat_ref (U := "int") (T := "list") (by decide) ⟨_, e, rfl⟩ (fun s2 => typeIs_int s2 k tk) noFill_list_mul F.fills_int_mul F.slot_int_rmul repeat_list F.slot_int_index.lookup (call_meets F.slot_int_rmul (typeIs_int s k tk) F.entry_int_rmul (F.args_int_rmul_2 _ _) (int___rmul___int_list k tk a is.toArray n) ⟨e, rfl, ⟨_, e, rfl⟩, call_meets F.slot_list_mul ⟨_, e, rfl⟩ F.entry_list_mul (F.args_list_mul_2 _ _) m1 ⟨e, ?_⟩⟩)
  rw [rep_arr]
  exact ⟨.ref _, _, I.lnew (t' := s.toks) (r.rep k.toNat) (by rw [PyProof.Rows.lm_len_rep_flat, Nat.mul_comm]; exact hz), rfl, q _ I.fresh⟩
theorem lst_at {xs : List D} {v : V} (r : RV W (.lst xs) v) : ∃ a ys, v = .ref a ∧ LsE W.K W.H a ys ∧ RVs W xs ys := by
  cases r with
  | lst h1 r1 => exact ⟨_, _, rfl, h1.imp (·.1) id, r1⟩
theorem PostO.listF {p : Addr} {xs : List D} {ys : List V} (h : PostO W (some (.lst xs, st)) Q) (S : Sim W st) (r : RVs W xs ys) (hp : W.H p = none) : Q (.ref p) (upd W.H p (.lst ys)) :=
  h W.ρ _ _ (ext_new0 hp) (S.new0 hp) (.lst (.inl ⟨.inl upd_same, new_fro S hp⟩) (r.mono (ext_new0 hp)))
def smallI (i : Int) : Prop := -(2 ^ 64) < i ∧ i < 2 ^ 64
instance (i : Int) : Decidable (smallI i) := by unfold smallI; infer_instance
def opAdd : Op2 := fun a b st => match a, b with
  | .int i, .int j => some (.int (i + j), st)
  | .str x, .str y => if x.length + y.length ≤ sizeLine then some (.str (x ++ y), st) else none
  | .tup xs, .tup ys => if xs.length + ys.length ≤ sizeLine then some (.tup (xs ++ ys), st) else none
  | .lst xs, .lst ys => if xs.length + ys.length ≤ sizeLine then some (.lst (xs ++ ys), st) else none
  | .ref n, .ref m => match lstAt st n, lstAt st m with
    | some xs, some ys => if xs.length + ys.length ≤ sizeLine then some (.ref st.length, st ++ [.lst (xs ++ ys)]) else none
    | _, _ => none
  | _, _ => none
def opSub : Op2 := fun a b st => match a, b with
  | .int i, .int j => some (.int (i - j), st)
  | _, _ => none
def opMul : Op2 := fun a b st => match a, b with
  | .int i, .int j => if smallI i ∨ smallI j then some (.int (i * j), st) else if i.natAbs.log2 + j.natAbs.log2 < 1000000 then some (.int (i * j), st) else none
  | .lst xs, .int k => if -(2 ^ 63) ≤ k ∧ k < 2 ^ 63 ∧ xs.length * k.toNat ≤ sizeLine then some (.lst (List.replicate k.toNat xs).flatten, st) else none
  | .ref n, .int k => match lstAt st n with
    | some xs => if -(2 ^ 63) ≤ k ∧ k < 2 ^ 63 ∧ xs.length * k.toNat ≤ sizeLine then some (.ref st.length, st ++ [.lst (List.replicate k.toNat xs).flatten]) else none
    | none => none
  | _, _ => none
def opFdiv : Op2 := fun a b st => match a, b with
  | .int i, .int j => if 0 < j ∧ j.natAbs.log2 < 9000 then some (.int (i / j), st) else if j ≠ 0 ∧ j.natAbs < 1073741824 then some (.int (i.fdiv j), st) else none
  | _, _ => none
def opMod : Op2 := fun a b st => match a, b with
  | .int i, .int j => if 0 < j then some (.int (i % j), st) else if j ≠ 0 then some (.int (i.fmod j), st) else none
  | _, _ => none
def opPow : Op2 := fun a b st => match a, b with
  | .int i, .int j => if 0 ≤ j ∧ j ≤ 1000000 ∧ i.natAbs < 2 ^ 64 then some (.int (i ^ j.toNat), st) else none
  | _, _ => none

theorem In.now {H : Hp} (h : In F W st H) (p : PostO W (some (d, st)) Q) (r : RV W d v) : Q v H := by rw [← h.h]; exact p.now h.sim r
theorem or_sub : OpR X (binaryOp .Sub) (r2 F opSub) := OpR.imp op_sub fun x y H Q ⟨W, st, a, b, I, ra, rb, p⟩ => by
  unfold opSub at p
  split at p
  · cases ra; cases rb; exact ⟨_, _, rfl, rfl, I.now p (.int _)⟩
  · exact p.elim
theorem or_pow : OpR X (binaryOp .Pow) (r2 F opPow) := OpR.imp op_pow fun x y H Q ⟨W, st, a, b, I, ra, rb, p⟩ => by
  unfold opPow at p
  split at p
  · split at p
    · cases ra; cases rb; exact ⟨_, _, rfl, rfl, by assumption, I.now p (.int _)⟩
    · exact p.elim
  · exact p.elim
theorem or_mod : OpR X (binaryOp .Mod) (r2 F opMod) := OpR.imp (OpR.or op_mod op_modN) fun x y H Q ⟨W, st, a, b, I, ra, rb, p⟩ => by
  unfold opMod at p
  split at p
  · split at p
    · cases ra; cases rb; exact .inl ⟨_, _, rfl, rfl, by assumption, I.now p (.int _)⟩
    · split at p
      · cases ra; cases rb; exact .inr ⟨_, _, rfl, rfl, by assumption, I.now p (.int _)⟩
      · exact p.elim
  · exact p.elim
theorem or_fdiv : OpR X (binaryOp .FloorDiv) (r2 F opFdiv) := OpR.imp (OpR.or op_fdivW op_fdivN) fun x y H Q ⟨W, st, a, b, I, ra, rb, p⟩ => by
  unfold opFdiv at p
  split at p
  · split at p
    · cases ra; cases rb; exact .inl ⟨_, _, rfl, rfl, by assumption, I.now p (.int _)⟩
    · split at p
      · cases ra; cases rb; exact .inr ⟨_, _, rfl, rfl, by assumption, I.now p (.int _)⟩
      · exact p.elim
  · exact p.elim
theorem or_mul (hk : X.K = F.K) : OpR X (binaryOp .Mult) (r2 F opMul) := OpR.imp (OpR.or op_mulW (OpR.or op_rep (OpR.or op_mul op_repL))) fun x y H Q ⟨W, st, a, b, I, ra, rb, p⟩ => by
  unfold opMul at p
  split at p
  · split at p
    · cases ra; cases rb; exact .inr (.inr (.inl ⟨_, _, rfl, rfl, by assumption, I.now p (.int _)⟩))
    · split at p
      · cases ra; cases rb; exact .inl ⟨_, _, rfl, rfl, by assumption, I.now p (.int _)⟩
      · exact p.elim
  · split at p
    · rename_i c
      obtain ⟨a, ys, rfl, hl, r⟩ := lst_at ra
      cases rb
      have eH := I.h
      subst eH
      rw [I.k, ← hk] at hl
      refine .inr (.inr (.inr ⟨a, _, ys, rfl, rfl, hl, c.1, c.2.1, by rw [← r.length]; exact c.2.2, fun q hq => ?_⟩))
      exact p.listF I.sim (r.rep _) hq
    · exact p.elim
  · split at p
    · rename_i xs hx
      split at p
      · rename_i c
        obtain ⟨n, a, ys, e1, rfl, e2, e3, e4, r⟩ := mlst_at I.sim (d := .ref _) (xs := xs) hx ra
        cases rb
        have eH := I.h
        subst eH
        refine .inr (.inl ⟨a, _, ys, rfl, rfl, e4, c.1, c.2.1, by rw [← r.length]; exact c.2.2, fun q hq => ?_⟩)
        exact p.list I.sim (r.rep _) hq
      · exact p.elim
    · exact p.elim
  · exact p.elim
theorem or_add (hk : X.K = F.K) : OpR X (binaryOp .Add) (r2 F opAdd) := OpR.imp (OpR.or op_add (OpR.or op_add_str (OpR.or op_catA (OpR.or op_cat op_catL)))) fun x y H Q ⟨W, st, a, b, I, ra, rb, p⟩ => by
  unfold opAdd at p
  split at p
  · cases ra; cases rb; exact .inl ⟨_, _, rfl, rfl, I.now p (.int _)⟩
  · split at p
    · cases ra; cases rb; exact .inr (.inl ⟨_, _, rfl, rfl, by assumption, I.now p (.str _)⟩)
    · exact p.elim
  · split at p
    · rename_i c
      obtain ⟨a, xs', rfl, t1, r⟩ := tup_at ra
      obtain ⟨b, ys', rfl, t2, r'⟩ := tup_at rb
      have eK := I.k
      have eH := I.h
      subst eH
      rw [eK, ← hk] at t1 t2
      refine .inr (.inr (.inl ⟨a, b, _, _, rfl, rfl, t1, t2, by rw [← r.length, ← r'.length]; exact c, fun e => ?_, fun e1 e2 => ?_, fun e1 e2 q hq => ?_⟩))
      · subst e
        cases r
        exact p.now I.sim rb
      · subst e2
        cases r'
        rw [List.append_nil] at p
        exact p.now I.sim ra
      · exact p.tuple I.sim (r.append r') hq
    · exact p.elim
  · split at p
    · rename_i c
      obtain ⟨a, xs', rfl, t1, r⟩ := lst_at ra
      obtain ⟨b, ys', rfl, t2, r'⟩ := lst_at rb
      have eK := I.k
      have eH := I.h
      subst eH
      rw [eK, ← hk] at t1 t2
      refine .inr (.inr (.inr (.inr ⟨a, b, _, _, rfl, rfl, t1, t2, by rw [← r.length, ← r'.length]; exact c, fun q hq => ?_⟩)))
      exact p.listF I.sim (r.append r') hq
    · exact p.elim
  · split at p
    · rename_i xs ys h1 h2
      split at p
      · rename_i c
        obtain ⟨n, a, xs', e1, rfl, e2, e3, e4, r⟩ := mlst_at I.sim (d := .ref _) (xs := xs) h1 ra
        obtain ⟨m, b, ys', f1, rfl, f2, f3, f4, r'⟩ := mlst_at I.sim (d := .ref _) (xs := ys) h2 rb
        have eH := I.h
        subst eH
        refine .inr (.inr (.inr (.inl ⟨a, b, _, _, rfl, rfl, e4, f4, by rw [← r.length, ← r'.length]; exact c, fun q hq => ?_⟩)))
        exact p.list I.sim (r.append r') hq
      · exact p.elim
    · exact p.elim
  · exact p.elim
end
end M
/-! M3: expressions: names, constants, operators, comparisons, tests, arguments, displays. -/
namespace M
open PySem PySem.Spec PyProof.Rows L2

section
variable {α β γ δ : Type} {P : Vw → α → β → Prop} {P' : Vw → γ → δ → Prop} {F : Fx} {σ : L2.St} {H : Hp}
theorem Post.mono {W : Vw} {r : R α} {Q Q' : β → Hp → Prop} {E : XK} (h : Post W P r Q E) (m : ∀ b H, Q b H → Q' b H) : Post W P r Q' E := by
  cases r with
  | ok a st => exact fun ρ H b x s p => m _ _ (h ρ H b x s p)
  | exc C fs st => exact h
  | bad => exact h
theorem TX.mono {i : Env → Sto → R α} {Q Q' : β → Hp → Prop} (h : TX P F i σ H Q) (m : ∀ b H, Q b H → Q' b H) : TX P F i σ H Q' := by
  obtain ⟨W, st, env, A, p⟩ := h
  exact ⟨W, st, env, A, p.mono m⟩
/-- a value in hand (a), a further step i that does not look at it, then k -/
theorem TK.bind {κ μ : Type} {P2 : Vw → κ → μ → Prop} {i : Env → Sto → R γ} {k : α → γ → Env → Sto → R κ} {Q : μ → Hp → Prop} {b : β} (mo : ∀ {W : Vw} {ρ' : List Addr} {H' : Hp} {a : α} {b : β}, Ext W ρ' H' → P W a b → P (W.to ρ' H') a b)
    (h : TK P P2 F (fun a env st => (i env st).bind fun c s1 => k a c env s1) b σ H Q) :
    TX P' F i σ H fun c H' => ∃ W st env a d, At F W st env σ H' ∧ P W a b ∧ P' W d c ∧ Post W P2 (k a d env st) Q (F.at_ σ) := by
  obtain ⟨W, st, env, a, A, p, q⟩ := h
  refine ⟨W, st, env, A, ?_⟩
  have q' : Post W P2 ((i env st).bind fun c s1 => k a c env s1) Q (F.at_ σ) := q
  cases r : i env st with
  | ok d s1 =>
    rw [r] at q'
    exact fun ρ' H' c x s pc => ⟨W.to ρ' H', s1, env, a, d, A.next x s, mo x p, pc, Post.ext x q'⟩
  | exc C fs s1 => rw [r] at q'; exact q'
  | bad => rw [r] at q'; exact q'
theorem At.in_ {W : Vw} {st : Sto} {env : Env} (a : At F W st env σ H) : In F W st H := ⟨a.k, a.g, a.h, a.sim⟩
end

section
variable {X : Cx} {F : Fx} {pos : Pos}
/-! ### names, constants -/
def iC (d : D) : IE := fun _ st => .ok d st
def iVar (i : Nat) : IE := fun env st => match env[i]? with
  | some (some d) => .ok d st
  | _ => .bad
theorem e_var {e : Expr} {i : Nat} (h : PE X e (tVar i)) : PE X e (TI F (iVar i)) := PE.imp h fun σ H Q ⟨W, st, env, A, p⟩ => by
  unfold iVar at p
  split at p
  · rename_i d e
    obtain ⟨v, e1, r⟩ := A.env.at_ _ _ e
    refine ⟨v, e1, ?_⟩
    have q := p W.ρ W.H v Ext.refl A.sim r
    rw [A.h] at q
    exact q
  · exact p.elim
/-- the name in slot i -/
theorem e_v (i : Nat) {x : Str} (hN : X.N[i]? = some x := by rfl) (hv : Vis X.env.scope x := by first | exact Or.inl rfl | exact Or.inr (Or.inl rfl) | exact Or.inr (Or.inr rfl)) (hd : (x == ("__debug__" : Str)) = false := by decide)
    (hcd : (x == ("__classdict__" : Str)) = false := by decide) : PE X (.Name x pos) (TI F (iVar i)) := e_var (pe_var hN hv hd hcd)
theorem e_con {e : Expr} {d : D} {v : V} (h : PE X e (tC v)) (r : ∀ W : Vw, W.K = F.K → W.g = F.g → RV W d v) : PE X e (TI F (iC d)) := PE.imp h fun σ H Q ⟨W, st, env, A, p⟩ => by
  have q := p W.ρ W.H v Ext.refl A.sim (r W A.k A.g)
  rw [A.h] at q
  exact q
theorem e_int {i : Int} {j} : PE X (.Constant (.int i) j pos) (TI F (iC (.int i))) := e_con pe_int fun _ _ _ => .int _
theorem e_bl {i : Bool} {j} : PE X (.Constant (.bool i) j pos) (TI F (iC (.bl i))) := e_con pe_bl fun _ _ _ => .bl _
theorem e_str {i : Str} {j} : PE X (.Constant (.str i) j pos) (TI F (iC (.str i))) := e_con pe_str fun _ _ _ => .str _
theorem e_non {j} : PE X (.Constant .none j pos) (TI F (iC .non)) := e_con pe_non fun _ _ _ => .non

/-! ### operators -/
def iBin (f : Op2) (i j : IE) : IE := fun env st => (i env st).bind fun a s1 => (j env s1).bind fun b s2 => ofO (f a b s2)
def iUn (f : Op1) (i : IE) : IE := fun env st => (i env st).bind fun a s1 => ofO (f a s1)
theorem bin_r2 {f : Op2} {i j : IE} {σ : L2.St} {H : Hp} {Q : VK} (h : TI F (iBin f i j) σ H Q) : tOp (r2 F f) (TI F i) (TI F j) σ H Q :=
  (TX.bind (k := fun a env s1 => (j env s1).bind fun b s2 => ofO (f a b s2)) h).mono fun x H1 h1 => (TK.bind (i := j) (k := fun a b env s2 => ofO (f a b s2)) (fun x r => RV.mono x r) h1).mono fun y H2 ⟨W, st, env, a, b, A, ra, rb, p⟩ => ⟨W, st, a, b, A.in_, ra, rb, PostO.of p⟩
theorem e_bin {a b : Expr} {op : Operator} {f : Op2} {i j : IE} (ho : OpR X (binaryOp op) (r2 F f)) (ha : PE X a (TI F i)) (hb : PE X b (TI F j)) : PE X (.BinOp a op b pos) (TI F (iBin f i j)) :=
  PE.imp (pe_op ho ha hb) fun _ _ _ h => bin_r2 h
theorem e_cmp {a b : Expr} {op : CmpOp} {f : Op2} {i j : IE} (ho : OpR X (compareOp op) (r2 F f)) (ha : PE X a (TI F i)) (hb : PE X b (TI F j)) (h1 : behindInMarks op b = false := by first | exact nomark _ | rfl) : PE X (.Compare a [op] [b] pos) (TI F (iBin f i j)) :=
  PE.imp (pe_cmpR ho ha hb h1) fun _ _ _ h => bin_r2 h
theorem e_un {a : Expr} {op : UnaryOp} {f : Op1} {i : IE} (ho : UnR X (unaryOp op) (r1 F f)) (ha : PE X a (TI F i)) : PE X (.UnaryOp op a pos) (TI F (iUn f i)) :=
  PE.imp (pe_un ho ha) fun _ _ _ h => (TX.bind (k := fun a env s1 => ofO (f a s1)) h).mono fun x H1 ⟨W, st, env, a, A, ra, p⟩ => ⟨W, st, a, A.in_, ra, PostO.of p⟩
end

section
variable {X : Cx} {F : Fx} {pos : Pos} {W : Vw} {st : Sto}
/-! ### equality -/
def allP {α β : Type} (f : α → Option β) : List α → Option (List β)
  | [] => some []
  | x :: xs => match f x, allP f xs with
    | some p, some ps => some (p :: ps)
    | _, _ => none
theorem allP_cons {α β : Type} {f : α → Option β} {x : α} {xs : List α} {ps : List β} (h : allP f (x :: xs) = some ps) : ∃ p r, f x = some p ∧ allP f xs = some r ∧ ps = p :: r := by
  unfold allP at h
  split at h
  · rename_i p r e1 e2
    cases h
    exact ⟨p, r, e1, e2, rfl⟩
  · cases h
/-- the datum as the library's plain data -/
def toP (st : Sto) : Nat → D → Option PyData
  | 0, _ => none
  | n + 1, d => match d with
    | .non => some .none
    | .bl b => some (.bool b)
    | .int i => some (.int i)
    | .str x => if PyData.strOk x then some (.str x) else none
    | .tup xs => (allP (toP st n) xs).map .tuple
    | .tpl xs => (allP (toP st n) xs).map .tuple
    | .lst xs => (allP (toP st n) xs).map .list
    | .ref k => match lstAt st k with
      | some xs => (allP (toP st n) xs).map .list
      | none => none
    | _ => none
/-- what toP gives -/
def Good (W : Vw) (n : Nat) (d : D) (p : PyData) : Prop := p.canLay0 = true ∧ p.depth ≤ n ∧ ∀ v, RV W d v → Dp W.K W.H v p
theorem good_all {n : Nat} {f : D → Option PyData} (hf : ∀ d p, f d = some p → Good W n d p) : ∀ {xs : List D} {ps : List PyData}, allP f xs = some ps → PyData.canLayAll0 ps = true ∧ PyData.depthAll ps ≤ n ∧ ∀ ys, RVs W xs ys → DpAll W.K W.H ys ps
  | [], ps, h => by
    cases h
    exact ⟨rfl, Nat.zero_le _, fun ys r => by cases r; exact .nil⟩
  | x :: xs, ps, h => by
    obtain ⟨p, r, e1, e2, rfl⟩ := allP_cons h
    obtain ⟨a1, a2, a3⟩ := hf _ _ e1
    obtain ⟨b1, b2, b3⟩ := good_all hf e2
    refine ⟨by show (PyData.canLay0 p && PyData.canLayAll0 r) = true; rw [a1, b1]; rfl, Nat.max_le.mpr ⟨a2, b2⟩, fun ys q => ?_⟩
    cases q with
    | cons q1 q2 => exact .cons (a3 _ q1) (b3 _ q2)
theorem toP_good (S : Sim W st) : ∀ (n : Nat) (d : D) (p : PyData), toP st n d = some p → Good W n d p
  | 0, _, _, h => by cases h
  | n + 1, d, p, h => by
    cases d with
    | non => cases h; exact ⟨rfl, Nat.zero_le _, fun v r => by cases r; exact .non⟩
    | bl b => cases h; exact ⟨rfl, Nat.zero_le _, fun v r => by cases r; exact .bl _⟩
    | int b => cases h; exact ⟨rfl, Nat.zero_le _, fun v r => by cases r; exact .int _⟩
    | str x =>
      have h' : (if PyData.strOk x then some (PyData.str x) else none) = some p := h
      split at h'
      · rename_i c
        cases h'
        exact ⟨c, Nat.zero_le _, fun v r => by cases r; exact .str _⟩
      · cases h'
    | tup xs =>
      have h' : (allP (toP st n) xs).map PyData.tuple = some p := h
      obtain ⟨ps, e, rfl⟩ := Option.map_eq_some_iff.mp h'
      obtain ⟨b1, b2, b3⟩ := good_all (toP_good S n) e
      exact ⟨b1, Nat.succ_le_succ b2, fun v r => by
        obtain ⟨a, ys, rfl, q, r'⟩ := tup_at r
        exact .tup q (b3 _ r')⟩
    | tpl xs =>
      have h' : (allP (toP st n) xs).map PyData.tuple = some p := h
      obtain ⟨ps, e, rfl⟩ := Option.map_eq_some_iff.mp h'
      obtain ⟨b1, b2, b3⟩ := good_all (toP_good S n) e
      exact ⟨b1, Nat.succ_le_succ b2, fun v r => by
        cases r with
        | tpl q r' => exact .tup q.tup.sq (b3 _ r')⟩
    | lst xs =>
      have h' : (allP (toP st n) xs).map PyData.list = some p := h
      obtain ⟨ps, e, rfl⟩ := Option.map_eq_some_iff.mp h'
      obtain ⟨b1, b2, b3⟩ := good_all (toP_good S n) e
      exact ⟨b1, Nat.succ_le_succ b2, fun v r => by
        obtain ⟨a, ys, rfl, q, r'⟩ := alst_at S (xs := xs) rfl r
        exact .lst q (b3 _ r')⟩
    | ref k =>
      have h' : (match lstAt st k with
        | some xs => (allP (toP st n) xs).map PyData.list
        | none => none) = some p := h
      split at h'
      · rename_i xs hx
        obtain ⟨ps, e, rfl⟩ := Option.map_eq_some_iff.mp h'
        obtain ⟨b1, b2, b3⟩ := good_all (toP_good S n) e
        exact ⟨b1, Nat.succ_le_succ b2, fun v r => by
          obtain ⟨a, ys, rfl, q, r'⟩ := alst_at S (d := .ref k) (xs := xs) hx r
          exact .lst q (b3 _ r')⟩
      · cases h'
    | _ => cases h
def opEq (neg : Bool) : Op2 := fun a b st => match a, b with
  | .str x, .str y => some (.bl (if neg then !decide (x = y) else decide (x = y)), st)
  | a, b => match toP st 64 a, toP st 64 b with
    | some p, some q => some (.bl (if neg then !PyData.eqv p q else PyData.eqv p q), st)
    | _, _ => none
theorem eq_red (hk : X.K = F.K) (neg : Bool) (x y : V) (H : Hp) (Q : VK) (h : r2 F (opEq neg) x y H Q) :
    (scal x y = true ∧ Q (.bl (if neg then !decide (x = y) else decide (x = y))) H) ∨ (∃ d e, Dp X.K H x d ∧ Dp X.K H y e ∧ SeqAt.shaped d = true ∧ SeqAt.shaped e = true ∧ Q (.bl (if neg then !PyData.eqv d e else PyData.eqv d e)) H) := by
  obtain ⟨W, st, a, b, I, ra, rb, p⟩ := h
  unfold opEq at p
  split at p
  · rename_i u v
    cases ra
    cases rb
    refine .inl ⟨rfl, ?_⟩
    have e : decide (V.str u = V.str v) = decide (u = v) := by
      rw [Bool.eq_iff_iff]; simp
    rw [e]
    exact I.now p (.bl _)
  · split at p
    · rename_i d e h1 h2
      obtain ⟨a1, a2, a3⟩ := toP_good I.sim _ _ _ h1
      obtain ⟨b1, b2, b3⟩ := toP_good I.sim _ _ _ h2
      have z := I.now p (.bl _)
      have x1 := a3 _ ra
      have x2 := b3 _ rb
      rw [I.k, ← hk, I.h] at x1 x2
      refine .inr ⟨d, e, x1, x2, ?_, ?_, z⟩
      · unfold SeqAt.shaped; rw [a1, decide_eq_true a2]; rfl
      · unfold SeqAt.shaped; rw [b1, decide_eq_true b2]; rfl
    · exact p.elim
theorem or_eq (hk : X.K = F.K) (hu : X.A.units + 64 < cLine) : OpR X (compareOp .Eq) (r2 F (opEq false)) := OpR.imp (OpR.or op_eq (op_eqD hu)) fun x y H Q h => eq_red hk false x y H Q h
theorem or_ne (hk : X.K = F.K) (hu : X.A.units + 64 < cLine) : OpR X (compareOp .NotEq) (r2 F (opEq true)) := OpR.imp (OpR.or op_ne (op_neD hu)) fun x y H Q h => eq_red hk true x y H Q h
def opCmp (f : Int → Int → Bool) : Op2 := fun a b st => match a, b with
  | .int i, .int j => some (.bl (f i j), st)
  | _, _ => none
theorem or_cmp {op : CmpOp} {f : Int → Int → Bool} (h : OpR X (compareOp op) (rI0 fun i j => .bl (f i j))) : OpR X (compareOp op) (r2 F (opCmp f)) := OpR.imp h fun x y H Q ⟨W, st, a, b, I, ra, rb, p⟩ => by
  unfold opCmp at p
  split at p
  · cases ra; cases rb; exact ⟨_, _, rfl, rfl, I.now p (.bl _)⟩
  · exact p.elim
abbrev opLt : Op2 := opCmp fun i j => decide (i < j)
abbrev opLe : Op2 := opCmp fun i j => decide (i ≤ j)
abbrev opGt : Op2 := opCmp fun i j => decide (j < i)
abbrev opGe : Op2 := opCmp fun i j => decide (j ≤ i)
theorem or_lt : OpR X (compareOp .Lt) (r2 F opLt) := or_cmp op_lt
theorem or_le : OpR X (compareOp .LtE) (r2 F opLe) := or_cmp op_le
theorem or_gt : OpR X (compareOp .Gt) (r2 F opGt) := or_cmp op_gt
theorem or_ge : OpR X (compareOp .GtE) (r2 F opGe) := or_cmp op_ge
def D.isNon : D → Bool
  | .non => true
  | _ => false
theorem isNon_iff {W : Vw} {d : D} {v : V} (r : RV W d v) : decide (v = .non) = d.isNon := by
  cases r <;> first | rfl | exact decide_eq_false fun z => nomatch z
def opIs (neg : Bool) : Op2 := fun a b st => match b with
  | .non => some (.bl (if neg then !a.isNon else a.isNon), st)
  | _ => none
theorem or_is : OpR X (compareOp .Is) (r2 F (opIs false)) := OpR.imp op_isN fun x y H Q ⟨W, st, a, b, I, ra, rb, p⟩ => by
  unfold opIs at p
  split at p
  · cases rb
    refine ⟨rfl, ?_⟩
    rw [isNon_iff ra]
    exact I.now p (.bl _)
  · exact p.elim
def opNeg : Op1 := fun a st => match a with
  | .int i => some (.int (-i), st)
  | _ => none
theorem ur_neg : UnR X (unaryOp .USub) (r1 F opNeg) := fun p s σ H x v Q I rx ⟨W, st, a, J, ra, q⟩ => by
  unfold opNeg at q
  split at q
  · cases ra
    exact un_neg p s σ H _ v Q I rx ⟨_, rfl, J.now q (.int _)⟩
  · exact q.elim

/-! ### a chain of two comparisons -/
def kChain (g : Op2) (k : IE) (b : D) (env : Env) : D → Sto → R D
  | .bl true, s3 => (k env s3).bind fun c s4 => ofO (g b c s4)
  | .bl false, s3 => .ok (.bl false) s3
  | _, _ => .bad
def iChain (f g : Op2) (i j k : IE) : IE := fun env st => (i env st).bind fun a s1 => (j env s1).bind fun b s2 => (ofO (f a b s2)).bind (kChain g k b env)
end
end M
/-! M4: chains, tests, arguments, displays, built-in functions, subscripts, slices. -/
namespace M
open PySem PySem.Spec PyProof.Rows L2

section
variable {X : Cx} {F : Fx} {pos : Pos} {W : Vw} {st : Sto} {a b c : Expr} {rest : List Expr}
theorem e_chain {op op' : CmpOp} {f g : Op2} {i j k : IE} (ho : OpR X (compareOp op) (r2 F f)) (ho' : OpR X (compareOp op') (r2 F g)) (ha : PE X a (TI F i)) (hb : PE X b (TI F j)) (hc : PE X c (TI F k))
    (hm : lastMarks [op, op'] [b, c] = false := by with_unfolding_all rfl) : PE X (.Compare a [op, op'] [b, c] pos) (TI F (iChain f g i j k)) := by
  refine PE.imp (pe_chain (r := fun x y H Q => ∃ W st a b, In F W st H ∧ RV W a x ∧ RV W b y ∧ PostO W (f a b st) Q) ho ho' ha hb hc hm) fun σ H Q h => ?_
  refine (TX.bind (k := fun a env s1 => (j env s1).bind fun b s2 => (ofO (f a b s2)).bind (kChain g k b env)) h).mono fun x H1 h1 => ?_
  refine (TK.bind (i := j) (k := fun a b env s2 => (ofO (f a b s2)).bind (kChain g k b env)) (fun x r => RV.mono x r) h1).mono fun y H2 ⟨W, st, env, a, b, A, ra, rb, p⟩ => ?_
  refine ⟨W, st, a, b, A.in_, ra, rb, ?_⟩
  have p1 : PostE W ((ofO (f a b st)).bind (kChain g k b env)) Q (F.at_ σ) := p
  cases e : f a b st with
  | none => rw [e] at p1; exact p1
  | some z =>
    obtain ⟨d, s3⟩ := z
    rw [e] at p1
    intro ρ' H' v x s r
    have p2 : PostE W (kChain g k b env d s3) Q (F.at_ σ) := p1
    cases r with
    | bl t =>
      refine ⟨t, rfl, ?_⟩
      cases t with
      | false => exact p2 ρ' H' _ x s (.bl false)
      | true =>
        have T : TK RV RV F (fun b env s3 => (k env s3).bind fun c s4 => ofO (g b c s4)) y σ H' Q := ⟨W.to ρ' H', s3, env, b, A.next x s, rb.mono x, Post.ext x p2⟩
        exact (TK.bind (i := k) (k := fun b c env s4 => ofO (g b c s4)) (fun x r => RV.mono x r) T).mono fun z H3 ⟨W, st, env, a, b, A, ra, rb, p⟩ => ⟨W, st, a, b, A.in_, ra, rb, PostO.of p⟩
    | _ => exact p2.elim

/-! ### tests -/
def truD (st : Sto) : D → Option Bool
  | .non => some false
  | .bl b => some b
  | .int i => some (i != 0)
  | .str x => if x.length ≤ sizeLine then some ((x.length : Int) != 0) else none
  | .tup xs => some (!xs.isEmpty)
  | .lst xs => some (!xs.isEmpty)
  | .ref n => match st[n]? with
    | some (.lst xs) => some (!xs.isEmpty)
    | some (.dct xs) => some (!xs.isEmpty)
    | _ => none
  | _ => none
theorem RVs.empty {W : Vw} {xs : List D} {ys : List V} (r : RVs W xs ys) : xs.isEmpty = ys.isEmpty := by cases r <;> rfl
theorem tru_of (S : Sim W st) {d : D} {v : V} {k : Bool} (r : RV W d v) (h : truD st d = some k) : TruV W.K v W.H k := by
  cases r with
  | non => cases h; rfl
  | bl b => cases h; rfl
  | int i => cases h; rfl
  | str x =>
    have h' : (if x.length ≤ sizeLine then some ((x.length : Int) != 0) else none) = some k := h
    split at h'
    · cases h'; exact ⟨by assumption, rfl⟩
    · cases h'
  | tup t r => cases h; exact .inr (.inl ⟨_, t.sq, by rw [r.empty]⟩)
  | lst t r => cases h; exact .inl ⟨_, t.sq, by rw [r.empty]⟩
  | @ref n a e =>
    have h' : (match st[n]? with
    | some (.lst xs) => some (!xs.isEmpty)
    | some (.dct xs) => some (!xs.isEmpty)
    | _ => none) = some k := h
    split at h'
    · rename_i xs q
      cases h'
      obtain ⟨ys, e1, r1⟩ := S.at_ n _ a q e
      exact .inl ⟨ys, .inl (.inl e1), by rw [r1.empty]⟩
    · rename_i xs q
      cases h'
      obtain ⟨ys, e1, r1, r2⟩ := S.at_ n _ a q e
      refine .inr (.inr ⟨ys, e1, ?_⟩)
      cases xs <;> cases ys <;> first | rfl | simp at r1
    · cases h'
  | _ => cases h
def tTru (i : IE) : IT := fun env st => (i env st).bind fun d s => match truD s d with
  | some k => .ok k s
  | none => .bad
theorem PostT.now {Q : Bool → Hp → Prop} {E : XK} {k : Bool} (p : PostT W (.ok k st) Q E) (S : Sim W st) : Q k W.H := p W.ρ W.H k Ext.refl S rfl
/-- an expression's value as a test -/
theorem t_tru {i : IE} (hk : X.K = F.K) (ha : PE X a (TI F i)) (he : ∀ whole, isTrue a X.env whole = (do let v ← whole; standAt a.pos; holding [v] (truthy v)) := by intro _; rfl) : PT X a (TT_ F (tTru i)) :=
  PT.imp (pt_truth ha he) fun σ H Q h => (TX.bind (k := fun d env s => match truD s d with
  | some k => .ok k s
  | none => .bad) h).mono fun x H1 ⟨W, st, env, d, A, r, p⟩ => by
    have p' : PostT W (match truD st d with
      | some k => .ok k st
      | none => .bad) Q (F.at_ σ) := p
    cases e : truD st d with
    | none => rw [e] at p'; exact p'.elim
    | some k =>
      rw [e] at p'
      have t := tru_of A.sim r e
      rw [A.k, ← hk, A.h] at t
      have q := PostT.now p' A.sim
      rw [A.h] at q
      exact ⟨k, t, q⟩
def tNot' (i : IT) : IT := fun env st => (i env st).bind fun k s => .ok (!k) s
def tAnd' (i j : IT) : IT := fun env st => (i env st).bind fun k s => if k = true then j env s else .ok false s
def tOr' (i j : IT) : IT := fun env st => (i env st).bind fun k s => if k = true then .ok true s else j env s
theorem t_not {i : IT} (ha : PT X a (TT_ F i)) : PT X (.UnaryOp .Not a pos) (TT_ F (tNot' i)) := PT.imp (pt_not ha) fun σ H Q h =>
  (TX.bind (k := fun k env s => .ok (!k) s) h).mono fun x H1 ⟨W, st, env, d, A, r, p⟩ => by
    cases (show d = x from r)
    have q := PostT.now p A.sim
    rw [A.h] at q
    exact q
theorem w_and1 {i : IT} (ha : PT X a (TT_ F i)) : PW X (.BoolOp .And [a] pos) (TT_ F i) := pw_and1 ha
theorem w_or1 {i : IT} (ha : PT X a (TT_ F i)) : PW X (.BoolOp .Or [a] pos) (TT_ F i) := pw_or1 ha
theorem w_and {i j : IT} (ha : PT X a (TT_ F i)) (hb : PW X (.BoolOp .And (b :: rest) pos) (TT_ F j)) : PW X (.BoolOp .And (a :: b :: rest) pos) (TT_ F (tAnd' i j)) := PW.imp (pw_and ha hb) fun σ H Q h =>
  (TX.bind (k := fun k env s => if k = true then j env s else .ok false s) h).mono fun x H1 ⟨W, st, env, d, A, r, p⟩ => by
    cases (show d = x from r)
    cases x with
    | true => exact ⟨W, st, env, A, p⟩
    | false =>
      have q := PostT.now p A.sim
      rw [A.h] at q
      exact q
theorem w_or {i j : IT} (ha : PT X a (TT_ F i)) (hb : PW X (.BoolOp .Or (b :: rest) pos) (TT_ F j)) : PW X (.BoolOp .Or (a :: b :: rest) pos) (TT_ F (tOr' i j)) := PW.imp (pw_or ha hb) fun σ H Q h =>
  (TX.bind (k := fun k env s => if k = true then .ok true s else j env s) h).mono fun x H1 ⟨W, st, env, d, A, r, p⟩ => by
    cases (show d = x from r)
    cases x with
    | false => exact ⟨W, st, env, A, p⟩
    | true =>
      have q := PostT.now p A.sim
      rw [A.h] at q
      exact q
/-! ### and, or, not as values -/
def iAnd (i j : IE) : IE := fun env st => (i env st).bind fun d s => match truD s d with
  | some true => j env s
  | some false => .ok d s
  | none => .bad
def iOr (i j : IE) : IE := fun env st => (i env st).bind fun d s => match truD s d with
  | some true => .ok d s
  | some false => j env s
  | none => .bad
def kNot (d : D) (s : Sto) : R D := match truD s d with
  | some k => .ok (.bl (!k)) s
  | none => .bad
def iNot (i : IE) : IE := fun env st => (i env st).bind kNot
theorem e_one {op} {i : IE} (h : PE X a (TI F i)) : PE X (.BoolOp op [a] pos) (TI F i) := pe_one h
theorem e_and {i j : IE} (hk : X.K = F.K) (ha : PE X a (TI F i)) (hb : PE X (.BoolOp .And (b :: rest) pos) (TI F j)) : PE X (.BoolOp .And (a :: b :: rest) pos) (TI F (iAnd i j)) := PE.imp (pe_andT ha hb) fun σ H Q h =>
  (TX.bind (k := fun d env s => match truD s d with
  | some true => j env s
  | some false => .ok d s
  | none => .bad) h).mono fun x H1 ⟨W, st, env, d, A, r, p⟩ => by
    have p' : PostE W (match truD st d with
      | some true => j env st
      | some false => .ok d st
      | none => .bad) Q (F.at_ σ) := p
    cases e : truD st d with
    | none => rw [e] at p'; exact p'.elim
    | some k =>
      rw [e] at p'
      have t := tru_of A.sim r e
      rw [A.k, ← hk, A.h] at t
      refine ⟨k, t, ?_⟩
      cases k with
      | true => exact ⟨W, st, env, A, p'⟩
      | false =>
        have q := p' W.ρ W.H x Ext.refl A.sim r
        rw [A.h] at q
        exact q
theorem e_not {i : IE} (hk : X.K = F.K) (ha : PE X a (TI F i)) : PE X (.UnaryOp .Not a pos) (TI F (iNot i)) := PE.imp (pe_notT ha) fun σ H Q h =>
  (TX.bind (k := fun d env s => kNot d s) h).mono fun x H1 ⟨W, st, env, d, A, r, p⟩ => by
    have p' : PostE W (kNot d st) Q (F.at_ σ) := p
    unfold kNot at p'
    cases e : truD st d with
    | none => rw [e] at p'; exact p'.elim
    | some k =>
      rw [e] at p'
      have t := tru_of A.sim r e
      rw [A.k, ← hk, A.h] at t
      have q := p' W.ρ W.H (.bl (!k)) Ext.refl A.sim (.bl _)
      rw [A.h] at q
      exact ⟨k, t, q⟩
def iIf (c : IT) (i j : IE) : IE := fun env st => (c env st).bind fun k s => if k = true then i env s else j env s
theorem e_if {t : IT} {i j : IE} (hc : PT X c (TT_ F t)) (ha : PE X a (TI F i)) (hb : PE X b (TI F j)) : PE X (.IfExp c a b pos) (TI F (iIf t i j)) := PE.imp (pe_ifExp hc ha hb) fun σ H Q h =>
  (TX.bind (k := fun k env s => if k = true then i env s else j env s) h).mono fun x H1 ⟨W, st, env, d, A, r, p⟩ => by
    cases (show d = x from r)
    cases x with
    | true => exact ⟨W, st, env, A, p⟩
    | false => exact ⟨W, st, env, A, p⟩

/-! ### arguments, displays -/
def aNil : IA := fun _ st => .ok [] st
def aCons (i : IE) (j : IA) : IA := fun env st => (i env st).bind fun d s => (j env s).bind fun ds s2 => .ok (d :: ds) s2
theorem a_nil : PA X [] (TA_ F aNil) := PA.imp pa_nil fun σ H Q ⟨W, st, env, A, p⟩ => by
  have q := p W.ρ W.H [] Ext.refl A.sim .nil
  rw [A.h] at q
  exact q
theorem a_cons {e : Expr} {es : List Expr} {i : IE} {j : IA} (ha : PE X e (TI F i)) (hr : PA X es (TA_ F j)) (hs : starEach (e :: es) X.env = (false, eval e X.env) :: starEach es X.env := by rfl) : PA X (e :: es) (TA_ F (aCons i j)) :=
  PA.imp (pa_cons ha hr hs) fun σ H Q h => (TX.bind (k := fun d env s => (j env s).bind fun ds s2 => .ok (d :: ds) s2) h).mono fun x H1 h1 =>
    (TK.bind (i := j) (k := fun d ds env s2 => .ok (d :: ds) s2) (fun x r => RV.mono x r) h1).mono fun y H2 ⟨W, st, env, a, b, A, ra, rb, p⟩ => by
      have q := p W.ρ W.H (x :: y) Ext.refl A.sim (.cons ra rb)
      rw [A.h] at q
      exact q
def iN (f : OpN) (j : IA) : IE := fun env st => (j env st).bind fun ds s => ofO (f ds s)
theorem n_rN {f : OpN} {j : IA} {σ : L2.St} {H : Hp} {Q : VK} (h : TI F (iN f j) σ H Q) : TA_ F j σ H fun vs H1 => rN F f vs H1 Q :=
  (TX.bind (k := fun ds env s => ofO (f ds s)) h).mono fun x H1 ⟨W, st, env, d, A, r, p⟩ => ⟨W, st, d, A.in_, r, PostO.of p⟩
def opTup : OpN := fun ds st => if ds.length ≤ sizeLine then some (.tup ds, st) else none
def opLst : OpN := fun ds st => if ds.length ≤ sizeLine then some (.ref st.length, st ++ [.lst ds]) else none
theorem e_tup {es : List Expr} {j : IA} {x1} (h : PA X es (TA_ F j)) : PE X (.Tuple es x1 pos) (TI F (iN opTup j)) := PE.imp (pe_tup h) fun σ H Q h => (n_rN h).mono fun vs H1 ⟨W, st, ds, I, r, p⟩ => by
  unfold opTup at p
  split at p
  · rename_i c
    have eH := I.h
    subst eH
    exact ⟨by rw [← r.length]; exact c, fun q hq => p.tuple I.sim r hq⟩
  · exact p.elim
theorem e_lst {es : List Expr} {j : IA} (h : PA X es (TA_ F j)) : PE X (.List es pos) (TI F (iN opLst j)) := PE.imp (pe_lst h) fun σ H Q h => (n_rN h).mono fun vs H1 ⟨W, st, ds, I, r, p⟩ => by
  unfold opLst at p
  split at p
  · rename_i c
    have eH := I.h
    subst eH
    exact ⟨by rw [← r.length]; exact c, fun q hq => p.list I.sim r hq⟩
  · exact p.elim

/-! ### built-in functions -/
theorem e_callB {e : Expr} {es : List Expr} {x : Str} {p : Pos} {id : String} {f : OpN} {j : IA} (hc : CallR X (.builtin id) (rN F f)) (hg : Gl X x) (hm : X.mg x = none) (hv : bootBuiltins x = some (.builtin id)) (ha : PA X (e :: es) (TA_ F j)) (hn : x ≠ "__name__" := by decide) (hdb : (x == ("__debug__" : Str)) = false := by decide)
    (he : starEach (e :: es) X.env = (false, eval e X.env) :: starEach es X.env := by rfl) (hpl : (backTo pos (starEach es X.env)).any (·.1) = false := by rfl) : PE X (.Call (.Name x p) (e :: es) [] pos) (TI F (iN f j)) :=
  PE.imp (pe_callB hc hg hm hv ha hn hdb he hpl) fun σ H Q h => n_rN h
theorem e_callTy {e : Expr} {es : List Expr} {x : Str} {p : Pos} {id : String} {f : OpN} {j : IA} (hc : CallR X (.type id) (rN F f)) (hg : Gl X x) (hm : X.mg x = none) (hv : bootBuiltins x = some (.type id)) (ha : PA X (e :: es) (TA_ F j)) (hn : x ≠ "__name__" := by decide) (hdb : (x == ("__debug__" : Str)) = false := by decide)
    (he : starEach (e :: es) X.env = (false, eval e X.env) :: starEach es X.env := by rfl) (hpl : (backTo pos (starEach es X.env)).any (·.1) = false := by rfl) : PE X (.Call (.Name x p) (e :: es) [] pos) (TI F (iN f j)) :=
  PE.imp (pe_callTy hc hg hm hv ha hn hdb he hpl) fun σ H Q h => n_rN h
theorem rv1 {W : Vw} {d : D} {vs : List V} (r : RVs W [d] vs) : ∃ v, vs = [v] ∧ RV W d v := by
  cases r with
  | cons h r => cases r; exact ⟨_, rfl, h⟩
theorem rv2 {W : Vw} {d e : D} {vs : List V} (r : RVs W [d, e] vs) : ∃ v u, vs = [v, u] ∧ RV W d v ∧ RV W e u := by
  cases r with
  | cons h r =>
    obtain ⟨u, rfl, q⟩ := rv1 r
    exact ⟨_, _, rfl, h, q⟩
def lenD (st : Sto) : D → Option Nat
  | .str x => if x.length ≤ sizeLine then some x.length else none
  | d => (aseq st d).map (·.length)
def opLen : OpN := fun ds st => match ds with
  | [d] => (lenD st d).map fun n => (.int n, st)
  | _ => none
theorem cr_len (hk : X.K = F.K) : CallR X (.builtin "len") (rN F opLen) := CallR.imp call_len fun xs H Q ⟨W, st, ds, I, r, p⟩ => by
  unfold opLen at p
  split at p
  · rename_i d
    obtain ⟨v, rfl, rv⟩ := rv1 r
    cases e : lenD st d with
    | none => rw [e] at p; exact p.elim
    | some n =>
      rw [e] at p
      have q := I.now p (.int _)
      refine ⟨v, n, rfl, ?_, q⟩
      have seq : ∀ xs, aseq st d = some xs → n = xs.length → LenV X.K v H n := fun xs hx hn => by
        obtain ⟨a, ys, rfl, hs, ry⟩ := aseq_at I.sim hx rv
        rw [I.k, ← hk, I.h] at hs
        rcases hs with hs | hs
        · exact .inl ⟨ys, hs, by rw [hn, ry.length]⟩
        · exact .inr ⟨ys, hs, by rw [hn, ry.length]⟩
      have fin : lenD st d = (aseq st d).map (·.length) → LenV X.K v H n := fun z => by
        rw [z] at e
        obtain ⟨xs, hx, hn⟩ := Option.map_eq_some_iff.mp e
        exact seq xs hx hn.symm
      cases d with
      | str x =>
        cases rv
        have e' : (if x.length ≤ sizeLine then some x.length else none) = some n := e
        split at e'
        · cases e'; exact ⟨by assumption, rfl⟩
        · cases e'
      | _ => exact fin rfl
  · exact p.elim
def opAbs : OpN := fun ds st => match ds with
  | [.int i] => some (.int (if i < 0 then -i else i), st)
  | _ => none
theorem cr_abs : CallR X (.builtin "abs") (rN F opAbs) := CallR.imp call_abs fun xs H Q ⟨W, st, ds, I, r, p⟩ => by
  unfold opAbs at p
  split at p
  · obtain ⟨v, rfl, rv⟩ := rv1 r
    cases rv
    exact ⟨_, rfl, I.now p (.int _)⟩
  · exact p.elim
def opMax : OpN := fun ds st => match ds with
  | [.int i, .int j] => some (.int (if j > i then j else i), st)
  | _ => none
theorem cr_max (hc : X.calm = true) : CallR X (.builtin "max") (rN F opMax) := CallR.imp (call_max2 hc) fun xs H Q ⟨W, st, ds, I, r, p⟩ => by
  unfold opMax at p
  split at p
  · obtain ⟨v, u, rfl, rv, ru⟩ := rv2 r
    cases rv
    cases ru
    exact ⟨_, _, rfl, I.now p (.int _)⟩
  · exact p.elim
def opMin : OpN := fun ds st => match ds with
  | [.int i, .int j] => some (.int (if j < i then j else i), st)
  | _ => none
theorem cr_min (hc : X.calm = true) : CallR X (.builtin "min") (rN F opMin) := CallR.imp (call_min2 hc) fun xs H Q ⟨W, st, ds, I, r, p⟩ => by
  unfold opMin at p
  split at p
  · obtain ⟨v, u, rfl, rv, ru⟩ := rv2 r
    cases rv
    cases ru
    exact ⟨_, _, rfl, I.now p (.int _)⟩
  · exact p.elim
def opInt : OpN := fun ds st => match ds with
  | [.int i] => some (.int i, st)
  | [.bl k] => some (.int (if k then 1 else 0), st)
  | _ => none
theorem cr_int : CallR X (.type "int") (rN F opInt) := CallR.imp call_int1 fun xs H Q ⟨W, st, ds, I, r, p⟩ => by
  unfold opInt at p
  split at p
  · obtain ⟨v, rfl, rv⟩ := rv1 r
    cases rv
    exact .inl ⟨_, rfl, I.now p (.int _)⟩
  · obtain ⟨v, rfl, rv⟩ := rv1 r
    cases rv
    exact .inr ⟨_, rfl, I.now p (.int _)⟩
  · exact p.elim
def opStr : OpN := fun ds st => match ds with
  | [.int i] => if i.natAbs.log2 < 1920 then some (.str (toString i), st) else none
  | _ => none
theorem cr_str : CallR X (.type "str") (rN F opStr) := CallR.imp call_str_int fun xs H Q ⟨W, st, ds, I, r, p⟩ => by
  unfold opStr at p
  split at p
  · split at p
    · obtain ⟨v, rfl, rv⟩ := rv1 r
      cases rv
      exact ⟨_, rfl, by assumption, I.now p (.str _)⟩
    · exact p.elim
  · exact p.elim
def opTuple : OpN := fun ds st => match ds with
  | [.tup xs] => some (.tup xs, st)
  | [d] => (alst st d).map fun xs => (.tup xs, st)
  | _ => none
theorem cr_tuple (hk : X.K = F.K) : CallR X (.type "tuple") (rN F opTuple) := CallR.imp call_tuple_of fun xs H Q ⟨W, st, ds, I, r, p⟩ => by
  unfold opTuple at p
  split at p
  · obtain ⟨v, rfl, rv⟩ := rv1 r
    obtain ⟨a, ys, rfl, hs, ry⟩ := tup_at rv
    rw [I.k, ← hk, I.h] at hs
    exact ⟨a, ys, rfl, .inr ⟨hs, I.now p rv⟩⟩
  · rename_i d _
    obtain ⟨v, rfl, rv⟩ := rv1 r
    cases e : alst st d with
    | none => rw [e] at p; exact p.elim
    | some xs =>
      rw [e] at p
      obtain ⟨a, ys, rfl, hs, ry⟩ := alst_at I.sim e rv
      have eH := I.h
      subst eH
      rw [I.k, ← hk] at hs
      exact ⟨a, ys, rfl, .inl ⟨hs, fun l hl => p.tuple I.sim ry hl⟩⟩
  · exact p.elim
def opList : OpN := fun ds st => match ds with
  | [d] => (aseq st d).map fun xs => (.ref st.length, st ++ [.lst xs])
  | _ => none
theorem cr_list (hk : X.K = F.K) : CallR X (.type "list") (rN F opList) := CallR.imp call_list_of fun xs H Q ⟨W, st, ds, I, r, p⟩ => by
  unfold opList at p
  split at p
  · rename_i d
    obtain ⟨v, rfl, rv⟩ := rv1 r
    cases e : aseq st d with
    | none => rw [e] at p; exact p.elim
    | some xs =>
      rw [e] at p
      obtain ⟨a, ys, rfl, hs, ry⟩ := aseq_at I.sim e rv
      have eH := I.h
      subst eH
      rw [I.k, ← hk] at hs
      exact ⟨a, ys, rfl, hs, fun l hl => p.list I.sim ry hl⟩
  · exact p.elim

/-! ### subscripts -/
theorem atI_rel {W : Vw} {xs : List D} {ys : List V} {i : Int} {d : D} (r : RVs W xs ys) (h : atI xs i = some d) : ∃ v, atI ys i = some v ∧ RV W d v := by
  unfold atI at h ⊢
  rw [← r.length]
  obtain ⟨j, hj, h2⟩ := Option.bind_eq_some_iff.mp h
  obtain ⟨v, hv, rv⟩ := r.get h2
  exact ⟨v, by rw [hj]; exact hv, rv⟩
def opIx : Op2 := fun a b st => match a, b with
  | .str z, .int i => if z.length ≤ sizeLine then (atI z.cps.toList i).map fun c => (.str ⟨#[c]⟩, st) else none
  | a, .int i => match aseq st a with
    | some xs => (atI xs i).map fun d => (d, st)
    | none => none
  | _, _ => none
theorem IxR.imp {r r' : R2} (a : IxR X r) (h : ∀ x y H Q, r' x y H Q → r x y H Q) : IxR X r' := fun e f p s σ H x y v u Q I rx ry q hs => a e f p s σ H x y v u Q I rx ry (h x y H Q q) hs
theorem ir_ix (hk : X.K = F.K) : IxR X (r2 F opIx) := IxR.imp ix_seq fun x y H Q ⟨W, st, a, b, I, ra, rb, p⟩ => by
  unfold opIx at p
  split at p
  · rename_i z i
    cases ra
    cases rb
    split at p
    · rename_i c
      cases e : atI z.cps.toList i with
      | none => rw [e] at p; exact p.elim
      | some c' =>
        rw [e] at p
        exact .inr (.inr ⟨z, i, c', rfl, rfl, c, e, I.now p (.str _)⟩)
    · exact p.elim
  · rename_i i _
    cases rb
    cases e : aseq st a with
    | none => rw [e] at p; exact p.elim
    | some xs =>
      rw [e] at p
      cases e2 : atI xs i with
      | none =>
        have p' : PostO W ((atI xs i).map fun d => (d, st)) Q := p
        rw [e2] at p'; exact p'.elim
      | some d =>
        have p' : PostO W ((atI xs i).map fun d => (d, st)) Q := p
        rw [e2] at p'
        obtain ⟨q, ys, rfl, hs, ry⟩ := aseq_at I.sim e ra
        obtain ⟨v, hv, rv⟩ := atI_rel ry e2
        rw [I.k, ← hk, I.h] at hs
        have z := I.now p' rv
        rcases hs with hs | hs
        · exact .inl ⟨q, ys, i, v, rfl, rfl, hs, hv, z⟩
        · exact .inr (.inl ⟨q, ys, i, v, rfl, rfl, hs, hv, z⟩)
  · exact p.elim
theorem e_ix {i j : IE} (hk : X.K = F.K) (ha : PE X a (TI F i)) (hb : PE X b (TI F j)) (hs : PlainIx b := by exact fun _ _ => rfl) : PE X (.Subscript a b pos) (TI F (iBin opIx i j)) :=
  PE.imp (pe_ix (ir_ix hk) ha hb hs) fun _ _ _ h => bin_r2 h
end
end M
/-! M5: statements, targets, while, for. -/
namespace M
open PySem PySem.Spec PyProof.Rows L2

def liftS {α : Type} (r : R α) (env : Env) (k : α → Sto → RS) : RS := match r with
  | .ok a st => k a st
  | .exc C fs st => .exc C fs env st
  | .bad => .bad
/-- a target's store -/
abbrev IG := D → Env → Sto → R Env
def PE_ (W : Vw) (env : Env) (σ : L2.St) : Prop := EnvR W env σ
def TG_ (F : Fx) (g : IG) : TG := fun v σ H Q => ∃ W st env d, At F W st env σ H ∧ RV W d v ∧ Post W PE_ (g d env st) Q (F.at_ σ)
theorem EnvR.set {W : Vw} {env : Env} {σ : L2.St} {d : D} {v : V} (h : EnvR W env σ) (r : RV W d v) (i : Nat) : EnvR W (env.set i (some d)) (σ.set i (some v)) := by
  refine ⟨by simp [h.len], fun j e q => ?_⟩
  by_cases hj : j = i
  · subst hj
    by_cases hl : j < env.length
    · rw [List.getElem?_set_self hl] at q
      cases q
      exact ⟨v, List.getElem?_set_self (by rw [← h.len]; exact hl), r⟩
    · rw [List.getElem?_eq_none (by simpa using hl)] at q; cases q
  · rw [List.getElem?_set_ne (Ne.symm hj)] at q
    obtain ⟨u, e1, r1⟩ := h.at_ j e q
    exact ⟨u, by rw [List.getElem?_set_ne (Ne.symm hj)]; exact e1, r1⟩

section
variable {X : Cx} {F : Fx} {pos : Pos} {st : Stmt} {rest : List Stmt} {e : Expr}
theorem PostS.nx {W : Vw} {s : Sto} {env : Env} {σ : L2.St} {N : Ends} {E : WX} (p : PostS W (.nx env s) N E) (S : Sim W s) (e : EnvR W env σ) : N.nx σ W.H := p W.ρ W.H σ Ext.refl S e
theorem PostS.mono {W : Vw} {r : RS} {N N' : Ends} {E : WX} (p : PostS W r N E) (h1 : ∀ σ H, N.nx σ H → N'.nx σ H) (h2 : ∀ v H, N.rt v H → N'.rt v H) (h3 : ∀ σ H, N.bk σ H → N'.bk σ H) (h4 : ∀ σ H, N.ct σ H → N'.ct σ H) : PostS W r N' E := by
  cases r with
  | nx a st => exact fun ρ2 H2 b x s y => h1 _ _ (p ρ2 H2 b x s y)
  | ret a st => exact fun ρ2 H2 b x s y => h2 _ _ (p ρ2 H2 b x s y)
  | bk a st => exact fun ρ2 H2 b x s y => h3 _ _ (p ρ2 H2 b x s y)
  | ct a st => exact fun ρ2 H2 b x s y => h4 _ _ (p ρ2 H2 b x s y)
  | exc C fs e st => exact p
  | bad => exact p
/-- an expression first -/
theorem TX.bindS {α β : Type} {P : Vw → α → β → Prop} {i : Env → Sto → R α} {k : α → Env → Sto → RS} {σ : L2.St} {H : Hp} {N : Ends}
    (h : TS_ F (fun env st => liftS (i env st) env fun a s => k a env s) N σ H) : TX P F i σ H fun b H' => ∃ W st env a, At F W st env σ H' ∧ P W a b ∧ PostS W (k a env st) N F.E := by
  obtain ⟨W, s, env, A, p⟩ := h
  refine ⟨W, s, env, A, ?_⟩
  have p' : PostS W (liftS (i env s) env fun a s => k a env s) N F.E := p
  cases r : i env s with
  | ok a s1 =>
    rw [r] at p'
    exact fun ρ' H' b x S q => ⟨W.to ρ' H', s1, env, a, A.next x S, q, PostS.ext x p'⟩
  | exc C fs s1 =>
    rw [r] at p'
    exact fun ρ' H' d x S q => p' ρ' H' σ d x S (A.env.mono x) q
  | bad => rw [r] at p'; exact p'
/-! ### blocks -/
def sNil : IS := fun env st => .nx env st
def kSeq (j : IS) : RS → RS
  | .nx env st => j env st
  | r => r
def sSeq (i j : IS) : IS := fun env st => kSeq j (i env st)
theorem s_nil : PSs X [] (TS_ F sNil) := PSs.imp pss_nil fun N σ H ⟨W, s, env, A, p⟩ => by
  have q := PostS.nx p A.sim A.env
  rw [A.h] at q
  exact q
theorem TS_.seq {i j : IS} {N : Ends} {σ : L2.St} {H : Hp} (h : TS_ F (sSeq i j) N σ H) : TS_ F i { N with nx := TS_ F j N } σ H := by
  obtain ⟨W, s, env, A, p⟩ := h
  refine ⟨W, s, env, A, ?_⟩
  have p' : PostS W (kSeq j (i env s)) N F.E := p
  cases r : i env s with
  | nx e2 s2 => rw [r] at p'; exact fun ρ' H' σ' x S q => ⟨W.to ρ' H', s2, e2, ⟨A.k, A.g, rfl, S, q⟩, PostS.ext x p'⟩
  | ret d s2 => rw [r] at p'; exact p'
  | bk e2 s2 => rw [r] at p'; exact p'
  | ct e2 s2 => rw [r] at p'; exact p'
  | exc C fs e2 s2 => rw [r] at p'; exact p'
  | bad => rw [r] at p'; exact p'
theorem s_cons {i j : IS} (h1 : PS X st (TS_ F i)) (h2 : PSs X rest (TS_ F j)) : PSs X (st :: rest) (TS_ F (sSeq i j)) := PSs.imp (pss_cons h1 h2) fun _ _ _ h => h.seq
theorem s_one {i : IS} (h1 : PS X st (TS_ F i)) : PSs X [st] (TS_ F i) := pss_one h1
def sBreak : IS := fun env st => .bk env st
def sCont : IS := fun env st => .ct env st
def sExpr (i : IE) : IS := fun env st => liftS (i env st) env fun _ s => .nx env s
def sRet (i : IE) : IS := fun env st => liftS (i env st) env fun d s => .ret d s
theorem s_ret {i : IE} (he : PE X e (TI F i)) : PS X (.Return (some e) pos) (TS_ F (sRet i)) := PS.imp (ps_ret he) fun N σ H h =>
  (TX.bindS (k := fun d env s => .ret d s) h).mono fun x H1 ⟨W, s, env, a, A, r, p⟩ => by
    have q := p W.ρ W.H x Ext.refl A.sim r
    rw [A.h] at q
    exact q
def sRetN : IS := fun env st => .ret .non st
def sIf (c : IT) (i j : IS) : IS := fun env st => liftS (c env st) env fun k s => if k = true then i env s else j env s
theorem s_if {c : Expr} {a b : List Stmt} {t : IT} {i j : IS} (hc : PT X c (TT_ F t)) (ha : PSs X a (TS_ F i)) (hb : PSs X b (TS_ F j)) : PS X (.If c a b pos) (TS_ F (sIf t i j)) := PS.imp (ps_if hc ha hb) fun N σ H h =>
  (TX.bindS (k := fun k env s => if k = true then i env s else j env s) h).mono fun x H1 ⟨W, s, env, a, A, r, p⟩ => by
    cases (show a = x from r)
    cases x with
    | true => exact ⟨W, s, env, A, p⟩
    | false => exact ⟨W, s, env, A, p⟩
/-! ### targets, assignments -/
def gVar (i : Nat) : IG := fun d env st => .ok (env.set i (some d)) st
theorem g_name {i : Nat} {x : Str} (hN : X.N.Nodup) (hi : X.N[i]? = some x) (hx : Loc X.env.scope x) (hf : X.fn x = true ∨ X.env.scope.names.lookup x = some .local := by first | exact .inl rfl | exact .inr rfl | assumption) : PG X (.Name x pos) (TG_ F (gVar i)) := by
  refine ⟨fun pins s σ H v u Q I r h => (pg_name (X := X) (pos := pos) hN hi hx hf).run pins s σ H v u Q I r ?_⟩
  obtain ⟨W, s, env, d, A, rv, p⟩ := h
  have q := p W.ρ W.H (σ.set i (some v)) Ext.refl A.sim (A.env.set rv i)
  rw [A.h] at q
  exact q
def sSet (i : Nat) (e : IE) : IS := fun env st => liftS (e env st) env fun d s => .nx (env.set i (some d)) s
theorem s_set {i : Nat} {x : Str} {j : IE} {pos' : Pos} (hN : X.N.Nodup) (hi : X.N[i]? = some x) (hx : Loc X.env.scope x) (he : PE X e (TI F j)) (hs : swapsWith e (some (.Name x pos')) pos.line X.env = pure false := by rfl) (hf : X.fn x = true ∨ X.env.scope.names.lookup x = some .local := by first | exact .inl rfl | exact .inr rfl | assumption) :
    PS X (.Assign [.Name x pos'] e pos) (TS_ F (sSet i j)) := PS.imp (ps_set hN hi hx he hs hf) fun N σ H h =>
  (TX.bindS (k := fun d env s => .nx (env.set i (some d)) s) h).mono fun v H1 ⟨W, s, env, a, A, r, p⟩ => by
    have q := PostS.nx p A.sim (A.env.set r i)
    rw [A.h] at q
    exact q
/-- x, y = a, b: both first -/
def sPar (i k : Nat) (a : IA) : IS := fun env st => liftS (a env st) env fun ds s => match ds with
  | [d, e] => .nx ((env.set i (some d)).set k (some e)) s
  | _ => .bad
theorem s_par {i j : Nat} {x y : Str} {a b : Expr} {ta : IA} {px py pt : Pos} {kt k2 pt2} (hc : X.calm = true) (hN : X.N.Nodup) (hi : X.N[i]? = some x) (hj : X.N[j]? = some y) (hij : i ≠ j)
    (hx : X.env.scope.names.lookup x = some .local) (hy : X.env.scope.names.lookup y = some .local) (ha : PA X [a, b] (TA_ F ta))
    (hw : swappedStores [.Tuple [.Name x px, .Name y py] kt pt] (.Tuple [a, b] k2 pt2) X.env = pure (some [x, y]))
    (hs : swapsWithSole [.Tuple [.Name x px, .Name y py] kt pt] (.Tuple [a, b] k2 pt2) pos.line X.env = pure false := by rfl) :
    PS X (.Assign [.Tuple [.Name x px, .Name y py] kt pt] (.Tuple [a, b] k2 pt2) pos) (TS_ F (sPar i j ta)) := PS.imp (ps_par hc hN hi hj hij hx hy ha hw hs) fun N σ H h =>
  (TX.bindS (k := fun ds env s => match ds with
  | [d, e] => .nx ((env.set i (some d)).set j (some e)) s
  | _ => .bad) h).mono fun vs H1 ⟨W, s, env, ds, A, r, p⟩ => by
    split at p
    · obtain ⟨v, u, rfl, r1, r2⟩ := rv2 r
      have q := PostS.nx p A.sim ((A.env.set r1 i).set r2 j)
      rw [A.h] at q
      exact ⟨v, u, rfl, q⟩
    · exact p.elim
/-- target = e -/
def sAsg (g : IG) (e : IE) : IS := fun env st => liftS (e env st) env fun d s => liftS (g d env s) env fun env' s' => .nx env' s'
theorem s_asg {tg : Expr} {g : IG} {j : IE} (he : PE X e (TI F j)) (hg : PG X tg (TG_ F g)) (hs : swapsWithSole [tg] e pos.line X.env = pure false := by rfl) (hw : swappedStores [tg] e X.env = pure none := by rfl)
    (h1 : (assignEach [tg] X.env).map (·.2) = [assign tg X.env] := by rfl) : PS X (.Assign [tg] e pos) (TS_ F (sAsg g j)) := PS.imp (ps_asg he hg hs hw h1) fun N σ H h =>
  (TX.bindS (k := fun d env s => liftS (g d env s) env fun env' s' => .nx env' s') h).mono fun v H1 ⟨W, s, env, a, A, r, p⟩ => by
    refine ⟨W, s, env, a, A, r, ?_⟩
    have p' : PostS W (liftS (g a env s) env fun env' s' => .nx env' s') N F.E := p
    cases q : g a env s with
    | ok e2 s2 => rw [q] at p'; exact p'
    | exc C fs s2 =>
      rw [q] at p'
      exact fun ρ' H' d x S z => p' ρ' H' σ d x S (A.env.mono x) z
    | bad => rw [q] at p'; exact p'
/-! ### targets that are tuples -/
abbrev IGs := List D → Env → Sto → R Env
def TGs_ (F : Fx) (g : IGs) : TGs := fun vs σ H Q => ∃ W st env ds, At F W st env σ H ∧ RVs W ds vs ∧ Post W PE_ (g ds env st) Q (F.at_ σ)
def gsNil : IGs := fun ds env st => match ds with
  | [] => .ok env st
  | _ => .bad
def gsVar (i : Nat) (r : IGs) : IGs := fun ds env st => match ds with
  | d :: ds => r ds (env.set i (some d)) st
  | _ => .bad
end
section
variable {X : Cx} {F : Fx} {pos : Pos}
theorem gs_nil : PGs X [] (TGs_ F gsNil) := by
  refine ⟨fun pins s σ H vs us Q I r h => (pgs_nil (X := X)).run pins s σ H vs us Q I r ?_⟩
  obtain ⟨W, s, env, ds, A, rv, p⟩ := h
  unfold gsNil at p
  split at p
  · cases rv
    have q := p W.ρ W.H σ Ext.refl A.sim A.env
    rw [A.h] at q
    exact ⟨rfl, q⟩
  · exact p.elim
theorem gs_name {i : Nat} {x : Str} {es : List Expr} {g : IGs} (hN : X.N.Nodup) (hi : X.N[i]? = some x) (hx : Loc X.env.scope x) (h2 : PGs X es (TGs_ F g)) (ne : ∀ ds env st C fs s, g ds env st ≠ .exc C fs s)
    (hs : (assignEach (.Name x pos :: es) X.env).map (·.2) = assign (.Name x pos) X.env :: (assignEach es X.env).map (·.2) := by rfl) (hf : X.fn x = true ∨ X.env.scope.names.lookup x = some .local := by first | exact .inl rfl | exact .inr rfl | assumption) :
    PGs X (.Name x pos :: es) (TGs_ F (gsVar i g)) := by
  refine ⟨fun pins s σ H vs us Q I r h => (pgs_cons (X := X) (pg_name (pos := pos) hN hi hx hf) h2 hs).run pins s σ H vs us Q I r ?_⟩
  obtain ⟨W, s, env, ds, A, rv, p⟩ := h
  unfold gsVar at p
  split at p
  · rename_i d ds
    cases rv with
    | cons h1 h3 =>
      refine ⟨_, _, rfl, W, s, env.set i (some d), ds, ⟨A.k, A.g, A.h, A.sim, A.env.set h1 i⟩, h3, ?_⟩
      cases q : g ds (env.set i (some d)) s with
      | ok e2 s2 => rw [q] at p; exact p
      | exc C fs s2 => exact absurd q (ne _ _ _ _ _ _)
      | bad => rw [q] at p; exact p
  · exact p.elim
theorem gsNil_ne : ∀ ds env st C fs s, gsNil ds env st ≠ .exc C fs s := fun ds env st C fs s h => by
  unfold gsNil at h
  split at h <;> cases h
theorem gsVar_ne {i : Nat} {g : IGs} (ne : ∀ ds env st C fs s, g ds env st ≠ .exc C fs s) : ∀ ds env st C fs s, gsVar i g ds env st ≠ .exc C fs s := fun ds env st C fs s h => by
  unfold gsVar at h
  split at h
  · exact ne _ _ _ _ _ _ h
  · cases h
/-- (a, b, ..) = a tuple of n -/
def gTup' (n : Nat) (g : IGs) : IG := fun d env st => match d with
  | .tup xs => if xs.length = n then g xs env st else .bad
  | .lst xs => if xs.length = n then g xs env st else .bad
  | _ => .bad
/-- a tuple or a list of n -/
def gTL (K : PySem.W.Frag) (n : Nat) (t : TGs) : TG := fun v σ H Q => L2.gTup K n t v σ H Q ∨ L2.gLst K n t v σ H Q
theorem pg_tl {es : List Expr} {k n : Nat} {t : TGs} (hc : X.calm = true) (h : PGs X es t)
    (hn : (assignEach es X.env).length = n := by rfl) (hst : (assignEach es X.env).findIdx? (·.1) = none := by rfl) : PG X (.Tuple es k pos) (gTL X.K n t) :=
  ⟨fun pins s σ H v u Q I r hw => hw.elim (fun z => (pg_tup (X := X) (k := k) (pos := pos) hc h hn hst).run pins s σ H v u Q I r z) fun z => (pg_lst (X := X) (k := k) (pos := pos) hc h hn hst).run pins s σ H v u Q I r z⟩
theorem g_tup {es : List Expr} {k n : Nat} {g : IGs} (hk : X.K = F.K) (hc : X.calm = true) (h : PGs X es (TGs_ F g))
    (hn : (assignEach es X.env).length = n := by rfl) (hst : (assignEach es X.env).findIdx? (·.1) = none := by rfl) : PG X (.Tuple es k pos) (TG_ F (gTup' n g)) := by
  refine ⟨fun pins s σ H v u Q I r hw => (pg_tl (X := X) (k := k) (pos := pos) hc h hn hst).run pins s σ H v u Q I r ?_⟩
  obtain ⟨W, s, env, d, A, rv, p⟩ := hw
  unfold gTup' at p
  split at p
  · rename_i xs
    split at p
    · rename_i c
      obtain ⟨a, ys, rfl, hs, ry⟩ := tup_at rv
      rw [A.k, ← hk, A.h] at hs
      exact .inl ⟨a, ys, rfl, hs, by rw [← ry.length]; exact c, W, s, env, xs, A, ry, p⟩
    · exact p.elim
  · rename_i xs
    split at p
    · rename_i c
      obtain ⟨a, ys, rfl, hs, ry⟩ := alst_at (st := s) A.sim (d := .lst xs) (xs := xs) rfl rv
      rw [A.k, ← hk, A.h] at hs
      exact .inr ⟨a, ys, rfl, hs, by rw [← ry.length]; exact c, W, s, env, xs, A, ry, p⟩
    · exact p.elim
  · exact p.elim
/-! ### while -/
def kWhile (b : IS) (again : IS) : RS → RS
  | .nx env st => again env st
  | .ct env st => again env st
  | .bk env st => .nx env st
  | r => r
def sWhileN (c : IT) (b : IS) : Nat → IS
  | 0 => fun _ _ => .bad
  | n + 1 => fun env st => liftS (c env st) env fun k s => if k = true then kWhile b (sWhileN c b n) (b env s) else .nx env s
/-- while, with a bound of the turns read off the state at its start -/
def sWhile (m : Env → Sto → Nat) (c : IT) (b : IS) : IS := fun env st => sWhileN c b (m env st) env st
theorem s_while {m : Env → Sto → Nat} {c : Expr} {body : List Stmt} {t : IT} {b : IS} (hp : PassesOwn (model X.prog X.w) X.A X.env X.xe) (hc : PT X c (TT_ F t)) (hb : PSs X body (TS_ F b)) : PS X (.While c body [] pos) (TS_ F (sWhile m t b)) := by
  refine PS.imp (ps_while hp hc hb) fun N σ H ⟨W, s, env, A, p⟩ => ?_
  refine ⟨fun n σ H => TS_ F (sWhileN t b n) N σ H, ⟨m env s, W, s, env, A, p⟩, fun n σ H h => ?_⟩
  cases n with
  | zero =>
    obtain ⟨W, s, env, A, p⟩ := h
    exact p.elim
  | succ n =>
    refine (TX.bindS (k := fun k env s => if k = true then kWhile b (sWhileN t b n) (b env s) else .nx env s) h).mono fun x H1 ⟨W, s, env, a, A, r, p⟩ => ?_
    cases (show a = x from r)
    cases x with
    | false =>
      have q := PostS.nx p A.sim A.env
      rw [A.h] at q
      exact q
    | true =>
      rw [if_pos rfl]
      refine ⟨TS_ F (sWhileN t b n) N, fun σ' H' h => ⟨n, Nat.lt_succ_self n, h⟩, W, s, env, A, ?_⟩
      have p' : PostS W (kWhile b (sWhileN t b n) (b env s)) N F.E := p
      cases q : b env s with
      | nx e2 s2 => rw [q] at p'; exact fun ρ' H' σ' x S z => ⟨W.to ρ' H', s2, e2, ⟨A.k, A.g, rfl, S, z⟩, PostS.ext x p'⟩
      | ct e2 s2 => rw [q] at p'; exact fun ρ' H' σ' x S z => ⟨W.to ρ' H', s2, e2, ⟨A.k, A.g, rfl, S, z⟩, PostS.ext x p'⟩
      | bk e2 s2 => rw [q] at p'; exact p'
      | ret d s2 => rw [q] at p'; exact p'
      | exc C fs e2 s2 => rw [q] at p'; exact p'
      | bad => rw [q] at p'; exact p'
/-! ### for -/
/-- later: what is out of reach may have changed -/
structure VE (W : Vw) (ρ' : List Addr) (H' : Hp) : Prop where
  pre : W.ρ <+: ρ'
  new : ∀ a ∈ ρ', a ∈ W.ρ ∨ W.H a = none
  keep : ∀ a o, W.H a = some o → W.fro a → H' a = some o
  frz : ∀ a o u, W.H a = some (.frz o u) → H' a = some (.frz o u)
theorem Ext.ve {W : Vw} {ρ' : List Addr} {H' : Hp} (x : Ext W ρ' H') : VE W ρ' H' := ⟨x.pre, x.new, fun a o h f => x.keep a o h f.1, x.frz⟩
theorem VE.notin {W : Vw} {ρ' : List Addr} {H' : Hp} (x : VE W ρ' H') {a : Addr} {o : HO} (h : W.H a = some o) (n : a ∉ W.ρ) : a ∉ ρ' := fun m => by
  rcases x.new a m with q | q
  · exact n q
  · rw [h] at q; cases q
/-- a later view, of which new things may be out of reach -/
structure VX (W V : Vw) : Prop where
  k : V.K = W.K
  g : V.g = W.g
  x : VE W V.ρ V.H
  z : ∀ a, V.Z a → W.Z a ∨ W.H a = none
theorem VX.of {W : Vw} {ρ' : List Addr} {H' : Hp} (x : Ext W ρ' H') : VX W (W.to ρ' H') := ⟨rfl, rfl, x.ve, fun _ h => .inl h⟩
section
variable {W V : Vw}
theorem VX.fro (x : VX W V) {a : Addr} {o : HO} (h : W.H a = some o) (f : W.fro a) : V.fro a := ⟨x.x.notin h f.1, fun z => (x.z a z).elim f.2 fun e => by rw [h] at e; cases e⟩
theorem Vw.Tup.vx (x : VX W V) {a : Addr} {ys : List L2.V} (h : W.Tup a ys) : V.Tup a ys := by
  rcases h with ⟨h | ⟨o, h⟩, f⟩ | h
  · exact .inl ⟨.inl (x.x.keep _ _ h f), x.fro h f⟩
  · exact .inl ⟨.inr ⟨o, x.x.keep _ _ h f⟩, x.fro h f⟩
  · exact .inr (by rw [x.k]; exact h)
theorem Vw.Tpl.vx (x : VX W V) {a : Addr} {ys : List L2.V} (h : W.Tpl a ys) : V.Tpl a ys := let ⟨⟨o, e, d⟩, f⟩ := h; ⟨⟨o, x.x.keep _ _ e f, d⟩, x.fro e f⟩
theorem Vw.Lst.vx (x : VX W V) {a : Addr} {ys : List L2.V} (h : W.Lst a ys) : V.Lst a ys := by
  rcases h with ⟨h | ⟨o, h⟩, f⟩ | h
  · exact .inl ⟨.inl (x.x.keep _ _ h f), x.fro h f⟩
  · exact .inl ⟨.inr ⟨o, x.x.keep _ _ h f⟩, x.fro h f⟩
  · exact .inr (by rw [x.k]; exact h)
theorem rd_vx (x : VX W V) {a : Addr} {u : HO} (h : Rd W.H a u) (f : W.fro a) : Rd V.H a u ∧ V.fro a := by
  rcases h with h | ⟨o, h⟩
  · exact ⟨.inl (x.x.keep _ _ h f), x.fro h f⟩
  · exact ⟨.inr ⟨o, x.x.keep _ _ h f⟩, x.fro h f⟩
mutual
theorem RV.vx (x : VX W V) : ∀ {d : D} {v : L2.V}, RV W d v → RV V d v
  | _, _, .non => .non
  | _, _, .bl b => .bl b
  | _, _, .int i => .int i
  | _, _, .str s => .str s
  | _, _, .ty n => .ty n
  | _, _, .glo s => by rw [← x.g]; exact .glo s
  | _, _, .tup h r => .tup (h.vx x) (r.vx x)
  | _, _, .lst h r => .lst (h.vx x) (r.vx x)
  | _, _, .dct h f e r => .dct (rd_vx x h f).1 (rd_vx x h f).2 e (r.vx x)
  | _, _, .obj h f r => .obj (by rw [x.g]; exact x.x.keep _ _ h f) (x.fro h f) (r.vx x)
  | _, _, .exc h f a b r => .exc (by rw [x.g]; exact x.x.keep _ _ h f) (x.fro h f) a (fun dx e => ⟨x.x.keep _ _ (b dx e).1 (b dx e).2, x.fro (b dx e).1 (b dx e).2⟩) (r.vx x)
  | _, _, .ref h => .ref (pre_get x.x.pre h)
  | _, _, .tpl h r => .tpl (h.vx x) (r.vx x)
  | _, _, .adr h f r => .adr (x.x.keep _ _ h f) (x.fro h f) (r.vx x)
theorem RVs.vx (x : VX W V) : ∀ {d : List D} {v : List L2.V}, RVs W d v → RVs V d v
  | _, _, .nil => .nil
  | _, _, .cons h r => .cons (h.vx x) (r.vx x)
theorem RFs.vx (x : VX W V) : ∀ {d : List (Str × D)} {v : List (Str × L2.V)}, RFs W d v → RFs V d v
  | _, _, .nil => .nil
  | _, _, .cons h r => .cons (h.vx x) (r.vx x)
end
end
/-- what a loop walks: at the turn i, the store as it is: stuck, the end, an item -/
abbrev Nx := Nat → Sto → Option (Option D)
structure ItOk (W : Vw) (a : Nx × Nat) (J : It) : Prop where
  go : ∀ V st i d, VX W V → Sim V st → a.1 i st = some (some d) → J.go i V.H ∧ ∀ x H2, J.yld i V.H x H2 → Ext V V.ρ H2 ∧ Sim (V.to V.ρ H2) st ∧ RV (V.to V.ρ H2) d x
  stop : ∀ V st i, VX W V → Sim V st → a.1 i st = some none → J.stop i V.H
abbrev IW := Env → Sto → R (Nx × Nat)
abbrev TW (F : Fx) (i : IW) : L2.TI := fun σ H Q => TX ItOk F i σ H Q
def forL (nx : Nx) (g : IG) (b : IS) : Nat → Nat → IS
  | 0, i => fun env st => match nx i st with
    | some none => .nx env st
    | _ => .bad
  | m + 1, i => fun env st => match nx i st with
    | some none => .nx env st
    | some (some d) => liftS (g d env st) env fun env1 s1 => kWhile b (forL nx g b m (i + 1)) (b env1 s1)
    | none => .bad
def sFor (w : IW) (g : IG) (b : IS) : IS := fun env st => liftS (w env st) env fun a s => forL a.1 g b a.2 0 env s
theorem s_for {tg iter : Expr} {body : List Stmt} {w : IW} {g : IG} {b : IS} (hp : PassesOwn (model X.prog X.w) X.A X.env X.xe) (hc : X.calm = true) (hi : PI X tg iter (TW F w)) (hg : PG X tg (TG_ F g)) (hb : PSs X body (TS_ F b))
    (hs : ∀ x, foldedSetIterable iter X.env x = pure x := by intro _; rfl) : PS X (.For tg iter body [] pos) (TS_ F (sFor w g b)) := by
  refine PS.imp (ps_for hp hc hi hg hb hs) fun N σ H h => ?_
  refine (TX.bindS (k := fun a env s => forL a.1 g b a.2 0 env s) h).mono fun J H1 ⟨W0, s, env, a, A, r, p⟩ => ?_
  obtain ⟨nx, m⟩ := a
  refine ⟨fun i m σ H => ∃ ρ' st env, At F (W0.to ρ' H) st env σ H ∧ Ext W0 ρ' H ∧ PostS (W0.to ρ' H) (forL nx g b m i env st) N F.E, ⟨m, W0.ρ, s, env, ?_⟩, fun i m σ H ⟨ρ', st, env, A, x, p⟩ => ?_⟩
  · have eH := A.h
    subst eH
    exact ⟨A, Ext.refl, p⟩
  · have S := A.sim
    have p' : PostS (W0.to ρ' H) (forL nx g b m i env st) N F.E := p
    cases m with
    | zero =>
      unfold forL at p'
      split at p'
      · rename_i e
        exact .inl ⟨r.stop (W0.to ρ' H) st i (.of x) S e, PostS.nx p' S A.env⟩
      · exact p'.elim
    | succ m =>
    unfold forL at p'
    split at p'
    · rename_i e
      exact .inl ⟨r.stop (W0.to ρ' H) st i (.of x) S e, PostS.nx p' S A.env⟩
    · rename_i d e
      obtain ⟨h1, h2⟩ := r.go (W0.to ρ' H) st i d (.of x) S e
      refine .inr ⟨h1, fun σ' H' => ∃ ρ' st env, At F (W0.to ρ' H') st env σ' H' ∧ Ext W0 ρ' H' ∧ PostS (W0.to ρ' H') (forL nx g b m (i + 1) env st) N F.E, fun σ' H' h => ⟨m, Nat.lt_succ_self m, h⟩, fun v H2 hy => ?_⟩
      obtain ⟨x2, S2, rv⟩ := h2 v H2 hy
      refine ⟨W0.to ρ' H2, st, env, d, ⟨A.k, A.g, rfl, S2, A.env.mono x2⟩, rv, ?_⟩
      have p2 := PostS.ext x2 p'
      have xx : Ext W0 ρ' H2 := x.trans x2
      cases q : g d env st with
      | bad => rw [q] at p2; exact p2
      | exc C fs s2 =>
        rw [q] at p2
        exact fun ρ3 H3 d x S z => p2 ρ3 H3 σ d x S ((A.env.mono x2).mono x) z
      | ok e2 s2 =>
        rw [q] at p2
        intro ρ3 H3 σ3 x3 S3 z3
        refine ⟨W0.to ρ3 H3, s2, e2, ⟨A.k, A.g, rfl, S3, z3⟩, ?_⟩
        have p3 : PostS (W0.to ρ3 H3) (kWhile b (forL nx g b m (i + 1)) (b e2 s2)) N F.E := PostS.ext (W := W0.to ρ' H2) x3 p2
        have x4 : Ext W0 ρ3 H3 := xx.trans x3
        cases q : b e2 s2 with
        | nx e3 s3 => rw [q] at p3; exact fun ρ5 H5 σ5 x5 S5 z => ⟨ρ5, s3, e3, ⟨A.k, A.g, rfl, S5, z⟩, x4.trans x5, PostS.ext (W := W0.to ρ3 H3) x5 p3⟩
        | ct e3 s3 => rw [q] at p3; exact fun ρ5 H5 σ5 x5 S5 z => ⟨ρ5, s3, e3, ⟨A.k, A.g, rfl, S5, z⟩, x4.trans x5, PostS.ext (W := W0.to ρ3 H3) x5 p3⟩
        | bk e3 s3 => rw [q] at p3; exact p3
        | ret d s3 => rw [q] at p3; exact p3
        | exc C fs e3 s3 => rw [q] at p3; exact p3
        | bad => rw [q] at p3; exact p3
    · exact p'.elim
/-! ### what is walked -/
def nxL (xs : List D) : Nx := fun i _ => some xs[i]?
def nxM (n : Nat) : Nx := fun i st => (lstAt st n).map fun xs => xs[i]?
def kSeqW (d : D) (s : Sto) : R (Nx × Nat) := match d with
  | .lst xs => .ok (nxL xs, xs.length) s
  | .ref n => match lstAt s n with
    | some xs => .ok (nxM n, xs.length) s
    | none => .bad
  | _ => .bad
def kTupW (d : D) (s : Sto) : R (Nx × Nat) := match d with
  | .tup xs => .ok (nxL xs, xs.length) s
  | _ => .bad
def wSeq (i : IE) : IW := fun env st => (i env st).bind kSeqW
def wTup (i : IE) : IW := fun env st => (i env st).bind kTupW
theorem PI.imp {tg e : Expr} {t t' : L2.TI} (h : PI X tg e t) (w : ∀ σ H Q, t' σ H Q → t σ H Q) : PI X tg e t' := ⟨fun p s σ H Q I q => h.run p s σ H Q I (w σ H Q q)⟩
theorem itok_tup {W : Vw} {a : Addr} {xs : List D} {ys : List V} {m : Nat} (t : W.Tup a ys) (r : RVs W xs ys) : ItOk W (nxL xs, m) (Itt W.K a) where
  go := fun V st i d x S e => by
    have e' : xs[i]? = some d := Option.some.inj e
    have t' := (t.vx x).sq
    have r' := r.vx x
    rw [x.k] at t'
    obtain ⟨v, hv, rv⟩ := r'.get e'
    refine ⟨⟨ys, v, t', hv⟩, fun y H2 ⟨e2, f⟩ => ?_⟩
    subst e2
    have q := f ys t'
    rw [hv] at q
    cases q
    exact ⟨Ext.refl, S, rv⟩
  stop := fun V st i x S e => by
    have e' : xs[i]? = none := Option.some.inj e
    refine ⟨ys, by rw [← x.k]; exact (t.vx x).sq, ?_⟩
    rw [← r.length]
    exact List.getElem?_eq_none_iff.mp e'
theorem itok_lst {W : Vw} {a : Addr} {xs : List D} {ys : List V} {m : Nat} (t : W.Lst a ys) (r : RVs W xs ys) : ItOk W (nxL xs, m) (Itl W.K a) where
  go := fun V st i d x S e => by
    have e' : xs[i]? = some d := Option.some.inj e
    have t' := (t.vx x).sq
    have r' := r.vx x
    rw [x.k] at t'
    obtain ⟨v, hv, rv⟩ := r'.get e'
    refine ⟨⟨ys, v, t', hv⟩, fun y H2 ⟨e2, f⟩ => ?_⟩
    subst e2
    have q := f ys t'
    rw [hv] at q
    cases q
    exact ⟨Ext.refl, S, rv⟩
  stop := fun V st i x S e => by
    have e' : xs[i]? = none := Option.some.inj e
    refine ⟨ys, by rw [← x.k]; exact (t.vx x).sq, ?_⟩
    rw [← r.length]
    exact List.getElem?_eq_none_iff.mp e'
theorem itok_ref {W : Vw} {a : Addr} {n m : Nat} (h : W.ρ[n]? = some a) : ItOk W (nxM n, m) (Itl W.K a) where
  go := fun V st i d x S e => by
    obtain ⟨xs, hx, e'⟩ := Option.map_eq_some_iff.mp (show (lstAt st n).map (fun xs => xs[i]?) = some (some d) from e)
    obtain ⟨ys, h1, r1⟩ := S.at_ n _ a (lstAt_eq hx) (pre_get x.x.pre h)
    obtain ⟨v, hv, rv⟩ := r1.get e'
    refine ⟨⟨ys, v, .inl (.inl h1), hv⟩, fun y H2 ⟨e2, f⟩ => ?_⟩
    subst e2
    have q := f ys (.inl (.inl h1))
    rw [hv] at q
    cases q
    exact ⟨Ext.refl, S, rv⟩
  stop := fun V st i x S e => by
    obtain ⟨xs, hx, e'⟩ := Option.map_eq_some_iff.mp (show (lstAt st n).map (fun xs => xs[i]?) = some none from e)
    obtain ⟨ys, h1, r1⟩ := S.at_ n _ a (lstAt_eq hx) (pre_get x.x.pre h)
    exact ⟨ys, .inl (.inl h1), by rw [← r1.length]; exact List.getElem?_eq_none_iff.mp e'⟩
theorem w_tup {tg l : Expr} {i : IE} (hk : X.K = F.K) (hl : PE X l (TI F i)) : PI X tg l (TW F (wTup i)) := PI.imp (pi_tup hl) fun σ H Q h =>
  (TX.bind (k := fun d env s => kTupW d s) h).mono fun x H1 ⟨W, s, env, d, A, r, p⟩ => by
    have p' : Post W ItOk (kTupW d s) Q (F.at_ σ) := p
    unfold kTupW at p'
    split at p'
    · rename_i xs
      cases r with
      | tup t r =>
        have q := p' W.ρ W.H _ Ext.refl A.sim (itok_tup t r)
        have t' := t.sq
        rw [A.k, ← hk] at q t'
        rw [A.h] at q t'
        exact ⟨_, rfl, ⟨_, t'⟩, q⟩
    · exact p'.elim
theorem w_seq {tg l : Expr} {i : IE} (hk : X.K = F.K) (hl : PE X l (TI F i)) : PI X tg l (TW F (wSeq i)) := PI.imp (pi_list hl) fun σ H Q h =>
  (TX.bind (k := fun d env s => kSeqW d s) h).mono fun x H1 ⟨W, s, env, d, A, r, p⟩ => by
    have p' : Post W ItOk (kSeqW d s) Q (F.at_ σ) := p
    unfold kSeqW at p'
    split at p'
    · rename_i xs
      cases r with
      | lst t r =>
        have q := p' W.ρ W.H _ Ext.refl A.sim (itok_lst t r)
        have t' := t.sq
        rw [A.k, ← hk] at q t'
        rw [A.h] at q t'
        exact ⟨_, rfl, ⟨_, t'⟩, q⟩
    · rename_i n
      cases e : lstAt s n with
      | none => rw [e] at p'; exact p'.elim
      | some xs =>
        rw [e] at p'
        cases r with
        | ref h =>
          have q := p' W.ρ W.H _ Ext.refl A.sim (itok_ref h)
          obtain ⟨ys, h1, r1⟩ := A.sim.at_ n _ _ (lstAt_eq e) h
          rw [A.k, ← hk] at q
          rw [A.h] at q h1
          exact ⟨_, rfl, ⟨ys, .inl (.inl h1)⟩, q⟩
    · exact p'.elim
def nxR (lo : Int) (n : Nat) : Nx := fun i _ => if i < n then some (some (.int (lo + i))) else some none
theorem itok_rng {W : Vw} {lo : Int} {n m : Nat} : ItOk W (nxR lo n, m) (Itr lo n) where
  go := fun V st i d x S e => by
    have e' : (if i < n then some (some (D.int (lo + i))) else some none) = some (some d) := e
    split at e'
    · rename_i c
      cases e'
      exact ⟨c, fun y H2 ⟨e2, f⟩ => by subst e2; subst f; exact ⟨Ext.refl, S, .int _⟩⟩
    · cases e'
  stop := fun V st i x S e => by
    have e' : (if i < n then some (some (D.int (lo + i))) else some none) = some none := e
    split at e'
    · cases e'
    · rename_i c
      exact Nat.not_lt.mp c
def kRng1 (ds : List D) (s : Sto) : R (Nx × Nat) := match ds with
  | [.int j] => if -(2 ^ 62) ≤ j ∧ j < 2 ^ 62 then .ok (nxR 0 j.toNat, j.toNat) s else .bad
  | _ => .bad
def wRng1 (i : IA) : IW := fun env st => (i env st).bind kRng1
theorem w_rng1 {tg a : Expr} {p pos : Pos} {i : IA} (hg : Gl X "range") (hm : X.mg "range" = none) (ha : PA X [a] (TA_ F i)) (hs : starEach [a] X.env = [(false, eval a X.env)] := by rfl) : PI X tg (.Call (.Name "range" p) [a] [] pos) (TW F (wRng1 i)) := PI.imp (pi_range1 hg hm ha hs) fun σ H Q h =>
  (TX.bind (k := fun d env s => kRng1 d s) h).mono fun x H1 ⟨W, s, env, d, A, r, p⟩ => by
    have p' : Post W ItOk (kRng1 d s) Q (F.at_ σ) := p
    unfold kRng1 at p'
    split at p'
    · split at p'
      · rename_i c
        obtain ⟨v, rfl, rv⟩ := rv1 r
        cases rv
        have q := p' W.ρ W.H _ Ext.refl A.sim itok_rng
        rw [A.h] at q
        exact ⟨_, rfl, c.1, c.2, q⟩
      · exact p'.elim
    · exact p'.elim
end
end M
/-! M6: list comprehensions. -/
namespace M
open PySem PySem.Spec PyProof.Rows L2

/-- an error in a comprehension is not carried -/
def R.nox {α : Type} : R α → R α
  | .exc _ _ _ => .bad
  | r => r
abbrev Fx.quiet (F : Fx) : Fx := { F with E := fun _ _ _ _ => False }
/-- a target of a comprehension: one slot, or a tuple of slots -/
inductive Pat where
  | one (i : Nat)
  | tup (is : List Nat)
def Pat.slots : Pat → List Nat
  | .one i => [i]
  | .tup is => is
def setAll : List Nat → List D → Env → Option Env
  | [], [], env => some env
  | i :: is, d :: ds, env => setAll is ds (env.set i (some d))
  | _, _, _ => none
def Pat.bind : Pat → D → Env → Option Env
  | .one i, d, env => some (env.set i (some d))
  | .tup is, .tup xs, env => setAll is xs env
  | .tup is, .lst xs, env => setAll is xs env
  | _, _, _ => none
def wipeE (env : Env) : List Nat → Env
  | [] => env
  | v :: vs => (wipeE env vs).set v none
def compApp (n : Nat) (v : D) (s : Sto) (k : Sto → R Unit) : R Unit := match lstAt s n with
  | some acc => if acc.length < sizeLine then k (s.set n (.lst (acc ++ [v]))) else .bad
  | none => .bad
def compL (nx : Nx) (p : Pat) (t : IT) (e : IE) (env0 : Env) (n : Nat) : Nat → Nat → Sto → R Unit
  | 0, i => fun st => match nx i st with
    | some none => .ok () st
    | _ => .bad
  | m + 1, i => fun st => match nx i st with
    | some none => .ok () st
    | some (some d) => match p.bind d env0 with
      | some env => ((t env st).nox).bind fun k s1 => if k = true then ((e env s1).nox).bind fun v s2 => compApp n v s2 (compL nx p t e env0 n m (i + 1)) else compL nx p t e env0 n m (i + 1) s1
      | none => .bad
    | none => .bad
def iComp (w : IW) (p : Pat) (t : IT) (e : IE) : IE := fun env st => (w env st).bind fun a s => (compL a.1 p t e (wipeE env p.slots) s.length a.2 0 (s ++ [.lst []])).bind fun _ s2 => .ok (.ref s.length) s2
def tYes' : IT := fun _ st => .ok true st

theorem EnvR.clear {W : Vw} {env : Env} {σ : L2.St} (h : EnvR W env σ) (i : Nat) : EnvR W (env.set i none) (σ.set i none) := by
  refine ⟨by simp [h.len], fun j e q => ?_⟩
  by_cases hj : j = i
  · subst hj
    by_cases hl : j < env.length
    · rw [List.getElem?_set_self hl] at q; cases q
    · rw [List.getElem?_eq_none (by simpa using hl)] at q; cases q
  · rw [List.getElem?_set_ne (Ne.symm hj)] at q
    obtain ⟨u, e1, r1⟩ := h.at_ j e q
    exact ⟨u, by rw [List.getElem?_set_ne (Ne.symm hj)]; exact e1, r1⟩
theorem EnvR.wipe {W : Vw} {env : Env} {σ : L2.St} (h : EnvR W env σ) : ∀ vs : List Nat, EnvR W (wipeE env vs) (L2.wipe σ vs)
  | [] => h
  | v :: vs => (h.wipe vs).clear v
theorem wipe_set {i : Nat} {x : Option V} : ∀ {vs : List Nat} {σ : L2.St}, i ∈ vs → L2.wipe (σ.set i x) vs = L2.wipe σ vs
  | v :: vs, σ, h => by
    unfold L2.wipe
    by_cases hi : i ∈ vs
    · rw [wipe_set hi]
    · have e : i = v := by
        rcases List.mem_cons.mp h with e | e
        · exact e
        · exact absurd e hi
      subst e
      have aux : ∀ {vs : List Nat} {σ : L2.St}, i ∉ vs → L2.wipe (σ.set i x) vs = (L2.wipe σ vs).set i x := by
        intro vs
        induction vs with
        | nil => intro σ _; rfl
        | cons u us ih =>
          intro σ hn
          have h1 : i ≠ u := fun e => hn (by simp [e])
          have h2 : i ∉ us := fun e => hn (by simp [e])
          unfold L2.wipe
          rw [ih h2, List.set_comm _ _ h1]
      rw [aux hi, List.set_set]
theorem wipe_wipe (σ : L2.St) : ∀ vs : List Nat, L2.wipe (L2.wipe σ vs) vs = L2.wipe σ vs := by
  have aux : ∀ (us vs : List Nat), (∀ i ∈ us, i ∈ vs) → L2.wipe (L2.wipe σ us) vs = L2.wipe σ vs := by
    intro us vs
    induction us with
    | nil => intro _; rfl
    | cons u us ih =>
      intro h
      rw [show L2.wipe σ (u :: us) = (L2.wipe σ us).set u none from rfl, wipe_set (h u (by simp)), ih fun i hi => h i (by simp [hi])]
  exact fun vs => aux vs vs fun _ h => h

section
variable {X : Cx} {F : Fx} {pos : Pos}
/-- how a target's reading stands for a pattern -/
structure PatOk (K : PySem.W.Frag) (p : Pat) (g : TG) : Prop where
  go : ∀ (W : Vw) (d : D) (v : V) (env env' : Env) (σ : L2.St) (Q : L2.St → Hp → Prop), W.K = K → RV W d v → EnvR W env σ → p.bind d env = some env' → (∀ σ', EnvR W env' σ' → L2.wipe σ' p.slots = L2.wipe σ p.slots → Q σ' W.H) → g v σ W.H Q
theorem patOk_one {K : PySem.W.Frag} {i : Nat} : PatOk K (.one i) (gName i) := ⟨fun W d v env env' σ Q _ r e b h => by
  cases b
  exact h _ (e.set r i) (wipe_set (by simp [Pat.slots]))⟩
def gsOf : List Nat → TGs
  | [] => gNil
  | i :: is => gCons (gName i) (gsOf is)
theorem gsOf_ok {W : Vw} {Q : L2.St → Hp → Prop} {sl : List Nat} : ∀ {is : List Nat} {ds : List D} {vs : List V} {env env' : Env} {σ : L2.St}, (∀ i ∈ is, i ∈ sl) → RVs W ds vs → EnvR W env σ → setAll is ds env = some env' → (∀ σ', EnvR W env' σ' → L2.wipe σ' sl = L2.wipe σ sl → Q σ' W.H) → gsOf is vs σ W.H Q
  | [], _, _, _, _, _, _, .nil, e, b, h => by cases b; exact ⟨rfl, h _ e rfl⟩
  | [], _, _, _, _, _, _, .cons _ _, e, b, h => by cases b
  | _ :: _, _, _, _, _, _, _, .nil, e, b, h => by cases b
  | i :: is, _, _, _, _, _, hs, .cons h1 r, e, b, h =>
    ⟨_, _, rfl, gsOf_ok (fun j hj => hs j (by simp [hj])) r (e.set h1 i) b fun σ' e' w => h σ' e' (by rw [w, wipe_set (hs i (by simp))])⟩
theorem setAll_len : ∀ {is : List Nat} {ds : List D} {env env' : Env}, setAll is ds env = some env' → ds.length = is.length
  | [], [], _, _, _ => rfl
  | [], _ :: _, _, _, h => by cases h
  | _ :: _, [], _, _, h => by cases h
  | i :: is, d :: ds, _, _, h => by rw [List.length_cons, List.length_cons, setAll_len (is := is) (ds := ds) h]
theorem patOk_tup {K : PySem.W.Frag} {is : List Nat} {n : Nat} (hn : is.length = n) : PatOk K (.tup is) (gTL K n (gsOf is)) := ⟨fun W d v env env' σ Q hk r e b h => by
  cases d with
  | tup xs =>
    obtain ⟨a, ys, rfl, t, ry⟩ := tup_at r
    rw [hk] at t
    exact .inl ⟨a, ys, rfl, t, by rw [← ry.length, setAll_len b, hn], gsOf_ok (fun _ h => h) ry e b h⟩
  | lst xs =>
    have z : ∃ a ys, v = .ref a ∧ SqL W.K W.H a ys ∧ RVs W xs ys := by
      cases r with
      | lst h1 r1 => exact ⟨_, _, rfl, h1.sq, r1⟩
    obtain ⟨a, ys, rfl, t, ry⟩ := z
    rw [hk] at t
    exact .inr ⟨a, ys, rfl, t, by rw [← ry.length, setAll_len b, hn], gsOf_ok (fun _ h => h) ry e b h⟩
  | _ => cases b⟩
def PU (_ : Vw) (_ _ : Unit) : Prop := True
/-- a turn's pieces -/
theorem comp_ok {w : IW} {p : Pat} {t : IT} {e : IE} {g : TG} {σ : L2.St} {H : Hp} {Q : VK} (hp : PatOk F.K p g) (h : TI F (iComp w p t e) σ H Q) : tLc (TW F w) g (TT_ F.quiet t) (TI F.quiet e) p.slots σ H Q := by
  refine (TX.bind (k := fun a env s => (compL a.1 p t e (wipeE env p.slots) s.length a.2 0 (s ++ [.lst []])).bind fun _ s2 => R.ok (D.ref s.length) s2) h).mono fun J H1 ⟨W0, s, env, a, A, r, q⟩ => ?_
  obtain ⟨nx, m⟩ := a
  intro D hD
  have eH := A.h
  subst eH
  have S0 := A.sim
  have x1 : Ext W0 (W0.ρ ++ [D]) (upd W0.H D (.lst [])) := ext_new [D] (fun a m => by rw [List.mem_singleton.mp m]; exact hD) hD
  have S1 : Sim (W0.to (W0.ρ ++ [D]) (upd W0.H D (.lst []))) (s ++ [.lst []]) := S0.new hD (lst_or hD .nil)
  generalize hW : W0.to (W0.ρ ++ [D]) (upd W0.H D (.lst [])) = W1 at S1
  have hH1 : W1.H = upd W0.H D (.lst []) := by rw [← hW]
  have hg1 : W1.g = W0.g := by rw [← hW]
  have hK1 : W1.K = W0.K := by rw [← hW]
  have hn : W1.ρ[s.length]? = some D := by
    rw [← hW]
    show (W0.ρ ++ [D])[s.length]? = some D
    rw [List.getElem?_append_right (by rw [S0.len]; omega), S0.len]
    simp
  have toW : ∀ ρ' H', Ext W1 ρ' H' → Ext W0 ρ' H' := fun ρ' H' x => by subst hW; exact x1.trans x
  have eqW : ∀ ρ' H', W1.to ρ' H' = W0.to ρ' H' := fun ρ' H' => by subst hW; rfl
  have q1 : Post W1 PU (compL nx p t e (wipeE env p.slots) s.length m 0 (s ++ [.lst []])) (fun _ H' => Q (.ref D) H') (F.at_ σ) := by
    have q' : PostE W0 ((compL nx p t e (wipeE env p.slots) s.length m 0 (s ++ [.lst []])).bind fun _ s2 => .ok (.ref s.length) s2) Q (F.at_ σ) := q
    cases z : compL nx p t e (wipeE env p.slots) s.length m 0 (s ++ [.lst []]) with
    | ok u s2 =>
      rw [z] at q'
      intro ρ' H' _ x S _
      rw [eqW] at S
      exact q' ρ' H' (.ref D) (toW _ _ x) S (.ref (pre_get x.pre hn))
    | exc C fs s2 => rw [z] at q'; intro ρ' H' d x S z; rw [eqW] at S z; rw [hg1]; exact q' ρ' H' d (toW _ _ x) S z
    | bad => rw [z] at q'; exact q'.elim
  have env1 : EnvR W1 (wipeE env p.slots) (L2.wipe σ p.slots) := by
    subst hW
    exact (A.env.wipe p.slots).mono x1
  refine ⟨fun i m H => ∃ ρ' st, Ext W1 ρ' H ∧ Sim (W1.to ρ' H) st ∧ Post (W1.to ρ' H) PU (compL nx p t e (wipeE env p.slots) s.length m i st) (fun _ H' => Q (.ref D) H') (F.at_ σ), ⟨m, W1.ρ, s ++ [.lst []], ?_⟩, fun i m H ⟨ρ', st, x, S, q⟩ => ?_⟩
  · rw [← hH1]
    exact ⟨Ext.refl, S1, q1⟩
  cases m with
  | zero =>
    unfold compL at q
    split at q
    · rename_i en
      refine .inl ⟨r.stop (W0.to ρ' H) st i (.of (toW _ _ x)) (by rw [← eqW]; exact S) en, ?_⟩
      exact q ρ' H () (Ext.refl (W := W1.to ρ' H)) S trivial
    · exact q.elim
  | succ m =>
    unfold compL at q
    split at q
    · rename_i en
      refine .inl ⟨r.stop (W0.to ρ' H) st i (.of (toW _ _ x)) (by rw [← eqW]; exact S) en, ?_⟩
      exact q ρ' H () (Ext.refl (W := W1.to ρ' H)) S trivial
    · rename_i d en
      obtain ⟨h1, h2⟩ := r.go (W0.to ρ' H) st i d (.of (toW _ _ x)) (by rw [← eqW]; exact S) en
      refine .inr ⟨h1, fun H => ∃ ρ' st, Ext W1 ρ' H ∧ Sim (W1.to ρ' H) st ∧ Post (W1.to ρ' H) PU (compL nx p t e (wipeE env p.slots) s.length m (i + 1) st) (fun _ H' => Q (.ref D) H') (F.at_ σ), fun H' z => ⟨m, Nat.lt_succ_self m, z⟩, fun v H2 hy => ?_⟩
      obtain ⟨x2, S2, rv⟩ := h2 v H2 hy
      rw [← eqW] at x2 S2 rv
      have x3 : Ext W1 ρ' H2 := x.trans x2
      cases hb : p.bind d (wipeE env p.slots) with
      | none => rw [hb] at q; exact q.elim
      | some env' =>
        rw [hb] at q
        refine hp.go (W1.to ρ' H2) d v _ _ _ _ (by rw [← A.k, ← hK1]) rv (env1.mono x3) hb fun σ' er ew => ⟨by rw [ew, wipe_wipe], ?_⟩
        have q2 : Post (W1.to ρ' H2) PU (((t env' st).nox).bind fun k s1 => if k = true then ((e env' s1).nox).bind fun v s2 => compApp s.length v s2 (compL nx p t e (wipeE env p.slots) s.length m (i + 1)) else compL nx p t e (wipeE env p.slots) s.length m (i + 1) s1) (fun _ H' => Q (.ref D) H') (F.at_ σ) := Post.ext (W := W1.to ρ' H) x2 q
        refine ⟨W1.to ρ' H2, st, env', ⟨by rw [← A.k, ← hK1], by rw [← A.g, ← hg1], rfl, S2, er⟩, ?_⟩
        cases ht : t env' st with
        | bad => rw [ht] at q2; exact q2.elim
        | exc C fs s1 => rw [ht] at q2; exact q2.elim
        | ok k s1 =>
          rw [ht] at q2
          intro ρ3 H3 b x4 S3 eb
          cases (show k = b from eb)
          have q3 : Post (W1.to ρ3 H3) PU (if k = true then ((e env' s1).nox).bind fun v s2 => compApp s.length v s2 (compL nx p t e (wipeE env p.slots) s.length m (i + 1)) else compL nx p t e (wipeE env p.slots) s.length m (i + 1) s1) (fun _ H' => Q (.ref D) H') (F.at_ σ) := Post.ext (W := W1.to ρ' H2) x4 q2
          cases k with
          | false => exact ⟨ρ3, s1, x3.trans x4, S3, q3⟩
          | true =>
            rw [if_pos rfl] at q3 ⊢
            refine ⟨W1.to ρ3 H3, s1, env', ⟨by rw [← A.k, ← hK1], by rw [← A.g, ← hg1], rfl, S3, er.mono (W := W1.to ρ' H2) x4⟩, ?_⟩
            cases he : e env' s1 with
            | bad => rw [he] at q3; exact q3.elim
            | exc C fs s2 => rw [he] at q3; exact q3.elim
            | ok y s2 =>
              rw [he] at q3
              intro ρ5 H5 yv x5 S5 ry
              have q4 : Post (W1.to ρ5 H5) PU (compApp s.length y s2 (compL nx p t e (wipeE env p.slots) s.length m (i + 1))) (fun _ H' => Q (.ref D) H') (F.at_ σ) := Post.ext (W := W1.to ρ3 H3) x5 q3
              have x6 : Ext W1 ρ5 H5 := (x3.trans x4).trans x5
              unfold compApp at q4
              split at q4
              · rename_i acc ha
                split at q4
                · rename_i c
                  have hn5 := pre_get x6.pre hn
                  obtain ⟨ys, hl, rl⟩ := S5.at_ s.length _ D (lstAt_eq ha) hn5
                  have x7 : Ext (W1.to ρ5 H5) ρ5 (upd H5 D (.lst (ys ++ [yv]))) := ext_put (W := W1.to ρ5 H5) (List.mem_of_getElem? hn5)
                  refine ⟨ys, hl, by rw [← rl.length]; exact c, ρ5, s2.set s.length (.lst (acc ++ [y])), x6.trans x7, Sim.put (W := W1.to ρ5 H5) S5 hn5 ⟨ys ++ [yv], upd_same, RVs.mono x7 (rl.append (.cons ry .nil))⟩, Post.ext (W := W1.to ρ5 H5) x7 q4⟩
                · exact q4.elim
              · exact q4.elim
    · exact q.elim
theorem ts_nil : PTs X [] (TT_ F tYes') := ⟨fun pins s σ H Q I h => (pts_nil (X := X)).run pins s σ H Q I (by
  obtain ⟨W, st, env, A, p⟩ := h
  have q := PostT.now p A.sim
  rw [A.h] at q
  exact q)⟩
/-- name = [..] -/
theorem s_setLc {i : Nat} {y : Str} {py : Pos} {elt tg iter : Expr} {ifs : List Expr} {scope : Scope} {own : List (Str × Nat)} {spos : Pos} {g : TG} {p : Pat} {w : IW} {t : IT} {e : IE} (hp : PatOk F.K p g) (ho : own.map (·.2) = p.slots) (hc : X.calm = true) (hN : X.N.Nodup) (hy : X.N[i]? = some y) (hyl : X.env.scope.names.lookup y = some .local)
    (hsw : swapsWith (.ListComp elt [⟨tg, iter, ifs, 0⟩] scope pos) (some (.Name y py)) spos.line X.env = pure true) (hi : PI X tg iter (TW F w)) (ok : BlkOk X.N X.env.scope scope own)
    (hg : ∀ (s : Shared) (H : Hp) (C : Addr) (cl : List (Str × Addr)) (fp : List Addr), PG (X.blk s H scope (compEnvC scope cl C X.env) fp) tg g) (ht : ∀ (s : Shared) (H : Hp) (C : Addr) (cl : List (Str × Addr)) (fp : List Addr), PTs (X.blk s H scope (compEnvC scope cl C X.env) fp) ifs (TT_ F.quiet t))
    (he : ∀ (s : Shared) (H : Hp) (C : Addr) (cl : List (Str × Addr)) (fp : List Addr), PE (X.blk s H scope (compEnvC scope cl C X.env) fp) elt (TI F.quiet e)) (hs : ∀ x, foldedSetIterable iter X.env x = pure x := by intro _; rfl) :
    PS X (.Assign [.Name y py] (.ListComp elt [⟨tg, iter, ifs, 0⟩] scope pos) spos) (TS_ F (sSet i (iComp w p t e))) := PS.imp (ps_setLc hc hN hy hyl hsw hi ok hg ht he hs) fun N σ H h => by
  rw [ho]
  exact comp_ok hp ((TX.bindS (k := fun d env s => .nx (env.set i (some d)) s) h).mono fun v H1 ⟨W, s, env, a, A, r, p⟩ => by
    have q := PostS.nx p A.sim (A.env.set r i)
    rw [A.h] at q
    exact q)
end
end M
/-! M7: defs and their calls. -/
namespace M
open PySem PySem.Spec PyProof.Rows L2

/-- what a def is: arguments and store in, result out -/
abbrev Fn := List D → Sto → R D
/-- its promise -/
def SPx (K : PySem.W.Frag) (g : GG) (f : Fn) : Sp := fun vs H Q E => ∃ W st ds, W.K = K ∧ W.g = g ∧ W.H = H ∧ Sim W st ∧ RVs W ds vs ∧ PostE W (f ds st) Q E
/-- how a body ends -/
def endB : RS → R D
  | .nx _ st => .ok .non st
  | .ret d st => .ok d st
  | .exc C fs _ st => .exc C fs st
  | _ => .bad
/-- a def by its body: n slots, p parameters -/
def runB (b : IS) (n p : Nat) : Fn := fun ds st => if ds.length = p then endB (b (ds.map some ++ List.replicate (n - p) none) st) else .bad
theorem env_start {W : Vw} {ds : List D} {vs : List V} {N : List Str} {p : Nat} (r : RVs W ds vs) (hl : ds.length = p) : EnvR W (ds.map some ++ List.replicate (N.length - p) none) (L2.start N vs) := by
  unfold L2.start
  refine ⟨by simp [r.length, ← hl], fun i d e => ?_⟩
  by_cases hi : i < ds.length
  · rw [List.getElem?_append_left (by simpa using hi), List.getElem?_map] at e
    cases q : ds[i]? with
    | none => rw [q] at e; cases e
    | some d' =>
      rw [q] at e
      cases e
      obtain ⟨v, hv, rv⟩ := r.get q
      exact ⟨v, by rw [List.getElem?_append_left (by rw [List.length_map, ← r.length]; exact hi), List.getElem?_map, hv]; rfl, rv⟩
  · rw [List.getElem?_append_right (by simpa using hi), List.getElem?_replicate] at e
    split at e <;> cases e
section
variable {P : Program} {w : World} {K : PySem.W.Frag} {mg : Str → Option Value} {base : Heap} {g : GG}
abbrev Fx.of (K : PySem.W.Frag) (g : GG) (E : XK) : Fx := ⟨K, g, fun c d _ H => E c d H⟩
/-- a def's promise, where no repr is under way -/
structure FnG (P : Program) (w : World) (K : PySem.W.Frag) (mg : Str → Option Value) (base : Heap) (k : Nat) (f : Addr) (fd : FuncData) (ps : List Str) (sp : Sp) : Prop where
  len : ∀ vs H Q E, sp vs H Q E → vs.length = ps.length
  run : ∀ (A : Around) (outer : List PySem.Env) (s : Shared) (H : Hp) (args : Args) (us : List Value) (vs : List V) (Q : VK) (E : XK), Room k A → A.guards = some [] → Env0 P w K mg base A outer s H → BindsTo s fd args (ps.zip us) → Vals vs us → sp vs H Q E →
    codeAny (model P w) A (.call (.ref f) args) (CR (L2N.CX P w) outer P w H s Q E) s
theorem FnG.of {k : Nat} {f : Addr} {fd : FuncData} {ps : List Str} {sp : Sp} (G : FnOk P w K mg base (L2N.CX P w) k f fd ps sp) : FnG P w K mg base k f fd ps sp := ⟨G.len, fun A o s H a us vs Q E hr _ => G.run A o s H a us vs Q E hr⟩
theorem FnG.imp {k : Nat} {f : Addr} {fd : FuncData} {ps : List Str} {sp sp' : Sp} (G : FnG P w K mg base k f fd ps sp) (h : ∀ vs H Q E, sp' vs H Q E → sp vs H Q E) : FnG P w K mg base k f fd ps sp' :=
  ⟨fun vs H Q E q => G.len vs H Q E (h _ _ _ _ q), fun A o s H a us vs Q E hr hg e b v q => G.run A o s H a us vs Q E hr hg e b v (h _ _ _ _ q)⟩
theorem FnG.mono {j k : Nat} {f : Addr} {fd : FuncData} {ps : List Str} {sp : Sp} (G : FnG P w K mg base j f fd ps sp) (h : j ≤ k) : FnG P w K mg base k f fd ps sp := ⟨G.len, fun A o s H a us vs Q E hr => G.run A o s H a us vs Q E (hr.mono h)⟩
/-- THE RULE for a def: its body's walk -/
theorem fn_ok {x qual : Str} {params : Arguments} {body : List Stmt} {scope : Scope} {dvs : List V} {kws : List (Str × V)} {f : Addr} {fd : FuncData} {N ps : List Str} {k : Nat} {b : IS} (Fd : FunD K x qual params body scope dvs kws f fd) (S : FnScope N ps scope)
    (hb : ∀ (cdv : Value) (A : Around) (outer : List PySem.Env) (s : Shared) (H : Hp) (E : XK), Room k (A.deeper (envOfC qual scope s.heap.objs.size f cdv)) → A.guards = some [] → PSs (cxOf (L2N.CX P w) P w K mg base N qual scope f cdv A outer s H E) body (TS_ (Fx.of K g E) b)) :
    FnG P w K mg base (k + 1) f fd ps (SPx K g (runB b N.length ps.length)) := by
  have len : ∀ vs H Q E, SPx K g (runB b N.length ps.length) vs H Q E → vs.length = ps.length := fun vs H Q E ⟨W, st, ds, _, _, _, _, r, p⟩ => by
    unfold runB at p
    split at p
    · rename_i c
      rw [← r.length, c]
    · exact p.elim
  refine ⟨len, fun A outer s H args us vs Q E hr hgd e0 hbi rv hsp => ?_⟩
  obtain ⟨oc, od, dV, kV, doc, pm, an, cdv, ct, osl, rfl, lk, hcd, _, _⟩ := Fd.ex
  have hl := len _ _ _ _ hsp
  have kin : K.In s.heap := e0.mod.kin.keeps fun b o e => (e0.bs b o e).1
  have kinds : ∀ y ∈ ps.zip us, scope.names.lookup y.1 = some .local ∨ (scope.names.lookup y.1 = some .cell ∧ ((cellsFrom (s.heap.objs.size + 1) scope.names []).lookup y.1).isSome = true) := fun ⟨n, v⟩ hy =>
    (S.par n (List.of_mem_zip hy).1).elim .inl fun q => .inr ⟨q, PySem.W.cellsFrom_some _ _ _ (.inl q)⟩
  refine codeAny_call_function hr.depth (kin _ _ lk) rfl S.co S.gen rfl (PySem.W.codeRec_of kin hcd) (hbi _ _ _ _ (wpAny_newFunctionEnv_cells S.kind kinds fun env he s1 x => ?_))
  subst he
  refine ⟨(e0.mod.nolimit.keeps fun b o e => (e0.bs b o e).1).keeps x.toInCall.keep, codeAny_func ?_⟩
  have wk : TS_ (Fx.of K g E) b { nx := fun _ H' => Q .non H', rt := Q } (L2.start N vs) H := by
    obtain ⟨W, st, ds, hk, hg, hh, S, r, p⟩ := hsp
    unfold runB at p
    split at p
    · rename_i c
      refine ⟨W, st, _, ⟨hk, hg, hh, S, env_start r c⟩, ?_⟩
      cases q : b (ds.map some ++ List.replicate (N.length - ps.length) none) st with
      | nx e s => rw [q] at p; exact fun ρ' H' σ' x S z => p ρ' H' .non x S .non
      | ret d s => rw [q] at p; exact p
      | bk e s => rw [q] at p; exact p.elim
      | ct e s => rw [q] at p; exact p.elim
      | exc C fs e s => rw [q] at p; exact fun ρ' H' σ' d x S z => p ρ' H' d x S
      | bad => rw [q] at p; exact p.elim
    · exact p.elim
  have I0 : Inv (cxOf (L2N.CX P w) P w K mg base N qual scope f cdv A outer s H E) [] (L2.start N vs) H s1 := inv_start S hr.hd e0 hl rv x
  refine wpAny_mono ((hb cdv A outer s H E (hr.deeper _) hgd).run [] s1 _ H _ I0 wk) (fun fl s' hs => ?_) fun e s' hs => hs
  have fin : ∀ {σ' : L2.St} {H' : Hp} {v : V} {u : Value}, Inv (cxOf (L2N.CX P w) P w K mg base N qual scope f cdv A outer s H E) [] σ' H' s' → RelV v u → Q v H' → CE outer P w H s Q u s' :=
    fun J r q => ⟨_, _, J.os, J.bare, J.base, J.hok, r, q⟩
  cases fl with
  | ret u => obtain ⟨v, σ', H', J, r, q⟩ := hs; exact fin J r q
  | next => obtain ⟨σ', H', J, q⟩ := hs; exact fin (v := V.non) (u := Value.none) J rfl q
  | brk => obtain ⟨_, _, _, q⟩ := hs; exact q.elim
  | cont => obtain ⟨_, _, _, q⟩ := hs; exact q.elim
end

/-! ### calls -/
def iCall (f : Fn) (dd : List D) (j : IA) : IE := fun env st => (j env st).bind fun ds s => f (ds ++ dd) s
section
variable {X : Cx} {F : Fx} {k : Nat} {f : Addr} {fd : FuncData} {ps : List Str} {ds : List Value} {dvs : List V} {x : Str} {p pos : Pos} {e : Expr} {es : List Expr} {fs : Fn} {j : IA} {dd : List D}
theorem sp_of {σ : L2.St} {H : Hp} {Q : VK} {vs : List V} (hdd : ∀ W : Vw, W.K = F.K → W.g = F.g → RVs W dd dvs) (h : TK RVs RV F (fun ds env s => fs (ds ++ dd) s) vs σ H Q) : SPx F.K F.g fs (vs ++ dvs) H Q (F.at_ σ) := by
  obtain ⟨W, st, env, ds, A, r, p⟩ := h
  exact ⟨W, st, ds ++ dd, A.k, A.g, A.h, A.sim, r.append (hdd W A.k A.g), p⟩
/-- the callee runs -/
theorem run_g {pins : List (Addr × Obj)} {σ : L2.St} {H : Hp} {s : Shared} {Q : VK} {us : List Value} {vs : List V} {sp : Sp} (G : FnG X.prog X.w X.K X.mg X.base k f fd ps sp) (hr : Room k X.A) (hgd : X.A.guards = some []) (hb : Binds X.K fd ps ds) (hd : Vals dvs ds) (tk : L2N.Takes X F.E)
    (I : Inv X pins σ H s) (r : Vals vs us) (h : sp (vs ++ dvs) H Q (F.at_ σ)) : wpAny (model X.prog X.w) X.A (call (.ref f) us) (EP X pins σ Q) X.xe s := by
  have r2 : Vals (vs ++ dvs) (us ++ ds) := r.append hd
  refine wpAny_call (codeAny_mono (G.run X.A X.stack s H ⟨us, []⟩ (us ++ ds) (vs ++ dvs) Q (F.at_ σ) hr hgd I.env0 (hb s us I.kIn (r2.length.symm.trans (G.len _ _ _ _ h))) r2 h) fun r s' hq => ?_)
  cases r with
  | error e => exact tk e s' (L2N.XE.of_call I (fun _ _ _ h => h) hq)
  | ok fl =>
    cases fl with
    | ret u => exact I.after hq
    | next => exact hq.elim
    | brk => exact hq.elim
    | cont => exact hq.elim
theorem e_call (G : FnG X.prog X.w X.K X.mg X.base k f fd ps (SPx F.K F.g fs)) (hr : Room k X.A) (hgd : X.A.guards = some []) (hg : Gl X x) (hm : X.mg x = some (.ref f)) (hk : PySem.W.keepIn X.K (.ref f) = true) (hb : Binds X.K fd ps ds) (hd : Vals dvs ds) (hdd : ∀ W : Vw, W.K = F.K → W.g = F.g → RVs W dd dvs) (tk : L2N.Takes X F.E)
    (ha : PA X (e :: es) (TA_ F j)) (hdb : (x == ("__debug__" : Str)) = false := by decide) (he : starEach (e :: es) X.env = (false, eval e X.env) :: starEach es X.env := by rfl) (hpl : (backTo pos (starEach es X.env)).any (·.1) = false := by rfl) :
    PE X (.Call (.Name x p) (e :: es) [] pos) (TI F (iCall fs dd j)) := by
  refine ⟨fun pins s σ H Q I h => ?_⟩
  refine wpAny_Call_Name_kw (ld_glob I hg hm (PySem.W.callWith_K (h₀ := X.base) I.ok.mod.kin hk (thn (ha.run pos pins s σ H _ I (TX.bind (k := fun ds env s => fs (ds ++ dd) s) h)) fun us s1 ⟨vs, H1, I1, r, q⟩ => ⟨I1.kIn, ?_⟩) he hpl) hdb)
  exact run_g G hr hgd hb hd tk I1 r (sp_of hdd q)
end

/-! ### defs that look at nothing of the store -/
mutual
def noRef : D → Bool
  | .tup xs => noRefs xs
  | .tpl xs => noRefs xs
  | .lst xs => noRefs xs
  | .dct _ xs => noRefs xs
  | .obj _ fs => noRefF fs
  | .exc _ fs => noRefF fs
  | .ref _ => false
  | .adr _ _ _ _ _ => false
  | .non => true
  | .bl _ => true
  | .int _ => true
  | .str _ => true
  | .ty _ => true
  | .glo _ => true
def noRefs : List D → Bool
  | [] => true
  | x :: xs => noRef x && noRefs xs
def noRefF : List (Str × D) → Bool
  | [] => true
  | x :: xs => noRef x.2 && noRefF xs
end
def allF (f : D → Option D) : List (Str × D) → Option (List (Str × D))
  | [] => some []
  | (x, d) :: xs => match f d, allF f xs with
    | some p, some ps => some ((x, p) :: ps)
    | _, _ => none
/-- nobody changes it any more -/
def frz (st : Sto) : Nat → D → Option D
  | 0, _ => none
  | n + 1, d => match d with
    | .tup xs => (allP (frz st n) xs).map .tup
    | .tpl xs => (allP (frz st n) xs).map .tpl
    | .lst xs => (allP (frz st n) xs).map .lst
    | .dct ks xs => (allP (frz st n) xs).map (.dct ks)
    | .obj C fs => (allF (frz st n) fs).map (.obj C)
    | .exc C fs => (allF (frz st n) fs).map (.exc C)
    | .ref k => match st[k]? with
      | some (.lst xs) => (allP (frz st n) xs).map .lst
      | some (.ins C fs) => (allF (frz st n) fs).map (.obj C)
      | some (.dct kvs) => (allP (frz st n) (kvs.map (·.2))).map (.dct (kvs.map (·.1)))
      | _ => none
    | .adr _ _ _ _ _ => none
    | d => some d
section
variable {W W' : Vw} {st : Sto}
/-- what may be said of W's things in W' -/
structure Into (W W' : Vw) : Prop where
  k : W'.K = W.K
  g : W'.g = W.g
  h : W'.H = W.H
  fro : ∀ a, W.fro a → W'.fro a
  ref : ∀ a ∈ W.ρ, W'.fro a
theorem Vw.Tup.into (i : Into W W') {a : Addr} {ys : List V} (h : W.Tup a ys) : W'.Tup a ys := by
  rcases h with ⟨h, f⟩ | h
  · exact .inl ⟨by rw [i.h]; exact h, i.fro a f⟩
  · exact .inr (by rw [i.k]; exact h)
theorem Vw.Tpl.into (i : Into W W') {a : Addr} {ys : List V} (h : W.Tpl a ys) : W'.Tpl a ys := let ⟨⟨o, e, d⟩, f⟩ := h; ⟨⟨o, by rw [i.h]; exact e, d⟩, i.fro a f⟩
theorem Vw.Lst.into (i : Into W W') {a : Addr} {ys : List V} (h : W.Lst a ys) : W'.Lst a ys := by
  rcases h with ⟨h, f⟩ | h
  · exact .inl ⟨by rw [i.h]; exact h, i.fro a f⟩
  · exact .inr (by rw [i.k]; exact h)
end
/-- a def that knows no thing of the store: it is run upon an empty one, what it hands back is frozen -/
def pureA (f : Fn) : Fn := fun ds st => if noRefs ds = true then (match f ds [] with
  | .ok d s => match frz s 70 d with
    | some d' => .ok d' st
    | none => .bad
  | .exc C fs s => match allF (frz s 70) fs with
    | some fs' => .exc C fs' st
    | none => .bad
  | .bad => .bad) else .bad
section
variable {P : Program} {w : World} {K : PySem.W.Frag} {mg : Str → Option Value} {base : Heap} {g : GG} {k : Nat} {fa : Addr} {fd : FuncData} {ps : List Str} {f : Fn}
end

/-! ### the law's call -/
section
variable {P : Program} {w : World} {K : PySem.W.Frag} {mg mb : Str → Option Value} {k : Nat} {fa a : Addr} {fd : FuncData} {x : Str} {sp : Sp} {s1 : Shared} {vs : List Value} {ns : List Int}
/-- what is to be shown of the call -/
abbrev LawEnd (s1 : Shared) (r : Result) (s' : Shared) : Prop := r = .ok (.ret (.bool true)) ∧ OldK s1.heap s'.heap ∧ s'.os = s1.os ∧ AllBare s'.gens
end
end M
/-! M8: exceptions of the program's own classes, over any of the built-in bases, made by position and by name. -/
namespace M
open PySem PySem.Spec PyProof.Rows L2
open PySem.HandSPX (excO)

/-- a base: its name, its makers, its mro, and what the library says of it -/
structure XB (B newId initId : String) (tail : List Value) : Prop where
  f : ExcBaseFacts B newId initId tail
  pass : ∀ self : Value, refuseLoop self "__setattr__" tail = pure ()
  obj : tail.contains (.type "object") = true
  ne : tail.isEmpty = false
theorem over_cases (tail : List Value) : ∀ l : List Value, over tail l = true → (∃ c r, l = .ref c :: r ∧ over tail r = true) ∨ l = tail
  | [], e => .inr (beq_iff_eq.mp e)
  | v :: r, e => by
    cases v with
    | ref c => exact .inl ⟨c, r, rfl, e⟩
    | _ => exact .inr (beq_iff_eq.mp e)
section
variable {B newId initId : String} {tail : List Value}
theorem XB.passes (b : XB B newId initId tail) (self : Value) (l : List Value) (h : over tail l = true) : refuseLoop self "__setattr__" l = pure () := by
  induction l with
  | nil =>
    rcases over_cases tail [] h with ⟨c, r, e, _⟩ | e
    · cases e
    · rw [e]; exact b.pass self
  | cons a r ih =>
    rcases over_cases tail (a :: r) h with ⟨c, r', e, q⟩ | e
    · cases e
      rw [refuseLoop_ref]
      exact ih q
    · rw [e]; exact b.pass self
theorem over_contains (X : String) (l : List Value) (h : over tail l = true) : l.contains (.type X) = tail.contains (.type X) := by
  induction l with
  | nil =>
    rcases over_cases tail [] h with ⟨c, r, e, _⟩ | e
    · cases e
    · rw [e]
  | cons a r ih =>
    rcases over_cases tail (a :: r) h with ⟨c, r', e, q⟩ | e
    · cases e
      rw [List.contains_cons, ih q]; rfl
    · rw [e]
theorem XB.nonempty (b : XB B newId initId tail) {l : List Value} (h : over tail l = true) : l.isEmpty = false := by
  cases l with
  | nil =>
    rcases over_cases tail [] h with ⟨c, r, e, _⟩ | e
    · cases e
    · rw [e]; exact b.ne
  | cons a r => rfl
end
theorem xbV : XB "ValueError" "ValueError.__new__" "ValueError.__init__" [.type "ValueError", .type "Exception", .type "BaseException", .type "object"] := ⟨F.excBase_ValueError, F.store_ValueError.passes, by decide +kernel, rfl⟩
theorem xbL : XB "LookupError" "LookupError.__new__" "LookupError.__init__" [.type "LookupError", .type "Exception", .type "BaseException", .type "object"] := ⟨F.excBase_LookupError, F.store_LookupError.passes, by decide +kernel, rfl⟩
theorem xbR : XB "RuntimeError" "RuntimeError.__new__" "RuntimeError.__init__" [.type "RuntimeError", .type "Exception", .type "BaseException", .type "object"] := ⟨F.excBase_RuntimeError, F.store_RuntimeError.passes, by decide +kernel, rfl⟩

/-! ### the call of such a class, keywords too -/
section
open Builtin Builtin.ObjectAttr PySem.W
variable {h : Heap} {g : Array GenState} {d : Drawn} {t : Nat} {os : OsState}
variable {nm q : Str} {C N : Addr} {bs bm bmB : List Value} {hdct : Bool} {sn : List Str} {sub : List Value} {ab : Bool} {col : Option Bool} {dd : Option Addr} {k0 k1 k2 k3 k5 : Option Value} {B newId initId : String}
variable (F : ExcBaseFacts B newId initId bmB) (hT : ∀ X : String, bm.contains (.type X) = bmB.contains (.type X))
include F hT
theorem checkK {M : Model} {A : Around} {E : Value → Shared → Prop} {rest : List Value} {kw : List (Str × Value)} {Q : Unit → Shared → Prop}
    (hC : h.get? C = some (excClassObj nm q C N bs bm hdct sn sub ab col dd k0 k1 k2 k3 k5 newId)) (hq : Q () ⟨h, g, d, t, os⟩) : wpAny M A (checkBuiltinCall newId ⟨.ref C :: rest, kw⟩) Q E ⟨h, g, d, t, os⟩ := by
  have c1 : (Value.ref C :: bm).contains (.type B) = true := by rw [List.contains_cons, hT, F.hasB, Bool.or_true]
  have c2 := F.noStar
  simp only [checkBuiltinCall, F.newKind, F.newSplit, F.newRow]
  repeat (first | refine wpAny_loadPart_at hC ?_ | (refine wpAny_isSubtype_exc hC ?_; rw [c1]) | refine wpAny_staticBase_exc hC ?_ | refine wpAny_madeBy_exc hC ?_ | simp only [bne_self_eq_false, Bool.false_eq_true, if_false] | wp_step)
  exact hq
theorem newK {prog : Program} {w : World} {A : Around} {R : Result → Shared → Prop} {rest : List Value} {kw : List (Str × Value)}
    (hC : h.get? C = some (excClassObj nm q C N bs bm hdct sn sub ab col dd k0 k1 k2 k3 k5 newId))
    (hq : R (.ok (.ret (.ref (h.objs.size + 1)))) ⟨(h.push { cls := .type "tuple", data := .seq rest.toArray }).push { cls := .ref C, data := .fields #[.ref h.objs.size, .none, .none, .none, .bool false, .none] }, g, d, t, os⟩) (hrest : rest.length ≤ sizeLine) :
    codeAny (model prog w) A (.builtin newId ⟨.ref C :: rest, kw⟩) R ⟨h, g, d, t, os⟩ := by
  have e0 := F.ends
  have c1 : (Value.ref C :: bm).contains (.type B) = true := by rw [List.contains_cons, hT, F.hasB, Bool.or_true]
  have c2 : (Value.ref C :: bm).contains (.type "AttributeError") = false := by rw [List.contains_cons, hT, F.noAttr]; rfl
  have c3 : (Value.ref C :: bm).contains (.type "NameError") = false := by rw [List.contains_cons, hT, F.noName]; rfl
  refine codeAny_builtinAt F.entry (by
    unfold Builtin.«BaseException.__new__»
    refine PySem.wpAt_bind ?_
    show PySem.wpAt _ _ _ (stack >>= _) _ _ _
    refine PySem.wpAt_bind (PySem.wpAt_stack fun p below => PySem.wpAt_of_wpAny ?_)
    wp_walk
    refine PySem.wpAt_of_wpAny ?_
    rw [F.owner]
    repeat (first | with_reducible refine wpAny_madeHere_exc F.canon hC ?_ | with_reducible refine wpAny_loadPart_at hC ?_ | (with_reducible refine wpAny_isSubtype_exc hC ?_; first | rw [c1] | rw [c2] | rw [c3]) | wp_step)
    show R _ _
    rw [Heap.size_push]
    exact hq)
theorem typeCallK {prog : Program} {w : World} {A : Around} {E : Value → Shared → Prop} {rest : List Value} {kw : List (Str × Value)} {fI : Addr} {Q : Fin → Shared → Prop}
    (hC : h.get? C = some (excClassObj nm q C N bs bm hdct sn sub ab col dd k0 k1 k2 k3 k5 newId))
    (hi : W.Looks (model prog w) h (typeLookup (.ref C) "__init__") (some (.ref fI))) (hb : ∀ self, W.Looks (model prog w) h (bindSpecial (.ref fI) self) (.ref fI, [self])) (hrest : rest.length ≤ sizeLine)
    (hq : codeAny (model prog w) A (.call (.ref fI) ⟨.ref (h.objs.size + 1) :: rest, kw⟩)
      (fun r s' => match r with | .ok (.ret v) => v = .none ∧ Q (.done (.ret (.ref (h.objs.size + 1)))) s' | .ok _ => False | .error e => E e s')
      ⟨(h.push (W.kdv_tup rest)).push (excO C h.objs.size), g, d, t, os⟩) :
    wpAny (model prog w) A (Builtin.«type.__call__» ⟨.ref C :: rest, kw⟩) Q E ⟨h, g, d, t, os⟩ := by
  repeat (first | with_reducible refine wpAny_loadPart_at hC ?_ | with_reducible refine wpAny_madeBy_exc hC ?_ | wp_step)
  refine codeAny_call_builtin_code (Code.quiet_builtin _ F.quiet) (checkK F hT hC (newK F hT hC ?_ hrest))
  show wpAny _ _ _ _ _ _
  have kp : ∀ b o, h.get? b = some o → ((h.push (W.kdv_tup rest)).push (excO C h.objs.size)).get? b = some o := fun b o e => Heap.get?_push_of_some _ (Heap.get?_push_of_some _ e)
  have hC1 := kp _ _ hC
  have at1 : ((h.push (W.kdv_tup rest)).push (excO C h.objs.size)).get? (h.objs.size + 1) = some (excO C h.objs.size) := by heap_get
  have own : (Value.ref C :: bm).contains (.ref C) = true := by simp
  have j1 := hi.keeps kp
  have j2 := (hb (.ref (h.objs.size + 1))).keeps kp
  unfold isInstance
  repeat (first | with_reducible refine wpAny_loadPart_at at1 ?_ | (with_reducible refine wpAny_isSubtype_exc hC1 ?_; rw [own]) | wp_step)
  show wpAny _ _ (typeLookup (.ref C) _) _ _ _
  refine j1.at (wpAny_holding (wpAny_bind (j2.at (wpAny_bind (wpAny_call (codeAny_mono hq fun r s' z => ?_))))))
  rcases r with e | (v | _ | _ | _) <;> first | exact z | exact z.elim | skip
  obtain ⟨rfl, z⟩ := z
  first
    | exact wpAny_pure (wpAny_pure z)
    | (wp_walk; exact z)
theorem callK {prog : Program} {w : World} {A : Around} {R : Result → Shared → Prop} {rest : List Value} {kw : List (Str × Value)} {fI : Addr}
    (hC : h.get? C = some (excClassObj nm q C N bs bm hdct sn sub ab col dd k0 k1 k2 k3 k5 newId))
    (hi : W.Looks (model prog w) h (typeLookup (.ref C) "__init__") (some (.ref fI))) (hb : ∀ self, W.Looks (model prog w) h (bindSpecial (.ref fI) self) (.ref fI, [self])) (hrest : rest.length ≤ sizeLine)
    (hq : codeAny (model prog w) (A.under (.builtin "type.__call__" ⟨.ref C :: rest, kw⟩)) (.call (.ref fI) ⟨.ref (h.objs.size + 1) :: rest, kw⟩) (W.InitBack (h.objs.size + 1) R)
      ⟨(h.push (W.kdv_tup rest)).push (excO C h.objs.size), g, d, t, os⟩) :
    codeAny (model prog w) A (.call (.ref C) ⟨rest, kw⟩) R ⟨h, g, d, t, os⟩ := by
  have a1 := tc_lookup
  have a2 := tc_bind (.ref C)
  have a3 : (⟨h, g, d, t, os⟩ : Shared).TypeIs (.ref C) "type" := ⟨_, hC, rfl⟩
  refine codeAny_of_tree (show wpAny _ _ (callAny (.ref C) _) _ _ _ from ?_)
  repeat (any_goals (first | assumption | with_reducible refine wpAny_loadPart_at hC ?_ | wp_step))
  refine ⟨rfl, codeAny_call_builtin_at (Code.quiet_builtin _ (by decide +kernel)) entry_typeCall (wpAny_check_type_call_sub hC (typeCallK F hT hC hi hb hrest (codeAny_mono hq fun r s' z => ?_)))⟩
  rcases r with e | (v | _ | _ | _) <;> exact z
end

/-! ### self.f = v in such an exception -/
section
open Builtin Builtin.ObjectAttr PySem.W
variable {prog : Program} {w : World} {A : Around} {R : Result → Shared → Prop} {hp : Heap} {g : Array GenState} {d : Drawn} {t : Nat} {os : OsState}
variable {B newId initId : String} {tail : List Value} {K : W.Frag} {name : Str} {tk : Tok} {v : Value} {x C : Addr} {fv : Array Value} {cd : ClassData}
/-- what the store begins with -/
theorem osaRun (b : XB B newId initId tail) {dx : Option Addr} {od : Option Obj} (X : K.In hp) (I : W.InstAt hp x { cls := .ref C, dict := dx, data := .fields fv } C od) (hcd : W.clsIn K C = some cd) (hm : over tail cd.mro = true) (ha : W.findIn K (.ref C) name = some none)
    (go : wpAny (model prog w) A.in1 (storeInOwnDict (.ref x) (.ref C) (.str name tk) name v false) (fun fin s' => match fin with | .done f => R (.ok f) s' | .again c' => c'.quiet = true ∧ codeAny (model prog w) A c' R s') (fun e s' => R (.error e) s') ⟨hp, g, d, t, os⟩) :
    codeAny (model prog w) A (.call (.builtin "object.__setattr__") ⟨[.ref x, .str name tk, v], []⟩) R ⟨hp, g, d, t, os⟩ := by
  have SF := F.store_object
  have h1 : cd.mro.contains (.type "object") = true := (over_contains "object" _ hm).trans b.obj
  have sub : W.Looks (model prog w) hp (isInstance (.ref x) (.type "object")) true := I.type.andThen (W.looks_mroIn X (by unfold W.mroIn; rw [hcd, Option.bind_some, if_neg (by rw [b.nonempty hm]; decide), h1]))
  have h2 : W.Looks (model prog w) hp (mroOf (.ref C)) cd.mro := (W.looks_clsIn X hcd).andThen .now
  have h3 : W.Looks (model prog w) hp (storeTaker? none) none := .now
  refine codeAny_call_builtin SF.slot.plain SF.entry (@W.check_slot (model prog w) _ _ ⟨hp, g, d, t, os⟩ "object.__setattr__" "object" "__setattr__" (.ref x) [.str name tk, v] [] _ SF.kind SF.split sub (SF.args (.ref x) (.str name tk) v) ?_)
  rw [W.osa_eq, refuse_eq]
  refine wpAny_bind (wpAny_bind (I.type.at (wpAny_bind (h2.at ?_))))
  rw [b.passes _ _ hm]
  exact wpAny_pure (wpAny_bind (I.type.at (wpAny_bind ((W.looks_findIn X ha).at (wpAny_bind (h3.at go))))))
theorem osaNew (b : XB B newId initId tail) (X : K.In hp) (hx : hp.get? x = some { cls := .ref C, data := .fields fv }) (hcd : W.clsIn K C = some cd) (hm : over tail cd.mro = true) (hh : cd.hasDict = true) (ha : W.findIn K (.ref C) name = some none)
    (hq : ∀ h' tk' dx, (∀ b o, b ≠ x → hp.get? b = some o → h'.get? b = some o) → hp.objs.size ≤ dx → dx ≠ x → h'.get? x = some { cls := .ref C, dict := some dx, data := .fields fv } →
      h'.Ns1 dx (fun y => if y = name then some v else none) → R (.ok (.ret .none)) ⟨h', g, d, tk', os⟩) :
    codeAny (model prog w) A (.call (.builtin "object.__setattr__") ⟨[.ref x, .str name tk, v], []⟩) R ⟨hp, g, d, t, os⟩ := by
  refine osaRun (od := none) b X ⟨hx, rfl, rfl, trivial⟩ hcd hm ha ?_
  have ns : x ≠ hp.objs.size := Nat.ne_of_lt (Heap.lt_size hx)
  have lk : W.Looks (model prog w) hp (classData C) cd := W.looks_clsIn X hcd
  obtain ⟨nm, bs, mro, nsx, qn, hd, sn, sb, ab, col, del⟩ := cd
  cases (show hd = true from hh)
  unfold storeInOwnDict ownDictForStores
  repeat (first | with_reducible refine PySem.HandSPX.store_in_new ?_ ?_ | with_reducible refine wpAny_loadPart_at hx ?_ | with_reducible refine lk.at ?_ | wp_step)
  · exact ⟨_, #[], _, (Heap.get?_update_ne _ _ _ _ ns.symm).trans (Heap.get?_push_at rfl rfl), rfl, fun e he => absurd he (by simp), fun _ => rfl⟩
  · intro h' tk' hn' hs
    have hx1 : (hp.push { cls := .type "dict", data := .dict #[] }).get? x = some { cls := .ref C, data := .fields fv } := Heap.get?_push_of_some _ hx
    exact hq h' tk' hp.objs.size (fun b o hb ho => (hs.2 b (Nat.ne_of_lt (Heap.lt_size ho))).trans ((Heap.get?_update_ne _ _ _ _ hb).trans (Heap.get?_push_of_some _ ho))) (Nat.le_refl _) ns.symm ((hs.2 x ns).trans (Heap.get?_update_self _ hx1 rfl)) hn'
theorem osaOld (b : XB B newId initId tail) {dx : Addr} {m0 : Str → Option Value} {nl : List Str} (X : K.In hp) (hx : hp.get? x = some { cls := .ref C, dict := some dx, data := .fields fv }) (hns : hp.Ns1 dx m0) (hw : Within m0 nl) (hz : nl.length ≤ 1000) (hcd : W.clsIn K C = some cd) (hm : over tail cd.mro = true) (hh : cd.hasDict = true)
    (ha : W.findIn K (.ref C) name = some none)
    (hq : ∀ h' tk', (∀ b o, b ≠ dx → hp.get? b = some o → h'.get? b = some o) → h'.Ns1 dx (fun y => if y = name then some v else m0 y) → R (.ok (.ret .none)) ⟨h', g, d, tk', os⟩) :
    codeAny (model prog w) A (.call (.builtin "object.__setattr__") ⟨[.ref x, .str name tk, v], []⟩) R ⟨hp, g, d, t, os⟩ := by
  obtain ⟨oD, _, _, hoD, _, _⟩ := hns.count hw
  refine osaRun b (od := some oD) X ⟨hx, rfl, rfl, hoD⟩ hcd hm ha ?_
  have lk : W.Looks (model prog w) hp (classData C) cd := W.looks_clsIn X hcd
  obtain ⟨nm, bs, mro, nsx, qn, hd, sn, sb, ab, col, del⟩ := cd
  cases (show hd = true from hh)
  unfold storeInOwnDict ownDictForStores
  repeat (first | with_reducible refine PySem.OEX.store_in_old hns hw hz ?_ | with_reducible refine wpAny_loadPart_at hx ?_ | with_reducible refine lk.at ?_ | wp_step)
  intro h' tk' hn' hs
  exact hq h' tk' (fun b o hb ho => (hs.2 b hb).trans ho) hn'
end

/-- what the written part says of an exception class of the program -/
structure XC (K : PySem.W.Frag) (C : Addr) : Prop where
  cls : ∃ B newId initId tail, XB B newId initId tail ∧ ∃ nm q N bs bm sn sub ab col dd k0 k1 k2 k3 k5, K.lookup C = some (excClassObj nm q C N bs bm true sn sub ab col dd k0 k1 k2 k3 k5 newId) ∧ over tail bm = true
  sa : PySem.W.findIn K (.ref C) "__setattr__" = some (some (.builtin "object.__setattr__"))
  exC : PySem.W.subIn K (.ref C) (.type "BaseException") = some true
  tyC : PySem.W.typeIn K (.ref C) = some (.type "type")
  kC : PySem.W.keepIn K (.ref C) = true
section
variable {X : Cx} {pins : List (Addr × Obj)} {σ : L2.St} {H : Hp} {s : Shared} {a C dx : Addr} {f : Str} {y : V} {u : Value} {fs : List (Str × V)} {Q : Unit → Shared → Prop} {E : Value → Shared → Prop} {A : Around}
theorem xst_new (T : XC X.K C) (I : Inv X pins σ H s) (e : H a = some (exo a C none)) (hno : PySem.W.findIn X.K (.ref C) f = some none) (ry : RelV y u)
    (h : ∀ dx s', H dx = none → dx ≠ a → Inv X pins σ (upd (upd H dx (exd dx [(f, y)])) a (exo a C (some dx))) s' → Q () s') : wpAny (model X.prog X.w) A (setAttr (.ref a) f u) Q E s := by
  obtain ⟨B, newId, initId, tail, b, nm, q, N, bs, bm, sn, sub, ab, col, dd, k0, k1, k2, k3, k5, hC, hbm⟩ := T.cls
  have hcl : PySem.W.clsIn X.K C = some { name := nm, bases := bs, mro := .ref C :: bm, ns := N, qualname := q, hasDict := true, slotNames := sn, subclasses := sub, abstract := ab, collection := col, hasDel := false } := by unfold PySem.W.clsIn; rw [hC] <;> rfl
  obtain ⟨t1, ho⟩ := exo_at I.hok e
  obtain ⟨hp, g, d, t, os⟩ := s
  refine PySem.W.set_plain I.kIn (ox := { cls := .ref C, dict := none, data := .fields #[.ref t1, .none, .none, .none, .bool false, .none] }) (od := none) ⟨ho, rfl, rfl, trivial⟩ T.sa (osaNew b I.kIn ho hcl (show over tail (.ref C :: bm) = true from hbm) rfl hno fun h' tk' dx k dn dne hx hn => ?_)
  have hnd : H dx = none := I.hok.fresh dn
  have n1 : ∀ {b : Addr} {o : Obj}, hp.get? b = some o → b ≠ dx := fun {b o} q => Nat.ne_of_lt (Nat.lt_of_lt_of_le (Heap.lt_size q) dn)
  have n2 : ∀ {b : Addr}, H b = none → b ≠ a := fun {b} n z => by rw [z, e] at n; cases n
  have U : Un X.fs [] H (upd (upd H dx (exd dx [(f, y)])) a (exo a C (some dx))) hp h' := {
    keep := fun b o q n _ _ => k b o (n2 n) q
    slot := fun b o q n _ _ => ⟨o.slots, k b o (n2 n) q⟩
    free := fun b o q n _ => by rw [upd_ne (n2 n), upd_ne (n1 q)]; exact n
    there := fun b o q _ => by
      by_cases hb : b = a
      · exact ⟨_, by rw [hb]; exact hx⟩
      · exact ⟨o, k b o hb q⟩
    tups := fun b xs q => by rw [upd_ne (at_ne e q exo_tup), upd_ne (ne_of_none q hnd)]; exact q
    frzs := fun b o v q => by rw [upd_ne (at_ne e q exo_frz), upd_ne (ne_of_none q hnd)]; exact q
    tbls := fun b ps q => ⟨#[], by rw [upd_ne (at_ne e q exo_tbl), upd_ne (ne_of_none q hnd), q]; simp⟩ }
  refine h dx _ hnd dne (I.un (t' := tk') U fun b o q => ?_)
  by_cases hb : b = a
  · subst hb
    rw [upd_same] at q
    cases q
    exact exo_ok hx
  · rw [upd_ne hb] at q
    by_cases hd : b = dx
    · subst hd
      rw [upd_same] at q
      cases q
      exact exd_ok hn (relO_put (fs := []) ry fun g => True.intro)
    · rw [upd_ne hd] at q
      refine (I.hok b o q).stay (fun c v hc z => k c v ?_ z) (fun c hc => by rw [upd_ne (at_ne e hc exo_own), upd_ne (ne_of_none hc hnd)]; exact hc) (fun c xs hc => by rw [upd_ne (at_ne e hc exo_tup), upd_ne (ne_of_none hc hnd)]; exact hc)
      rcases hc with hc | hc
      · rw [hc]; exact hb
      · exact at_ne e hc exo_own
theorem xst_old (T : XC X.K C) (I : Inv X pins σ H s) (e : H a = some (exo a C (some dx))) (ed : H dx = some (exd dx fs)) (hl : fs.length ≤ 900) (hno : PySem.W.findIn X.K (.ref C) f = some none) (ry : RelV y u)
    (h : ∀ s', Inv X pins σ (upd H dx (exd dx ((f, y) :: fs))) s' → Q () s') : wpAny (model X.prog X.w) A (setAttr (.ref a) f u) Q E s := by
  obtain ⟨B, newId, initId, tail, b, nm, q, N, bs, bm, sn, sub, ab, col, dd, k0, k1, k2, k3, k5, hC, hbm⟩ := T.cls
  have hcl : PySem.W.clsIn X.K C = some { name := nm, bases := bs, mro := .ref C :: bm, ns := N, qualname := q, hasDict := true, slotNames := sn, subclasses := sub, abstract := ab, collection := col, hasDel := false } := by unfold PySem.W.clsIn; rw [hC] <;> rfl
  obtain ⟨t1, ho⟩ := exo_at I.hok e
  obtain ⟨mA, hns, rel⟩ := exd_at I.hok ed
  have hw := within_of rel
  obtain ⟨hp, g, d, t, os⟩ := s
  obtain ⟨oD, _, _, hoD, _, _⟩ := hns.count hw
  refine PySem.W.set_plain I.kIn (ox := { cls := .ref C, dict := some dx, data := .fields #[.ref t1, .none, .none, .none, .bool false, .none] }) (od := some oD) ⟨ho, rfl, rfl, hoD⟩ T.sa (osaOld b I.kIn ho hns hw (by rw [List.length_map]; omega) hcl (show over tail (.ref C :: bm) = true from hbm) rfl hno fun h' tk' k hn => ?_)
  have hd : ∃ o, h'.get? dx = some o := by
    obtain ⟨o, _, _, e', _⟩ := hn
    exact ⟨o, e'⟩
  exact h _ (I.write (t' := tk') (x := dx) (e := dx) (o := exd dx ((f, y) :: fs)) (by rw [ed]; exact True.intro) (.inl rfl) k hd (exd_ok hn (relO_put ry rel)))
end
end M
/-! M9: making exceptions as values; their fields. -/
namespace M
open PySem PySem.Spec PyProof.Rows L2

/-! ### __init__ of one and of two fields -/
/-- self.f = e, by the heap -/
def tXst (K : PySem.W.Frag) (f : Str) (to te : TE) : TS := fun D σ H => te σ H fun y H1 => to σ H1 fun x H2 => ∃ a C : Addr, x = .ref a ∧ XC K C ∧ PySem.W.findIn K (.ref C) f = some none ∧
  ((H2 a = some (exo a C none) ∧ ∀ dx, H2 dx = none → dx ≠ a → D.nx σ (upd (upd H2 dx (exd dx [(f, y)])) a (exo a C (some dx)))) ∨
    ∃ (dx : Addr) (fs : List (Str × V)), H2 a = some (exo a C (some dx)) ∧ H2 dx = some (exd dx fs) ∧ fs.length ≤ 900 ∧ D.nx σ (upd H2 dx (exd dx ((f, y) :: fs))))
theorem ps_xst {X : Cx} {o e : Expr} {to te : TE} {f : Str} {p' pos : Pos} (ho : PE X o to) (he : PE X e te) (hs : swapsWith e (some (.Attribute o f p')) pos.line X.env = pure false := by rfl) : PS X (.Assign [.Attribute o f p'] e pos) (tXst X.K f to te) := by
  refine ⟨fun pins s σ H D I h => plainObj_wpAny_Assign_Attribute (thn (he.run pins s σ H _ I h) fun v s1 ⟨y, H1, I1, r1, q1⟩ => thn (ho.run pins s1 σ H1 _ I1 q1) fun u s2 ⟨x, H2, I2, r2, a, C, ex, T, hno, q⟩ => ?_) hs⟩
  subst ex
  cases (show u = Value.ref a from r2)
  rcases q with ⟨ea, q⟩ | ⟨dx, fs, ea, ed, hl, q⟩
  · exact xst_new T I2 ea hno r1 fun dx s' n ne J => ⟨σ, _, J, q dx n ne⟩
  · exact xst_old T I2 ea ed hl hno r1 fun s' J => ⟨σ, _, J, q⟩
/-- the promise of such an __init__ -/
def spX (K : PySem.W.Frag) (fs : List Str) : Sp := fun vs H Q _ => ∃ (a C : Addr) (ys : List V), vs = .ref a :: ys ∧ ys.length = fs.length ∧ XC K C ∧ (∀ f ∈ fs, PySem.W.findIn K (.ref C) f = some none) ∧ H a = some (exo a C none) ∧
  ∀ d, H d = none → d ≠ a → Q .non (upd (upd H d (exd d (fs.zip ys).reverse)) a (exo a C (some d)))
section
variable {P : Program} {w : World} {K : PySem.W.Frag} {mg : Str → Option Value} {base : Heap} {qual : Str} {params : Arguments} {scope : Scope} {dvs : List V} {kws : List (Str × V)} {f : Addr} {fd : FuncData} {k : Nat} {p1 p2 p3 p4 q1 q2 q3 q4 : Pos} {CX : CXT}
theorem ok_init1 {x1 : Str} (Fd : FunD K "__init__" qual params [.Assign [.Attribute (.Name "self" p1) x1 p2] (.Name x1 p3) p4] scope dvs kws f fd) (S : FnScope ["self", x1] ["self", x1] scope) (v0 : scope.names.lookup ("self" : Str) = some .local) (v1 : scope.names.lookup x1 = some .local)
    (d1 : (x1 == ("__debug__" : Str)) = false) (c1 : (x1 == ("__classdict__" : Str)) = false) : FnOk P w K mg base CX (k + 1) f fd ["self", x1] (spX K [x1]) := by
  refine Fd.ok S (fun vs H Q E h => ?_) (fun cdv A outer s H vs Q E hr h => ⟨_, pss_one (ps_xst (pe_var (i := 0) rfl (.inl v0)) (pe_var (i := 1) rfl (.inl v1) d1 c1)), ?_⟩)
  · obtain ⟨a, C, ys, rfl, hl, _⟩ := h
    rw [List.length_cons, hl]; rfl
  · obtain ⟨a, C, ys, rfl, hl, T, hf, ea, q⟩ := h
    match ys, hl with
    | [y], _ => exact ⟨y, rfl, .ref a, rfl, a, C, rfl, T, hf _ (by simp), .inl ⟨ea, fun d hd ne => q d hd ne⟩⟩
theorem upd_comm {H : Hp} {a b : Addr} {o u : HO} (h : a ≠ b) : upd (upd H a o) b u = upd (upd H b u) a o := by
  funext c
  by_cases e : c = a
  · rw [e, upd_ne h, upd_same, upd_same]
  · by_cases e2 : c = b
    · rw [e2, upd_same, upd_ne h.symm, upd_same]
    · rw [upd_ne e2, upd_ne e, upd_ne e, upd_ne e2]
end

/-! ### C(..) as a value -/
section
variable {X : Cx} {CX : CXT} {k n : Nat} {fI C : Addr} {fd : FuncData} {ps ks : List Str} {E : Value → Shared → Prop}
theorem passLN {X : Cx} : Passes (L2N.CX X.prog X.w) X (fun _ _ _ => False) := fun _ _ _ _ _ _ _ h => by
  obtain ⟨_, _, _, _, _, _, _, _, _, _, _, _, z⟩ := h
  exact z.elim
end

/-! ### .. in the embedding -/
theorem kbn_plain {K : PySem.W.Frag} {x qual : Str} {params : Arguments} {body : List Stmt} {scope : Scope} {kws : List (Str × V)} {f : Addr} {fd : FuncData} {ps : List Str} (F : FunD K x qual params body scope [] kws f fd) (n : Nat) (ks : List Str) (g : {α : Type} → List α → List α → List α)
    (hrel : ∀ {vs zs : List V} {us ws : List Value}, Vals vs us → Vals zs ws → Vals (g vs zs) (g us ws))
    (h : ∀ (kV doc pm : Value) (an : Option Addr) (cdv ct : Value) (us ws : List Value), us.length = n → ws.length = ks.length → bindArgs (PySem.W.fnOf x qual params body scope .none kV doc pm an cdv ct) ⟨us, ks.zip ws⟩ = pure (ps.zip (g us ws))) : KBn K fd ps n ks (fun us ws => g us ws) (fun vs zs => g vs zs) := by
  obtain ⟨oc, od, dV, kV, doc, pm, an, cdv, ct, osl, rfl, lk, hcd, hD, hK⟩ := F.ex
  rcases hD with ⟨_, rfl⟩ | ⟨e, _⟩
  · exact ⟨fun s us ws X l1 l2 => .of_eq (h kV doc pm an cdv ct us ws l1 l2), fun r1 r2 => hrel r1 r2⟩
  · exact absurd rfl e
/-- what is known of an exception class with its __init__ -/
structure XI (X : Cx) (k n : Nat) (C : Addr) (fs ks : List Str) (gV : List V → List V → List V) : Prop where
  cls : XC X.K C
  nf : ∀ f ∈ fs, PySem.W.findIn X.K (.ref C) f = some none
  ini : ∃ (fI : Addr) (fd : FuncData) (ps : List Str) (g : List Value → List Value → List Value), PySem.W.findIn X.K (.ref C) "__init__" = some (some (.ref fI)) ∧ PySem.W.typeIn X.K (.ref fI) = some (.type "function") ∧
    FnOk X.prog X.w X.K X.mg X.base (L2N.CX X.prog X.w) k fI fd ps (spX X.K fs) ∧ KBn X.K fd ps (n + 1) ks g gV
/-- how the fields' values come of the arguments -/
structure Perm (gD : List D → List D → List D) (gV : List V → List V → List V) (n m : Nat) (fs : List Str) : Prop where
  rel : ∀ (W : Vw) ds es vs zs, RVs W ds vs → RVs W es zs → ds.length = n → es.length = m → ∃ ys, (∀ a, gV (.ref a :: vs) zs = .ref a :: ys) ∧ ys.length = fs.length ∧ RVs W (gD ds es) ys
theorem zip_rf {W : Vw} : ∀ {fs : List Str} {ds : List D} {vs : List V}, RVs W ds vs → RFs W (fs.zip ds) (fs.zip vs)
  | [], _, _, _ => .nil
  | _ :: _, _, _, .nil => .nil
  | f :: fs, _, _, .cons h r => .cons h (zip_rf r)
theorem rf_append {W : Vw} : ∀ {ds ds' : List (Str × D)} {vs vs' : List (Str × V)}, RFs W ds vs → RFs W ds' vs' → RFs W (ds ++ ds') (vs ++ vs')
  | _, _, _, _, .nil, q => q
  | _, _, _, _, .cons h r, q => .cons h (rf_append r q)
theorem rf_reverse {W : Vw} : ∀ {ds : List (Str × D)} {vs : List (Str × V)}, RFs W ds vs → RFs W ds.reverse vs.reverse
  | _, _, .nil => .nil
  | _, _, .cons h r => by rw [List.reverse_cons, List.reverse_cons]; exact rf_append (rf_reverse r) (.cons h .nil)
section
variable {X : Cx} {F : Fx} {k n : Nat} {C x : Str} {fs ks : List Str} {gV : List V → List V → List V} {gD : List D → List D → List D} {p pos : Pos} {e : Expr} {es : List Expr} {kws : List Keyword} {j jk : IA}
theorem k_nil : PK X [] (TA_ F aNil) := ⟨fun pos pins s σ H Q I h => (pk_nil (X := X)).run pos pins s σ H Q I (by
  obtain ⟨W, st, env, A, p⟩ := h
  have q := p W.ρ W.H [] Ext.refl A.sim .nil
  rw [A.h] at q
  exact q)⟩
theorem k_cons {nm : Option Str} {kpos : Pos} {i : IE} {j : IA} (ha : PE X e (TI F i)) (hr : PK X kws (TA_ F j)) : PK X (⟨nm, e, kpos⟩ :: kws) (TA_ F (aCons i j)) := ⟨fun pos pins s σ H Q I h => (pk_cons (nm := nm) (kpos := kpos) ha hr).run pos pins s σ H Q I
  ((TX.bind (k := fun d env s => (j env s).bind fun ds s2 => .ok (d :: ds) s2) h).mono fun x H1 h1 =>
    (TK.bind (i := j) (k := fun d ds env s2 => .ok (d :: ds) s2) (fun x r => RV.mono x r) h1).mono fun y H2 ⟨W, st, env, a, b, A, ra, rb, p⟩ => by
      have q := p W.ρ W.H (x :: y) Ext.refl A.sim (.cons ra rb)
      rw [A.h] at q
      exact q)⟩
end
end M
/-! M10: frozen lists and dicts, slices, stores in lists, repr, isinstance, an exception's field, names. -/
namespace M
open PySem PySem.Spec PyProof.Rows L2

section
variable {X : Cx} {F : Fx} {pos : Pos} {W : Vw} {st : Sto}
/-! ### displays nobody changes -/
def opLstF : OpN := fun ds st => if ds.length ≤ sizeLine then some (.lst ds, st) else none
theorem e_lstF {es : List Expr} {j : IA} (h : PA X es (TA_ F j)) : PE X (.List es pos) (TI F (iN opLstF j)) := PE.imp (pe_lst h) fun σ H Q h => (n_rN h).mono fun vs H1 ⟨W, st, ds, I, r, p⟩ => by
  unfold opLstF at p
  split at p
  · rename_i c
    have eH := I.h
    subst eH
    exact ⟨by rw [← r.length]; exact c, fun q hq => p.listF I.sim r hq⟩
  · exact p.elim
def opListF : OpN := fun ds st => match ds with
  | [d] => (aseq st d).map fun xs => (.lst xs, st)
  | _ => none
theorem cr_listF (hk : X.K = F.K) : CallR X (.type "list") (rN F opListF) := CallR.imp call_list_of fun xs H Q ⟨W, st, ds, I, r, p⟩ => by
  unfold opListF at p
  split at p
  · rename_i d
    obtain ⟨v, rfl, rv⟩ := rv1 r
    cases e : aseq st d with
    | none => rw [e] at p; exact p.elim
    | some xs =>
      rw [e] at p
      obtain ⟨a, ys, rfl, hs, ry⟩ := aseq_at I.sim e rv
      have eH := I.h
      subst eH
      rw [I.k, ← hk] at hs
      exact ⟨a, ys, rfl, hs, fun l hl => p.listF I.sim ry hl⟩
  · exact p.elim

/-! ### names -/
theorem e_glo {x : Str} (hg : Gl X x) (hm : X.mg x = some (.ref (F.g x))) (hd : (x == ("__debug__" : Str)) = false := by decide) : PE X (.Name x pos) (TI F (iC (.glo x))) := e_con (pe_glob hg hm (v := .ref (F.g x)) rfl hd) fun W _ e => by rw [← e]; exact .glo x
theorem e_gint {x : Str} {i : Int} (hg : Gl X x) (hm : ∃ t, X.mg x = some (.int i t)) (hd : (x == ("__debug__" : Str)) = false := by decide) : PE X (.Name x pos) (TI F (iC (.int i))) := by
  obtain ⟨t, hm⟩ := hm
  exact e_con (pe_glob hg hm (v := .int i) ⟨t, rfl⟩ hd) fun W _ _ => .int i
theorem e_bty {x : Str} {n : String} (hg : Gl X x) (hm : X.mg x = none) (hv : bootBuiltins x = some (.type n)) (hn : x ≠ "__name__" := by decide) (hd : (x == ("__debug__" : Str)) = false := by decide) : PE X (.Name x pos) (TI F (iC (.ty n))) := e_con (pe_bltn hg hm hv (v := .ty n) rfl hn hd) fun W _ _ => .ty n

/-! ### all -/
def asB : D → Option Bool
  | .bl b => some b
  | _ => none
def opAll : OpN := fun ds st => match ds with
  | [d] => match alst st d with
    | some xs => (allP asB xs).map fun bs => (.bl (bs.all id), st)
    | none => none
  | _ => none
theorem asB_rv : ∀ {xs : List D} {bs : List Bool} {ys : List V}, allP asB xs = some bs → RVs W xs ys → ys = bs.map V.bl
  | [], _, _, h, .nil => by cases h; rfl
  | x :: xs, _, _, h, .cons r rs => by
    obtain ⟨p, q, e1, e2, rfl⟩ := allP_cons h
    rw [asB_rv e2 rs]
    cases r <;> cases e1
    rfl
theorem cr_allL (hk : X.K = F.K) (hc : X.calm = true) : CallR X (.builtin "all") (rN F opAll) := CallR.imp (cr_all hc) fun xs H Q ⟨W, st, ds, I, r, p⟩ => by
  unfold opAll at p
  split at p
  · rename_i d
    obtain ⟨v, rfl, rv⟩ := rv1 r
    split at p
    · rename_i xs e
      obtain ⟨a, ys, rfl, hs, ry⟩ := alst_at I.sim e rv
      rw [I.k, ← hk, I.h] at hs
      cases e2 : allP asB xs with
      | none => rw [e2] at p; exact p.elim
      | some bs =>
        rw [e2] at p
        rw [asB_rv e2 ry] at hs
        exact ⟨a, bs, rfl, hs, I.now p (.bl _)⟩
    · exact p.elim
  · exact p.elim

/-! ### repr -/
def rpr (st : Sto) : D → Option Str
  | .dct [] [] => some (dictText [])
  | d => match toP st 64 d with
    | some p => if p.showable = true ∧ p.shown.length ≤ sizeLine then some p.shown else none
    | none => none
def opRepr : OpN := fun ds st => match ds with
  | [d] => (rpr st d).map fun x => (.str x, st)
  | _ => none
theorem cr_repr (hk : X.K = F.K) (hgd : X.A.guards = some []) (hu : X.A.units + (64 + 1) < cLine) : CallR X (.builtin "repr") (rN F opRepr) := fun pins s σ H vs us Q I r ⟨W, st, ds, J, rd, p⟩ => by
  unfold opRepr at p
  split at p
  · rename_i d
    obtain ⟨v, rfl, rv⟩ := rv1 rd
    obtain ⟨u, rfl, ru⟩ := vals1 r
    have eK := J.k
    have eH := J.h
    cases e : rpr st d with
    | none => rw [e] at p; exact p.elim
    | some x =>
      rw [e] at p
      have q := J.now p (.str x)
      have keep : ∀ (h' : Heap) (tk : Nat), (∀ b o, s.heap.get? b = some o → h'.get? b = some o) → Inv X pins σ H { s with heap := h', toks := tk } := fun h' tk k => I.kept k
      have heap : ∀ {a : Addr} {pd : PyData} {as : List Addr}, Reads s.heap (.ref a) pd as → pd.showable = true → (pd.hasDict = true → sysModules ∉ as) → pd.depth ≤ 64 → pd.shown.length ≤ sizeLine → pd.shown = x → wpAny (model X.prog X.w) X.A (call (.builtin "repr") [.ref a]) (EP X pins σ Q) X.xe s := fun {a pd as} rr h1 h2 h3 h4 h5 =>
        repr_of_reads' rr h1 h2 hgd (by omega) (fun b o z => z) (fun h' t tk k => ⟨.str x, H, keep h' tk k, ⟨t, by rw [h5]⟩, q⟩) h4
      unfold rpr at e
      split at e
      · cases e
        cases rv with
        | @dct a _ _ ys h1 h2 h3 h4 =>
          cases ru
          cases ys with
          | cons y ys => cases h4
          | nil =>
          obtain ⟨_, hs, vs2, kvr, o, es, ep, ho, hx, hd, _, hp, _⟩ := (show ObjOk X.prog X.w H s.heap a (.dK []) from Rd.ok (by rw [← eH]; exact h1) I.hok)
          have e0 : vs2 = [] := by
            cases vs2 with
            | nil => rfl
            | cons z zs => cases kvr
          subst e0
          have e1 : es.toList = [] := by
            generalize es.toList = el at hp
            cases hp
            rfl
          refine heap (pd := .dict []) (as := [a] ++ []) (.dict (as := []) (bs := []) ho hx.1 hd (by rw [e1]; exact .nil) (by rw [e1]; exact .nil)) rfl (fun _ m => ?_) (by decide) (by decide) rfl
          have m' : sysModules = a := by simpa using m
          rw [← m'] at hs
          simp at hs
      · split at e
        · rename_i pd hp
          split at e
          · rename_i c
            cases e
            obtain ⟨a1, a2, a3⟩ := toP_good J.sim _ _ _ hp
            have x1 := a3 _ rv
            rw [eK, ← hk, eH] at x1
            obtain ⟨as, rr⟩ := Dp.reads I pd v u x1 ru
            cases rr with
            | none => exact PySem.P.repr_of_none ⟨.str _, H, I.tok _, ⟨_, rfl⟩, q⟩
            | bool b => exact PySem.P.repr_of_bool ⟨.str _, H, I.tok _, ⟨_, rfl⟩, q⟩
            | int i t => exact PySem.P.repr_of_int (by simpa [PyData.showable] using c.1) ⟨.str _, H, I.tok _, ⟨_, rfl⟩, q⟩
            | str z t => exact PySem.P.repr_of_str ⟨.str _, H, I.tok _, ⟨_, rfl⟩, q⟩ c.2
            | list h1 h2 h3 h4 => exact heap (.list h1 h2 h3 h4) c.1 (fun z => by rw [PyData.hasDict_of_canLay _ a1] at z; cases z) a2 c.2 rfl
            | tuple h1 h2 h3 h4 => exact heap (.tuple h1 h2 h3 h4) c.1 (fun z => by rw [PyData.hasDict_of_canLay _ a1] at z; cases z) a2 c.2 rfl
            | dict h1 h2 h3 h4 h5 => exact heap (.dict h1 h2 h3 h4 h5) c.1 (fun z => by rw [PyData.hasDict_of_canLay _ a1] at z; cases z) a2 c.2 rfl
          · cases e
        · cases e
  · exact p.elim
end
end M
/-! M11: slices, stores in lists, isinstance, an exception's field. -/
namespace M
open PySem PySem.Spec PyProof.Rows L2

section
variable {X : Cx} {F : Fx} {pos p2 : Pos} {W : Vw} {st : Sto}
/-! ### slices -/
def PN (_ : Vw) (a b : Option Int) : Prop := a = b
abbrev IO := Env → Sto → R (Option Int)
abbrev TO_ (F : Fx) (i : IO) : L2.TO := TX PN F i
def oNone : IO := fun _ st => .ok none st
def kPart (d : D) (s : Sto) : R (Option Int) := match d with
  | .int i => .ok (some i) s
  | _ => .bad
def oSome (i : IE) : IO := fun env st => (i env st).bind kPart
theorem o_none : PO X none (TO_ F oNone) := ⟨fun pins s σ H Q I h => (po_none (X := X)).run pins s σ H Q I (by
  obtain ⟨W, st, env, A, p⟩ := h
  have q := p W.ρ W.H none Ext.refl A.sim rfl
  rw [A.h] at q
  exact q)⟩
theorem o_some {e : Expr} {i : IE} (he : PE X e (TI F i)) : PO X (some e) (TO_ F (oSome i)) := ⟨fun pins s σ H Q I h => (po_some he).run pins s σ H Q I ((TX.bind (k := fun d env s => kPart d s) h).mono fun x H1 ⟨W, st, env, d, A, r, p⟩ => by
  unfold kPart at p
  cases r with
  | int i =>
    have q := p W.ρ W.H (some i) Ext.refl A.sim rfl
    rw [A.h] at q
    exact ⟨i, rfl, q⟩
  | _ => exact p.elim)⟩
def cutL {α : Type} (xs : List α) (lo hi : Option Int) : List α := (xs.drop (HT.sIx xs.length 0 lo)).take (HT.sIx xs.length xs.length hi - HT.sIx xs.length 0 lo)
theorem RVs.cut {xs : List D} {ys : List V} (r : RVs W xs ys) (lo hi : Option Int) : RVs W (cutL xs lo hi) (cutV ys lo hi) := by
  unfold cutL cutV
  rw [r.length]
  exact (r.drop _).take _
/-- a slice of a list is a new one that nobody changes -/
def opSl (a : D) (lo hi : Option Int) (st : Sto) : Option (D × Sto) := match a with
  | .str z => if z.length ≤ sizeLine then some (.str (cutS z lo hi), st) else none
  | .tup xs => if HT.sIx xs.length 0 lo = 0 ∧ HT.sIx xs.length xs.length hi = xs.length then none else some (.tup (cutL xs lo hi), st)
  | a => (alst st a).map fun xs => (.lst (cutL xs lo hi), st)
def rS (F : Fx) : V → Option Int → Option Int → Hp → VK → Prop := fun x lo hi H Q => ∃ W st a, In F W st H ∧ RV W a x ∧ PostO W (opSl a lo hi st) Q
theorem SlR.imp {r r' : V → Option Int → Option Int → Hp → VK → Prop} (a : SlR X r) (h : ∀ x l u H Q, r' x l u H Q → r x l u H Q) : SlR X r' := fun p s σ H x v vl vu lo hi sl Q I rx hs pl pu q => a p s σ H x v vl vu lo hi sl Q I rx hs pl pu (h x lo hi H Q q)
theorem sr_sl (hk : X.K = F.K) : SlR X (rS F) := SlR.imp (sl_list.or (sl_tup.or sl_str)) fun x lo hi H Q ⟨W, st, a, I, ra, p⟩ => by
  have eH := I.h
  subst eH
  unfold opSl at p
  split at p
  · cases ra
    split at p
    · exact .inr (.inr ⟨_, rfl, by assumption, p.now I.sim (.str _)⟩)
    · exact p.elim
  · split at p
    · exact p.elim
    · rename_i c
      obtain ⟨q, ys, rfl, hs, ry⟩ := tup_at ra
      rw [I.k, ← hk] at hs
      refine .inr (.inl ⟨q, ys, rfl, hs, by rw [← ry.length]; exact c, fun l hl => p.tuple I.sim (ry.cut lo hi) hl⟩)
  · cases e : alst st a with
    | none => rw [e] at p; exact p.elim
    | some xs =>
      rw [e] at p
      obtain ⟨q, ys, rfl, hs, ry⟩ := alst_at I.sim e ra
      rw [I.k, ← hk] at hs
      exact .inl ⟨q, ys, rfl, hs, fun l hl => p.listF I.sim (ry.cut lo hi) hl⟩
def iSl (i : IE) (lo hi : IO) : IE := fun env st => (i env st).bind fun a s => (lo env s).bind fun l s1 => (hi env s1).bind fun u s2 => ofO (opSl a l u s2)
def P2 (W : Vw) (a : D × Option Int) (b : V × Option Int) : Prop := RV W a.1 b.1 ∧ a.2 = b.2
theorem TK.pair {α β γ δ κ μ : Type} {P : Vw → α → β → Prop} {P' : Vw → γ → δ → Prop} {P2 : Vw → κ → μ → Prop} {σ : L2.St} {H : Hp} {k : α → γ → Env → Sto → R κ} {Q : μ → Hp → Prop} {b : β} {c : δ} (h : ∃ W st env a d, At F W st env σ H ∧ P W a b ∧ P' W d c ∧ Post W P2 (k a d env st) Q (F.at_ σ)) :
    TK (fun W (x : α × γ) (y : β × δ) => P W x.1 y.1 ∧ P' W x.2 y.2) P2 F (fun x env st => k x.1 x.2 env st) (b, c) σ H Q := by
  obtain ⟨W, st, env, a, d, A, r1, r2, p⟩ := h
  exact ⟨W, st, env, (a, d), A, ⟨r1, r2⟩, p⟩
theorem e_sl {a : Expr} {lo hi : Option Expr} {i : IE} {l u : IO} (hk : X.K = F.K) (ha : PE X a (TI F i)) (hl : PO X lo (TO_ F l)) (hu : PO X hi (TO_ F u)) : PE X (.Subscript a (.Slice lo hi none p2) pos) (TI F (iSl i l u)) := PE.imp (pe_slice (sr_sl hk) ha hl hu) fun σ H Q h =>
  (TX.bind (k := fun a env s => (l env s).bind fun x s1 => (u env s1).bind fun y s2 => ofO (opSl a x y s2)) h).mono fun x H1 h1 =>
    (TK.bind (i := l) (k := fun a x env s1 => (u env s1).bind fun y s2 => ofO (opSl a x y s2)) (fun x r => RV.mono x r) h1).mono fun y H2 h2 =>
      (TK.bind (P := fun W (x : D × Option Int) (y : V × Option Int) => RV W x.1 y.1 ∧ PN W x.2 y.2) (i := u) (k := fun a y env s2 => ofO (opSl a.1 a.2 y s2)) (fun x r => ⟨RV.mono x r.1, r.2⟩) (TK.pair (P := RV) (P' := PN) (k := fun a x env s1 => (u env s1).bind fun y s2 => ofO (opSl a x y s2)) h2)).mono fun z H3 ⟨W, st, env, a, b, A, ra, rb, p⟩ => by
        cases (show b = z from rb)
        obtain ⟨ra, e⟩ := ra
        cases (show a.2 = y from e)
        exact ⟨W, st, a.1, A.in_, ra, PostO.of p⟩

/-! ### xs[i] = v -/
def kSet (d o k : D) (env : Env) (st : Sto) : R Env := match o, k with
  | .ref n, .int i => match lstAt st n with
    | some xs => match ixN xs.length i with
      | some j => .ok env (st.set n (.lst (xs.set j d)))
      | none => .bad
    | none => .bad
  | _, _ => .bad
def gIx (i j : IE) : IG := fun d env st => (i env st).bind fun o s => (j env s).bind fun k s2 => kSet d o k env s2
theorem g_ix {o k : Expr} {i j : IE} (ho : PE X o (TI F i)) (hk : PE X k (TI F j))
    (ha : ∀ v, assign (.Subscript o k pos) X.env v = (do let p1 ← holding [v] (eval o X.env); let p2 ← holding [v, p1] (eval k X.env); standAt pos; holding [v, p1, p2] (setItem p1 p2 v); release [v, p1, p2] []) := by intro _; rfl) : PG X (.Subscript o k pos) (TG_ F (gIx i j)) := by
  refine ⟨fun pins s σ H v u Q I r h => (pg_sub ho hk set_list ha).run pins s σ H v u Q I r ?_⟩
  have h0 : TK RV PE_ F (fun d env st => (i env st).bind fun o s => (j env s).bind fun k s2 => kSet d o k env s2) v σ H Q := h
  refine (TK.bind (i := i) (k := fun d o env s => (j env s).bind fun k s2 => kSet d o k env s2) (fun x r => RV.mono x r) h0).mono fun x H1 h1 => ?_
  refine (TK.bind (P := fun W (x : D × D) (y : V × V) => RV W x.1 y.1 ∧ RV W x.2 y.2) (i := j) (k := fun a k env s2 => kSet a.1 a.2 k env s2) (fun x r => ⟨RV.mono x r.1, RV.mono x r.2⟩) (TK.pair (P := RV) (P' := RV) (k := fun d o env s => (j env s).bind fun k s2 => kSet d o k env s2) h1)).mono fun y H2 ⟨W, st, env, a, b, A, ra, rb, p⟩ => ?_
  obtain ⟨ra, ro⟩ := ra
  have eH := A.h
  subst eH
  obtain ⟨d, o'⟩ := a
  have p' : Post W PE_ (kSet d o' b env st) Q (F.at_ σ) := p
  unfold kSet at p'
  split at p'
  · rename_i n i'
    split at p'
    · rename_i xs hx
      split at p'
      · rename_i jx hj
        obtain ⟨m, q, ys, e1, e2, e3, e4, e5, ry⟩ := mlst_at A.sim (d := .ref n) (xs := xs) hx ro
        cases e1
        cases rb
        cases (show x = V.ref q from e2)
        have x7 : Ext W W.ρ (upd W.H q (.lst (ys.set jx v))) := ext_put (List.mem_of_getElem? e3)
        have z : EnvR (W.to W.ρ (upd W.H q (.lst (ys.set jx v)))) env σ := A.env.mono x7
        exact ⟨q, ys, _, jx, rfl, rfl, e5, by rw [← ry.length]; exact hj, p' W.ρ _ σ x7 (A.sim.put e3 ⟨_, upd_same, RVs.mono x7 (ry.set jx ra)⟩) z⟩
      · exact p'.elim
    · exact p'.elim
  · exact p'.elim

/-! ### isinstance -/
def tagD (st : Sto) : D → Option Tg
  | .non => some (.ty "NoneType")
  | .bl _ => some (.ty "bool")
  | .int _ => some (.ty "int")
  | .str _ => some (.ty "str")
  | .tup _ => some (.ty "tuple")
  | .lst _ => some (.ty "list")
  | .dct _ _ => some (.ty "dict")
  | .exc C _ => some (.own C)
  | .ref n => match st[n]? with
    | some (.lst _) => some (.ty "list")
    | some (.dct _) => some (.ty "dict")
    | _ => none
  | _ => none
def clsD : D → Option Tg
  | .ty n => some (.ty n)
  | .glo C => some (.own C)
  | _ => none
/-- what an own exception class must have for isinstance and for fields -/
structure XF (K : PySem.W.Frag) (C : Addr) : Prop where
  fld : XfC K C
  cl : (PySem.W.clsIn K C).isSome = true
  ca : PySem.W.findIn K (.ref C) "__class__" = some (some (.builtin "object.__class__"))
  sp : PySem.W.specialIn K (.builtin "object.__class__") "__get__" = some (some (.builtin "getset_descriptor.__get__"))
  tk : PySem.W.takesIn K (.builtin "object.__class__") = some true
  mr : PySem.W.mroIn K C (.type "object") = some true
/-- the classes of exceptions, and what isinstance says of pairs -/
structure Isa (K : PySem.W.Frag) (g : Str → Addr) (xs : List Str) (tb : Tg → Tg → Option Bool) : Prop where
  xf : ∀ C ∈ xs, XF K (g C)
  tb : ∀ t c b, tb t c = some b → PySem.W.kitOne K (t.val g) (c.val g) = some b
def opIsi (xs : List Str) (tb : Tg → Tg → Option Bool) : OpN := fun ds st => match ds with
  | [.exc C _, c] => if C ∈ xs then (match clsD c with
    | some u => (tb (.own C) u).map fun b => (.bl b, st)
    | none => none) else none
  | [d, c] => match tagD st d, clsD c with
    | some (.ty n), some u => (tb (.ty n) u).map fun b => (.bl b, st)
    | _, _ => none
  | _ => none
theorem clsD_val {c : D} {v : V} {u : Tg} {w : Value} (h : clsD c = some u) (r : RV W c v) (hg : W.g = F.g) (rw_ : RelV v w) : w = u.val F.g := by
  cases r <;> cases h
  · exact rw_
  · rw [← hg]; exact rw_
theorem tag_ty {d : D} {v : V} {n : String} (hk : X.K = F.K) {H : Hp} (I : In F W st H) (h : tagD st d = some (.ty n)) (r : RV W d v) : TyX X.K H v (.type n) := by
  have eH := I.h
  subst eH
  cases r with
  | non => cases h; exact .base .non
  | bl b => cases h; exact .base (.bl _)
  | int b => cases h; exact .base (.int _)
  | str b => cases h; exact .base (.str _)
  | tup t _ =>
    cases h
    rcases t with ⟨t | ⟨o, t⟩, _⟩ | ⟨o, its, n, q, c, _⟩
    · exact .base (.tup t)
    · exact .fTuple t
    · exact .kTuple (by rw [hk, ← I.k]; exact q) c
  | lst t _ =>
    cases h
    rcases t with ⟨t | ⟨o, t⟩, _⟩ | ⟨its, n, q, c⟩
    · exact .base (.lst t)
    · exact .base (.frz t)
    · exact .kList (by rw [hk, ← I.k]; exact q) rfl
  | dct t _ _ _ =>
    cases h
    rcases t with t | ⟨o, t⟩
    · exact .base (.dK t)
    · exact .fDict t
  | @ref m a e =>
    have h' : (match st[m]? with
    | some (.lst _) => some (Tg.ty "list")
    | some (.dct _) => some (Tg.ty "dict")
    | _ => none) = some (.ty n) := h
    split at h'
    · rename_i xs q
      cases h'
      obtain ⟨ys, h1, _⟩ := I.sim.at_ _ _ _ q e
      exact .base (.lst h1)
    · rename_i xs q
      cases h'
      obtain ⟨ys, h1, _⟩ := I.sim.at_ _ _ _ q e
      exact .base (.dK h1)
    · cases h'
  | _ => cases h
theorem exc_inst {H : Hp} {pins : List (Addr × Obj)} {σ : L2.St} {s : Shared} {C : Str} {fs : List (Str × D)} {v : V} {u : Value} (J : In F W st H) (I : Inv X pins σ H s) (r : RV W (.exc C fs) v) (ru : RelV v u) : ∃ (a : Addr) (ox : Obj) (od : Option Obj), u = .ref a ∧ v = .ref a ∧ PySem.W.InstAt s.heap a ox (F.g C) od ∧
    ∃ gs, RFs W fs gs ∧ ∀ f x, gs.lookup f = some x → ∃ oo y, od = some oo ∧ PySem.W.lookIn f oo = some (some y) ∧ RelV x y := by
  have eH := J.h
  have eg := J.g
  subst eH
  cases r with
  | @exc a d _ _ gs h1 h2 h3 h4 h5 =>
    obtain ⟨⟨o, vs, ho, hc, hd0, hdt, _⟩, _⟩ := I.hok a _ h1
    rw [eg] at hc
    have nc : PySem.W.notCls o = true := by unfold PySem.W.notCls; rw [hdt] <;> rfl
    cases d with
    | none =>
      cases h3 rfl
      exact ⟨a, _, none, ru, rfl, ⟨ho, hc, nc, by rw [hd0]; trivial⟩, [], h5, fun f x z => by cases z⟩
    | some dx =>
      obtain ⟨mA, hns, hr⟩ := (show ObjOk X.prog X.w W.H s.heap dx (.xd gs) from I.hok dx _ (h4 dx rfl).1)
      obtain ⟨od, hod, hl⟩ := lookIn_ns hns
      refine ⟨a, _, some od, ru, rfl, ⟨ho, hc, nc, by rw [hd0]; exact hod⟩, gs, h5, fun f x z => ?_⟩
      obtain ⟨y, hy, ry⟩ := RelO.some_of (v := x) (o := mA f) (by rw [← z]; exact hr f)
      exact ⟨od, y, rfl, by rw [hl, hy], ry⟩
theorem cr_isi {xs : List Str} {tb : Tg → Tg → Option Bool} (hk : X.K = F.K) (T : Isa F.K F.g xs tb) : CallR X (.builtin "isinstance") (rN F (opIsi xs tb)) := fun pins s σ H vs us Q I r ⟨W, st, ds, J, rd, p⟩ => by
  unfold opIsi at p
  split at p
  · rename_i C fs c
    split at p
    · rename_i hC
      obtain ⟨v1, v2, rfl, rv1, rv2⟩ := rv2 rd
      obtain ⟨u1, u2, rfl, ru1, ru2⟩ := vals2 r
      split at p
      · rename_i u hu
        cases e : tb (.own C) u with
        | none => rw [e] at p; exact p.elim
        | some b =>
          rw [e] at p
          obtain ⟨a, ox, od, rfl, rfl, IA, _⟩ := exc_inst J I rv1 ru1
          have e2 := clsD_val hu rv2 J.g ru2
          subst e2
          have q := J.now p (.bl b)
          have Z := T.xf C hC
          have kk := T.tb _ _ _ e
          rw [← hk] at Z kk
          exact PySem.W.kia_one (PySem.W.kitx_exc Z.cl Z.fld.ga Z.fld.gg Z.fld.exC Z.ca Z.sp Z.tk Z.mr) I.kIn IA kk (fun z => nomatch z) fun tk => ⟨.bl b, H, I.tok tk, rfl, q⟩
      · exact p.elim
    · exact p.elim
  · rename_i d c _
    obtain ⟨v1, v2, rfl, rv1, rv2⟩ := rv2 rd
    obtain ⟨u1, u2, rfl, ru1, ru2⟩ := vals2 r
    split at p
    · rename_i n u hn hu
      cases e : tb (.ty n) u with
      | none => rw [e] at p; exact p.elim
      | some b =>
        rw [e] at p
        have e2 := clsD_val hu rv2 J.g ru2
        subst e2
        have q := J.now p (.bl b)
        have kk := T.tb _ _ _ e
        rw [← hk] at kk
        obtain ⟨P, Z, pp, hx⟩ := kit_of I ru1 (tag_ty hk J hn rv1)
        exact PySem.W.kia_one Z I.kIn pp kk hx fun tk => ⟨.bl b, H, I.tok tk, rfl, q⟩
    · exact p.elim
  · exact p.elim

/-! ### e.f of an exception -/
/-- the classes whose instances have f of their own alone -/
structure Fld (K : PySem.W.Frag) (g : Str → Addr) (f : Str) (xs : List Str) : Prop where
  xf : ∀ C ∈ xs, XfC K (g C)
  no : ∀ C ∈ xs, PySem.W.findIn K (.ref (g C)) f = some none
theorem rf_lookup {f : Str} : ∀ {fs : List (Str × D)} {gs : List (Str × V)} {d : D}, RFs W fs gs → fs.lookup f = some d → ∃ v, gs.lookup f = some v ∧ RV W d v
  | _, _, _, .nil, h => by cases h
  | _, _, d, .cons (f := n) r rs, h => by
    simp only [List.lookup] at h ⊢
    split at h
    · cases h; exact ⟨_, rfl, r⟩
    · exact rf_lookup rs h
end
end M
/-! M12: list comprehensions whose list nobody changes. -/
namespace M
open PySem PySem.Spec PyProof.Rows L2

def compF (nx : Nx) (p : Pat) (t : IT) (e : IE) (env0 : Env) : Nat → Nat → List D → Sto → R (List D)
  | 0, i, acc => fun st => match nx i st with
    | some none => .ok acc st
    | _ => .bad
  | m + 1, i, acc => fun st => match nx i st with
    | some none => .ok acc st
    | some (some d) => match p.bind d env0 with
      | some env => ((t env st).nox).bind fun k s1 => if k = true then ((e env s1).nox).bind fun v s2 => if acc.length < sizeLine then compF nx p t e env0 m (i + 1) (acc ++ [v]) s2 else .bad else compF nx p t e env0 m (i + 1) acc s1
      | none => .bad
    | none => .bad
def iCompF (w : IW) (p : Pat) (t : IT) (e : IE) : IE := fun env st => (w env st).bind fun a s => (compF a.1 p t e (wipeE env p.slots) a.2 0 [] s).bind fun xs s2 => .ok (.lst xs) s2

section
variable {W : Vw} {ρ' : List Addr} {H' : Hp} {q : Addr} {u : HO} {st : Sto}
theorem zfro {a : Addr} (f : W.fro a) (hz : W.Z q) : a ≠ q := fun e => f.2 (e ▸ hz)
/-- what is out of reach may change -/
theorem rd_ne {H : Hp} {a b : Addr} {u v : HO} (n : a ≠ b) (h : Rd H a v) : Rd (upd H b u) a v := by
  rcases h with h | ⟨o, h⟩
  · exact .inl ((upd_ne n).trans h)
  · exact .inr ⟨o, (upd_ne n).trans h⟩
theorem ne_of_rd {H : Hp} {a b : Addr} {v : HO} (h : Rd H a v) (hb : H b = none) : a ≠ b := by
  rcases h with h | ⟨o, h⟩
  · exact ne_of_none h hb
  · exact ne_of_none h hb
theorem Vw.Tup.zput (hz : W.Z q) {a : Addr} {ys : List V} (h : W.Tup a ys) : (W.to W.ρ (upd W.H q u)).Tup a ys := by
  rcases h with ⟨h | ⟨o, h⟩, f⟩ | h
  · exact .inl ⟨.inl ((upd_ne (zfro f hz)).trans h), f⟩
  · exact .inl ⟨.inr ⟨o, (upd_ne (zfro f hz)).trans h⟩, f⟩
  · exact .inr h
theorem Vw.Tpl.zput (hz : W.Z q) {a : Addr} {ys : List V} (h : W.Tpl a ys) : (W.to W.ρ (upd W.H q u)).Tpl a ys := let ⟨⟨o, e, d⟩, f⟩ := h; ⟨⟨o, (upd_ne (zfro f hz)).trans e, d⟩, f⟩
theorem Vw.Key.zput (hz : W.Z q) {t : Bool} {a : Addr} {ys : List V} (h : W.Key t a ys) : (W.to W.ρ (upd W.H q u)).Key t a ys := by
  cases t with
  | true => exact Vw.Tpl.zput hz h
  | false => exact Vw.Tup.zput hz h
theorem Vw.Lst.zput (hz : W.Z q) {a : Addr} {ys : List V} (h : W.Lst a ys) : (W.to W.ρ (upd W.H q u)).Lst a ys := by
  rcases h with ⟨h | ⟨o, h⟩, f⟩ | h
  · exact .inl ⟨.inl ((upd_ne (zfro f hz)).trans h), f⟩
  · exact .inl ⟨.inr ⟨o, (upd_ne (zfro f hz)).trans h⟩, f⟩
  · exact .inr h
mutual
theorem RV.zput (hz : W.Z q) : ∀ {d : D} {v : V}, RV W d v → RV (W.to W.ρ (upd W.H q u)) d v
  | _, _, .non => .non
  | _, _, .bl b => .bl b
  | _, _, .int i => .int i
  | _, _, .str s => .str s
  | _, _, .ty n => .ty n
  | _, _, .glo s => .glo (W := W.to W.ρ (upd W.H q u)) s
  | _, _, .tup h r => .tup (h.zput hz) (r.zput hz)
  | _, _, .lst h r => .lst (h.zput hz) (r.zput hz)
  | _, _, .dct h f e r => .dct (rd_ne (zfro f hz) h) f e (r.zput hz)
  | _, _, .obj h f r => .obj ((upd_ne (zfro f hz)).trans h) f (r.zput hz)
  | _, _, .exc h f a b r => .exc ((upd_ne (zfro f hz)).trans h) f a (fun dx e => ⟨(upd_ne (zfro (b dx e).2 hz)).trans (b dx e).1, (b dx e).2⟩) (r.zput hz)
  | _, _, .ref h => .ref h
  | _, _, .tpl h r => .tpl (h.zput hz) (r.zput hz)
  | _, _, .adr h f r => .adr ((upd_ne (zfro f hz)).trans h) f (r.zput hz)
theorem RVs.zput (hz : W.Z q) : ∀ {d : List D} {v : List V}, RVs W d v → RVs (W.to W.ρ (upd W.H q u)) d v
  | _, _, .nil => .nil
  | _, _, .cons h r => .cons (h.zput hz) (r.zput hz)
theorem RFs.zput (hz : W.Z q) : ∀ {d : List (Str × D)} {v : List (Str × V)}, RFs W d v → RFs (W.to W.ρ (upd W.H q u)) d v
  | _, _, .nil => .nil
  | _, _, .cons h r => .cons (h.zput hz) (r.zput hz)
end
theorem OR.zput (hz : W.Z q) {a : Addr} (n : a ≠ q) : ∀ {o : O}, OR W a o → OR (W.to W.ρ (upd W.H q u)) a o
  | .lst xs, ⟨ys, h, r⟩ => ⟨ys, (upd_ne n).trans h, r.zput hz⟩
  | .dct kvs, ⟨ys, h, k, r⟩ => ⟨ys, (upd_ne n).trans h, k, r.zput hz⟩
  | .ins C fs, ⟨dx, gs, h, r⟩ => ⟨dx, gs, (upd_ne n).trans h, r.zput hz⟩
  | .dcn t kvs, ⟨xs, h, r⟩ => ⟨xs, (upd_ne n).trans h, Paired.mapP r fun p y z => ⟨z.1, z.2.1.zput hz, z.2.2.zput hz⟩⟩
  | .lck t kvs, ⟨od, xs, h, r⟩ => ⟨od, xs, (upd_ne n).trans h, Paired.mapP r fun p y z => ⟨z.1, z.2.1.zput hz, z.2.2.zput hz⟩⟩
  | .dcp lk kvs, ⟨u, xs, h, l, r⟩ => ⟨u, xs, (upd_ne n).trans h, l, Paired.mapP r fun p y z => ⟨z.1, z.2.1.map (fun t => t.zput hz), z.2.2.zput hz⟩⟩
  | .tbl nm _, ⟨ha, ps, h, t, k⟩ => ⟨ha, ps, (upd_ne n).trans h, t, fun pos cv hc => let ⟨c, e, h1, f⟩ := k pos cv hc; ⟨c, e, (upd_ne (zfro f hz)).trans h1, f⟩⟩
theorem Sim.zput (S : Sim W st) (hz : W.Z q) : Sim (W.to W.ρ (upd W.H q u)) st where
  len := S.len
  nd := S.nd
  nz := S.nz
  zt := fun a h => by
    by_cases e : a = q
    · exact ⟨u, by rw [e]; exact upd_same⟩
    · obtain ⟨o, z⟩ := S.zt a h
      exact ⟨o, (upd_ne e).trans z⟩
  at_ := fun n o a h1 h2 => (S.at_ n o a h1 h2).zput hz fun e => S.nz a (List.mem_of_getElem? h2) (show W.Z a by rw [e]; exact hz)
  hot := fun a h => let ⟨C, d, e, f⟩ := S.hot a h; ⟨C, d, (upd_ne (zfro f hz)).trans e, f⟩
theorem EnvR.zput {env : Env} {σ : L2.St} (h : EnvR W env σ) (hz : W.Z q) : EnvR (W.to W.ρ (upd W.H q u)) env σ := ⟨h.len, fun i d e => by obtain ⟨v, e1, r⟩ := h.at_ i d e; exact ⟨v, e1, r.zput hz⟩⟩
/-- the list at q hidden -/
abbrev Vw.hide (W : Vw) (q : Addr) : Vw := { W with Z := fun a => W.Z a ∨ a = q }
theorem Vw.fro.unhide {a : Addr} (f : (W.hide q).fro a) : W.fro a := ⟨f.1, fun z => f.2 (.inl z)⟩
theorem Vw.Tup.unhide {a : Addr} {ys : List V} (h : (W.hide q).Tup a ys) : W.Tup a ys := h.imp (fun h => ⟨h.1, h.2.unhide⟩) id
theorem Vw.Tpl.unhide {a : Addr} {ys : List V} (h : (W.hide q).Tpl a ys) : W.Tpl a ys := ⟨h.1, h.2.unhide⟩
theorem Vw.Key.unhide {t : Bool} {a : Addr} {ys : List V} (h : (W.hide q).Key t a ys) : W.Key t a ys := by
  cases t with
  | true => exact Vw.Tpl.unhide h
  | false => exact Vw.Tup.unhide h
theorem Vw.Lst.unhide {a : Addr} {ys : List V} (h : (W.hide q).Lst a ys) : W.Lst a ys := h.imp (fun h => ⟨h.1, h.2.unhide⟩) id
mutual
theorem RV.unhide : ∀ {d : D} {v : V}, RV (W.hide q) d v → RV W d v
  | _, _, .non => .non
  | _, _, .bl b => .bl b
  | _, _, .int i => .int i
  | _, _, .str s => .str s
  | _, _, .ty n => .ty n
  | _, _, .glo s => .glo (W := W) s
  | _, _, .tup h r => .tup h.unhide r.unhide
  | _, _, .lst h r => .lst h.unhide r.unhide
  | _, _, .dct h f e r => .dct h f.unhide e r.unhide
  | _, _, .obj h f r => .obj h f.unhide r.unhide
  | _, _, .exc h f a b r => .exc h f.unhide a (fun dx e => ⟨(b dx e).1, (b dx e).2.unhide⟩) r.unhide
  | _, _, .ref h => .ref h
  | _, _, .tpl h r => .tpl h.unhide r.unhide
  | _, _, .adr h f r => .adr h f.unhide r.unhide
theorem RVs.unhide : ∀ {d : List D} {v : List V}, RVs (W.hide q) d v → RVs W d v
  | _, _, .nil => .nil
  | _, _, .cons h r => .cons h.unhide r.unhide
theorem RFs.unhide : ∀ {d : List (Str × D)} {v : List (Str × V)}, RFs (W.hide q) d v → RFs W d v
  | _, _, .nil => .nil
  | _, _, .cons h r => .cons h.unhide r.unhide
end
theorem Sim.unhide (S : Sim (W.hide q) st) : Sim W st where
  len := S.len
  nd := S.nd
  nz := fun a m z => S.nz a m (.inl z)
  zt := fun a h => S.zt a (.inl h)
  hot := fun a h => let ⟨C, d, e, f⟩ := S.hot a h; ⟨C, d, e, f.unhide⟩
  at_ := fun n o a h1 h2 => match o, S.at_ n o a h1 h2 with
    | .lst xs, ⟨ys, h, r⟩ => ⟨ys, h, r.unhide⟩
    | .dct kvs, ⟨ys, h, k, r⟩ => ⟨ys, h, k, r.unhide⟩
    | .ins C fs, ⟨dx, gs, h, r⟩ => ⟨dx, gs, h, r.unhide⟩
    | .dcn t kvs, ⟨xs, h, r⟩ => ⟨xs, h, Paired.mapP r fun p y z => ⟨z.1, z.2.1.unhide, z.2.2.unhide⟩⟩
    | .lck t kvs, ⟨od, xs, h, r⟩ => ⟨od, xs, h, Paired.mapP r fun p y z => ⟨z.1, z.2.1.unhide, z.2.2.unhide⟩⟩
    | .dcp lk kvs, ⟨u, xs, h, l, r⟩ => ⟨u, xs, h, l, Paired.mapP r fun p y z => ⟨z.1, z.2.1.map (fun t => t.unhide), z.2.2.unhide⟩⟩
    | .tbl nm _, ⟨ha, ps, h, t, k⟩ => ⟨ha, ps, h, t, fun pos cv hc => let ⟨c, e, h1, f⟩ := k pos cv hc; ⟨c, e, h1, ⟨f.1, fun z => f.2 (.inl z)⟩⟩⟩
theorem Vw.fro.hide {a : Addr} (f : W.fro a) (n : a ≠ q) : (W.hide q).fro a := ⟨f.1, fun z => z.elim f.2 n⟩
end
section
variable {W : Vw} {q : Addr} {st : Sto} (hq : W.H q = none)
theorem Vw.Tup.hideN (hq : W.H q = none) {a : Addr} {ys : List V} (h : W.Tup a ys) : (W.hide q).Tup a ys := by
  rcases h with ⟨h | ⟨o, h⟩, f⟩ | h
  · exact .inl ⟨.inl h, f.hide (ne_of_none h hq)⟩
  · exact .inl ⟨.inr ⟨o, h⟩, f.hide (ne_of_none h hq)⟩
  · exact .inr h
theorem Vw.Tpl.hideN (hq : W.H q = none) {a : Addr} {ys : List V} (h : W.Tpl a ys) : (W.hide q).Tpl a ys := let ⟨⟨o, e, d⟩, f⟩ := h; ⟨⟨o, e, d⟩, f.hide (ne_of_none e hq)⟩
theorem Vw.Key.hideN (hq : W.H q = none) {t : Bool} {a : Addr} {ys : List V} (h : W.Key t a ys) : (W.hide q).Key t a ys := by
  cases t with
  | true => exact Vw.Tpl.hideN hq h
  | false => exact Vw.Tup.hideN hq h
theorem Vw.Lst.hideN (hq : W.H q = none) {a : Addr} {ys : List V} (h : W.Lst a ys) : (W.hide q).Lst a ys := by
  rcases h with ⟨h | ⟨o, h⟩, f⟩ | h
  · exact .inl ⟨.inl h, f.hide (ne_of_none h hq)⟩
  · exact .inl ⟨.inr ⟨o, h⟩, f.hide (ne_of_none h hq)⟩
  · exact .inr h
mutual
theorem RV.hideN (hq : W.H q = none) : ∀ {d : D} {v : V}, RV W d v → RV (W.hide q) d v
  | _, _, .non => .non
  | _, _, .bl b => .bl b
  | _, _, .int i => .int i
  | _, _, .str s => .str s
  | _, _, .ty n => .ty n
  | _, _, .glo s => .glo (W := W.hide q) s
  | _, _, .tup h r => .tup (h.hideN hq) (r.hideN hq)
  | _, _, .lst h r => .lst (h.hideN hq) (r.hideN hq)
  | _, _, .dct h f e r => .dct h (f.hide (ne_of_rd h hq)) e (r.hideN hq)
  | _, _, .obj h f r => .obj h (f.hide (ne_of_none h hq)) (r.hideN hq)
  | _, _, .exc h f a b r => .exc h (f.hide (ne_of_none h hq)) a (fun dx e => ⟨(b dx e).1, (b dx e).2.hide (ne_of_none (b dx e).1 hq)⟩) (r.hideN hq)
  | _, _, .ref h => .ref h
  | _, _, .tpl h r => .tpl (h.hideN hq) (r.hideN hq)
  | _, _, .adr h f r => .adr h (f.hide (ne_of_none h hq)) (r.hideN hq)
theorem RVs.hideN (hq : W.H q = none) : ∀ {d : List D} {v : List V}, RVs W d v → RVs (W.hide q) d v
  | _, _, .nil => .nil
  | _, _, .cons h r => .cons (h.hideN hq) (r.hideN hq)
theorem RFs.hideN (hq : W.H q = none) : ∀ {d : List (Str × D)} {v : List (Str × V)}, RFs W d v → RFs (W.hide q) d v
  | _, _, .nil => .nil
  | _, _, .cons h r => .cons (h.hideN hq) (r.hideN hq)
end
end
section
variable {W : Vw} {q : Addr} {st : Sto} {u : HO}
/-- a new thing is laid at q and hidden at once: what stood for values still does -/
theorem RV.laidH (hq : W.H q = none) {d : D} {v : V} (r : RV W d v) : RV ((W.hide q).to W.ρ (upd W.H q u)) d v := (r.hideN hq).zput (W := W.hide q) (.inr rfl)
theorem Sim.laidH (S : Sim W st) (hq : W.H q = none) : Sim ((W.hide q).to W.ρ (upd W.H q u)) st where
  len := S.len
  nd := S.nd
  nz := fun a m z => z.elim (S.nz a m) fun e => by
    obtain ⟨o, h⟩ := S.tr m
    rw [e, hq] at h
    cases h
  zt := fun a h => by
    by_cases e : a = q
    · exact ⟨u, by rw [e]; exact upd_same⟩
    · obtain ⟨o, z⟩ := S.zt a (h.elim id fun z => absurd z e)
      exact ⟨o, (upd_ne e).trans z⟩
  hot := fun a h => let ⟨C, d, e, f⟩ := S.hot a h; ⟨C, d, (upd_ne (ne_of_none e hq)).trans e, ⟨f.1, fun z => z.elim f.2 (ne_of_none e hq)⟩⟩
  at_ := fun n o a h1 h2 => by
    obtain ⟨v, z⟩ := S.tr (List.mem_of_getElem? h2)
    have ne : a ≠ q := ne_of_none z hq
    match o, S.at_ n o a h1 h2 with
    | .lst xs, ⟨ys, h, r⟩ => exact ⟨ys, (upd_ne ne).trans h, (r.hideN hq).zput (W := W.hide q) (.inr rfl)⟩
    | .dct kvs, ⟨ys, h, k, r⟩ => exact ⟨ys, (upd_ne ne).trans h, k, (r.hideN hq).zput (W := W.hide q) (.inr rfl)⟩
    | .ins C fs, ⟨dx, gs, h, r⟩ => exact ⟨dx, gs, (upd_ne ne).trans h, (r.hideN hq).zput (W := W.hide q) (.inr rfl)⟩
    | .dcn t kvs, ⟨xs, h, r⟩ => exact ⟨xs, (upd_ne ne).trans h, Paired.mapP r fun p y z => ⟨z.1, (z.2.1.hideN hq).zput (W := W.hide q) (.inr rfl), (z.2.2.hideN hq).zput (W := W.hide q) (.inr rfl)⟩⟩
    | .lck t kvs, ⟨od, xs, h, r⟩ => exact ⟨od, xs, (upd_ne ne).trans h, Paired.mapP r fun p y z => ⟨z.1, (z.2.1.hideN hq).zput (W := W.hide q) (.inr rfl), (z.2.2.hideN hq).zput (W := W.hide q) (.inr rfl)⟩⟩
    | .dcp lk kvs, ⟨u, xs, h, l, r⟩ => exact ⟨u, xs, (upd_ne ne).trans h, l, Paired.mapP r fun p y z => ⟨z.1, z.2.1.map (fun t => (t.hideN hq).zput (W := W.hide q) (.inr rfl)), (z.2.2.hideN hq).zput (W := W.hide q) (.inr rfl)⟩⟩
    | .tbl nm _, ⟨ha, ps, h, t, k⟩ => exact ⟨ha, ps, (upd_ne ne).trans h, t, fun pos cv hc => let ⟨c, e, h1, f⟩ := k pos cv hc; ⟨c, e, (upd_ne (ne_of_none h1 hq)).trans h1, f.hide (ne_of_none h1 hq)⟩⟩
theorem EnvR.laidH {env : Env} {σ : L2.St} (h : EnvR W env σ) (hq : W.H q = none) : EnvR ((W.hide q).to W.ρ (upd W.H q u)) env σ := ⟨h.len, fun i d e => by obtain ⟨v, e1, r⟩ := h.at_ i d e; exact ⟨v, e1, r.laidH hq⟩⟩
end
/-! ### the comprehension -/
def PL (W : Vw) (xs : List D) (v : V) : Prop := RV W (.lst xs) v
section
variable {X : Cx} {F : Fx} {pos : Pos}
theorem compF_ok {w : IW} {p : Pat} {t : IT} {e : IE} {g : TG} {σ : L2.St} {H : Hp} {Q : VK} (hp : PatOk F.K p g) (h : TI F (iCompF w p t e) σ H Q) : tLc (TW F w) g (TT_ F.quiet t) (TI F.quiet e) p.slots σ H Q := by
  refine (TX.bind (k := fun a env s => (compF a.1 p t e (wipeE env p.slots) a.2 0 [] s).bind fun xs s2 => R.ok (D.lst xs) s2) h).mono fun J H1 ⟨W0, s, env, a, A, r, q⟩ => ?_
  obtain ⟨nx, m⟩ := a
  intro D hD
  have eH := A.h
  subst eH
  have nz0 : ¬ W0.Z D := fun z => by
    obtain ⟨o, e⟩ := A.sim.zt D z
    rw [hD] at e
    cases e
  let V : List Addr → Hp → Vw := fun ρ H => (W0.hide D).to ρ H
  have q1 : Post W0 PL (compF nx p t e (wipeE env p.slots) m 0 [] s) Q (F.at_ σ) := by
    have q' : PostE W0 ((compF nx p t e (wipeE env p.slots) m 0 [] s).bind fun xs s2 => .ok (.lst xs) s2) Q (F.at_ σ) := q
    cases z : compF nx p t e (wipeE env p.slots) m 0 [] s with
    | ok u s2 => rw [z] at q'; exact q'
    | exc C fs s2 => rw [z] at q'; exact q'
    | bad => rw [z] at q'; exact q'.elim
  have vx : ∀ {ρ' : List Addr} {H' : Hp}, Ext W0 ρ' H' → VX W0 (V ρ' H') := fun x => ⟨rfl, rfl, x.ve, fun a z => z.elim .inl fun e => .inr (by rw [e]; exact hD)⟩
  refine ⟨fun i m H => ∃ ρ' st acc ys, Ext W0 ρ' H ∧ D ∉ ρ' ∧ H D = some (.lst ys) ∧ Sim (V ρ' H) st ∧ EnvR (V ρ' H) (wipeE env p.slots) (L2.wipe σ p.slots) ∧ RVs (V ρ' H) acc ys ∧ Post W0 PL (compF nx p t e (wipeE env p.slots) m i acc st) Q (F.at_ σ),
    ⟨m, W0.ρ, s, [], [], ext_new0 hD, fun z => ?_, upd_same, A.sim.laidH hD, (A.env.wipe p.slots).laidH hD, .nil, q1⟩, fun i m H ⟨ρ', st, acc, ys, x, nD, eD, S, er, ra, q⟩ => ?_⟩
  · obtain ⟨o, e⟩ := A.sim.tr z
    rw [hD] at e
    cases e
  have done : nx i st = some none → Post W0 PL (.ok acc st) Q (F.at_ σ) → J.stop i H ∧ Q (.ref D) H := fun en q => by
    refine ⟨r.stop (V ρ' H) st i (vx x) S en, q ρ' H (.ref D) x (Sim.unhide (W := W0.to ρ' H) S) ?_⟩
    exact .lst (.inl ⟨.inl eD, nD, nz0⟩) (RVs.unhide (W := W0.to ρ' H) ra)
  cases m with
  | zero =>
    unfold compF at q
    split at q
    · exact .inl (done (by assumption) q)
    · exact q.elim
  | succ m =>
    unfold compF at q
    split at q
    · exact .inl (done (by assumption) q)
    · rename_i d en
      obtain ⟨h1, h2⟩ := r.go (V ρ' H) st i d (vx x) S en
      refine .inr ⟨h1, fun H => ∃ ρ' st acc ys, Ext W0 ρ' H ∧ D ∉ ρ' ∧ H D = some (.lst ys) ∧ Sim (V ρ' H) st ∧ EnvR (V ρ' H) (wipeE env p.slots) (L2.wipe σ p.slots) ∧ RVs (V ρ' H) acc ys ∧ Post W0 PL (compF nx p t e (wipeE env p.slots) m (i + 1) acc st) Q (F.at_ σ), fun H' z => ⟨m, Nat.lt_succ_self m, z⟩, fun v H2 hy => ?_⟩
      obtain ⟨x2, S2, rv⟩ := h2 v H2 hy
      -- how a step in the hidden view looks from W0
      have low : ∀ {ρ2 ρ3 : List Addr} {H2 H3 : Hp}, Ext W0 ρ2 H2 → Ext (V ρ2 H2) ρ3 H3 → Ext (W0.to ρ2 H2) ρ3 H3 := fun x y => ⟨y.pre, y.new, y.keep, y.frz⟩
      cases hb : p.bind d (wipeE env p.slots) with
      | none => rw [hb] at q; exact q.elim
      | some env' =>
        rw [hb] at q
        refine hp.go (V ρ' H2) d v _ _ _ _ A.k rv (er.mono x2) hb fun σ' er' ew => ⟨by rw [ew, wipe_wipe], ?_⟩
        have x3 : Ext W0 ρ' H2 := x.trans (low x x2)
        have eD2 : H2 D = some (.lst ys) := x2.keep D _ eD nD
        have q2 : Post W0 PL (((t env' st).nox).bind fun k s1 => if k = true then ((e env' s1).nox).bind fun v s2 => if acc.length < sizeLine then compF nx p t e (wipeE env p.slots) m (i + 1) (acc ++ [v]) s2 else .bad else compF nx p t e (wipeE env p.slots) m (i + 1) acc s1) Q (F.at_ σ) := q
        refine ⟨V ρ' H2, st, env', ⟨A.k, A.g, rfl, S2, er'⟩, ?_⟩
        cases ht : t env' st with
        | bad => rw [ht] at q2; exact q2.elim
        | exc C fs s1 => rw [ht] at q2; exact q2.elim
        | ok k s1 =>
          rw [ht] at q2
          intro ρ3 H3 b x4 S3 eb
          cases (show k = b from eb)
          have x5 : Ext W0 ρ3 H3 := x3.trans (low x3 x4)
          have nD3 : D ∉ ρ3 := x4.notin eD2 nD
          have eD3 : H3 D = some (.lst ys) := x4.keep D _ eD2 nD
          have q3 : Post W0 PL (if k = true then ((e env' s1).nox).bind fun v s2 => if acc.length < sizeLine then compF nx p t e (wipeE env p.slots) m (i + 1) (acc ++ [v]) s2 else .bad else compF nx p t e (wipeE env p.slots) m (i + 1) acc s1) Q (F.at_ σ) := q2
          have er3 : EnvR (V ρ3 H3) (wipeE env p.slots) (L2.wipe σ p.slots) := (er.mono x2).mono x4
          have ra3 : RVs (V ρ3 H3) acc ys := (ra.mono x2).mono x4
          cases k with
          | false => exact ⟨ρ3, s1, acc, ys, x5, nD3, eD3, S3, er3, ra3, q3⟩
          | true =>
            rw [if_pos rfl] at q3 ⊢
            refine ⟨V ρ3 H3, s1, env', ⟨A.k, A.g, rfl, S3, er'.mono x4⟩, ?_⟩
            cases he : e env' s1 with
            | bad => rw [he] at q3; exact q3.elim
            | exc C fs s2 => rw [he] at q3; exact q3.elim
            | ok y s2 =>
              rw [he] at q3
              intro ρ5 H5 yv x6 S5 ry
              have q4 : Post W0 PL (if acc.length < sizeLine then compF nx p t e (wipeE env p.slots) m (i + 1) (acc ++ [y]) s2 else .bad) Q (F.at_ σ) := q3
              have x7 : Ext W0 ρ5 H5 := x5.trans (low x5 x6)
              have nD5 : D ∉ ρ5 := x6.notin eD3 nD3
              have eD5 : H5 D = some (.lst ys) := x6.keep D _ eD3 nD3
              split at q4
              · rename_i c
                have x8 : Ext W0 ρ5 (upd H5 D (.lst (ys ++ [yv]))) := ⟨x7.pre, x7.new, fun a o h n => by rw [upd_ne (ne_of_none h hD)]; exact x7.keep a o h n, fun a o u h => by rw [upd_ne (ne_of_none h hD)]; exact x7.frz a o u h⟩
                refine ⟨ys, eD5, by rw [← ra3.length]; exact c, ρ5, s2, acc ++ [y], ys ++ [yv], x8, nD5, upd_same, Sim.zput (W := V ρ5 H5) S5 (.inr rfl), EnvR.zput (W := V ρ5 H5) (er3.mono x6) (.inr rfl), RVs.zput (W := V ρ5 H5) (.inr rfl) ((ra3.mono x6).append (.cons ry .nil)), q4⟩
              · exact q4.elim
    · exact q.elim
theorem e_lcF {elt tg iter : Expr} {ifs : List Expr} {scope : Scope} {own : List (Str × Nat)} {g : TG} {p : Pat} {w : IW} {t : IT} {e : IE} (hp : PatOk F.K p g) (ho : own.map (·.2) = p.slots) (hc : X.calm = true) (hN : X.N.Nodup) (hi : PI X tg iter (TW F w)) (ok : BlkOk X.N X.env.scope scope own)
    (hg : ∀ (s : Shared) (H : Hp) (C : Addr) (cl : List (Str × Addr)) (fp : List Addr), PG (X.blk s H scope (compEnvC scope cl C X.env) fp) tg g) (ht : ∀ (s : Shared) (H : Hp) (C : Addr) (cl : List (Str × Addr)) (fp : List Addr), PTs (X.blk s H scope (compEnvC scope cl C X.env) fp) ifs (TT_ F.quiet t))
    (he : ∀ (s : Shared) (H : Hp) (C : Addr) (cl : List (Str × Addr)) (fp : List Addr), PE (X.blk s H scope (compEnvC scope cl C X.env) fp) elt (TI F.quiet e)) (hs : ∀ x, foldedSetIterable iter X.env x = pure x := by intro _; rfl) :
    PE X (.ListComp elt [⟨tg, iter, ifs, 0⟩] scope pos) (TI F (iCompF w p t e)) := PE.imp (pe_lc hc hN hi ok hg ht he hs) fun σ H Q h => by rw [ho]; exact compF_ok hp h
end
end M
/-! M13: what the head tells: own exception classes, isinstance's table; the Hook; the law's end. -/
namespace M
open PySem PySem.Spec PyProof.Rows L2

theorem Fam.xb : ∀ f : Fam, XB f.nm f.new f.ini f.tail
  | .v => xbV
  | .l => xbL
  | .r => xbR
section
variable {K : PySem.W.Frag}
open He (eqO eqO_ok ba)
theorem xclsB_ok {f : Fam} {C : Addr} (h : xclsB K f C = true) : ∃ nm q N bs bm sn sub ab col dd k0 k1 k2 k3 k5, K.lookup C = some (excClassObj nm q C N bs bm true sn sub ab col dd k0 k1 k2 k3 k5 f.new) ∧ over f.tail bm = true := by
  unfold xclsB at h
  split at h
  · rename_i t dd cd sl ho
    split at h
    · rename_i c1 bm k0 k1 k2 k3 n k5 hm hs
      obtain ⟨h1, h⟩ := ba h
      obtain ⟨h2, h⟩ := ba h
      obtain ⟨h3, h⟩ := ba h
      obtain ⟨h4, h⟩ := ba h
      obtain ⟨h5, h6⟩ := ba h
      have e1 := of_decide_eq_true h1
      have e2 := of_decide_eq_true h2
      have e3 := of_decide_eq_true h3
      obtain ⟨cn, cb, cm, cns, cq, chd, csn, csub, cab, ccol, cdel⟩ := cd
      have e4 : cdel = false := by simpa using h4
      have e5 : chd = true := h5
      have e6 : cm = .ref c1 :: bm := hm
      subst e1 e2 e3 e4 e5 e6
      have e7 : sl = #[k0, k1, k2, k3, some (.builtin f.new), k5] := by
        obtain ⟨l⟩ := sl
        rw [show l = _ from hs]
      subst e7
      exact ⟨_, _, _, _, bm, _, _, _, _, _, _, _, _, _, _, ho, h6⟩
    · cases h
  · cases h
theorem xcB_ok {f : Fam} {C : Addr} (h : xcB K f C = true) : XC K C := by
  obtain ⟨h1, h⟩ := ba h
  obtain ⟨h2, h⟩ := ba h
  obtain ⟨h3, h⟩ := ba h
  obtain ⟨h4, h5⟩ := ba h
  exact ⟨⟨_, _, _, _, f.xb, xclsB_ok h1⟩, eqO_ok h2, of_decide_eq_true h3, of_decide_eq_true h4, h5⟩
theorem xfAll_ok {C : Addr} (h : xfAll K C = true) : XF K C := by
  obtain ⟨h1, h⟩ := ba h
  obtain ⟨h2, h⟩ := ba h
  obtain ⟨h3, h⟩ := ba h
  obtain ⟨h4, h⟩ := ba h
  obtain ⟨h5, h6⟩ := ba h
  exact ⟨xfB_ok h1, h2, eqO_ok h3, eqO_ok h4, of_decide_eq_true h5, of_decide_eq_true h6⟩
theorem XD.xf {d : XD} (h : d.ok K = true) : XF K (He.ga K d.nm) := xfAll_ok (ba h).1
theorem XD.plain {d : XD} (h : d.ok K = true) (e : d.fs = none) : PySem.W.excIn K (He.ga K d.nm) d.fam.tail d.fam.new = true ∧ PySem.W.keepIn K (.ref (He.ga K d.nm)) = true := by
  have h2 := (ba h).2
  rw [e] at h2
  exact ba h2
theorem XD.made {d : XD} {fs : List Str} (h : d.ok K = true) (e : d.fs = some fs) : XC K (He.ga K d.nm) ∧ (∀ f ∈ fs, PySem.W.findIn K (.ref (He.ga K d.nm)) f = some none) ∧ PySem.W.findIn K (.ref (He.ga K d.nm)) "__init__" = some (some (.ref (He.ma K (He.ga K d.nm) "__init__"))) ∧ PySem.W.typeIn K (.ref (He.ma K (He.ga K d.nm) "__init__")) = some (.type "function") := by
  have h2 := (ba h).2
  rw [e] at h2
  obtain ⟨h3, h⟩ := ba h2
  obtain ⟨h4, h⟩ := ba h
  obtain ⟨h5, h6⟩ := ba h
  exact ⟨xcB_ok h3, fun f hf => eqO_ok (List.all_eq_true.mp h4 f hf), eqO_ok h5, of_decide_eq_true h6⟩
theorem isaT_ok {tb : List (Tg × Tg × Bool)} (h : tb.all (isaB K) = true) (t c : Tg) (b : Bool) (e : isaT tb t c = some b) : PySem.W.kitOne K (t.val (He.ga K)) (c.val (He.ga K)) = some b := by
  obtain ⟨q, hq, eb⟩ := Option.map_eq_some_iff.mp e
  have hm := List.mem_of_find?_eq_some hq
  have hp : (decide (q.1 = t) && decide (q.2.1 = c)) = true := List.find?_some (p := fun q : Tg × Tg × Bool => decide (q.1 = t) && decide (q.2.1 = c)) hq
  obtain ⟨h1, h2⟩ := ba hp
  have z := of_decide_eq_true (List.all_eq_true.mp h q hm)
  have e1 := of_decide_eq_true h1
  have e2 := of_decide_eq_true h2
  rw [← e1, ← e2, ← eb]
  exact z
end

/-! ### the Hook -/
abbrev AlM : Type := Bool × He.AlD
def obsM (B : PySem.W.Frag → Bool) (fa : List He.Fa) (fn : List He.DefD) (K : PySem.W.Frag) : AlM := (B K, He.obsD fa fn K)
def SaysM (B : PySem.W.Frag → Bool) (fa : List He.Fa) (fn : List He.DefD) (K : PySem.W.Frag) : Prop := obsM B fa fn K = (true, He.valD fn)
theorem SaysM.says {B : PySem.W.Frag → Bool} {fa : List He.Fa} {fn : List He.DefD} {K : PySem.W.Frag} (c : SaysM B fa fn K) : He.SaysD fa fn K := congrArg (fun z : AlM => z.2) c
theorem SaysM.b {B : PySem.W.Frag → Bool} {fa : List He.Fa} {fn : List He.DefD} {K : PySem.W.Frag} (c : SaysM B fa fn K) : B K = true := congrArg (fun z : AlM => z.1) c

/-! ### the law's end -/
abbrev gq (P : Program) (w : World) (K : PySem.W.Frag) : GG := ⟨He.ga K, P, w, ttA K, none⟩
end M
/-! M14: the arguments of exceptions. -/
namespace M
open PySem PySem.Spec PyProof.Rows L2
def gCat {α : Type} (a b : List α) : List α := a ++ b
theorem hCat {vs zs : List V} {us ws : List Value} (r : Vals vs us) (q : Vals zs ws) : Vals (gCat vs zs) (gCat us ws) := Vals.append r q
theorem pm_pos {n : Nat} {fs : List Str} (h : n = fs.length := by rfl) : Perm gCat gCat n 0 fs := ⟨fun W ds es vs zs r q l1 l2 => ⟨vs ++ zs, fun a => rfl, by rw [List.length_append, ← r.length, ← q.length, l1, l2, h]; rfl, r.append q⟩⟩
/-- XI without a frame -/
structure XI_ (P : Program) (w : World) (K : PySem.W.Frag) (mg : Str → Option Value) (base : Heap) (k n : Nat) (C : Addr) (fs ks : List Str) (gV : {α : Type} → List α → List α → List α) : Prop where
  cls : XC K C
  nf : ∀ f ∈ fs, PySem.W.findIn K (.ref C) f = some none
  ini : ∃ (fI : Addr) (fd : FuncData) (ps : List Str) (g : List Value → List Value → List Value), PySem.W.findIn K (.ref C) "__init__" = some (some (.ref fI)) ∧ PySem.W.typeIn K (.ref fI) = some (.type "function") ∧ FnOk P w K mg base (L2N.CX P w) k fI fd ps (spX K fs) ∧ KBn K fd ps (n + 1) ks g gV
theorem XI_.of {X : Cx} {k n : Nat} {C : Addr} {fs ks : List Str} {gV : {α : Type} → List α → List α → List α} (h : XI_ X.prog X.w X.K X.mg X.base k n C fs ks gV) : XI X k n C fs ks gV := ⟨h.cls, h.nf, h.ini⟩
/-! ### comparisons as tests -/
section
variable {X : Cx} {F : Fx} {pos : Pos} {a b c : Expr}
def kBl (d : D) (s : Sto) : R Bool := match d with
  | .bl k => .ok k s
  | _ => .bad
def tBl (i : IE) : IT := fun env st => (i env st).bind kBl
theorem tbl_of {i : IE} {σ : L2.St} {H : Hp} {Q : Bool → Hp → Prop} (h : TT_ F (tBl i) σ H Q) : tTest (TI F i) σ H Q := (TX.bind (k := fun d env s => kBl d s) h).mono fun x H1 ⟨W, st, env, d, A, r, p⟩ => by
  unfold kBl at p
  cases r with
  | bl k =>
    have q := PostT.now p A.sim
    rw [A.h] at q
    exact ⟨k, rfl, q⟩
  | _ => exact p.elim
theorem tTest_mono {t t' : TE} {σ : L2.St} {H : Hp} {Q : Bool → Hp → Prop} (m : ∀ Q : VK, t σ H Q → t' σ H Q) (h : tTest t σ H Q) : tTest t' σ H Q := m _ h
theorem t_cmp {op : CmpOp} {f : Op2} {i j : IE} (ho : OpR X (compareOp op) (r2 F f)) (ha : PE X a (TI F i)) (hb : PE X b (TI F j)) (h1 : behindInMarks op b = false := by first | exact nomark _ | rfl) : PT X (.Compare a [op] [b] pos) (TT_ F (tBl (iBin f i j))) :=
  PT.imp (pt_cmpR ho ha hb h1) fun σ H Q h => tTest_mono (fun Q h => bin_r2 h) (tbl_of h)
theorem t_ws {i : IT} (h : PW X a (TT_ F i)) : PT X a (TT_ F i) := h.pt
end
end M
/-! M15: instances of own classes: making, fields, methods. -/
namespace M
open PySem PySem.Spec PyProof.Rows L2

/-! ### C(..) -/
theorem make_guards {A : Around} {C : Addr} {us : List Value} {kw : List (Str × Value)} (h : A.guards = some []) : (A.under (.builtin "type.__call__" ⟨.ref C :: us, kw⟩)).guards = some [] := by
  first | exact h | simp [Around.under, Code.guards, h]
def opNew (C : Str) (f : Fn) (ds : List D) (st : Sto) : R D := match f (.ref st.length :: ds) (st ++ [.ins C []]) with
  | .ok d s => if d.isNon = true then .ok (.ref st.length) s else .bad
  | .exc D fs s => .exc D fs s
  | .bad => .bad
section
variable {X : Cx} {F : Fx} {k n : Nat} {C x : Str} {fI : Addr} {fd : FuncData} {ps ks : List Str} {f : Fn} {dd : List D} {dvs : List V} {ds : List Value} {p pos : Pos} {e : Expr} {es : List Expr} {kws : List Keyword} {j jk : IA}
theorem new_sp {W : Vw} {st : Sto} {H : Hp} {Q : VK} {E : XK} {es : List D} {vs : List V} {a dx : Addr} (J : In F W st H) (ha : H a = none) (hd : H dx = none) (ne : dx ≠ a) (r : RVs W es vs) (p : PostE W (opNew C f es st) Q E) :
    SPx F.K F.g f (.ref a :: vs) (upd (upd H dx (.own a)) a (.ins (F.g C) dx [])) (fun v H2 => v = .non ∧ Q (.ref a) H2) E := by
  have eH := J.h
  subst eH
  have x1 : Ext W W.ρ (upd W.H dx (.own a)) := ext_new0 hd
  have S1 : Sim (W.to W.ρ (upd W.H dx (.own a))) st := J.sim.new0 hd
  have ha1 : (upd W.H dx (.own a)) a = none := by rw [upd_ne ne.symm]; exact ha
  have x2 : Ext (W.to W.ρ (upd W.H dx (.own a))) (W.ρ ++ [a]) (upd (upd W.H dx (.own a)) a (.ins (F.g C) dx [])) := ext_new [a] (fun b m => by rw [List.mem_singleton.mp m]; exact ha1) ha1
  have x := x1.trans x2
  have S2 : Sim (W.to (W.ρ ++ [a]) (upd (upd W.H dx (.own a)) a (.ins (F.g C) dx []))) (st ++ [.ins C []]) := S1.new (W := W.to W.ρ (upd W.H dx (.own a))) ha1 ⟨dx, [], by show (upd (upd W.H dx (.own a)) a (.ins (F.g C) dx [])) a = some (.ins (W.g C) dx []); rw [upd_same, J.g], .nil⟩
  have hr : (W.ρ ++ [a])[st.length]? = some a := by
    rw [List.getElem?_append_right (by rw [J.sim.len]; omega), J.sim.len]
    simp
  refine ⟨W.to (W.ρ ++ [a]) (upd (upd W.H dx (.own a)) a (.ins (F.g C) dx [])), st ++ [.ins C []], .ref st.length :: es, J.k, J.g, rfl, S2, .cons (.ref hr) (r.mono x), ?_⟩
  unfold opNew at p
  cases q : f (.ref st.length :: es) (st ++ [.ins C []]) with
  | bad => rw [q] at p; exact p.elim
  | exc D fs s =>
    rw [q] at p
    exact fun ρ' H' d y S z => p ρ' H' d (x.trans y) S z
  | ok d s =>
    rw [q] at p
    have p' : PostE W (if d.isNon = true then .ok (.ref st.length) s else .bad) Q E := p
    split at p'
    · rename_i c
      intro ρ' H' b y S rb
      refine ⟨?_, p' ρ' H' (.ref a) (x.trans y) S (.ref (pre_get y.pre hr))⟩
      cases rb <;> first | rfl | cases c
    · exact p'.elim
end
end M
/-! M16: fields of instances, properties, own ==. -/
namespace M
open PySem PySem.Spec PyProof.Rows L2

/-- an instance, in the store or frozen -/
def insD (st : Sto) : D → Option (Str × List (Str × D))
  | .ref n => match st[n]? with
    | some (.ins C fs) => some (C, fs)
    | _ => none
  | .obj C fs => some (C, fs)
  | _ => none
theorem insD_at {W : Vw} {st : Sto} (S : Sim W st) {d : D} {v : V} {C : Str} {fs : List (Str × D)} (h : insD st d = some (C, fs)) (r : RV W d v) : ∃ a dx gs, v = .ref a ∧ W.H a = some (.ins (W.g C) dx gs) ∧ RFs W fs gs := by
  cases r with
  | obj h1 _ r1 => cases h; exact ⟨_, _, _, rfl, h1, r1⟩
  | @ref n a e =>
    have h' : (match st[n]? with
    | some (.ins C fs) => some (C, fs)
    | _ => none) = some (C, fs) := h
    split at h'
    · rename_i C' fs' q
      cases h'
      obtain ⟨dx, gs, h1, r1⟩ := S.at_ n _ a q e
      exact ⟨a, dx, gs, rfl, h1, r1⟩
    · cases h'
  | _ => cases h
/-- the classes whose instances have f of their own alone -/
structure Has (K : PySem.W.Frag) (g : Str → Addr) (f : Str) (xs : List Str) : Prop where
  cl : ∀ C ∈ xs, Cls K (g C)
  no : ∀ C ∈ xs, NoAttr K (g C) f
def opGet (xs : List Str) (f : Str) : Op1 := fun d st => match insD st d with
  | some (C, fs) => if C ∈ xs then (fs.lookup f).map fun x => (x, st) else none
  | none => none
def putD (f : Str) (v : D) : List (Str × D) → List (Str × D)
  | [] => [(f, v)]
  | (g, x) :: r => if g = f then (g, v) :: r else (g, x) :: putD f v r
theorem putD_rel {W : Vw} {f : Str} {d : D} {v : V} (r : RV W d v) : ∀ {fs : List (Str × D)} {gs : List (Str × V)}, RFs W fs gs → RFs W (putD f d fs) (putF f v gs)
  | _, _, .nil => .cons r .nil
  | _, _, .cons (f := g) q rs => by
    unfold putD putF
    by_cases h : g = f
    · rw [if_pos h, if_pos h]; exact .cons r rs
    · rw [if_neg h, if_neg h]; exact .cons q (putD_rel r rs)
theorem RFs.length {W : Vw} : ∀ {fs : List (Str × D)} {gs : List (Str × V)}, RFs W fs gs → fs.length = gs.length
  | _, _, .nil => rfl
  | _, _, .cons _ r => by rw [List.length_cons, List.length_cons, r.length]
section
variable {X : Cx} {F : Fx} {pos : Pos} {f : Str} {xs : List Str} {e o : Expr} {i j : IE}
theorem e_get (hk : X.K = F.K) (T : Has F.K F.g f xs) (he : PE X e (TI F i)) (hb : attributeBase e f X.env (eval e X.env) = eval e X.env := by rfl) : PE X (.Attribute e f pos) (TI F (iUn (opGet xs f) i)) := PE.imp (pe_fld he hb) fun σ H Q h =>
  (TX.bind (k := fun a env s1 => ofO (opGet xs f a s1)) h).mono fun x H1 ⟨W, st, env, d, A, r, p⟩ => by
    replace p := PostO.of p
    unfold opGet at p
    split at p
    · rename_i C fs hd
      split at p
      · rename_i hC
        cases q : fs.lookup f with
        | none => rw [q] at p; exact p.elim
        | some y =>
          rw [q] at p
          obtain ⟨a, dx, gs, rfl, ha, rg⟩ := insD_at A.sim hd r
          obtain ⟨v, hv, rv⟩ := rf_lookup rg q
          have z := A.in_.now p rv
          have cl := T.cl C hC
          have no := T.no C hC
          rw [A.g, A.h] at ha
          rw [← hk] at cl no
          exact ⟨a, _, dx, gs, v, rfl, ha, cl, no, hv, z⟩
      · exact p.elim
    · exact p.elim
theorem TKS.bind {α β γ δ : Type} {P : Vw → α → β → Prop} {P' : Vw → γ → δ → Prop} {i : Env → Sto → R γ} {k : α → γ → Env → Sto → RS} {N : Ends} {b : β} {σ : L2.St} {H : Hp} (mo : ∀ {W : Vw} {ρ' : List Addr} {H' : Hp} {a : α} {b : β}, Ext W ρ' H' → P W a b → P (W.to ρ' H') a b)
    (h : ∃ W st env a, At F W st env σ H ∧ P W a b ∧ PostS W (liftS (i env st) env fun c s1 => k a c env s1) N F.E) :
    TX P' F i σ H fun c H' => ∃ W st env a d, At F W st env σ H' ∧ P W a b ∧ P' W d c ∧ PostS W (k a d env st) N F.E := by
  obtain ⟨W, st, env, a, A, p, q⟩ := h
  refine ⟨W, st, env, A, ?_⟩
  cases r : i env st with
  | ok d s1 =>
    rw [r] at q
    exact fun ρ' H' c x s pc => ⟨W.to ρ' H', s1, env, a, d, A.next x s, mo x p, pc, PostS.ext x q⟩
  | exc C fs s1 =>
    rw [r] at q
    exact fun ρ' H' d x S z => q ρ' H' σ d x S (A.env.mono x) z
  | bad => rw [r] at q; exact q
/-! ### properties -/
variable {k : Nat} {C : Str} {pa ga : Addr} {fd : FuncData} {fn : Fn}
end
end M
/-! M17: == and != by an own __eq__. -/
namespace M
open PySem PySem.Spec PyProof.Rows L2

section
variable {prog : Program} {w : World} {A : Around} {E : Value → Shared → Prop} {s : Shared} {K : PySem.W.Frag} {x C f : Addr} {ox : Obj} {od : Option Obj} {b tb : Value}
open Builtin in
theorem ne_entry {Q : Fin → Shared → Prop} (hu : A.units < cLine) (kin : K.In s.heap) (I : PySem.W.InstAt s.heap x ox C od) (hs : PySem.W.findIn K (.ref C) "__eq__" = some (some (.ref f))) (hf : PySem.W.isFn K (.ref f) = true)
    (h : wpAny (model prog w) A (call (.ref f) [.ref x, b]) (fun v s' => ∃ k, v = .bool k ∧ Q (.done (.ret (.bool (!k)))) s') E s) : wpAny (model prog w) A (Builtin.«object.__ne__» ⟨[.ref x, b], []⟩) Q E s := by
  unfold Builtin.«object.__ne__»
  repeat (first
    | with_reducible refine wpAny_cRoomFor hu ?_
    | (refine wpAny_bind (m := callSpecialIfBound? (.ref x) (Str.ofString "__eq__") [b]) (PySem.W.ifBound_K kin I hs hf (wpAny_mono h (fun r s' hr => by
          obtain ⟨k, rfl, hq⟩ := hr
          repeat (first | exact hq | exact wpAny_pure hq | exact wpAny_truthy_bool hq | (refine wpAny_bind (m := truthy (.bool _)) (wpAny_truthy_bool ?_)) | wp_step)) fun _ _ e => e)))
    | wp_step)
theorem ne_bound {Mo : Model} {args : List Value} {Q : Option Value → Shared → Prop} (kin : K.In s.heap) (I : PySem.W.InstAt s.heap x ox C od) (hs : PySem.W.findIn K (.ref C) "__ne__" = some (some (.builtin "object.__ne__")))
    (h : wpAny Mo A (call (.builtin "object.__ne__") (.ref x :: args)) (fun v => Q (some v)) E s) : wpAny Mo A (callSpecialIfBound? (.ref x) "__ne__" args) Q E s := by
  simp only [bindSpecialIfBound?, callSpecialIfBound?]
  have L := (PySem.W.looks_findIn (M := Mo) kin hs)
  refine wpAny_holding (wpAny_bind (wpAny_bind (wpAny_bind (I.type.here (L.here ?_)))))
  refine wpAny_bind (wpAny_askSetting (wpAny_ite ?_))
  have last : wpAny Mo A (call (.builtin "object.__ne__") ([.ref x] ++ args) >>= fun v => pure (some v)) Q E s := wpAny_bind (wpAny_mono h (fun v s2 q => wpAny_pure q) fun _ _ q => q)
  split
  · exact wpAny_bind (wpAny_of_eq (F.cmp_object.ne.bind _) (wpAny_pure (by exact last)))
  · exact wpAny_tryCatch (wpAny_bind (wpAny_of_eq (F.cmp_object.ne.bind _) (wpAny_pure (by exact last))))
theorem neK {Q : Value → Shared → Prop} (hu : A.units + 1 < cLine) (kin : K.In s.heap) (I : PySem.W.InstAt s.heap x ox C od) (hb : PySem.W.Looks (model prog w) s.heap (typeOf b) tb) (hn : PySem.W.notFirst K C tb = true) (hne : PySem.W.findIn K (.ref C) "__ne__" = some (some (.builtin "object.__ne__")))
    (hm : PySem.W.mroIn K C (.type "object") = some true) (hs : PySem.W.findIn K (.ref C) "__eq__" = some (some (.ref f))) (hf : PySem.W.isFn K (.ref f) = true)
    (h : wpAny (model prog w) A.in1 (call (.ref f) [.ref x, b]) (fun v s' => ∃ k, v = .bool k ∧ Q (.bool (!k)) s') E s) : wpAny (model prog w) A (richCompare .NotEq (.ref x) b) Q E s := by
  have one : wpAny (model prog w) A (tryCompare (.ref x) "__ne__" b) (fun r s' => ∃ v, r = some v ∧ Q v s') E s := by
    simp only [tryCompare]
    refine wpAny_bind (ne_bound kin I hne (wpAny_call (codeAny_call_builtin F.cmp_object.ne.plain F.cmpEntry_ne (PySem.W.check_slot F.cmpKind_ne F.cmpSplit_ne (I.type.andThen (PySem.W.looks_mroIn kin hm)) (F.cmpArgs_ne _ _)
      (ne_entry (A := A.in1) (by show A.units + 1 < cLine; exact hu) kin I hs hf (wpAny_mono h (fun v s2 hv => ?_) fun _ _ e => e))))))
    obtain ⟨k, rfl, q⟩ := hv
    first | exact ⟨k, rfl, wpAny_pure ⟨_, rfl, q⟩⟩ | exact ⟨k, rfl, wpAny_pure (wpAny_pure ⟨_, rfl, q⟩)⟩
  unfold richCompare
  simp only [oneThing_ref]
  refine wpAny_holding (wpAny_bind (wpAny_cRoomFor (by omega) ?_))
  rw [cmpInfo_NotEq]
  dsimp only
  refine wpAny_bind (I.type.here ?_)
  refine wpAny_bind (hb.here ?_)
  split
  · rename_i q
    have e : PySem.W.subIn K tb (.ref C) = some false := by
      rcases Bool.or_eq_true_iff.mp hn with e | e
      · rw [beq_iff_eq.mp e] at q; simp at q
      · exact beq_iff_eq.mp e
    refine wpAny_bind ((PySem.W.looks_subIn kin e).here ?_)
    simp only [Bool.false_eq_true, if_false]
    refine wpAny_bind (wpAny_mono one (fun r s2 ⟨v, e1, hq⟩ => by subst e1; exact wpAny_pure hq) fun _ _ e => e)
  · refine wpAny_bind (wpAny_pure ?_)
    simp only [Bool.false_eq_true, if_false]
    refine wpAny_bind (wpAny_mono one (fun r s2 ⟨v, e1, hq⟩ => by subst e1; exact wpAny_pure hq) fun _ _ e => e)
end

/-! ### the operators -/
/-- what is known of the class with its own __eq__ -/
structure EqC (K : PySem.W.Frag) (g : Str → Addr) (C : Str) (fE : Addr) (ts : List String) : Prop where
  eq : PySem.W.findIn K (.ref (g C)) "__eq__" = some (some (.ref fE))
  fn : PySem.W.isFn K (.ref fE) = true
  ne : PySem.W.findIn K (.ref (g C)) "__ne__" = some (some (.builtin "object.__ne__"))
  mr : PySem.W.mroIn K (g C) (.type "object") = some true
  ty : ∀ t ∈ ts, PySem.W.subIn K (.type t) (.ref (g C)) = some false
def optR : R D → Option (D × Sto)
  | .ok d s => some (d, s)
  | _ => none
def kNe : Option (D × Sto) → Option (D × Sto)
  | some (.bl k, s) => some (.bl (!k), s)
  | _ => none
/-- the other side: one of these types, or of the class -/
def okR (C : Str) (ts : List String) (st : Sto) (b : D) : Bool := match insD st b with
  | some (C', _) => decide (C' = C)
  | none => match tagD st b with
    | some (.ty t) => ts.contains t
    | _ => false
def opEqI (C : Str) (ts : List String) (fn : Fn) (neg : Bool) : Op2 := fun a b st => match insD st a with
  | some (C', _) => if C' = C ∧ okR C ts st b = true then (if neg then kNe (optR (fn [a, b] st)) else optR (fn [a, b] st)) else none
  | none => opEq neg a b st
section
variable {X : Cx} {F : Fx} {W : Vw} {st : Sto} {k : Nat} {C : Str} {fE : Addr} {ts : List String} {fd : FuncData} {ps : List Str} {fn : Fn}
theorem okR_look {pins : List (Addr × Obj)} {σ : L2.St} {H : Hp} {s : Shared} {b : D} {v : V} {u : Value} (hk : X.K = F.K) (J : In F W st H) (I : Inv X pins σ H s) (T : EqC F.K F.g C fE ts) (h : okR C ts st b = true) (r : RV W b v) (ru : RelV v u) : ∃ tb, PySem.W.Looks (model X.prog X.w) s.heap (typeOf u) tb ∧ PySem.W.notFirst X.K (F.g C) tb = true := by
  unfold okR at h
  split at h
  · rename_i C' fs hd
    have e := of_decide_eq_true h
    subst e
    obtain ⟨a, dx, gs, rfl, ea, _⟩ := insD_at J.sim hd r
    cases ru
    rw [J.g, J.h] at ea
    obtain ⟨mA, O, _⟩ := ins_get I.hok ea
    obtain ⟨od, JI, _⟩ := O.look
    exact ⟨_, JI.type, by simp [PySem.W.notFirst]⟩
  · split at h
    · rename_i t ht
      obtain ⟨P, Z, pp, _⟩ := kit_of I ru (tag_ty hk J ht r)
      refine ⟨_, Z.ty _ _ I.kIn pp, ?_⟩
      have q := T.ty t (List.contains_iff_mem.mp h)
      rw [← hk] at q
      unfold PySem.W.notFirst
      rw [q]
      simp
    · cases h
theorem eqI_call {A' : Around} {pins : List (Addr × Obj)} {σ : L2.St} {H : Hp} {s : Shared} {Q : VK} {a b : D} {x y : V} {v u : Value} (J : In F W st H) (I : Inv X pins σ H s) (G : FnG X.prog X.w X.K X.mg X.base k fE fd ps (SPx F.K F.g fn)) (hr : Room k A') (hgd : A'.guards = some []) (he : Env0 X.prog X.w X.K X.mg X.base A' X.stack s H) (hb : Binds X.K fd ps [])
    (ra : RV W a x) (rb : RV W b y) (rx : RelV x v) (ry : RelV y u) (p : PostO W (optR (fn [a, b] st)) Q) : wpAny (model X.prog X.w) A' (call (.ref fE) [v, u]) (EP X pins σ Q) X.xe s := by
  have p2 : PostE W (fn [a, b] st) Q (fun _ _ _ => False) := by
    cases q : fn [a, b] st with
    | ok d s2 => rw [q] at p; exact p
    | exc D fs s2 => rw [q] at p; exact p.elim
    | bad => rw [q] at p; exact p.elim
  have sp : SPx F.K F.g fn [x, y] H Q (fun _ _ _ => False) := ⟨W, st, [a, b], J.k, J.g, J.h, J.sim, .cons ra (.cons rb .nil), p2⟩
  have r2 : Vals [x, y] [v, u] := .cons rx (.cons ry .nil)
  have hl := G.len _ _ _ _ sp
  refine wpAny_call (codeAny_mono (G.run A' X.stack s H ⟨[v, u], []⟩ [v, u] [x, y] Q (fun _ _ _ => False) hr hgd he (by simpa using hb s [v, u] I.kIn (by simpa using hl)) r2 sp) fun r s' hq => ?_)
  cases r with
  | error er =>
    obtain ⟨_, _, _, _, _, _, _, _, _, _, _, _, z⟩ := hq
    exact z.elim
  | ok fl =>
    cases fl with
    | ret u => exact I.after hq
    | next => exact False.elim hq
    | brk => exact False.elim hq
    | cont => exact False.elim hq
theorem or_eqI (hk : X.K = F.K) (hu : X.A.units + 64 < cLine) (T : EqC F.K F.g C fE ts) (G : FnG X.prog X.w X.K X.mg X.base k fE fd ps (SPx F.K F.g fn)) (hr : Room k X.A) (hgd : X.A.guards = some []) (hb : Binds X.K fd ps []) : OpR X (compareOp .Eq) (r2 F (opEqI C ts fn false)) := fun pins s σ H x y v u Q I rx ry h => by
  have h0 := h
  obtain ⟨W, st, a, b, J, ra, rb, p⟩ := h
  unfold opEqI at p
  split at p
  · rename_i C' fs hd
    split at p
    · rename_i c
      obtain ⟨rfl, hok⟩ := c
      obtain ⟨q, dx, gs, rfl, ea, _⟩ := insD_at J.sim hd ra
      cases rx
      rw [J.g, J.h] at ea
      obtain ⟨mA, O, _⟩ := ins_get I.hok ea
      obtain ⟨od, JI, _⟩ := O.look
      obtain ⟨tb, hlt, hnf⟩ := okR_look hk J I T hok rb ry
      obtain ⟨m, hF⟩ := I.fr
      have T1 := T.eq
      have T2 := T.fn
      rw [← hk] at T1 T2
      refine PySem.W.cmp_K (op := .Eq) (tb := tb) (by omega) hF I.ok.mod.kin JI hlt hnf T1 T2 ?_
      refine wpAny_mono (eqI_call J I G hr hgd I.env0 hb ra rb rfl ry p) (fun z s' hz => ?_) fun _ _ e => e
      obtain ⟨d, H', I', rd, q⟩ := hz
      have fin : EP X pins σ Q z s' := ⟨d, H', I', rd, q⟩
      cases z <;> first | exact fin | (cases d <;> first | (obtain ⟨_, e⟩ := rd; cases e) | cases rd)
    · exact p.elim
  · exact or_eq hk hu pins s σ H x y v u Q I rx ry ⟨W, st, a, b, J, ra, rb, p⟩
theorem or_neI (hk : X.K = F.K) (hu : X.A.units + 64 < cLine) (T : EqC F.K F.g C fE ts) (G : FnG X.prog X.w X.K X.mg X.base k fE fd ps (SPx F.K F.g fn)) (hr : Room (k + 1) X.A) (hgd : X.A.guards = some []) (hb : Binds X.K fd ps []) : OpR X (compareOp .NotEq) (r2 F (opEqI C ts fn true)) := fun pins s σ H x y v u Q I rx ry h => by
  obtain ⟨W, st, a, b, J, ra, rb, p⟩ := h
  unfold opEqI at p
  split at p
  · rename_i C' fs hd
    split at p
    · rename_i c
      obtain ⟨rfl, hok⟩ := c
      obtain ⟨q, dx, gs, rfl, ea, _⟩ := insD_at J.sim hd ra
      cases rx
      rw [J.g, J.h] at ea
      obtain ⟨mA, O, _⟩ := ins_get I.hok ea
      obtain ⟨od, JI, _⟩ := O.look
      obtain ⟨tb, hlt, hnf⟩ := okR_look hk J I T hok rb ry
      have T1 := T.eq
      have T2 := T.fn
      have T3 := T.ne
      have T4 := T.mr
      rw [← hk] at T1 T2 T3 T4
      have p1 : PostO W (kNe (optR (fn [a, b] st))) Q := p
      show wpAny (model X.prog X.w) X.A (richCompare .NotEq (.ref q) u) (EP X pins σ Q) X.xe s
      have p2 : PostO W (optR (fn [a, b] st)) (fun z H' => ∃ k, z = .bl k ∧ Q (.bl (!k)) H') := by
        cases z : optR (fn [a, b] st) with
        | none => rw [z] at p1; exact p1.elim
        | some w =>
          obtain ⟨d, s2⟩ := w
          rw [z] at p1
          cases d with
          | bl k =>
            intro ρ' H' v x S r
            cases r
            exact ⟨k, rfl, p1 ρ' H' (.bl (!k)) x S (.bl _)⟩
          | _ => exact p1.elim
      refine neK (by omega) I.kIn JI hlt hnf T3 T4 T1 T2 (wpAny_mono (eqI_call (A' := X.A.in1) J I G hr.in1 hgd I.env0.in1 hb ra rb rfl ry p2) (fun z s' hz => ?_) fun _ _ e => e)
      obtain ⟨d, H', I', rd, k, rfl, q⟩ := hz
      cases rd
      exact ⟨k, rfl, .bl (!k), H', I', rfl, q⟩
    · exact p.elim
  · exact or_ne hk hu pins s σ H x y v u Q I rx ry ⟨W, st, a, b, J, ra, rb, p⟩
end
end M
/-! M18: methods of texts and lists, f-strings, str and repr by own methods. -/
namespace M
open PySem PySem.Spec PyProof.Rows L2

/-! ### methods of texts -/
def rM1 (F : Fx) (f : Op2) : V → List V → Hp → VK → Prop := fun x xs H Q => ∃ y, xs = [y] ∧ r2 F f x y H Q
def isS : D → Bool
  | .str _ => true
  | _ => false
def iM1 (f : Op2) (i j : IE) : IE := fun env st => (i env st).bind fun a s1 => if isS a = true then (j env s1).bind fun b s2 => ofO (f a b s2) else .bad
theorem MtR.imp {X : Cx} {id : String} {r r' : V → List V → Hp → VK → Prop} (a : MtR X id r) (h : ∀ x xs H Q, r' x xs H Q → r x xs H Q) : MtR X id r' := fun p s σ H x xs v us Q I rx rs q => a p s σ H x xs v us Q I rx rs (h x xs H Q q)
section
variable {X : Cx} {F : Fx} {W : Vw} {st : Sto} {pos apos : Pos} {o e : Expr} {i j : IE} {f : Op2} {id : String} {name : Str}
theorem m1_red {σ : L2.St} {H : Hp} {Q : VK} (h : TI F (iM1 f i j) σ H Q) : tM1 (rM1 F f) (TI F i) (TI F j) σ H Q :=
  (TX.bind (k := fun a env s1 => if isS a = true then (j env s1).bind fun b s2 => ofO (f a b s2) else .bad) h).mono fun x H1 ⟨W, st, env, a, A, r, p⟩ => by
    have p' : PostE W (if isS a = true then (j env st).bind fun b s2 => ofO (f a b s2) else .bad) Q (F.at_ σ) := p
    split at p'
    · rename_i c
      have hx : ∃ z, x = .str z := by
        cases r <;> first | exact ⟨_, rfl⟩ | cases c
      have T : TK RV RV F (fun a env s1 => (j env s1).bind fun b s2 => ofO (f a b s2)) x σ H1 Q := ⟨W, st, env, a, A, r, p'⟩
      exact ⟨hx, (TK.bind (i := j) (k := fun a b env s2 => ofO (f a b s2)) (fun x r => RV.mono x r) T).mono fun y H2 ⟨W, st, env, a, b, A, ra, rb, p⟩ => ⟨y, rfl, W, st, a, b, A.in_, ra, rb, PostO.of p⟩⟩
    · exact p'.elim
theorem e_m1 (slot : Slot "str" name id) (ty : typeOf (.builtin id) = pure (.type "method_descriptor")) (rule : MtR X id (rM1 F f)) (ho : PE X o (TI F i)) (he : PE X e (TI F j))
    (hs : starEach [e] X.env = [(false, eval e X.env)] := by rfl) (hbase : attributeBase o name X.env (eval o X.env) = eval o X.env := by rfl) (hline : (apos.endLine == pos.line) = true := by rfl) : PE X (.Call (.Attribute o name apos) [e] [] pos) (TI F (iM1 f i j)) :=
  PE.imp (pe_m1 slot ty rule ho he hs hbase hline) fun _ _ _ h => m1_red h
def opSplit : Op2 := fun a b st => match a, b with
  | .str x, .str y => if (y.length == 0) = false ∧ x.length + 2 ≤ sizeLine then some (.lst ((Txt.split x y).map .str), st) else none
  | _, _ => none
theorem rvs_strs : ∀ ys : List Str, RVs W (ys.map D.str) (ys.map V.str)
  | [] => .nil
  | y :: ys => .cons (.str y) (rvs_strs ys)
theorem mr_split : MtR X "str.split" (rM1 F opSplit) := MtR.imp mt_split fun x xs H Q ⟨y, e, W, st, a, b, J, ra, rb, p⟩ => by
  subst e
  unfold opSplit at p
  split at p
  · split at p
    · rename_i c
      cases ra
      cases rb
      have eH := J.h
      subst eH
      exact ⟨_, _, rfl, rfl, c.1, c.2, fun q hq => p.listF J.sim (rvs_strs _) hq⟩
    · exact p.elim
  · exact p.elim
def opPart : Op2 := fun a b st => match a, b with
  | .str x, .str y => if (y.length == 0) = false ∧ x.length ≤ sizeLine then some (.tup [.str (Txt.partition x y).1, .str (Txt.partition x y).2.1, .str (Txt.partition x y).2.2], st) else none
  | _, _ => none
theorem mr_part : MtR X "str.partition" (rM1 F opPart) := MtR.imp mt_partition fun x xs H Q ⟨y, e, W, st, a, b, J, ra, rb, p⟩ => by
  subst e
  unfold opPart at p
  split at p
  · split at p
    · rename_i c
      cases ra
      cases rb
      have eH := J.h
      subst eH
      exact ⟨_, _, rfl, rfl, c.1, c.2, fun q hq => p.tuple J.sim (.cons (.str _) (.cons (.str _) (.cons (.str _) .nil))) hq⟩
    · exact p.elim
  · exact p.elim
def opTT (g : Str → Str → D) (c : Str → Bool) : Op2 := fun a b st => match a, b with
  | .str x, .str y => if c x = true then some (g x y, st) else none
  | _, _ => none
abbrev opStarts : Op2 := opTT (fun x y => .bl (Txt.startswith x y)) fun _ => true
theorem mr_starts : MtR X "str.startswith" (rM1 F opStarts) := MtR.imp mt_startswith fun x xs H Q ⟨y, e, W, st, a, b, J, ra, rb, p⟩ => by
  subst e
  unfold opStarts opTT at p
  split at p
  · split at p
    · cases ra; cases rb; exact ⟨_, _, rfl, rfl, J.now p (.bl _)⟩
    · exact p.elim
  · exact p.elim
/-! ### methods of lists -/
def isL (st : Sto) : D → Bool
  | .ref n => (lstAt st n).isSome
  | .lst _ => true
  | _ => false
def iMl (f : D → OpN) (i : IE) (j : IA) : IE := fun env st => (i env st).bind fun a s1 => if isL s1 a = true then (j env s1).bind fun ds s2 => ofO (f a ds s2) else .bad
/-! ### f-strings -/
def opFmt : Op1 := fun a st => match a with
  | .str y => if y.length ≤ sizeLine then some (.str y, st) else none
  | .int i => if i.natAbs.log2 < 1920 then some (.str (toString i), st) else none
  | _ => none
theorem e_fmt (he : PE X e (TI F i)) : PE X (.FormattedValue e (-1) none pos) (TI F (iUn opFmt i)) := PE.imp (pe_fmt he) fun σ H Q h => (TX.bind (k := fun a env s1 => ofO (opFmt a s1)) h).mono fun x H1 ⟨W, st, env, a, A, r, p⟩ => by
  replace p := PostO.of p
  unfold opFmt at p
  split at p
  · split at p
    · cases r; exact .inl ⟨_, rfl, by assumption, A.in_.now p (.str _)⟩
    · exact p.elim
  · split at p
    · cases r; exact .inr ⟨_, rfl, by assumption, A.in_.now p (.str _)⟩
    · exact p.elim
  · exact p.elim
theorem e_joined1 (he : PE X e (TI F i)) : PE X (.JoinedStr [e] pos) (TI F i) := pe_joined1 he
def kJs (acc : Str) (k : Str → Env → Sto → R D) (d : D) (env : Env) (s : Sto) : R D := match d with
  | .str y => if (acc ++ y).length ≤ sizeLine then k (acc ++ y) env s else .bad
  | _ => .bad
def iJs : List IE → Str → Env → Sto → R D
  | [], acc => fun _ st => .ok (.str acc) st
  | i :: is, acc => fun env st => (i env st).bind fun d s => kJs acc (iJs is) d env s
inductive PJs (X : Cx) (F : Fx) : List Expr → List IE → Prop where
  | nil : PJs X F [] []
  | cons {e : Expr} {i : IE} {es : List Expr} {is : List IE} (h : PE X e (TI F i)) (r : PJs X F es is) : PJs X F (e :: es) (i :: is)
theorem PJs.pj {es : List Expr} {is : List IE} (h : PJs X F es is) : PJ X es (is.map (TI F)) := by
  induction h with
  | nil => exact .nil
  | cons h _ ih => exact .cons h ih
theorem js_red {σ : L2.St} {Q : VK} : ∀ (is : List IE) (acc : Str) (H : Hp), TI F (iJs is acc) σ H Q → tJs (is.map (TI F)) acc σ H fun out H1 => Q (.str out) H1
  | [], acc, H, ⟨W, st, env, A, p⟩ => by
    have q := p W.ρ W.H (.str acc) Ext.refl A.sim (.str _)
    rw [A.h] at q
    exact q
  | i :: is, acc, H, h => (TX.bind (k := fun d env s => kJs acc (iJs is) d env s) h).mono fun x H1 ⟨W, st, env, a, A, r, p⟩ => by
    have p' : PostE W (kJs acc (iJs is) a env st) Q (F.at_ σ) := p
    unfold kJs at p'
    split at p'
    · split at p'
      · rename_i c
        cases r
        exact ⟨_, rfl, c, js_red is _ H1 ⟨W, st, env, A, p'⟩⟩
      · exact p'.elim
    · exact p'.elim
theorem e_joined {v1 v2 : Expr} {rest : List Expr} {is : List IE} (h : PJs X F (v1 :: v2 :: rest) is) : PE X (.JoinedStr (v1 :: v2 :: rest) pos) (TI F (iJs is Str.empty)) := PE.imp (pe_joined h.pj) fun σ H Q h => js_red is _ H h
end
end M
/-! M19: in, starred parts, str and repr by own methods, isinstance of instances, defs as values, divmod, sorted. -/
namespace M
open PySem PySem.Spec PyProof.Rows L2

/-! ### in -/
def flatD : D → Bool
  | .non => true
  | .bl _ => true
  | .int _ => true
  | .str _ => true
  | _ => false
def eqD : D → D → Bool
  | .non, .non => true
  | .bl a, .bl b => a == b
  | .bl a, .int b => (if a then 1 else 0) == b
  | .int a, .bl b => a == (if b then 1 else 0)
  | .int a, .int b => a == b
  | .str a, .str b => a == b
  | _, _ => false
def inD (x : D) (xs : List D) : Bool := xs.any fun y => eqD y x
section
variable {X : Cx} {F : Fx} {W : Vw} {st : Sto} {pos apos p : Pos} {o e : Expr} {es : List Expr} {i : IE} {j : IA}
theorem flat_rv {d : D} {v : V} (h : flatD d = true) (r : RV W d v) : flatV v = true := by cases r <;> first | rfl | cases h
theorem eq_rv {a b : D} {x y : V} (ha : flatD a = true) (hb : flatD b = true) (ra : RV W a x) (rb : RV W b y) : eqV x y = eqD a b := by
  cases ra <;> cases ha <;> cases rb <;> cases hb <;> rfl
theorem flats_rv : ∀ {xs : List D} {ys : List V}, xs.all flatD = true → RVs W xs ys → ys.all flatV = true
  | _, _, _, .nil => rfl
  | x :: xs, _, h, .cons r rs => by
    obtain ⟨h1, h2⟩ := Bool.and_eq_true_iff.mp (show (flatD x && xs.all flatD) = true from h)
    show (_ && _) = true
    rw [flat_rv h1 r, flats_rv h2 rs]; rfl
theorem in_rv {a : D} {x : V} (ha : flatD a = true) (ra : RV W a x) : ∀ {xs : List D} {ys : List V}, xs.all flatD = true → RVs W xs ys → inV x ys = inD a xs
  | _, _, _, .nil => rfl
  | y :: xs, _, h, .cons r rs => by
    obtain ⟨h1, h2⟩ := Bool.and_eq_true_iff.mp (show (flatD y && xs.all flatD) = true from h)
    have ih := in_rv ha ra h2 rs
    unfold inV inD at ih ⊢
    rw [List.any_cons, List.any_cons, ih, eq_rv h1 ha r ra]
def opIn (neg : Bool) : Op2 := fun a b st => match a, b with
  | .str x, .str y => some (.bl (if neg then !(!(Builtin.Str.occurrences y x 0 y.length 1).isEmpty) else !(Builtin.Str.occurrences y x 0 y.length 1).isEmpty), st)
  | a, b => match aseq st b with
    | some xs => if flatD a = true ∧ xs.all flatD = true then some (.bl (if neg then !inD a xs else inD a xs), st) else none
    | none => none
theorem in_red (hk : X.K = F.K) {neg : Bool} {x y : V} {H : Hp} {Q : VK} (h : r2 F (opIn neg) x y H Q) : rIn X.K neg x y H Q ∨ ∃ i j, x = .str i ∧ y = .str j ∧ Q (.bl (if neg then !(!(Builtin.Str.occurrences j i 0 j.length 1).isEmpty) else !(Builtin.Str.occurrences j i 0 j.length 1).isEmpty)) H := by
  obtain ⟨W, st, a, b, I, ra, rb, p⟩ := h
  unfold opIn at p
  split at p
  · cases ra; cases rb
    exact .inr ⟨_, _, rfl, rfl, I.now p (.bl _)⟩
  · split at p
    · rename_i xs hx
      split at p
      · rename_i c
        obtain ⟨q, ys, rfl, hs, ry⟩ := aseq_at I.sim hx rb
        have z := I.now p (.bl _)
        rw [← in_rv c.1 ra c.2 ry] at z
        rw [I.k, ← hk, I.h] at hs
        exact .inl ⟨q, ys, rfl, hs, flat_rv c.1 ra, flats_rv c.2 ry, z⟩
      · exact p.elim
    · exact p.elim
theorem or_in (hk : X.K = F.K) : OpR X (compareOp .In) (r2 F (opIn false)) := OpR.imp (OpR.or op_in_seq op_in_str) fun x y H Q h => in_red hk h
/-! ### *xs in a display or a call -/
/-- the starred list is read before the rest is asked -/
def aStar (i : IE) (j : IA) : IA := fun env st => (i env st).bind fun a s => match aseq s a with
  | some xs => (j env s).bind fun r s2 => .ok (xs ++ r) s2
  | none => .bad
/-! ### str(o), repr(o) -/
variable {k : Nat} {C : Str} {fS : Addr} {fd : FuncData} {ps : List Str} {fn : Fn}
def strR : Option (D × Sto) → Option (D × Sto)
  | some (.str z, s) => some (.str z, s)
  | _ => none
theorem own1_call {A' : Around} {pins : List (Addr × Obj)} {σ : L2.St} {H : Hp} {s : Shared} {Q : VK} {a : D} {x : V} {v : Value} (J : In F W st H) (I : Inv X pins σ H s) (G : FnG X.prog X.w X.K X.mg X.base k fS fd ps (SPx F.K F.g fn)) (hr : Room k A') (hgd : A'.guards = some []) (he : Env0 X.prog X.w X.K X.mg X.base A' X.stack s H) (hb : Binds X.K fd ps [])
    (ra : RV W a x) (rx : RelV x v) (p : PostO W (strR (optR (fn [a] st))) Q) : wpAny (model X.prog X.w) A' (call (.ref fS) [v]) (PySem.W.StrBack (EP X pins σ Q)) X.xe s := by
  have p2 : PostE W (fn [a] st) (fun z H' => (∃ y, z = .str y) ∧ Q z H') (fun _ _ _ => False) := by
    cases q : fn [a] st with
    | ok d s2 =>
      rw [q] at p
      cases d with
      | str y =>
        intro ρ' H' b x S r
        cases r
        exact ⟨⟨_, rfl⟩, p ρ' H' _ x S (.str _)⟩
      | _ => exact p.elim
    | exc D fs s2 => rw [q] at p; exact p.elim
    | bad => rw [q] at p; exact p.elim
  have sp : SPx F.K F.g fn [x] H _ (fun _ _ _ => False) := ⟨W, st, [a], J.k, J.g, J.h, J.sim, .cons ra .nil, p2⟩
  have r2 : Vals [x] [v] := .cons rx .nil
  have hl := G.len _ _ _ _ sp
  refine wpAny_call (codeAny_mono (G.run A' X.stack s H ⟨[v], []⟩ [v] [x] _ (fun _ _ _ => False) hr hgd he (by simpa using hb s [v] I.kIn (by simpa using hl)) r2 sp) fun r s' hq => ?_)
  cases r with
  | error er =>
    obtain ⟨_, _, _, _, _, _, _, _, _, _, _, _, z⟩ := hq
    exact z.elim
  | ok fl =>
    cases fl with
    | ret u =>
      obtain ⟨z, H', I', rz, ⟨y, rfl⟩, q⟩ := I.after hq
      obtain ⟨t, rfl⟩ := rz
      exact ⟨.str y, H', I', ⟨t, rfl⟩, q⟩
    | next => exact False.elim hq
    | brk => exact False.elim hq
    | cont => exact False.elim hq
def opStrI (C : Str) (fn : Fn) : OpN := fun ds st => match ds with
  | [.str a] => some (.str a, st)
  | [.int i] => opStr [.int i] st
  | [d] => match insD st d with
    | some (C', _) => if C' = C then strR (optR (fn [d] st)) else none
    | none => none
  | _ => none
theorem cr_strI (hk : X.K = F.K) (hs : PySem.W.findIn F.K (.ref (F.g C)) "__str__" = some (some (.ref fS))) (hf : PySem.W.isFn F.K (.ref fS) = true) (G : FnG X.prog X.w X.K X.mg X.base k fS fd ps (SPx F.K F.g fn)) (hr : Room (k + 2) X.A) (hgd : X.A.guards = some []) (hb : Binds X.K fd ps []) : CallR X (.type "str") (rN F (opStrI C fn)) := fun pins s σ H xs us Q I r ⟨W, st, ds, J, rd, p⟩ => by
  unfold opStrI at p
  split at p
  · obtain ⟨v, rfl, rv⟩ := rv1 rd
    cases rv
    obtain ⟨u, rfl, t, rfl⟩ := vals1 r
    exact PySem.P.str_of_str ⟨.str _, H, I, ⟨t, rfl⟩, J.now p (.str _)⟩
  · exact cr_str pins s σ H xs us Q I r ⟨W, st, _, J, rd, p⟩
  · rename_i d _ _
    obtain ⟨v, rfl, rv⟩ := rv1 rd
    obtain ⟨u, rfl, ru⟩ := vals1 r
    split at p
    · rename_i C' fs hd
      split at p
      · rename_i hC
        subst hC
        obtain ⟨q, dx, gs, rfl, ea, _⟩ := insD_at J.sim hd rv
        cases ru
        rw [J.g, J.h] at ea
        obtain ⟨mA, O, _⟩ := ins_get I.hok ea
        obtain ⟨od, JI, _⟩ := O.look
        rw [← hk] at hs hf
        have un := hr.units0
        refine PySem.W.kso_call (by have := hr.un; show X.A.units + 1 + 1 < cLine; omega) I.kIn JI hs hf (own1_call (A' := X.A.in1.in1) J I G (hr.in1.in1) hgd I.env0.in1.in1 hb rv rfl p)
      · exact p.elim
    · exact p.elim
  · exact p.elim
def opReprI (C : Str) (fn : Fn) : OpN := fun ds st => match ds with
  | [d] => match insD st d with
    | some (C', _) => if C' = C then strR (optR (fn [d] st)) else none
    | none => opRepr [d] st
  | _ => none
theorem cr_reprI (hk : X.K = F.K) (hu : X.A.units + (64 + 1) < cLine) (hs : PySem.W.findIn F.K (.ref (F.g C)) "__repr__" = some (some (.ref fS))) (hf : PySem.W.isFn F.K (.ref fS) = true) (G : FnG X.prog X.w X.K X.mg X.base k fS fd ps (SPx F.K F.g fn)) (hr : Room (k + 1) X.A) (hgd : X.A.guards = some []) (hb : Binds X.K fd ps []) : CallR X (.builtin "repr") (rN F (opReprI C fn)) := fun pins s σ H xs us Q I r ⟨W, st, ds, J, rd, p⟩ => by
  unfold opReprI at p
  split at p
  · rename_i d
    have rd0 := rd
    obtain ⟨v, rfl, rv⟩ := rv1 rd
    have r0 := r
    obtain ⟨u, rfl, ru⟩ := vals1 r
    split at p
    · rename_i C' fs hd
      split at p
      · rename_i hC
        subst hC
        obtain ⟨q, dx, gs, rfl, ea, _⟩ := insD_at J.sim hd rv
        cases ru
        rw [J.g, J.h] at ea
        obtain ⟨mA, O, _⟩ := ins_get I.hok ea
        obtain ⟨od, JI, _⟩ := O.look
        rw [← hk] at hs hf
        obtain ⟨m, hF⟩ := I.fr
        exact PySem.W.repr_K (by show X.A.units + 1 < cLine; omega) hF I.ok.mod.kin JI hs hf (own1_call (A' := X.A.in1) J I G hr.in1 hgd I.env0.in1 hb rv rfl p)
      · exact p.elim
    · exact cr_repr hk hgd hu pins s σ H _ _ Q I r0 ⟨W, st, [d], J, rd0, p⟩
  · exact p.elim
end
end M
/-! M20: defs as values, isinstance of instances, divmod, sorted, max. -/
namespace M
open PySem PySem.Spec PyProof.Rows L2

section
variable {X : Cx} {F : Fx} {W : Vw} {st : Sto} {pos apos p : Pos} {o e fe : Expr} {es : List Expr} {i : IE} {j : IA} {k : Nat} {fs : List (Str × Fn)}
/-! ### a value that is a def is called -/
structure HeldG (X : Cx) (F : Fx) (k : Nat) (fs : List (Str × Fn)) : Prop where
  ex : ∀ q ∈ fs, ∃ (fd : FuncData) (ps : List Str), FnG X.prog X.w X.K X.mg X.base k (F.g q.1) fd ps (SPx F.K F.g q.2) ∧ PySem.W.keepIn X.K (.ref (F.g q.1)) = true ∧ Binds X.K fd ps []
def kCallV (fs : List (Str × Fn)) (d : D) (j : IA) (env : Env) (s : Sto) : R D := match d with
  | .glo x => match fs.lookup x with
    | some f => (j env s).bind fun ds s2 => f ds s2
    | none => .bad
  | _ => .bad
def iCallV (fs : List (Str × Fn)) (i : IE) (j : IA) : IE := fun env st => (i env st).bind fun d s => kCallV fs d j env s
/-! ### isinstance, instances too -/
structure InsF (K : PySem.W.Frag) (C : Addr) : Prop where
  cl : Cls K C
  ca : PySem.W.findIn K (.ref C) "__class__" = some (some (.builtin "object.__class__"))
  sp : PySem.W.specialIn K (.builtin "object.__class__") "__get__" = some (some (.builtin "getset_descriptor.__get__"))
  tk : PySem.W.takesIn K (.builtin "object.__class__") = some true
  mr : PySem.W.mroIn K C (.type "object") = some true
def opIsiI (cs : List Str) (xs : List Str) (tb : Tg → Tg → Option Bool) : OpN := fun ds st => match ds with
  | [d, c] => match insD st d with
    | some (C, _) => if C ∈ cs then (match clsD c with
      | some u => (tb (.own C) u).map fun b => (.bl b, st)
      | none => none) else none
    | none => opIsi xs tb [d, c] st
  | _ => none
theorem cr_isiI {cs xs : List Str} {tb : Tg → Tg → Option Bool} (hk : X.K = F.K) (T : Isa F.K F.g xs tb) (TC : ∀ C ∈ cs, InsF F.K (F.g C)) : CallR X (.builtin "isinstance") (rN F (opIsiI cs xs tb)) := fun pins s σ H vs us Q I r ⟨W, st, ds, J, rd, p⟩ => by
  unfold opIsiI at p
  split at p
  · rename_i d c
    split at p
    · rename_i C fs hd
      split at p
      · rename_i hC
        split at p
        · rename_i u hu
          cases e : tb (.own C) u with
          | none => rw [e] at p; exact p.elim
          | some b =>
            rw [e] at p
            obtain ⟨v1, v2, rfl, rv1, rv2⟩ := rv2 rd
            obtain ⟨u1, u2, rfl, ru1, ru2⟩ := vals2 r
            have e2 := clsD_val hu rv2 J.g ru2
            subst e2
            have q := J.now p (.bl b)
            have kk := T.tb _ _ _ e
            obtain ⟨a, dx, gs, rfl, ea, _⟩ := insD_at J.sim hd rv1
            rw [J.g, J.h] at ea
            have Z := TC C hC
            rw [← hk] at Z kk
            exact isinst_ok I ru1 (.ins ea Z.cl Z.ca Z.sp Z.tk Z.mr) kk fun tk => ⟨.bl b, H, I.tok tk, rfl, q⟩
        · exact p.elim
      · exact p.elim
    · exact cr_isi hk T pins s σ H vs us Q I r ⟨W, st, _, J, rd, p⟩
  · exact p.elim

/-! ### divmod -/
end
end M
/-! M21: max, sorted texts. -/
namespace M
open PySem PySem.Spec PyProof.Rows L2

section
variable {X : Cx} {F : Fx} {W : Vw} {st : Sto}
end
end M
/-! M22: sorted texts. -/
namespace M
open PySem PySem.Spec PyProof.Rows L2

section
variable {X : Cx} {F : Fx} {W : Vw} {st : Sto}
end
end M
/-! M23: sets of texts: the set itself. -/
namespace M
open PySem PySem.Spec PyProof.Rows L2

def GoodS (w : World) (e : Int × Value) : Prop := ∃ x tk, e.2 = Value.str x tk ∧ e.1 = hashStr w x
def keyS (e : Int × Value) : Str := match e.2 with | .str x _ => x | _ => Str.empty
/-- the set of the texts l (each once) at a; its table rises and can be walked -/
def SetS (w : World) (h : Heap) (a : Addr) (l : List Str) : Prop :=
  ∃ o es ep t, h.get? a = some o ∧ o.ExactSet ∧ o.data = .set es ep t ∧ (∀ e ∈ es.toList, GoodS w e) ∧ (es.toList.map keyS).Perm l ∧ l.Nodup ∧
    es.size < scanBound ∧ t.fits es.size = true ∧ Ris t.place.toList ∧ (w.params.followText "set-order" = true ∨ t.led = true)
section
variable {P : Program} {w : World} {h h' : Heap} {a : Addr} {l : List Str}
theorem SetS.at (R : SetS w h a l) (k : ∀ o, h.get? a = some o → h'.get? a = some o) : SetS w h' a l := by
  obtain ⟨o, es, ep, t, ho, r⟩ := R
  exact ⟨o, es, ep, t, k o ho, r⟩
theorem SetS.typeIs {s : Shared} (R : SetS w s.heap a l) : s.TypeIs (.ref a) "set" := by
  obtain ⟨o, es, ep, t, ho, hx, _⟩ := R
  exact ⟨o, ho, hx.1⟩
end
section
variable {P : Program} {w : World} {A : Around} {E : Value → Shared → Prop} {s : Shared} {a : Addr} {l : List Str}
end
end M
/-! M24: set(xs) for a list of texts, sorted of a set of texts. -/
namespace M
open PySem PySem.Spec PyProof.Rows L2

section
variable {P : Program} {w : World} {A : Around} {R : Result → Shared → Prop} {I : Addr} {fp wr : List Addr} {G : Array GenState → Array GenState → Prop} {n : Nat} {Pv : Nat → Value → Prop} {St : Nat → Shared → Prop}
end
section
variable {P : Program} {w : World} {A : Around} {E : Value → Shared → Prop} {s : Shared}
end
section
variable {P : Program} {w : World} {A : Around} {E : Value → Shared → Prop} {s : Shared} {a : Addr} {l : List Str}
end
end M
/-! M25: sorted(set(e)), texts. -/
namespace M
open PySem PySem.Spec PyProof.Rows L2

section
variable {X : Cx} {F : Fx} {pos : Pos}
end
end M
/-! M26: sorted({..}), texts. -/
namespace M
open PySem PySem.Spec PyProof.Rows L2

section
variable {P : Program} {w : World} {A : Around} {E : Value → Shared → Prop} {s : Shared} {a : Addr} {l : List Str}
end
section
variable {X : Cx}
end
end M
/-! M27: sorted({..}), texts. -/
namespace M
open PySem PySem.Spec PyProof.Rows L2

section
variable {X : Cx} {F : Fx} {pos : Pos}
end
end M
/-! M28: a text times an int. -/
namespace M
open PySem PySem.Spec PyProof.Rows L2

def okS (x : Str) (k : Int) : Prop := -(2 ^ 63) ≤ k ∧ k < 2 ^ 63 ∧ x.length * k.toNat ≤ sizeLine
instance (x : Str) (k : Int) : Decidable (okS x k) := by unfold okS; infer_instance
section
variable {X : Cx} {F : Fx} {pos : Pos} {W : Vw} {st : Sto}
end
end M
/-! M29: enumerate over tuples and lists. -/
namespace M
open PySem PySem.Spec PyProof.Rows L2
open AutoSeq1 (wpAny_loadPart')

section
variable {prog : Program} {w : World} {A : Around} {E : Value → Shared → Prop} {s : Shared}
theorem nextOf_tup_item {it l : Addr} {i : Nat} {items} {x : Value} {Q : Value → Shared → Prop} (hit : s.heap.IsTupleIter it l i)
    (hl : s.heap.IsTuple l items) (hx : items[i]? = some x)
    (hQ : ∀ h', h'.IsTupleIter it l (i + 1) → Heap.SameBut it s.heap h' → Q x { s with heap := h' }) :
    wpAny (model prog w) A (Builtin.SmallTypes.nextOf (.ref it)) Q E s := by
  obtain ⟨o, ho, hc, hd⟩ := id hit
  obtain ⟨ol, hol, _, nl, hdl⟩ := hl
  unfold Builtin.SmallTypes.nextOf
  refine wpAny_bind (wpAny_callSpecial?_slot (name := Str.ofString "__next__") hit.typeIs F.slot_tuple_iterator_next
    (wpAny_call_entry F.slot_tuple_iterator_next hit.typeIs F.entry_tuple_iterator_next ?_ (F.args_tuple_iterator_next_1 _)))
  show wpAny _ _ (field (.ref it) 0 >>= _) _ _ s
  refine wpAny_bind (wpAny_field ho hd (x := .ref l) rfl ?_)
  show wpAny _ _ (if (Value.ref l == Value.none) = true then _ else _) _ _ s
  rw [if_neg (show ¬ ((Value.ref l == Value.none) = true) from Bool.false_ne_true)]
  show wpAny _ _ (field (.ref it) 1 >>= _) _ _ s
  refine wpAny_bind (wpAny_field ho hd (x := .int i 0) rfl ?_)
  show wpAny _ _ (seqItems? (.ref l) >>= _) _ _ s
  refine wpAny_bind (wpAny_seqItems hol hdl ?_)
  simp only [Int.toNat_natCast, hx]
  refine wpAny_bind (wpAny_setField ho hd (by simp) (wpAny_pure ⟨x, rfl, wpAny_pure (hQ _ ?_ (Heap.SameBut.update ..))⟩))
  exact ⟨_, Heap.get?_update_self _ ho (Obj.isFreed_of_fields (Obj.data_mapFields hd _)), (Obj.cls_mapFields ..).trans hc, by
    rw [Obj.data_mapFields hd]; simp [rawInt]⟩

theorem nextOf_tup_end {it l : Addr} {i : Nat} {items} {Q : Value → Shared → Prop} (hh : A.handled = none)
    (hit : s.heap.IsTupleIter it l i) (hl : s.heap.IsTuple l items) (hx : items[i]? = none)
    (hE : ∀ h' e, Heap.ExtBut it s.heap h' → (∃ o, h'.get? e = some o ∧ o.cls = .type "StopIteration") → E (.ref e) { s with heap := h' }) :
    wpAny (model prog w) A (Builtin.SmallTypes.nextOf (.ref it)) Q E s := by
  obtain ⟨o, ho, hc, hd⟩ := id hit
  obtain ⟨ol, hol, _, nl, hdl⟩ := hl
  unfold Builtin.SmallTypes.nextOf
  refine wpAny_bind (wpAny_callSpecial?_slot (name := Str.ofString "__next__") hit.typeIs F.slot_tuple_iterator_next
    (wpAny_call_entry F.slot_tuple_iterator_next hit.typeIs F.entry_tuple_iterator_next ?_ (F.args_tuple_iterator_next_1 _)))
  show wpAny _ _ (field (.ref it) 0 >>= _) _ _ s
  refine wpAny_bind (wpAny_field ho hd (x := .ref l) rfl ?_)
  show wpAny _ _ (if (Value.ref l == Value.none) = true then _ else _) _ _ s
  rw [if_neg (show ¬ ((Value.ref l == Value.none) = true) from Bool.false_ne_true)]
  show wpAny _ _ (field (.ref it) 1 >>= _) _ _ s
  refine wpAny_bind (wpAny_field ho hd (x := .int i 0) rfl ?_)
  show wpAny _ _ (seqItems? (.ref l) >>= _) _ _ s
  refine wpAny_bind (wpAny_seqItems hol hdl ?_)
  simp only [Int.toNat_natCast, hx]
  refine wpAny_bind (wpAny_rule (wpAny_bind (wpAny_setField ho hd (by simp) ?_)))
  show wpAny _ _ (newExc (.type "StopIteration") [] >>= _) _ _ _
  refine wpAny_bind ?_
  simp only [newExc, newTuple]
  refine wpAny_bind (wpAny_newObj_type ?_ (by size_fits))
  refine wpAny_bind (m := firstArgMember _ _) (wpAny_of_eq (a := Value.none) (by first | rfl | (simp only [firstArgMember]; rfl)) ?_)
  refine wpAny_newObj_type ?_ (by size_fits)
  simp only [raiseNew]
  refine wpAny_bind (wpAny_handled ?_)
  first | rw [show A.in1.handled = none from hh] | rw [hh]
  refine wpAny_bind (wpAny_pure (wpAny_throw ?_))
  exact hE _ _ (((Heap.SameBut.update ..).extBut.push _).push _) ⟨_, Heap.get?_push_size _ rfl, rfl⟩


theorem draws_tup {prog : Program} {w : World} {A : Around} (hh : A.handled = none) (it l : Addr) (hne : l ≠ it) (items : Array Value) :
    Draws prog w A it [it, l] items.size (fun i v => items[i]? = some v) (fun i h => h.IsTupleIter it l i ∧ h.IsTuple l items) where
  live := fun _ _ st => let ⟨o, ho, _⟩ := st.1; ⟨o, ho⟩
  frame := fun _ _ _ st hk => ⟨st.1.at fun o e => hk it (by simp) o e, st.2.at fun o e => hk l (by simp) o e⟩
  item := fun i s Q E hi st hQ => by
    refine nextOf_tup_item st.1 st.2 (x := items[i]) (by simp [hi]) fun h' hit' hs' => ?_
    exact hQ _ h' s.toks (by simp [hi]) ⟨hit', st.2.extBut hs'.extBut hne⟩ hs'
  done := fun s Q E st hE => nextOf_tup_end hh st.1 st.2 (by simp) hE

theorem meets_enumT (l : Addr) (items : Array Value) (n : Nat) (dct : Option Addr) (sl : Array (Option Value)) :
    Meets (Builtin.«enumerate.__new__» ⟨[.type "enumerate", .ref l], []⟩) (fun _ R s => s.heap.get? l = some { cls := .type "tuple", dict := dct, data := .seq items n, slots := sl } ∧
      R (.ok (.ret (.ref (s.heap.push { cls := .type "tuple_iterator", data := .fields #[.ref l, .int 0 0] }).objs.size)))
        { s with heap := (s.heap.push { cls := .type "tuple_iterator", data := .fields #[.ref l, .int 0 0] }).push { cls := .type "enumerate", data := .fields #[.none, .bool false, .ref s.heap.objs.size, rawInt 0, .none, .none] } }) :=
  .of_wp fun prog w A R s h => by
    obtain ⟨hp, g, d, tk, os⟩ := s; obtain ⟨hl, h⟩ := h
    have hsub := sub_enumerate
    have hL : Heap.IsTuple (Shared.heap ⟨hp, g, d, tk, os⟩) l items := ⟨_, hl, rfl, n, rfl⟩
    wp_walk using wpAny_loadPart' hl
    refine wpAny_stack_any fun st => wpAny_pure ?_
    split
    · rename_i c _ _ _ _ _
      cases (c == Value.type "enumerate")
      · wp_walk using wpAny_loadPart' hl, wpAny_pyIter_tuple hL
        exact ⟨_, rfl, h⟩
      · wp_walk using wpAny_loadPart' hl, wpAny_pyIter_tuple hL
        exact ⟨_, rfl, h⟩
    · wp_walk using wpAny_loadPart' hl, wpAny_pyIter_tuple hL
      exact ⟨_, rfl, h⟩


theorem call_enumT {l : Addr} {items : Array Value} {Q : Value → Shared → Prop} (hL : s.heap.IsTuple l items)
    (h : ∀ h', IsEnum h' (s.heap.objs.size + 1) s.heap.objs.size 0 .none → h'.IsTupleIter s.heap.objs.size l 0 → h'.objs.size = s.heap.objs.size + 2 →
      (∀ b o, s.heap.get? b = some o → h'.get? b = some o) → Q (.ref (s.heap.objs.size + 1)) { s with heap := h' }) :
    wpAny (model prog w) A (call (.type "enumerate") [.ref l]) Q E s := by
  obtain ⟨⟨c, dct, dt, sl⟩, hl, hc, n, hd⟩ := hL
  replace hc : c = .type "tuple" := hc
  replace hd : dt = .seq items n := hd
  subst hc hd
  refine callType_new F.called_enumerate (by decide) (F.typeCall_enumerate_1 _) (F.newCall_enumerate_1 _) (fun obj => F.args_object_init_2 obj _) F.entry_enumerate_new
    (meets_enumT l items n dct sl) ⟨hl, ?_⟩
  have hz : (s.heap.push { cls := .type "tuple_iterator", data := .fields #[.ref l, .int 0 0] }).objs.size = s.heap.objs.size + 1 := Heap.size_push ..
  show _ ∧ _
  rw [hz]
  have he : IsEnum ((s.heap.push { cls := .type "tuple_iterator", data := .fields #[.ref l, .int 0 0] }).push
      { cls := .type "enumerate", data := .fields #[.none, .bool false, .ref s.heap.objs.size, rawInt 0, .none, .none] }) (s.heap.objs.size + 1) s.heap.objs.size 0 .none := by
    have := Heap.get?_push_size (s.heap.push { cls := .type "tuple_iterator", data := .fields #[.ref l, .int 0 0] })
      (o := { cls := .type "enumerate", data := .fields #[.none, .bool false, .ref s.heap.objs.size, rawInt 0, .none, .none] }) rfl
    rw [hz] at this; exact this
  refine ⟨⟨_, he, rfl⟩, h _ he ⟨_, Heap.get?_push_of_some _ (Heap.get?_push_size _ rfl), rfl, rfl⟩ (by rw [Heap.size_push, hz]) fun b o x => Heap.get?_push_of_some _ (Heap.get?_push_of_some _ x)⟩


theorem wpAny_pyNext_enum_endI {e it l : Addr} {i : Nat} {items : Array Value} {old : Value} {Q : Option Value → Shared → Prop} (hh : A.handled = none)
    (he : IsEnum s.heap e it i old) (hit : s.heap.IsTupleIter it l i) (hl : s.heap.IsTuple l items) (hx : items[i]? = none)
    (hQ : ∀ h', Heap.ExtBut it s.heap h' → Q none { s with heap := h' }) : wpAny (model prog w) A (pyNext (.ref e)) Q E s := by
  have hT : s.TypeIs (.ref e) "enumerate" := ⟨_, he, rfl⟩
  unfold pyNext
  refine wpAny_bind (wpAny_attempt (wpAny_callSpecial?_slot (name := Str.ofString "__next__") hT F.slot_enumerate_next
    (wpAny_call_entry F.slot_enumerate_next hT F.entry_enumerate_next ?_ (F.args_enumerate_next_1 _))))
  show wpAny _ _ (field (.ref e) 2 >>= _) _ _ _
  refine wpAny_bind (wpAny_field he rfl (x := .ref it) rfl ?_)
  refine wpAny_bind (nextOf_tup_end hh hit hl hx fun h' x he' hx' => ?_)
  obtain ⟨o, ho, hc⟩ := hx'
  refine wpAny_bind (wpAny_isInstance (T := "StopIteration") (b := true) ⟨o, ho, hc⟩ isSubtype_stop ?_)
  exact wpAny_pure (hQ _ he')
end
/-- the tuple at a as it stands at each turn, each item in a new pair -/
def Itu (K : PySem.W.Frag) (a : Addr) : It :=
  ⟨fun i H => ∃ (xs : List V) (x : V), SqT K H a xs ∧ xs[i]? = some x, fun i H v H' => ∃ T x, v = .ref T ∧ H T = none ∧ H' = upd H T (.tup [.int (i : Nat), x]) ∧ ∀ xs, SqT K H a xs → xs[i]? = some x, fun i H => ∃ xs : List V, SqT K H a xs ∧ xs.length ≤ i⟩
theorem turn_enumT {P : Program} {w : World} {K : PySem.W.Frag} {elts : List Expr} {kk : Nat} {tpos : Pos} (a e it : Addr) :
    Turn P w K (.Tuple elts kk tpos) (Itu K a) [e, it] e (fun i h => (∃ old, IsEnum h e it ((i : Nat) : Int) old) ∧ h.IsTupleIter it a i ∧ e ≠ it) where
  mem := by simp
  obj := fun i h st b hb => by
    obtain ⟨⟨old, he⟩, ⟨o, ho, hc, hd⟩, _⟩ := st
    have e' : b = e ∨ b = it := by simpa using hb
    rcases e' with z | z
    · rw [z]; exact ⟨_, he, fun v q => nomatch q⟩
    · rw [z]; exact ⟨o, ho, fun v q => by rw [hd] at q; cases q⟩
  keep := fun i h h' st k => let ⟨⟨old, he⟩, hi, hne⟩ := st; ⟨⟨old, k e (by simp) _ he⟩, hi.at fun o q => k it (by simp) o q, hne⟩
  item := by
    intro X hP hw hK hc i pins s σ H E I hf st hg
    subst hP hw hK
    obtain ⟨⟨old, he⟩, hit, hne⟩ := st
    obtain ⟨xs, x, hq, hx⟩ := hg
    obtain ⟨its, rv, p, hz⟩ := I.tuple hq
    obtain ⟨u, hu, ru⟩ := rv.get hx
    have hel : e < s.heap.objs.size := Heap.lt_size he
    have hil : it < s.heap.objs.size := by obtain ⟨_, q, _⟩ := hit; exact Heap.lt_size q
    have hlt : i < its.toArray.size := by
      have := (List.getElem?_eq_some_iff.mp hu).1
      simpa using this
    have hxu : its.toArray[i]? = some u := by simpa using hu
    have hae : a ≠ e := fun z => by
      obtain ⟨o, ho, hc, _⟩ := id (show s.heap.IsTuple a its.toArray from p)
      rw [z, he] at ho
      cases ho
      exact absurd (Value.type.inj hc) (by decide)
    have hai : a ≠ it := fun z => by
      obtain ⟨o, ho, hc, _⟩ := id (show s.heap.IsTuple a its.toArray from p)
      obtain ⟨o2, ho2, hc2, _⟩ := id hit
      rw [z, ho2] at ho
      cases ho
      rw [hc2] at hc
      exact absurd (Value.type.inj hc) (by decide)
    refine wpAny_pyNext_enum_itemD (n := its.toArray.size) (draws_tup (A := X.A.in1) (I.ok.hd hc) it a hai its.toArray) he ⟨hit, p⟩ hlt hne (by simp; exact ⟨hne, fun z => hae z.symm⟩) fun u' h' tk hu' ho hst' hT hsz hk => ?_
    obtain ⟨hit', _⟩ := hst'
    rw [hxu] at hu'
    cases hu'
    refine ⟨_, rfl, wpAny_letOwnedTupleGo_enum (s := { s with heap := h', toks := tk + 1 }) ho fun h'' he' sb => ?_⟩
    have hT2 : h''.get? s.heap.objs.size = some { cls := .type "tuple", data := .seq #[.int i tk, u] } := (sb.2 _ (Nat.ne_of_gt hel)).trans hT
    have new : ObjOk X.prog X.w (upd H s.heap.objs.size (.tup [.int (i : Nat), x])) h'' s.heap.objs.size (.tup [.int (i : Nat), x]) :=
      ⟨by show 2 ≤ sizeLine; decide, [.int i tk, u], .cons ⟨_, rfl⟩ (.cons ru .nil), ⟨_, hT2, rfl, _, rfl⟩⟩
    have I1 : Inv X pins σ (upd H s.heap.objs.size (.tup [.int (i : Nat), x])) { s with heap := h'', toks := tk + 1 } :=
      I.turnedNew (ch := [e, it]) (fun b ob hb q => (sb.2 b (fun z => hb (by simp [z]))).trans (hk b ob (fun z => hb (by simp [z])) (fun z => hb (by simp [z])) q)) hf (Nat.le_refl _) new
    refine ⟨.ref s.heap.objs.size, _, I1, rfl, ⟨_, x, rfl, I.hok.fresh (Nat.le_refl _), rfl, fun ys hy => by rw [I.tuple_inj hy hq]; exact hx⟩, ⟨⟨u, ?_⟩, hit'.at fun o q => (sb.2 it (Ne.symm hne)).trans q, hne⟩, fun b hb => ?_⟩
    · have e1 : ((i + 1 : Nat) : Int) = (i : Int) + 1 := by omega
      rw [e1]; exact he'
    · have hb' : b < s.heap.objs.size := by
        have e' : b = e ∨ b = it := by simpa using hb
        rcases e' with z | z
        · rw [z]; exact hel
        · rw [z]; exact hil
      rw [upd_ne (Nat.ne_of_lt hb')]
      exact (hf b hb).1
  done := by
    intro X hP hw hK hc i pins s σ H E I hf st hg
    subst hP hw hK
    obtain ⟨⟨old, he⟩, hit, hne⟩ := st
    obtain ⟨xs, hq, hx⟩ := hg
    obtain ⟨its, rv, p, hz⟩ := I.tuple hq
    obtain ⟨f0, f1, f2, f3, f4, f5⟩ := hf it (by simp)
    have hl := rv.length
    have hai : a ≠ it := fun z => by
      obtain ⟨o, ho, hc, _⟩ := id (show s.heap.IsTuple a its.toArray from p)
      obtain ⟨o2, ho2, hc2, _⟩ := id hit
      rw [z, ho2] at ho
      cases ho
      rw [hc2] at hc
      exact absurd (Value.type.inj hc) (by decide)
    have hsz : its.toArray.size ≤ i := by simp; omega
    refine wpAny_pyNext_enum_endI (I.ok.hd hc) he hit (show s.heap.IsTuple a its.toArray from p) (by simp; omega) fun h' eb => ⟨rfl, I.turned (t' := s.toks) (fun b o hb q => eb b o hb q) f0 f1 f3 f4 f5⟩
  self := fun A i s Q E st h => let ⟨⟨_, he⟩, _⟩ := st; wpAny_pyIter_enum he h
end M
/-! M30: loops over enumerate(e). -/
namespace M
open PySem PySem.Spec PyProof.Rows L2

def iEnumT (K : PySem.W.Frag) (ta : TA) : L2.TI := fun σ H R => ta σ H fun vs H1 => ∃ a, vs = [.ref a] ∧ ((∃ xs, SqL K H1 a xs ∧ R (Ite K a) H1) ∨ ∃ xs, SqT K H1 a xs ∧ R (Itu K a) H1)
theorem pi_enumT {X : Cx} {e : Expr} {ta : TA} {p pos tpos : Pos} {elts : List Expr} {kk : Nat} (hg : Gl X "enumerate") (hm : X.mg "enumerate" = none) (ha : PA X [e] ta) (hs : starEach [e] X.env = [(false, eval e X.env)] := by rfl) :
    PI X (.Tuple elts kk tpos) (.Call (.Name "enumerate" p) [e] [] pos) (iEnumT X.K ta) := by
  refine ⟨fun pins s σ H R I h => ?_⟩
  refine Call_ (ld_blt I hg hm boot_enumerate (PyProof.Rows.callWith_type1 (thn (ha.run pos pins s σ H _ I h) fun us s1 ⟨vs, H1, I1, r1, q1⟩ => ?_) hs rfl))
  obtain ⟨a, ex, q1⟩ := q1
  subst ex
  cases r1 with
  | cons r rr =>
    cases rr
    cases r
    have fp : ∀ b ∈ [s1.heap.objs.size + 1, s1.heap.objs.size], FpOk X pins H1 b := fun b hb => by
      have e' : b = s1.heap.objs.size + 1 ∨ b = s1.heap.objs.size := by simpa using hb
      have hle : s1.heap.objs.size ≤ b := by
        rcases e' with z | z
        · rw [z]; exact Nat.le_add_right _ _
        · rw [z]; exact Nat.le_refl _
      exact I1.fpOk hle (I1.hok.fresh hle)
    rcases q1 with ⟨xs, hq, q⟩ | ⟨xs, hq, q⟩
    · obtain ⟨its, rv, p', hz⟩ := I1.list hq
      refine call_enumerate_list p'.isList fun h' he hit hsz hk => wpAny_pyIter_enum he ?_
      exact ⟨s1.heap.objs.size + 1, [s1.heap.objs.size + 1, s1.heap.objs.size], _, _, H1, rfl, I1.kept (t' := s1.toks) hk, turn_enum a (s1.heap.objs.size + 1) s1.heap.objs.size, ⟨⟨.none, he⟩, hit, Nat.succ_ne_self _⟩, fp, q⟩
    · obtain ⟨its, rv, p', hz⟩ := I1.tuple hq
      refine call_enumT (show s1.heap.IsTuple a its.toArray from p') fun h' he hit hsz hk => wpAny_pyIter_enum he ?_
      exact ⟨s1.heap.objs.size + 1, [s1.heap.objs.size + 1, s1.heap.objs.size], _, _, H1, rfl, I1.kept (t' := s1.toks) hk, turn_enumT a (s1.heap.objs.size + 1) s1.heap.objs.size, ⟨⟨.none, he⟩, hit, Nat.succ_ne_self _⟩, fp, q⟩
def nxE (xs : List D) : Nx := fun i st => match xs[i]? with
  | some d => some (some (.tup [.int i, d]))
  | none => some none
def kEnumW : List D → Sto → R (Nx × Nat) := fun ds s => match ds with
  | [.tup xs] => .ok (nxE xs, xs.length) s
  | [.lst xs] => .ok (nxE xs, xs.length) s
  | _ => .bad
def wEnum (j : IA) : IW := fun env st => (j env st).bind kEnumW
section
variable {W : Vw} {X : Cx} {F : Fx} {pos : Pos}
theorem pair_new {V : Vw} {st : Sto} {T : Addr} {i : Nat} {d : D} {v : L2.V} (S : Sim V st) (hT : V.H T = none) (rv : RV V d v) :
    Ext V V.ρ (upd V.H T (.tup [.int (i : Nat), v])) ∧ Sim (V.to V.ρ (upd V.H T (.tup [.int (i : Nat), v]))) st ∧ RV (V.to V.ρ (upd V.H T (.tup [.int (i : Nat), v]))) (.tup [.int i, d]) (.ref T) :=
  ⟨ext_new0 hT, S.new0 hT, .tup (.inl ⟨.inl upd_same, new_fro S hT⟩) (.cons (.int i) (.cons (rv.mono (ext_new0 hT)) .nil))⟩
theorem itok_enumT {a : Addr} {xs : List D} {ys : List L2.V} {m : Nat} (t : W.Tup a ys) (r : RVs W xs ys) : ItOk W (nxE xs, m) (Itu W.K a) where
  go := fun V st i d x S e => by
    have e0 : nxE xs i st = some (some d) := e
    unfold nxE at e0
    split at e0
    · rename_i z e'
      cases e0
      have t' := (t.vx x).sq
      have r' := r.vx x
      rw [x.k] at t'
      obtain ⟨v, hv, rv⟩ := r'.get e'
      refine ⟨⟨ys, v, t', hv⟩, fun y H2 ⟨T, u, ey, hT, e2, f⟩ => ?_⟩
      subst ey
      subst e2
      have q := f ys t'
      rw [hv] at q
      cases q
      exact pair_new S hT rv
    · cases e0
  stop := fun V st i x S e => by
    have e0 : nxE xs i st = some none := e
    unfold nxE at e0
    split at e0
    · cases e0
    · rename_i e'
      refine ⟨ys, by rw [← x.k]; exact (t.vx x).sq, ?_⟩
      rw [← r.length]
      exact List.getElem?_eq_none_iff.mp e'
theorem itok_enumL {a : Addr} {xs : List D} {ys : List L2.V} {m : Nat} (t : W.Lst a ys) (r : RVs W xs ys) : ItOk W (nxE xs, m) (Ite W.K a) where
  go := fun V st i d x S e => by
    have e0 : nxE xs i st = some (some d) := e
    unfold nxE at e0
    split at e0
    · rename_i z e'
      cases e0
      have t' := (t.vx x).sq
      have r' := r.vx x
      rw [x.k] at t'
      obtain ⟨v, hv, rv⟩ := r'.get e'
      refine ⟨⟨ys, v, t', hv⟩, fun y H2 ⟨T, u, ey, hT, e2, f⟩ => ?_⟩
      subst ey
      subst e2
      have q := f ys t'
      rw [hv] at q
      cases q
      exact pair_new S hT rv
    · cases e0
  stop := fun V st i x S e => by
    have e0 : nxE xs i st = some none := e
    unfold nxE at e0
    split at e0
    · cases e0
    · rename_i e'
      refine ⟨ys, by rw [← x.k]; exact (t.vx x).sq, ?_⟩
      rw [← r.length]
      exact List.getElem?_eq_none_iff.mp e'
/-- for x, y in enumerate(e) -/
theorem w_enum {elts : List Expr} {kk : Nat} {tpos p : Pos} {e : Expr} {j : IA} (hk : X.K = F.K) (hg : Gl X "enumerate") (hm : X.mg "enumerate" = none) (ha : PA X [e] (TA_ F j)) (hs : starEach [e] X.env = [(false, eval e X.env)] := by rfl) :
    PI X (.Tuple elts kk tpos) (.Call (.Name "enumerate" p) [e] [] pos) (TW F (wEnum j)) := PI.imp (pi_enumT hg hm ha hs) fun σ H Q h =>
  (TX.bind (k := fun ds env s => kEnumW ds s) h).mono fun x H1 ⟨W, s, env, ds, A, r, p⟩ => by
    have p' : Post W ItOk (kEnumW ds s) Q (F.at_ σ) := p
    unfold kEnumW at p'
    split at p'
    · rename_i xs
      obtain ⟨v, rfl, rv⟩ := rv1 r
      cases rv with
      | tup t r2 =>
        have q := p' W.ρ W.H _ Ext.refl A.sim (itok_enumT t r2)
        have t' := t.sq
        rw [A.k, ← hk] at q t'
        rw [A.h] at q t'
        exact ⟨_, rfl, .inr ⟨_, t', q⟩⟩
    · rename_i xs
      obtain ⟨v, rfl, rv⟩ := rv1 r
      cases rv with
      | lst t r2 =>
        have q := p' W.ρ W.H _ Ext.refl A.sim (itok_enumL t r2)
        have t' := t.sq
        rw [A.k, ← hk] at q t'
        rw [A.h] at q t'
        exact ⟨_, rfl, .inl ⟨_, t', q⟩⟩
    · exact p'.elim
end
end M
/-! M31: x, y, z = a, b, c. -/
namespace M
open PySem PySem.Spec PyProof.Rows L2
section
variable {X : Cx} {F : Fx} {pos : Pos}
/-- x, y, z = a, b, c: all three first -/
def sPar3 (i j l : Nat) (a : IA) : IS := fun env st => liftS (a env st) env fun ds s => match ds with
  | [d, e, f] => .nx (((env.set i (some d)).set j (some e)).set l (some f)) s
  | _ => .bad
end
end M
/-! M32: any target ahead in a tuple of targets. -/
namespace M
open PySem PySem.Spec PyProof.Rows L2
section
variable {X : Cx} {F : Fx} {pos : Pos}
def gsCons (g : IG) (h : IGs) : IGs := fun ds env st => match ds with
  | d :: ds => (g d env st).bind fun env' s => h ds env' s
  | [] => .bad
theorem gs_cons {e : Expr} {es : List Expr} {g : IG} {h : IGs} (h1 : PG X e (TG_ F g)) (h2 : PGs X es (TGs_ F h)) (ne : ∀ ds env st C fs s, h ds env st ≠ .exc C fs s)
    (hs : (assignEach (e :: es) X.env).map (·.2) = assign e X.env :: (assignEach es X.env).map (·.2) := by rfl) : PGs X (e :: es) (TGs_ F (gsCons g h)) := by
  refine ⟨fun pins s σ H vs us Q I r w => (pgs_cons (X := X) h1 h2 hs).run pins s σ H vs us Q I r ?_⟩
  obtain ⟨W, s, env, ds, A, rv, p⟩ := w
  unfold gsCons at p
  split at p
  · rename_i d ds
    cases rv with
    | cons r1 r3 =>
      refine ⟨_, _, rfl, W, s, env, d, A, r1, ?_⟩
      cases q : g d env s with
      | bad => rw [q] at p; exact p
      | exc C fs s2 => rw [q] at p; exact p
      | ok e2 s2 =>
        rw [q] at p
        intro ρ' H' σ' x S er
        refine ⟨W.to ρ' H', s2, e2, ds, ⟨A.k, A.g, rfl, S, er⟩, r3.mono x, ?_⟩
        have p2 : Post W PE_ (h ds e2 s2) Q (F.at_ σ) := p
        have p3 := Post.ext x p2
        cases z : h ds e2 s2 with
        | ok e3 s3 => rw [z] at p3; exact p3
        | exc C fs s3 => exact absurd z (ne _ _ _ _ _ _)
        | bad => rw [z] at p3; exact p3
  · exact p.elim
end
end M
/-! M33: recursion by fuel: with no fuel nothing is promised. -/
namespace M
open PySem PySem.Spec PyProof.Rows L2
end M
/-! M34: tuples of the module, walks of texts, of anything; str of a text; own classes' facts; the Hook with properties. -/
namespace M
open PySem PySem.Spec PyProof.Rows L2

/-! ### a tuple written at the module's top -/
def dvD : He.Dv → D
  | .bl b => .bl b
  | .int i => .int i
  | .str x => .str x
  | .glo x => .glo x
  | _ => .non
def dvOk : He.Dv → Bool
  | .non => true
  | .bl _ => true
  | .int _ => true
  | .str _ => true
  | .glo _ => true
  | _ => false
theorem dv_rv {W : Vw} {K : PySem.W.Frag} (hg : W.g = He.ga K) {v : He.Dv} (h : dvOk v = true) : RV W (dvD v) (v.v K) := by
  cases v <;> first | exact .non | exact .bl _ | exact .int _ | exact .str _ | (rw [show (He.Dv.glo _).v K = V.ref (W.g _) by rw [hg]; rfl]; exact .glo _) | cases h
theorem dvs_rv {W : Vw} {K : PySem.W.Frag} (hg : W.g = He.ga K) : ∀ {vs : List He.Dv}, vs.all dvOk = true → RVs W (vs.map dvD) (vs.map (He.Dv.v K))
  | [], _ => .nil
  | v :: vs, h => by
    have h' := He.ba (show (dvOk v && vs.all dvOk) = true from h)
    exact .cons (dv_rv hg h'.1) (dvs_rv hg h'.2)
section
variable {X : Cx} {F : Fx} {pos : Pos}
/-! ### walks -/
def nxS (x : Str) : Nx := fun i _ => match x.cps[i]? with
  | some c => some (some (.str ⟨#[c]⟩))
  | none => some none
theorem itok_str {W : Vw} {x : Str} {m : Nat} : ItOk W (nxS x, m) (Its x) where
  go := fun V st i d vx S e => by
    have e' : (match x.cps[i]? with
      | some c => some (some (D.str ⟨#[c]⟩))
      | none => some none) = some (some d) := e
    cases q : x.cps[i]? with
    | none => rw [q] at e'; cases e'
    | some c =>
      rw [q] at e'
      cases e'
      refine ⟨(Array.getElem?_eq_some_iff.mp q).1, fun y H2 ⟨e2, c', h1, h2⟩ => ?_⟩
      rw [q] at h1
      cases h1
      subst h2 e2
      exact ⟨Ext.refl, S, .str _⟩
  stop := fun V st i vx S e => by
    have e' : (match x.cps[i]? with
      | some c => some (some (D.str ⟨#[c]⟩))
      | none => some none) = some none := e
    cases q : x.cps[i]? with
    | none => exact Array.getElem?_eq_none_iff.mp q
    | some c => rw [q] at e'; cases e'
def kStrW (d : D) (s : Sto) : R (Nx × Nat) := match d with
  | .str x => .ok (nxS x, x.cps.size) s
  | _ => .bad
def wStr (i : IE) : IW := fun env st => (i env st).bind kStrW
theorem w_str {tg l : Expr} {i : IE} (hl : PE X l (TI F i)) : PI X tg l (TW F (wStr i)) := PI.imp (pi_str hl) fun σ H Q h =>
  (TX.bind (k := fun d env s => kStrW d s) h).mono fun x H1 ⟨W, s, env, d, A, r, p⟩ => by
    have p' : Post W ItOk (kStrW d s) Q (F.at_ σ) := p
    unfold kStrW at p'
    split at p'
    · cases r
      have q := p' W.ρ W.H _ Ext.refl A.sim itok_str
      rw [A.h] at q
      exact ⟨_, rfl, q⟩
    · exact p'.elim
end
end M
/-! M35: str of a text or an int; own classes' facts; the Hook with properties. -/
namespace M
open PySem PySem.Spec PyProof.Rows L2
open He (eqO eqO_ok ba)

def opStrS : OpN := fun ds st => match ds with
  | [.str a] => some (.str a, st)
  | [.int i] => opStr [.int i] st
  | _ => none
section
variable {X : Cx} {F : Fx} {W : Vw} {st : Sto} {pos : Pos}
theorem cr_strS : CallR X (.type "str") (rN F opStrS) := fun pins s σ H xs us Q I r ⟨W, st, ds, J, rd, p⟩ => by
  unfold opStrS at p
  split at p
  · obtain ⟨v, rfl, rv⟩ := rv1 rd
    cases rv
    obtain ⟨u, rfl, t, rfl⟩ := vals1 r
    exact PySem.P.str_of_str ⟨.str _, H, I, ⟨t, rfl⟩, J.now p (.str _)⟩
  · exact cr_str pins s σ H xs us Q I r ⟨W, st, _, J, rd, p⟩
  · exact p.elim
/-- walks of tuples, lists, texts -/
def kAnyW (d : D) (s : Sto) : R (Nx × Nat) := match d with
  | .tup _ => kTupW d s
  | .str _ => kStrW d s
  | _ => kSeqW d s
def wAny (i : IE) : IW := fun env st => (i env st).bind kAnyW
theorem PI.or {tg e : Expr} {t t' : L2.TI} (h : PI X tg e t) (h' : PI X tg e t') : PI X tg e (fun σ H R => t σ H R ∨ t' σ H R) := ⟨fun p s σ H Q I q => q.elim (h.run p s σ H Q I) (h'.run p s σ H Q I)⟩
end
/-! ### own classes -/
theorem insB_ok {K : PySem.W.Frag} {x : Str} (h : insB K x = true) : InsF K (He.ga K x) := by
  obtain ⟨h1, h⟩ := ba h
  obtain ⟨h2, h⟩ := ba h
  obtain ⟨h3, h⟩ := ba h
  obtain ⟨h4, h5⟩ := ba h
  exact ⟨He.cls_ok h1, eqO_ok h2, eqO_ok h3, of_decide_eq_true h4, of_decide_eq_true h5⟩
theorem eqcB_ok {K : PySem.W.Frag} {x : Str} {ts : List String} (h : eqcB K x ts = true) : EqC K (He.ga K) x (He.ma K (He.ga K x) "__eq__") ts := by
  obtain ⟨h1, h⟩ := ba h
  obtain ⟨h2, h⟩ := ba h
  obtain ⟨h3, h⟩ := ba h
  obtain ⟨h4, h5⟩ := ba h
  exact ⟨eqO_ok h1, h2, eqO_ok h3, of_decide_eq_true h4, fun t ht => of_decide_eq_true (List.all_eq_true.mp h5 t ht)⟩
theorem slotB_ok {K : PySem.W.Frag} {x m : Str} (h : slotB K x m = true) : PySem.W.findIn K (.ref (He.ga K x)) m = some (some (.ref (He.ma K (He.ga K x) m))) ∧ PySem.W.isFn K (.ref (He.ma K (He.ga K x) m)) = true := ⟨eqO_ok (ba h).1, (ba h).2⟩
structure StatOf (K : PySem.W.Frag) (C : Addr) (f : Str) (p g : Addr) : Prop where
  rd : PySem.W.readsIn K C (.type "type") = true
  ga : PySem.W.specialIn K (.ref C) "__getattribute__" = some (some (.builtin "type.__getattribute__"))
  at_ : PySem.W.findCls K (.ref C) (.type "type") f = some (.get (.builtin "staticmethod.__get__") (.ref p) .none (.ref C))
  rc : ∃ rest, PySem.W.recIn K p "staticmethod" = some (.ref g :: rest)
theorem statB_ok {K : PySem.W.Frag} {x f : Str} (h : statB K x f = true) : StatOf K (He.ga K x) f (ppA K x f) (sfA K x f) := by
  obtain ⟨h1, h⟩ := ba h
  obtain ⟨h2, h⟩ := ba h
  obtain ⟨h3, h4⟩ := ba h
  refine ⟨h1, eqO_ok h2, ?_, ?_⟩
  · split at h3
    · rename_i g p D e
      obtain ⟨k1, k⟩ := ba h3
      obtain ⟨k2, k3⟩ := ba k
      rw [e, of_decide_eq_true k1, of_decide_eq_true k2, of_decide_eq_true k3]
    · cases h3
  · unfold isRef at h4
    split at h4
    · rename_i a r e
      rw [of_decide_eq_true h4] at e
      exact ⟨r, e⟩
    · cases h4
theorem PD.funD {K : PySem.W.Frag} {d : PD} (e : fnA K (d.adr K) = d.val) (c : d.ok K = true) : ∃ fd, FunD K d.name d.qual d.params d.body d.scope [] [] (d.adr K) fd := by
  obtain ⟨_, c⟩ := ba c
  obtain ⟨kp, c2⟩ := ba c
  unfold fnA at e
  cases q : K.lookup (d.adr K) with
  | none =>
    rw [q] at c2
    cases c2
  | some o =>
    obtain ⟨oc, od, dt, osl⟩ := o
    rw [q] at c2 e
    cases dt with
    | func fd =>
      obtain ⟨n1, n2, n3, n4, n5, n6, n7, n8, n9, n10, n11, n12, n13, n14, n15⟩ := fd
      have e2 : (some (n1, n2, n3, n4, n5, n6, n7, n15) : He.FnW) = some (d.name, d.qual, d.params, .stmts d.body, d.scope, mainGlobals, [], builtinsNs) := e
      simp only [Option.some.injEq, Prod.mk.injEq] at e2
      obtain ⟨h1, h2, h3, h4, h5, h6, h7, h8⟩ := e2
      subst h1 h2 h3 h4 h5 h6 h7 h8
      have c3 : (PySem.W.codeIn K n13 d.qual && (He.dflB K n8 [] && He.kwdB K n9 [])) = true := c2
      obtain ⟨k1, k2⟩ := ba c3
      obtain ⟨k3, k4⟩ := ba k2
      exact ⟨_, ⟨oc, od, n8, n9, n10, n11, n12, n13, n14, osl, rfl, q, k1, He.dflB_ok k3, He.kwdB_ok k4⟩, kp⟩
    | _ => cases c2
/-! ### the Hook -/
section
variable {n : Nat} {B : PySem.W.Frag → Bool} {fa : List He.Fa} {fn : List He.DefD} {pd : List PD} {K : PySem.W.Frag}
theorem SaysP.says (c : SaysP B fa fn pd K) : He.SaysD fa fn K := congrArg (fun z : AlP => z.2.1) c
theorem SaysP.bb (c : SaysP B fa fn pd K) : (B K && pd.all (fun d => d.ok K)) = true := congrArg (fun z : AlP => z.1) c
theorem SaysP.b (c : SaysP B fa fn pd K) : B K = true := (ba c.bb).1
theorem SaysP.pdd (c : SaysP B fa fn pd K) (i : Nat) {d : PD} (h : pd[i]? = some d) : d.ok K = true ∧ ∃ fd, FunD K d.name d.qual d.params d.body d.scope [] [] (d.adr K) fd := by
  have c1 := List.all_eq_true.mp (ba c.bb).2 d (List.mem_of_getElem? h)
  have e : pd.map (fun d => fnA K (d.adr K)) = pd.map PD.val := congrArg (fun z : AlP => z.2.2) c
  have e2 : (pd.map fun d => fnA K (d.adr K))[i]? = (pd.map PD.val)[i]? := by rw [e]
  rw [List.getElem?_map, List.getElem?_map, h] at e2
  exact ⟨c1, PD.funD (Option.some.inj e2) c1⟩
theorem SaysP.stat (c : SaysP B fa fn pd K) (i : Nat) {d : PD} (h : pd[i]? = some d := by rfl) (hs : d.stat = true := by rfl) : StatOf K (He.ga K d.cls) d.fld (ppA K d.cls d.fld) (sfA K d.cls d.fld) ∧ ∃ fd, FunD K d.name d.qual d.params d.body d.scope [] [] (sfA K d.cls d.fld) fd := by
  obtain ⟨c1, c2⟩ := c.pdd i h
  unfold PD.adr at c2
  unfold PD.ok at c1
  rw [hs] at c1 c2
  exact ⟨statB_ok (ba c1).1, c2⟩
end
end M
/-! M36: walks of anything; lists of both kinds added, extended; defs that read the store and hand back plain values. -/
namespace M
open PySem PySem.Spec PyProof.Rows L2
section
variable {X : Cx} {F : Fx} {W : Vw} {st : Sto} {pos : Pos}
theorem w_any {tg l : Expr} {i : IE} (hk : X.K = F.K) (hl : PE X l (TI F i)) : PI X tg l (TW F (wAny i)) := PI.imp (PI.or (w_tup hk hl) (PI.or (w_str hl) (w_seq hk hl))) fun σ H Q ⟨W, st, env, A, p⟩ => by
  have p' : Post W ItOk ((i env st).bind kAnyW) Q (F.at_ σ) := p
  cases e : i env st with
  | bad => rw [e] at p'; exact p'.elim
  | exc C fs s =>
    rw [e] at p'
    refine .inr (.inr ⟨W, st, env, A, ?_⟩)
    show Post W ItOk ((i env st).bind kSeqW) Q (F.at_ σ)
    rw [e]; exact p'
  | ok d s =>
    rw [e] at p'
    have p2 : Post W ItOk (kAnyW d s) Q (F.at_ σ) := p'
    unfold kAnyW at p2
    split at p2
    · refine .inl ⟨W, st, env, A, ?_⟩
      show Post W ItOk ((i env st).bind kTupW) Q (F.at_ σ)
      rw [e]; exact p2
    · refine .inr (.inl ⟨W, st, env, A, ?_⟩)
      show Post W ItOk ((i env st).bind kStrW) Q (F.at_ σ)
      rw [e]; exact p2
    · refine .inr (.inr ⟨W, st, env, A, ?_⟩)
      show Post W ItOk ((i env st).bind kSeqW) Q (F.at_ σ)
      rw [e]; exact p2
/-! ### lists added -/
end
/-! ### a def that reads the store and hands back a plain value -/
def plainD : Nat → D → Bool
  | 0, _ => false
  | n + 1, d => match d with
    | .non => true
    | .bl _ => true
    | .int _ => true
    | .str _ => true
    | .tup xs => xs.all (plainD n)
    | _ => false
def pureT (f : Fn) : Fn := fun ds st => match allP (frz st 70) ds with
  | some ds' => (match f ds' [] with
    | .ok d _ => if plainD 20 d = true then .ok d st else .bad
    | _ => .bad)
  | none => .bad
section
variable {P : Program} {w : World} {K : PySem.W.Frag} {mg : Str → Option Value} {base : Heap} {g : GG} {k : Nat} {fa : Addr} {fd : FuncData} {ps : List Str} {f : Fn}
end
end M
/-! M37: what the printed walks lean on. -/
namespace M
open PySem PySem.Spec PyProof.Rows L2
/-- a bound of a while's turns: the length of the list in a slot -/
def mLen (i : Nat) : Env → Sto → Nat := fun env st => match env[i]? with
  | some (some d) => (match aseq st d with
    | some xs => xs.length + 1
    | none => 0)
  | _ => 0
section
variable {K : PySem.W.Frag} {x qual : Str} {params : Arguments} {body : List Stmt} {scope : Scope} {f : Addr} {fd : FuncData} {ps ks : List Str} {v : Value} {ws : List Value} {s : Shared}
end
end M
/-! M38: defs called where an exception is handled, that look at none of it. -/
namespace M
open PySem PySem.Spec PyProof.Rows L2
section
variable {P : Program} {w : World} {K : PySem.W.Frag} {mg : Str → Option Value} {base : Heap} {g : GG}
/-- a def's promise, be an exception handled or not -/
structure FnW (P : Program) (w : World) (K : PySem.W.Frag) (mg : Str → Option Value) (base : Heap) (k : Nat) (f : Addr) (fd : FuncData) (ps : List Str) (sp : Sp) : Prop where
  len : ∀ vs H Q E, sp vs H Q E → vs.length = ps.length
  run : ∀ (A : Around) (outer : List PySem.Env) (s : Shared) (H : Hp) (args : Args) (us : List Value) (vs : List V) (Q : VK) (E : XK), L2H.RoomH k A → A.guards = some [] → Env0 P w K mg base A outer s H → BindsTo s fd args (ps.zip us) → Vals vs us → sp vs H Q E →
    codeAny (model P w) A (.call (.ref f) args) (CR (L2N.CX P w) outer P w H s Q E) s
theorem FnW.mono {j k : Nat} {f : Addr} {fd : FuncData} {ps : List Str} {sp : Sp} (G : FnW P w K mg base j f fd ps sp) (h : j ≤ k) : FnW P w K mg base k f fd ps sp := ⟨G.len, fun A o s H a us vs Q E hr => G.run A o s H a us vs Q E (hr.mono h)⟩
theorem FnW.imp {k : Nat} {f : Addr} {fd : FuncData} {ps : List Str} {sp sp' : Sp} (G : FnW P w K mg base k f fd ps sp) (h : ∀ vs H Q E, sp' vs H Q E → sp vs H Q E) : FnW P w K mg base k f fd ps sp' :=
  ⟨fun vs H Q E q => G.len vs H Q E (h _ _ _ _ q), fun A o s H a us vs Q E hr hg e b v q => G.run A o s H a us vs Q E hr hg e b v (h _ _ _ _ q)⟩
end
/-! ### calls of such defs -/
section
variable {X : Cx} {F : Fx} {k : Nat} {f : Addr} {fd : FuncData} {ps : List Str} {ds : List Value} {dvs : List V} {x : Str} {p pos : Pos} {e : Expr} {es : List Expr} {fs : Fn} {j : IA} {dd : List D}
end
end M
/-! M39: an exception is made and raised. -/
namespace M
open PySem PySem.Spec PyProof.Rows L2
section
variable {X : Cx} {CX : CXT} {k n : Nat} {fI C : Addr} {fd : FuncData} {ps : List Str}
theorem del_upd {H : Hp} {a d : Addr} {o1 o2 u : HO} (na : H a = none) (ne : d ≠ a) : upd (L2.del (upd (upd H d o1) a o2) a) d u = upd H d u := by
  funext b
  by_cases e : b = d
  · rw [e, upd_same, upd_same]
  · rw [upd_ne e, upd_ne e]
    by_cases e2 : b = a
    · rw [e2, del_same, na]
    · rw [del_ne e2, upd_ne e2, upd_ne e]
theorem mk_endN {pins : List (Addr × Obj)} {σ : L2.St} {H1 H2 : Hp} {Q : XK} {hp hp2 h2 : Heap} {g1 g2 : Array GenState} {d1 d2 : Drawn} {t1 t2 : Nat} {os1 os2 : OsState} {a C d : Addr} {fs : List (Str × V)} (T : Raises X (.ref C)) (I1 : Inv X pins σ H1 ⟨hp, g1, d1, t1, os1⟩)
    (ha : hp.objs.size ≤ a) (k : ∀ b o, hp.get? b = some o → hp2.get? b = some o) (un : Un (frs X.stack) [] (upd H1 a (exo a C none)) H2 hp2 h2) (hok : HOk X.prog X.w H2 h2) (ho : os2 = os1) (hb : AllBare g2)
    (ea : H2 a = some (exo a C (some d))) (ed : H2 d = some (exd d fs)) (hd1 : H1 d = none) (q : Q (.ref C) (some d) (upd (L2.del H2 a) d (.xd fs))) : L2N.MkP X pins σ Q (.ref a) ⟨h2, g2, d2, t2, os2⟩ := by
  obtain ⟨t0, G, J, kG, ge, hoe, na⟩ := mk_end0 (d2 := d2) (t2 := t2) I1 ha k un hok ho hb ea ed hd1
  exact ⟨a, _, _, ⟨G, g2, d2, t2, os2⟩, _, .ref C, some d, rfl, J, kG, ge, hoe, ⟨rfl, rfl, fun vs e => by cases e; rfl⟩, rfl, rfl, na, rfl, hb, T, q⟩
theorem run_mkr {pins : List (Addr × Obj)} {σ : L2.St} {H : Hp} {s : Shared} {Q : XK} {us : List Value} {vs ys : List V} {g : List Value → List Value → List Value} {gV : List V → List V → List V} {fs : List Str} (T : XC X.K C) (rs : Raises X (.ref C)) (iC : PySem.W.findIn X.K (.ref C) "__init__" = some (some (.ref fI))) (tI : PySem.W.typeIn X.K (.ref fI) = some (.type "function"))
    (F1 : FnOk X.prog X.w X.K X.mg X.base CX k fI fd ps (spX X.K fs)) (hr : Room (k + 1) X.A) (hb : KBn X.K fd ps (n + 1) [] g gV) (hx : Passes CX X (fun _ _ _ => False)) (I : Inv X pins σ H s) (r : Vals vs us) (hl : vs.length ≤ 1000) (l1 : vs.length = n)
    (hg : ∀ a, gV (.ref a :: vs) [] = .ref a :: ys) (hy : ys.length = fs.length) (hf : ∀ f ∈ fs, PySem.W.findIn X.K (.ref C) f = some none)
    (q : ∀ d, H d = none → Q (.ref C) (some d) (upd H d (.xd (fs.zip ys).reverse))) :
    wpAny (model X.prog X.w) X.A (call (.ref C) us []) (L2N.MkP X pins σ Q) X.xe s := by
  obtain ⟨B, newId, initId, tail, b, nm, qn, N, bs, bm, sn, sub, ab, col, dd, k0, k1, k2, k3, k5, hC, hbm⟩ := T.cls
  obtain ⟨hp, g0, dr, tk, os⟩ := s
  have hsz : hp.objs.size ≤ hp.objs.size + 1 := Nat.le_succ _
  have hn : H (hp.objs.size + 1) = none := I.hok.fresh hsz
  have kk : ∀ b o, hp.get? b = some o → ((hp.push (PySem.W.kdv_tup us)).push (PySem.HandSPX.excO C hp.objs.size)).get? b = some o := fun b o e => Heap.get?_push_of_some _ (Heap.get?_push_of_some _ e)
  have hget : ((hp.push (PySem.W.kdv_tup us)).push (PySem.HandSPX.excO C hp.objs.size)).get? (hp.objs.size + 1) = some (PySem.HandSPX.excO C hp.objs.size) := by heap_get
  have I2 : Inv X pins σ (upd H (hp.objs.size + 1) (exo (hp.objs.size + 1) C none)) ⟨(hp.push (PySem.W.kdv_tup us)).push (PySem.HandSPX.excO C hp.objs.size), g0, dr, tk, os⟩ :=
    I.laid (t' := tk) (a := hp.objs.size + 1) (o := exo (hp.objs.size + 1) C none) (h' := (hp.push (PySem.W.kdv_tup us)).push (PySem.HandSPX.excO C hp.objs.size)) kk hsz (exo_ok hget)
  have r1 : Vals (V.ref (hp.objs.size + 1) :: vs) (Value.ref (hp.objs.size + 1) :: us) := .cons rfl r
  have r2 := hb.rel r1 (.nil : Vals [] [])
  have hsp : spX X.K fs (gV (.ref (hp.objs.size + 1) :: vs) []) (upd H (hp.objs.size + 1) (exo (hp.objs.size + 1) C none)) (fun v H' => v = .non ∧ ∃ d, H d = none ∧ d ≠ hp.objs.size + 1 ∧ H' = upd (upd H d (exd d (fs.zip ys).reverse)) (hp.objs.size + 1) (exo (hp.objs.size + 1) C (some d))) (fun _ _ _ => False) := by
    refine ⟨hp.objs.size + 1, C, ys, hg _, hy, T, hf, upd_same, fun d hd ne => ⟨rfl, d, ?_, ne, ?_⟩⟩
    · rw [upd_ne ne] at hd
      exact hd
    · rw [upd_comm (a := hp.objs.size + 1) (b := d) ne.symm, upd_upd]
  have n1 : (Value.ref (hp.objs.size + 1) :: us).length = n + 1 := by rw [List.length_cons, ← r.length, l1]
  have hus : us.length ≤ sizeLine := by rw [← Paired.length r, sizeLine_eq]; omega
  have bnd := hb.to ⟨(hp.push (PySem.W.kdv_tup us)).push (PySem.HandSPX.excO C hp.objs.size), g0, dr, tk, os⟩ (Value.ref (hp.objs.size + 1) :: us) [] I2.kIn n1 rfl
  refine wpAny_call (callK b.f (fun Y => over_contains Y bm hbm) (I.kIn _ _ hC) (PySem.W.looks_findIn I.kIn iC) (fun self => PySem.W.bind_fn I.kIn self tI) hus
    (codeAny_mono (F1.run _ X.stack _ _ ⟨Value.ref (hp.objs.size + 1) :: us, []⟩ (g (Value.ref (hp.objs.size + 1) :: us) []) _ _ (fun _ _ _ => False) (hr.make C us []) (I2.env0.make C us []) bnd r2 hsp) fun r s' hq' => ?_))
  cases r with
  | error er => exact hx pins σ _ _ er s' I2 hq'
  | ok fl =>
    cases fl with
    | ret u =>
      obtain ⟨v, H2, os2, bare2, un2, hok2, rv, ev, d, hd, ne, eH2⟩ := hq'
      subst ev
      obtain ⟨h2, g2, d2, t2, os'⟩ := s'
      have ea : H2 (hp.objs.size + 1) = some (exo (hp.objs.size + 1) C (some d)) := by rw [eH2, upd_same]
      have ed : H2 d = some (exd d (fs.zip ys).reverse) := by rw [eH2, upd_ne ne, upd_same]
      have fin := mk_endN (d2 := d2) (t2 := t2) (Q := Q) rs I hsz kk un2 hok2 os2 bare2 ea ed hd (by
        rw [eH2, del_upd hn ne]
        exact q d hd)
      exact ⟨rv, fin⟩
    | next => exact False.elim hq'
    | brk => exact False.elim hq'
    | cont => exact False.elim hq'
end
/-! ### in the embedding -/
def sRaise (C : Str) (n : Nat) (fs : List Str) (gD : List D → List D → List D) (j : IA) : IS := fun env st => liftS (j env st) env fun ds s => if ds.length = n ∧ n ≤ 1000 then .exc C (fs.zip (gD ds [])).reverse env s else .bad
section
variable {X : Cx} {F : Fx} {k n : Nat} {C x : Str} {fs : List Str} {gV : List V → List V → List V} {gD : List D → List D → List D} {p pos pos' : Pos} {e : Expr} {es : List Expr} {j : IA}
theorem s_raise (hc : X.calm = true) (tk : L2N.Takes X F.E) (T : XI X k n (F.g C) fs [] gV) (rs : Raises X (.ref (F.g C))) (pm : Perm gD gV n 0 fs) (hr : Room (k + 1) X.A) (hg : Gl X x) (hm : X.mg x = some (.ref (F.g C))) (ha : PA X (e :: es) (TA_ F j)) (hdb : (x == ("__debug__" : Str)) = false := by decide)
    (he : starEach (e :: es) X.env = (false, eval e X.env) :: starEach es X.env := by rfl) (hpl : (backTo pos (starEach es X.env)).any (·.1) = false := by rfl) : PS X (.Raise (some (.Call (.Name x p) (e :: es) [] pos)) none pos') (TS_ F (sRaise C n fs gD j)) := by
  refine PS.imp (L2N.ps_raise (t := fun σ H Q => TA_ F j σ H fun vs H1 => ∃ W st env ds, At F W st env σ H1 ∧ RVs W ds vs ∧ ds.length = n ∧ n ≤ 1000 ∧ ∀ ρ' H' d, Ext W ρ' H' → Sim (W.to ρ' H') st → XR (W.to ρ' H') (fs.zip (gD ds [])).reverse d → Q (.ref (F.g C)) d H') hc tk ?_) fun N σ H h => ?_
  · intro pins s σ H Q I h
    refine wpAny_Call_Name_kw (ld_glob I hg hm (PySem.W.callWith_K (h₀ := X.base) I.ok.mod.kin T.cls.kC (thn (ha.run pos pins s σ H _ I h) fun us s1 ⟨vs, H1, I1, r, W, st, env, ds, A, rd, l1, l2, q⟩ => ⟨I1.kIn, ?_⟩) he hpl) hdb)
    obtain ⟨ys, e1, e2, ry⟩ := pm.rel W ds [] vs [] rd .nil l1 rfl
    obtain ⟨fI, fd, ps, g, iC, tI, F1, hb⟩ := T.ini
    have lv : vs.length = n := by rw [← rd.length]; exact l1
    have eH := A.h
    subst eH
    refine run_mkr (CX := L2N.CX X.prog X.w) T.cls rs iC tI F1 hr hb passLN I1 r (by rw [lv]; exact l2) lv e1 e2 T.nf fun d hd => ?_
    have x : Ext W W.ρ (upd W.H d (.xd (fs.zip ys).reverse)) := ext_new0 hd
    refine q W.ρ _ (some d) x (A.sim.new0 hd) ⟨(fs.zip ys).reverse, rf_reverse (zip_rf (ry.mono x)), (fun z => by cases z), fun dx z => ?_⟩
    cases z
    exact ⟨upd_same, new_fro A.sim hd⟩
  · obtain ⟨W, st, env, A, p⟩ := h
    refine ⟨W, st, env, A, ?_⟩
    have p' : PostS W (liftS (j env st) env fun ds s => if ds.length = n ∧ n ≤ 1000 then RS.exc C (fs.zip (gD ds [])).reverse env s else .bad) N F.E := p
    cases q : j env st with
    | ok ds s =>
      rw [q] at p'
      have p2 : PostS W (if ds.length = n ∧ n ≤ 1000 then RS.exc C (fs.zip (gD ds [])).reverse env s else .bad) N F.E := p'
      intro ρ' H' vs xx S rv
      split at p2
      · rename_i c
        refine ⟨W.to ρ' H', s, env, ds, A.next xx S, rv, c.1, c.2, fun ρ2 H2 d x2 S2 xr => ?_⟩
        have := p2 ρ2 H2 σ d (xx.trans x2) S2 (A.env.mono (xx.trans x2)) xr
        rw [A.g] at this
        exact this
      · exact p2.elim
    | exc D gs s =>
      rw [q] at p'
      have p2 : PostS W (RS.exc D gs env s) N F.E := p'
      intro ρ' H' d xx S xr
      exact p2 ρ' H' σ d xx S (A.env.mono xx) xr
    | bad => rw [q] at p'; exact p'.elim
end
end M
/-! M40: try: .. except (A, B, C) as e: ..; the exception caught is one that nobody changes. -/
namespace M
open PySem PySem.Spec PyProof.Rows L2
section
variable {X : Cx} {pins : List (Addr × Obj)} {σ : L2.St} {H : Hp} {s : Shared}
end
/-- a test of an except clause: what it answers, by the class -/
def TstOk (X : Cx) (te : Expr) (tf : Value → Option Bool) : Prop := ∀ (a : Addr) (cls : Value) (b : Bool) (pins : List (Addr × Obj)) (σ : L2.St) (H : Hp) (s : Shared) (Q : Bool → Shared → Prop) (E : Value → Shared → Prop),
  Inv (X.suite a X.pn) pins σ H s → PySem.W.Looks (model X.prog X.w) s.heap (typeOf (.ref a)) cls → tf cls = some b → (∀ h', (∀ b o, s.heap.get? b = some o → h'.get? b = some o) → Q b { s with heap := h' }) →
  wpAny (model X.prog X.w) (X.A.mark (some (.ref a))) (eval te X.env) (fun c s1 => wpAny (model X.prog X.w) (X.A.mark (some (.ref a))) (excMatches (.ref a) c) Q E s1) E s
section
variable {X : Cx} {n : Str} {i : Nat} {te : Expr} {tf : Value → Option Bool} {body suite : List Stmt} {b₀ : Stmt} {pos pos' : Pos} {tb : WX → TS} {ts : Addr → TS} {Wout : WX}
end
/-! ### the tests -/
section
variable {X : Cx} {x1 x2 x3 : Str} {c1 c2 c3 : Value} {p1 p2 p3 tpos : Pos} {kk : Nat}
end
end M
/-! M41: try in the embedding. -/
namespace M
open PySem PySem.Spec PyProof.Rows L2
section
variable {X : Cx} {F : Fx} {n : Str} {i : Nat} {te : Expr} {tf : Value → Option Bool} {tfD : Str → Option Bool} {body suite : List Stmt} {b₀ : Stmt} {pos pos' : Pos} {b su : IS}
end
end M
/-! M42: count and index of a list of truths. -/
namespace M
open PySem PySem.Spec PyProof.Rows L2
section
variable {X : Cx} {F : Fx}
end
end M
/-! M43: defs that let nothing out; what a text of a program wants of raise and try. -/
namespace M
open PySem PySem.Spec PyProof.Rows L2
theorem raisesX {X : Cx} {C : Addr} (T : XC X.K C) : Raises X (.ref C) := raises_own T.exC T.tyC
end M
/-! M44: max of three. -/
namespace M
open PySem PySem.Spec PyProof.Rows L2
section
variable {X : Cx} {F : Fx}
end
end M
/-! M45: index of a list of texts. -/
namespace M
open PySem PySem.Spec PyProof.Rows L2
section
variable {X : Cx} {F : Fx}
end
end M
/-! M46: the least of a list of ints. -/
namespace M
open PySem PySem.Spec PyProof.Rows L2
section
variable {X : Cx} {F : Fx} {W : Vw} {st : Sto}
end
end M
/-! M47: tuple * int. -/
namespace M
open PySem PySem.Spec PyProof.Rows L2
theorem tuple_mul1 (l : Addr) (items : Array Value) (n : Nat) (dd : Option Addr) (sl : Array (Option Value)) (u : Tok) :
    Meets (Builtin.«tuple.__mul__» ⟨[.ref l, .int 1 u], []⟩) (fun _ R s => s.heap.get? l = some { cls := .type "tuple", dict := dd, data := .seq items n, slots := sl } ∧ R (.ok (.ret (Value.ref l))) s) :=
  .of_wp fun prog w A R s h => by
    obtain ⟨hp, g, d, tk, os⟩ := s
    obtain ⟨hl, h⟩ := h
    have f1 := AutoSeq1.idx_int
    wp_walk using wpAny_loadPart' hl
    repeat (first
      | (refine wpAny_ite_true (decide_eq_true (by simp)) ?_; wp_walk using wpAny_loadPart' hl)
      | (refine wpAny_ite_true (by simp) ?_; wp_walk using wpAny_loadPart' hl))
    all_goals first | exact ⟨_, rfl, h⟩ | skip
section
variable {X : Cx} {F : Fx} {W : Vw} {st : Sto}
theorem op_rep1 : OpR X (binaryOp .Mult) (fun x y H Q => ∃ l xs, x = .ref l ∧ y = .int 1 ∧ SqT X.K H l xs ∧ Q (.ref l) H) := by
  intro pins s σ H x y v u Q I rx ry h
  obtain ⟨l, xs, rfl, rfl, hT, q⟩ := h
  cases rx
  obtain ⟨t, rfl⟩ := ry
  obtain ⟨its, r, ⟨⟨cls, dd, data, sl⟩, ho, hc, n, hd⟩, hs⟩ := I.tuple hT
  simp only at hc hd
  subst hc hd
  refine wpAny_binaryOp_repeat_ref (T := "tuple") (U := "int") (by decide) ⟨_, ho, rfl⟩ (fun s' => typeIs_int s' 1 t) noFill_tuple_mul F.fills_int_mul F.slot_int_rmul repeat_tuple F.slot_int_index.lookup
    (call_meets F.slot_int_rmul (typeIs_int s 1 t) F.entry_int_rmul (F.args_int_rmul_2 _ _) (int_rmul_tuple 1 t l its.toArray n dd sl)
      ⟨ho, rfl, ⟨_, ho, rfl⟩, call_meets F.slot_tuple_mul ⟨_, ho, rfl⟩ F.entry_tuple_mul (F.args_tuple_mul_2 _ _) (tuple_mul1 l its.toArray n dd sl t) ⟨ho, ?_⟩⟩)
  exact ⟨.ref l, H, I, rfl, q⟩
def opMulU : Op2 := fun a b st => match a, b with
  | .tup xs, .int k => if k = 1 ∨ (xs ≠ [] ∧ 2 ≤ k ∧ k ≤ 1000 ∧ xs.length ≤ 1000) then some (.tup (List.replicate k.toNat xs).flatten, st) else none
  | _, _ => none
instance (xs : List D) : Decidable (xs ≠ []) := match xs with
  | [] => isFalse fun h => h rfl
  | _ :: _ => isTrue fun h => nomatch h
theorem or_mulU (hk : X.K = F.K) : OpR X (binaryOp .Mult) (r2 F opMulU) := OpR.imp (OpR.or op_rep1 op_repT) fun x y H Q ⟨W, st, a, b, I, ra, rb, p⟩ => by
  unfold opMulU at p
  split at p
  · rename_i xs k
    split at p
    · rename_i c
      cases rb
      have eH := I.h
      subst eH
      obtain ⟨a, ys, rfl, t1, r⟩ := tup_at ra
      rw [I.k, ← hk] at t1
      by_cases h1 : k = 1
      · subst h1
        refine .inl ⟨a, ys, rfl, rfl, t1, ?_⟩
        have e : (List.replicate (1 : Int).toNat xs).flatten = xs := by simp
        rw [e] at p
        exact p.now I.sim ra
      · rcases c with c | c
        · exact absurd c h1
        · refine .inr ⟨a, k, ys, rfl, rfl, t1, fun e => ?_, c.2.1, c.2.2.1, by rw [← r.length]; exact c.2.2.2, fun q hq => ?_⟩
          · subst e
            cases r
            exact c.1 rfl
          · exact p.tuple I.sim (r.rep _) hq
    · exact p.elim
  · exact p.elim
end
end M
/-! M48: loops over zip of two tuples. -/
namespace M
open PySem PySem.Spec PyProof.Rows L2 RZ
def nxZ (xs ys : List D) : Nx := fun i st => match xs[i]?, ys[i]? with
  | some x, some y => some (some (.tup [x, y]))
  | _, _ => some none
section
variable {W : Vw} {X : Cx} {F : Fx} {pos : Pos}
theorem pair_new2 {V : Vw} {st : Sto} {T : Addr} {c d : D} {u v : L2.V} (S : Sim V st) (hT : V.H T = none) (ru : RV V c u) (rv : RV V d v) :
    Ext V V.ρ (upd V.H T (.tup [u, v])) ∧ Sim (V.to V.ρ (upd V.H T (.tup [u, v]))) st ∧ RV (V.to V.ρ (upd V.H T (.tup [u, v]))) (.tup [c, d]) (.ref T) :=
  ⟨ext_new0 hT, S.new0 hT, .tup (.inl ⟨.inl upd_same, new_fro S hT⟩) (.cons (ru.mono (ext_new0 hT)) (.cons (rv.mono (ext_new0 hT)) .nil))⟩
end
end M
/-! M49: list comprehensions of two clauses whose list nobody changes. -/
namespace M
open PySem PySem.Spec PyProof.Rows L2

theorem VE.trans {W : Vw} {ρ' ρ'' : List Addr} {H' H'' : Hp} {st : Sto} (x : VE W ρ' H') (S : Sim (W.to ρ' H') st) (y : Ext (W.to ρ' H') ρ'' H'') : VE W ρ'' H'' where
  pre := x.pre.trans y.pre
  new := fun a m => by
    rcases y.new a m with q | q
    · exact x.new a q
    · by_cases m2 : a ∈ W.ρ
      · exact .inl m2
      · refine .inr ?_
        cases e : W.H a with
        | none => rfl
        | some o =>
          have q' : H' a = none := q
          by_cases hz : W.Z a
          · obtain ⟨u, hu⟩ := S.zt a hz
            have hu' : H' a = some u := hu
            rw [q'] at hu'
            cases hu'
          · have z := x.keep a o e ⟨m2, hz⟩
            rw [q'] at z
            cases z
  keep := fun a o h f => y.keep a o (x.keep a o h f) (x.notin h f.1)
  frz := fun a o u h => y.frz a o u (x.frz a o u h)
theorem VE.zput {W : Vw} {ρ' : List Addr} {H' : Hp} {q : Addr} {u : HO} (x : VE W ρ' H') (hz : W.Z q) (nf : NoFrz W.H q) : VE W ρ' (upd H' q u) where
  pre := x.pre
  new := x.new
  keep := fun a o h f => by
    rw [upd_ne (zfro f hz)]
    exact x.keep a o h f
  frz := fun a o v h => by
    rw [upd_ne (fun e => by rw [e] at h; exact nf _ _ h)]
    exact x.frz a o v h
theorem VE.refl {W : Vw} : VE W W.ρ W.H := Ext.refl.ve
section
variable {X : Cx} {F : Fx} {pos : Pos}
end
end M
/-! M50: in a range; a written dict; repr of a list with a dict. -/
namespace M
open PySem PySem.Spec PyProof.Rows L2
section
variable {X : Cx} {F : Fx} {pos : Pos}
end
/-! ### a written dict -/
section
variable {X : Cx} {F : Fx} {pos : Pos} {W : Vw} {st : Sto}
/-! ### repr of a number and a dict in a list -/
/-! ### split as a list that is changed later -/
end
end M
/-! M51: places as targets never raise (k15). -/
namespace M
open PySem PySem.W Builtin Builtin.Str
end M
/-! M52: a for in a generator's body. -/
namespace L2
open PySem PySem.Spec PyProof.Rows GenW
section
variable {M : Model} {A : Around} {R : GenEnd} {Y : Protocol} {n : Nat} {s₀ : Shared} {c : Code} {fs : List Frame} {s : Shared} {env : Env}
  {K : Flow → Sem Fin} {H : Value → Sem Fin} {gd : Bool → Bool} {lv : List Value → List Value}
end
section
variable {prog : Program} {w : World} {A : Around} {R : GenEnd} {Y : Protocol} {n : Nat} {s₀ : Shared} {fs : List Frame} {s : Shared} {env : Env}
end
section
variable {X : Cx}
end
end L2
/-! M53: defs that may be called amid a repr, or by a generator. -/
namespace M
open PySem PySem.Spec PyProof.Rows L2
section
variable {P : Program} {w : World} {K : PySem.W.Frag} {mg : Str → Option Value} {base : Heap} {g : GG}
/-- a def's promise, be a repr under way or not -/
structure FnO (P : Program) (w : World) (K : PySem.W.Frag) (mg : Str → Option Value) (base : Heap) (k : Nat) (f : Addr) (fd : FuncData) (ps : List Str) (sp : Sp) : Prop where
  len : ∀ vs H Q E, sp vs H Q E → vs.length = ps.length
  run : ∀ (A : Around) (outer : List PySem.Env) (s : Shared) (H : Hp) (args : Args) (us : List Value) (vs : List V) (Q : VK) (E : XK), Room k A → Env0 P w K mg base A outer s H → BindsTo s fd args (ps.zip us) → Vals vs us → sp vs H Q E →
    codeAny (model P w) A (.call (.ref f) args) (CR (L2N.CX P w) outer P w H s Q E) s
theorem FnO.toG {k : Nat} {f : Addr} {fd : FuncData} {ps : List Str} {sp : Sp} (G : FnO P w K mg base k f fd ps sp) : FnG P w K mg base k f fd ps sp := ⟨G.len, fun A o s H a us vs Q E hr _ => G.run A o s H a us vs Q E hr⟩
theorem FnO.imp {k : Nat} {f : Addr} {fd : FuncData} {ps : List Str} {sp sp' : Sp} (G : FnO P w K mg base k f fd ps sp) (h : ∀ vs H Q E, sp' vs H Q E → sp vs H Q E) : FnO P w K mg base k f fd ps sp' :=
  ⟨fun vs H Q E q => G.len vs H Q E (h _ _ _ _ q), fun A o s H a us vs Q E hr e b v q => G.run A o s H a us vs Q E hr e b v (h _ _ _ _ q)⟩
theorem FnO.mono {j k : Nat} {f : Addr} {fd : FuncData} {ps : List Str} {sp : Sp} (G : FnO P w K mg base j f fd ps sp) (h : j ≤ k) : FnO P w K mg base k f fd ps sp := ⟨G.len, fun A o s H a us vs Q E hr => G.run A o s H a us vs Q E (hr.mono h)⟩
theorem fno_ok {x qual : Str} {params : Arguments} {body : List Stmt} {scope : Scope} {dvs : List V} {kws : List (Str × V)} {f : Addr} {fd : FuncData} {N ps : List Str} {k : Nat} {b : IS} (Fd : FunD K x qual params body scope dvs kws f fd) (S : FnScope N ps scope)
    (hb : ∀ (cdv : Value) (A : Around) (outer : List PySem.Env) (s : Shared) (H : Hp) (E : XK), Room k (A.deeper (envOfC qual scope s.heap.objs.size f cdv)) → PSs (cxOf (L2N.CX P w) P w K mg base N qual scope f cdv A outer s H E) body (TS_ (Fx.of K g E) b)) :
    FnO P w K mg base (k + 1) f fd ps (SPx K g (runB b N.length ps.length)) := by
  have len : ∀ vs H Q E, SPx K g (runB b N.length ps.length) vs H Q E → vs.length = ps.length := fun vs H Q E ⟨W, st, ds, _, _, _, _, r, p⟩ => by
    unfold runB at p
    split at p
    · rename_i c
      rw [← r.length, c]
    · exact p.elim
  refine ⟨len, fun A outer s H args us vs Q E hr e0 hbi rv hsp => ?_⟩
  obtain ⟨oc, od, dV, kV, doc, pm, an, cdv, ct, osl, rfl, lk, hcd, _, _⟩ := Fd.ex
  have hl := len _ _ _ _ hsp
  have kin : K.In s.heap := e0.mod.kin.keeps fun b o e => (e0.bs b o e).1
  have kinds : ∀ y ∈ ps.zip us, scope.names.lookup y.1 = some .local ∨ (scope.names.lookup y.1 = some .cell ∧ ((cellsFrom (s.heap.objs.size + 1) scope.names []).lookup y.1).isSome = true) := fun ⟨n, v⟩ hy =>
    (S.par n (List.of_mem_zip hy).1).elim .inl fun q => .inr ⟨q, PySem.W.cellsFrom_some _ _ _ (.inl q)⟩
  refine codeAny_call_function hr.depth (kin _ _ lk) rfl S.co S.gen rfl (PySem.W.codeRec_of kin hcd) (hbi _ _ _ _ (wpAny_newFunctionEnv_cells S.kind kinds fun env he s1 x => ?_))
  subst he
  refine ⟨(e0.mod.nolimit.keeps fun b o e => (e0.bs b o e).1).keeps x.toInCall.keep, codeAny_func ?_⟩
  have wk : TS_ (Fx.of K g E) b { nx := fun _ H' => Q .non H', rt := Q } (L2.start N vs) H := by
    obtain ⟨W, st, ds, hk, hg, hh, S, r, p⟩ := hsp
    unfold runB at p
    split at p
    · rename_i c
      refine ⟨W, st, _, ⟨hk, hg, hh, S, env_start r c⟩, ?_⟩
      cases q : b (ds.map some ++ List.replicate (N.length - ps.length) none) st with
      | nx e s => rw [q] at p; exact fun ρ' H' σ' x S z => p ρ' H' .non x S .non
      | ret d s => rw [q] at p; exact p
      | bk e s => rw [q] at p; exact p.elim
      | ct e s => rw [q] at p; exact p.elim
      | exc C fs e s => rw [q] at p; exact fun ρ' H' σ' d x S z => p ρ' H' d x S
      | bad => rw [q] at p; exact p.elim
    · exact p.elim
  have I0 : Inv (cxOf (L2N.CX P w) P w K mg base N qual scope f cdv A outer s H E) [] (L2.start N vs) H s1 := inv_start S hr.hd e0 hl rv x
  refine wpAny_mono ((hb cdv A outer s H E (hr.deeper _)).run [] s1 _ H _ I0 wk) (fun fl s' hs => ?_) fun e s' hs => hs
  have fin : ∀ {σ' : L2.St} {H' : Hp} {v : V} {u : Value}, Inv (cxOf (L2N.CX P w) P w K mg base N qual scope f cdv A outer s H E) [] σ' H' s' → RelV v u → Q v H' → CE outer P w H s Q u s' :=
    fun J r q => ⟨_, _, J.os, J.bare, J.base, J.hok, r, q⟩
  cases fl with
  | ret u => obtain ⟨v, σ', H', J, r, q⟩ := hs; exact fin J r q
  | next => obtain ⟨σ', H', J, q⟩ := hs; exact fin (v := V.non) (u := Value.none) J rfl q
  | brk => obtain ⟨_, _, _, q⟩ := hs; exact q.elim
  | cont => obtain ⟨_, _, _, q⟩ := hs; exact q.elim
end


section
variable {X : Cx} {F : Fx} {k : Nat} {f : Addr} {fd : FuncData} {ps : List Str} {ds : List Value} {dvs : List V} {x : Str} {p pos : Pos} {e : Expr} {es : List Expr} {fs : Fn} {j : IA} {dd : List D}
/-- the callee runs -/
theorem run_o {pins : List (Addr × Obj)} {σ : L2.St} {H : Hp} {s : Shared} {Q : VK} {us : List Value} {vs : List V} {sp : Sp} (G : FnO X.prog X.w X.K X.mg X.base k f fd ps sp) (hr : Room k X.A) (hb : Binds X.K fd ps ds) (hd : Vals dvs ds) (tk : L2N.Takes X F.E)
    (I : Inv X pins σ H s) (r : Vals vs us) (h : sp (vs ++ dvs) H Q (F.at_ σ)) : wpAny (model X.prog X.w) X.A (call (.ref f) us) (EP X pins σ Q) X.xe s := by
  have r2 : Vals (vs ++ dvs) (us ++ ds) := r.append hd
  refine wpAny_call (codeAny_mono (G.run X.A X.stack s H ⟨us, []⟩ (us ++ ds) (vs ++ dvs) Q (F.at_ σ) hr I.env0 (hb s us I.kIn (r2.length.symm.trans (G.len _ _ _ _ h))) r2 h) fun r s' hq => ?_)
  cases r with
  | error e => exact tk e s' (L2N.XE.of_call I (fun _ _ _ h => h) hq)
  | ok fl =>
    cases fl with
    | ret u => exact I.after hq
    | next => exact hq.elim
    | brk => exact hq.elim
    | cont => exact hq.elim
theorem e_callO (G : FnO X.prog X.w X.K X.mg X.base k f fd ps (SPx F.K F.g fs)) (hr : Room k X.A) (hg : Gl X x) (hm : X.mg x = some (.ref f)) (hk : PySem.W.keepIn X.K (.ref f) = true) (hb : Binds X.K fd ps ds) (hd : Vals dvs ds) (hdd : ∀ W : Vw, W.K = F.K → W.g = F.g → RVs W dd dvs) (tk : L2N.Takes X F.E)
    (ha : PA X (e :: es) (TA_ F j)) (hdb : (x == ("__debug__" : Str)) = false := by decide) (he : starEach (e :: es) X.env = (false, eval e X.env) :: starEach es X.env := by rfl) (hpl : (backTo pos (starEach es X.env)).any (·.1) = false := by rfl) :
    PE X (.Call (.Name x p) (e :: es) [] pos) (TI F (iCall fs dd j)) := by
  refine ⟨fun pins s σ H Q I h => ?_⟩
  refine wpAny_Call_Name_kw (ld_glob I hg hm (PySem.W.callWith_K (h₀ := X.base) I.ok.mod.kin hk (thn (ha.run pos pins s σ H _ I (TX.bind (k := fun ds env s => fs (ds ++ dd) s) h)) fun us s1 ⟨vs, H1, I1, r, q⟩ => ⟨I1.kIn, ?_⟩) he hpl) hdb)
  exact run_o G hr hb hd tk I1 r (sp_of hdd q)
end


section
variable {P : Program} {w : World} {K : PySem.W.Frag} {mg : Str → Option Value} {base : Heap} {g : GG} {k : Nat} {fa : Addr} {fd : FuncData} {ps : List Str} {f : Fn}
end
end M
/-! M54: generators whose consumer owns more than the list that it fills. -/
namespace LG
open PySem PySem.Spec PyProof.Rows GenW L2
/-- asleep: the consumer has put v behind the list at S, what stands at Ls is its own; all else stays -/
structure Slept (S : Addr) (Ls : List Addr) (v : Value) (s s' : Shared) : Prop where
  os : s'.os = s.os
  bare : AllBare s'.gens
  keep : ∀ b o, b ≠ S → b ∉ Ls → s.heap.get? b = some o → s'.heap.get? b = some o
  own : ∀ acc c, s.heap.get? S = some (lstObj acc c) → ∃ c', s'.heap.get? S = some (lstObj (acc.push v) c')
  ownL : ∀ b ∈ Ls, ∃ o, s'.heap.get? b = some o ∧ ∀ u, o.data ≠ .cell u
def GI (X : Cx) (S : Addr) (Ls : List Addr) (ip : List (Addr × Obj)) (ys : List V) (σ : L2.St) (H : Hp) (s₀ s : Shared) : Prop :=
  ∃ (acc : Array Value) (c : Nat) (pl : List (Addr × Obj)), pl.map (·.1) = Ls ∧ (∀ p ∈ pl, s₀.heap.get? p.1 = some p.2) ∧ Vals ys acc.toList ∧ Inv X ((S, lstObj acc c) :: (pl ++ ip)) σ H s
/-- of none of the generator's own things -/
def Off (S : Addr) (Ls : List Addr) (ip : List (Addr × Obj)) : Prop := ∀ p ∈ ip, p.1 ≠ S ∧ p.1 ∉ Ls
/-! ### the protocol -/
def GY (X : Cx) (S : Addr) (Ls : List Addr) : Protocol := fun n s₀ v s kap =>
  ∃ ys x ip σ H, n + 1 + ys.length = sizeLine ∧ RelV x v ∧ GI X S Ls ip ys σ H s₀ s ∧ ∀ s', Slept S Ls v s s' → kap (.send .none) s'
def GSP (X : Cx) (S : Addr) (Ls : List Addr) (ip : List (Addr × Obj)) (D : GEnds) (ys : List V) (f : Flow) (s₀ s : Shared) : Prop :=
  match f with
  | .next => ∃ σ H, GI X S Ls ip ys σ H s₀ s ∧ D.nx ys σ H
  | .brk => ∃ σ H, GI X S Ls ip ys σ H s₀ s ∧ D.bk ys σ H
  | .cont => ∃ σ H, GI X S Ls ip ys σ H s₀ s ∧ D.ct ys σ H
  | .ret u => ∃ v σ H, GI X S Ls ip ys σ H s₀ s ∧ RelV v u ∧ D.rt ys v H
structure GC (X : Cx) (S : Addr) (Ls : List Addr) (ip : List (Addr × Obj)) (A : Around) (c : Code) (fs : List Frame) (gd : Bool → Bool) : Prop where
  pn : Off S Ls X.pn
  ip : Off S Ls ip
  apart : Apart X S
  apartL : ∀ b ∈ Ls, Apart X b
  over : A.over c fs = X.A
  split : splitAtGen fs = none
  guard : fs.any Frame.guarded = false
  gd : gd false = false
structure GK (X : Cx) (S : Addr) (Ls : List Addr) (ip : List (Addr × Obj)) (A : Around) (R : GenEnd) (c : Code) (fs : List Frame) (K : Flow → Sem PySem.Fin) (J : Value → Sem PySem.Fin) (D : GEnds) : Prop where
  ok : ∀ (n : Nat) (ys : List V) (s₀ s : Shared) (f : Flow), n + ys.length = sizeLine → GSP X S Ls ip D ys f s₀ s → Seg (model X.prog X.w) A R (GY X S Ls) n s₀ c (K f) fs s
  exc : ∀ (n : Nat) (s₀ : Shared) (e : Value) (s : Shared), X.xe e s → Seg (model X.prog X.w) A R (GY X S Ls) n s₀ c (J e) fs s
structure GS (X : Cx) (st : Stmt) (t : TGn) : Prop where
  run : ∀ (A : Around) (S : Addr) (Ls : List Addr) (ip : List (Addr × Obj)) (R : GenEnd) (n : Nat) (ys : List V) (s₀ : Shared) (c : Code) (fs : List Frame) (K : Flow → Sem PySem.Fin) (J : Value → Sem PySem.Fin) (gd : Bool → Bool) (lv : List Value → List Value) (s : Shared) (σ : L2.St) (H : Hp) (D : GEnds),
    GC X S Ls ip A c fs gd → n + ys.length = sizeLine → GK X S Ls ip A R c fs K J D → GI X S Ls ip ys σ H s₀ s → t D ys σ H →
    Seg (model X.prog X.w) A R (GY X S Ls) n s₀ c ((exec st X.env).wrap K J gd lv) fs s
structure GSs (X : Cx) (st : List Stmt) (t : TGn) : Prop where
  run : ∀ (A : Around) (S : Addr) (Ls : List Addr) (ip : List (Addr × Obj)) (R : GenEnd) (n : Nat) (ys : List V) (s₀ : Shared) (c : Code) (fs : List Frame) (K : Flow → Sem PySem.Fin) (J : Value → Sem PySem.Fin) (gd : Bool → Bool) (lv : List Value → List Value) (s : Shared) (σ : L2.St) (H : Hp) (D : GEnds),
    GC X S Ls ip A c fs gd → n + ys.length = sizeLine → GK X S Ls ip A R c fs K J D → GI X S Ls ip ys σ H s₀ s → t D ys σ H →
    Seg (model X.prog X.w) A R (GY X S Ls) n s₀ c ((execs st X.env).wrap K J gd lv) fs s
section
variable {X : Cx} {st : Stmt} {rest : List Stmt}
end
end LG
/-! M55: a generator def's promise to any such consumer. -/
namespace LG
open PySem PySem.Spec PyProof.Rows GenW L2
/-- what stands at Ls is as it was when the generator was woken -/
def Kept (Ls : List Addr) (s₀ s : Shared) : Prop := ∀ b ∈ Ls, ∀ o, s₀.heap.get? b = some o → s.heap.get? b = some o
def REnd (P : Program) (w : World) (outer : List Env) (H : Hp) (s : Shared) (ex : List Addr) (S : Addr) (Ls : List Addr) (a : Addr) (g : Nat) (Q : List V → Hp → Prop) (E : XK) : GenEnd := fun n s₀ r s1 =>
  ((r = .ok (.ret .none) ∨ r = .ok .next) ∧ Kept Ls s₀ s1 ∧ ∃ H' ys acc c, s1.os = s.os ∧ AllBare s1.gens ∧ Un (frs outer) ex H H' s.heap s1.heap ∧ HOk P w H' s1.heap ∧ H' S = none ∧ (∀ b ∈ Ls, H' b = none) ∧ s1.heap.get? S = some (lstObj acc c) ∧ Vals ys acc.toList ∧ ys.length ≤ sizeLine ∧ Q ys H') ∨
  ∃ e, r = .error e ∧ CX P w outer H s E e s1 ∧ s1.heap.IsGen a g
def YItem (s : Shared) (S : Addr) (Ls : List Addr) (a : Addr) (g : Nat) : Protocol := fun n s₀ v s1 kap =>
  s1.os = s.os ∧ AllBare s1.gens ∧ s1.heap.NoLimit ∧ s1.heap.IsGen a g ∧ Kept Ls s₀ s1 ∧ (∃ (acc : Array Value) (c : Nat), s1.heap.get? S = some (lstObj acc c) ∧ n + 1 + acc.size = sizeLine) ∧ ∀ s', Slept S Ls v s1 s' → kap (.send .none) s'
def Wakes (P : Program) (w : World) (k : Nat) (outer : List Env) (H : Hp) (s : Shared) (ex : List Addr) (Q : List V → Hp → Prop) (E : XK) (a : Addr) (g : Nat) (c : Code) (s' : Shared) : Prop :=
  ∀ (A : Around) (S : Addr) (Ls : List Addr) (s2 : Shared), Room k A → A.frames = some outer → s'.heap.objs.size ≤ S → (∀ b ∈ Ls, s'.heap.objs.size ≤ b) → (∀ b o, s'.heap.get? b = some o → s2.heap.get? b = some o) → (∃ c, s2.heap.get? S = some (lstObj #[] c)) →
    (∀ b ∈ Ls, ∃ o, s2.heap.get? b = some o ∧ ∀ u, o.data ≠ .cell u) → s2.os = s.os → AllBare s2.gens → Seg (model P w) A (REnd P w outer H s ex S Ls a g Q E) (YItem s S Ls a g) sizeLine s2 c ((model P w).den c) [] s2
def GMade (P : Program) (w : World) (k : Nat) (outer : List Env) (H : Hp) (s : Shared) (ex : List Addr) (Q : List V → Hp → Prop) (E : XK) (u : Value) (s' : Shared) : Prop :=
  ∃ (a : Addr) (g : Nat) (c : Code), u = .ref a ∧ s.heap.objs.size ≤ a ∧ a < s'.heap.objs.size ∧ s'.heap.IsGen a g ∧ s'.gens[g]? = some (.fresh c) ∧ s'.os = s.os ∧ AllBare s'.gens ∧ s'.heap.NoLimit ∧ (∀ b o, s.heap.get? b = some o → s'.heap.get? b = some o) ∧ Wakes P w k outer H s ex Q E a g c s'
/-- a consumer that owns its list alone -/
theorem GMade.alone {P : Program} {w : World} {k : Nat} {outer : List Env} {H : Hp} {s : Shared} {ex : List Addr} {Q : List V → Hp → Prop} {E : XK} {u : Value} {s' : Shared} (h : GMade P w k outer H s ex Q E u s') : L2.GMade P w k outer H s ex Q E u s' := by
  obtain ⟨a, g, c, h1, h2, h3, h4, h5, h6, h7, h8, h9, h10⟩ := h
  refine ⟨a, g, c, h1, h2, h3, h4, h5, h6, h7, h8, h9, fun A S s2 hr hf hS hk hc ho hb => seg_imp (fun n s₀ r s hR => ?_) (fun n s₀ v s kap kap' hkk hY => ?_) _ (h10 A S [] s2 hr hf hS (fun b hb => nomatch hb) hk hc (fun b hb => nomatch hb) ho hb)⟩
  · rcases hR with ⟨q1, _, H', ys, acc, c', q2, q3, q4, q5, q6, _, q7⟩ | q
    · exact .inl ⟨q1, H', ys, acc, c', q2, q3, q4, q5, q6, q7⟩
    · exact .inr q
  · obtain ⟨q1, q2, q3, q4, _, q5, q6⟩ := hY
    exact ⟨q1, q2, q3, q4, q5, fun s'' z => hkk _ _ (q6 s'' ⟨z.os, z.bare, fun b o hb _ => z.keep b o hb, z.own, fun b hb => nomatch hb⟩)⟩
structure GFn (P : Program) (w : World) (K : PySem.W.Frag) (mg : Str → Option Value) (base : Heap) (k : Nat) (f : Addr) (fd : FuncData) (ps : List Str) (sp : SpG) : Prop where
  len : ∀ vs H Q E, sp vs H Q E → vs.length = ps.length
  run : ∀ (A : Around) (outer : List Env) (s : Shared) (H : Hp) (args : Args) (us : List Value) (vs : List V) (Q : List V → Hp → Prop) (E : XK), Room k A → Env0 P w K mg base A outer s H → BindsTo s fd args (ps.zip us) → Vals vs us → sp vs H Q E →
    codeAny (model P w) A (.call (.ref f) args) (fun r s' => match r with | .ok (.ret u) => GMade P w k outer H s [] Q E u s' | _ => False) s
theorem GFn.alone {P : Program} {w : World} {K : PySem.W.Frag} {mg : Str → Option Value} {base : Heap} {k : Nat} {f : Addr} {fd : FuncData} {ps : List Str} {sp : SpG} (G : GFn P w K mg base k f fd ps sp) : L2.GFn P w K mg base k f fd ps sp :=
  ⟨G.len, fun A o s H a us vs Q E hr he hb hv hsp => codeAny_mono (G.run A o s H a us vs Q E hr he hb hv hsp) fun r s' h => by
    cases r with
    | error e => exact h
    | ok fl =>
      cases fl with
      | ret u => exact GMade.alone h
      | next => exact h
      | brk => exact h
      | cont => exact h⟩
end LG
/-! M56: generators. -/
namespace M
open PySem PySem.Spec PyProof.Rows L2
/-- how a generator's statement ends; the list: what was handed out -/
inductive RG where
  | nx (env : Env) (st : Sto) (acc : List D)
  | exc (C : Str) (fs : List (Str × D)) (env : Env) (st : Sto)
  | bad
  deriving Inhabited
abbrev IGB := Env → Sto → List D → RG
def PostG (W : Vw) (r : RG) (D : GEnds) (E : WX) : Prop := match r with
  | .nx env st acc => ∀ ρ' H' σ' ys, Ext W ρ' H' → Sim (W.to ρ' H') st → EnvR (W.to ρ' H') env σ' → RVs (W.to ρ' H') acc ys → D.nx ys σ' H'
  | .exc C fs env st => ∀ ρ' H' σ' d, Ext W ρ' H' → Sim (W.to ρ' H') st → EnvR (W.to ρ' H') env σ' → XR (W.to ρ' H') fs d → E (.ref (W.g C)) d σ' H'
  | .bad => False
theorem PostG.ext {W : Vw} {ρ' : List Addr} {H' : Hp} {r : RG} {D : GEnds} {E : WX} (x : Ext W ρ' H') (h : PostG W r D E) : PostG (W.to ρ' H') r D E := by
  cases r with
  | nx e s a => exact fun ρ2 H2 b ys y => h ρ2 H2 b ys (x.trans y)
  | exc C fs e s => exact fun ρ2 H2 b d y => h ρ2 H2 b d (x.trans y)
  | bad => exact h
theorem PostG.here {W : Vw} {env : Env} {st : Sto} {acc : List D} {D : GEnds} {E : WX} {σ : L2.St} {ys : List V} (h : PostG W (.nx env st acc) D E) (S : Sim W st) (e : EnvR W env σ) (r : RVs W acc ys) : D.nx ys σ W.H := h W.ρ W.H σ ys Ext.refl S e r
def gNil : IGB := fun env st acc => .nx env st acc
def kG (j : IGB) : RG → RG
  | .nx e s a => j e s a
  | r => r
section
variable {X : Cx} {F : Fx} {st : Stmt} {rest : List Stmt} {pos : Pos}
end
/-! ### generator defs -/
abbrev FnGn := List D → Sto → R (List D)
section
variable {P : Program} {w : World} {K : PySem.W.Frag} {mg : Str → Option Value} {base : Heap} {g : GG}
end
end M
/-! M57: list(g), tuple(range(n)), tests that are chains. -/
namespace M
open PySem PySem.Spec PyProof.Rows L2
section
variable {X : Cx} {F : Fx} {pos : Pos}
variable {k : Nat} {f : Addr} {fd : FuncData} {ps : List Str} {x : Str} {p p2 pos2 : Pos} {e : Expr} {es : List Expr} {fl : FnGn} {cs : List Str} {j : IA}
end
end M
/-! M58: repr of a list or a tuple of one instance. -/
namespace PySem
open Sem (wp)
/-- amid a builtin function's run -/
structure Amid (A A' : Around) : Prop where
  hd : A'.handled = A.handled
  fr : A'.frames = A.frames
  dp : A'.depth ≤ A.depth + 4
  un : A'.units ≤ A.units + 8
theorem Amid.refl (A : Around) : Amid A A := ⟨rfl, rfl, by omega, by omega⟩
section
variable {prog : Program} {w : World} {A : Around} {E : Value → Shared → Prop} {s : Shared} {x : Addr} {ox : Obj} {C f : Addr} {od : Option Obj} {K : W.Frag}
end
section
open Builtin Builtin.List
variable {prog : Program} {w : World} {A : Around} {E : Value → Shared → Prop} {s : Shared} {a : Addr} {x : Value} {oa : Obj} {na : Nat} {g : List Code}
end
end PySem
/-! M59: repr of a list or a tuple of one instance, in the embedding. -/
namespace M
open PySem PySem.Spec PyProof.Rows L2
section
variable {X : Cx} {F : Fx} {fS : Addr} {C : Str} {fn : Fn}
end
end M
/-! M62: open defs as values; binding by keywords alone. -/
namespace M
open PySem PySem.Spec PyProof.Rows L2
section
variable {X : Cx} {F : Fx} {W : Vw} {st : Sto} {pos apos p : Pos} {o e fe : Expr} {es : List Expr} {i : IE} {j : IA} {k : Nat} {fs : List (Str × Fn)}
structure HeldO (X : Cx) (F : Fx) (k : Nat) (fs : List (Str × Fn)) : Prop where
  ex : ∀ q ∈ fs, ∃ (fd : FuncData) (ps : List Str), FnO X.prog X.w X.K X.mg X.base k (F.g q.1) fd ps (SPx F.K F.g q.2) ∧ PySem.W.keepIn X.K (.ref (F.g q.1)) = true ∧ Binds X.K fd ps []
end
section
variable {K : PySem.W.Frag} {x qual : Str} {params : Arguments} {body : List Stmt} {scope : Scope} {f : Addr} {fd : FuncData} {ps ks : List Str} {ws : List Value} {s : Shared}
end
end M
/-! M63: dicts whose keys are tuples of numbers, texts and None: what stands; {}, get, d[k] = v. -/
namespace M
open PySem PySem.Spec PyProof.Rows L2
/-! ### keys -/
/-! ### pairs -/
section
variable {W : Vw} {t : Bool} {kvs : List (List Leaf × D)} {xs : List (List Leaf × Addr × V)} {vs : List (List Leaf × Addr × Value)} {k : List Leaf}
end
/-! ### the object -/
section
variable {X : Cx} {pins : List (Addr × Obj)} {σ : L2.St} {H : Hp} {s : Shared} {W : Vw} {t : Bool} {a b : Addr} {kvs : List (List Leaf × D)} {xs : List (List Leaf × Addr × V)} {k : List Leaf}
end
section
variable {X : Cx} {F : Fx} {pos apos p : Pos} {o e : Expr} {es : List Expr} {i j : IE} {ja : IA} {name : Str} {id : String}
/-! ### {} -/
/-! ### methods of a dict -/
/-! ### get -/
end
end M
/-! M64: d[k] = v and list(d.items()) of such dicts. -/
namespace M
open PySem PySem.Spec PyProof.Rows L2
section
variable {X : Cx} {F : Fx} {pos apos p : Pos} {o e : Expr} {es : List Expr} {i j : IE} {ja : IA} {name : Str} {id : String}
/-! ### d[k] = v -/
/-! ### list(d.items()) -/
end
end M
/-! M65: tuples of which more is known; their index; list(range(a, b)). -/
namespace M
open PySem PySem.Spec PyProof.Rows L2
section
variable {X : Cx} {F : Fx} {W : Vw} {st : Sto} {pos apos p : Pos} {o e : Expr} {es : List Expr} {i j : IE} {ja : IA} {name : Str} {id : String}
/-! ### such a tuple taken as a tuple -/
/-! ### tuple(xs) -/
/-! ### tuple(range(n)) -/
/-! ### list(range(a, b)) -/
/-! ### methods of such a tuple -/
instance : PySem.W.Datum Leaf where
  toD k := match k with
    | .none => .none
    | .num i => .int i
    | .text x => .str x
  plain k := by cases k <;> rfl
  eqv a b := by
    cases a <;> cases b <;> simp [PyData.eqv] <;> (rw [Bool.eq_iff_iff]; simp)
  depth := 0
  depth_le k := by cases k <;> exact Nat.le_refl _
end
end M
/-! M66: sum of a list of ints, xs[::-1], calls with positional values and keywords. -/
namespace M
open PySem PySem.Spec PyProof.Rows L2
section
variable {X : Cx} {F : Fx} {W : Vw} {st : Sto}
end
/-! ### calls with positional values and keywords -/
/-- the values at these places -/
def gPick {α : Type} (perm : List Nat) (l : List α) : List α := perm.filterMap fun i => l[i]?
theorem vals_get : ∀ {vs : List V} {us : List Value}, Vals vs us → ∀ i : Nat, (vs[i]? = none ∧ us[i]? = none) ∨ ∃ v u, vs[i]? = some v ∧ us[i]? = some u ∧ RelV v u
  | _, _, .nil, i => .inl ⟨by simp, by simp⟩
  | _, _, .cons r rs, 0 => .inr ⟨_, _, rfl, rfl, r⟩
  | _, _, .cons r rs, i + 1 => by simpa using vals_get rs i
theorem rvs_get {W : Vw} : ∀ {ds : List D} {vs : List V}, RVs W ds vs → ∀ i : Nat, (ds[i]? = none ∧ vs[i]? = none) ∨ ∃ d v, ds[i]? = some d ∧ vs[i]? = some v ∧ RV W d v
  | _, _, .nil, i => .inl ⟨by simp, by simp⟩
  | _, _, .cons r rs, 0 => .inr ⟨_, _, rfl, rfl, r⟩
  | _, _, .cons r rs, i + 1 => by simpa using rvs_get rs i
theorem vals_pick {vs : List V} {us : List Value} (r : Vals vs us) : ∀ perm : List Nat, Vals (gPick perm vs) (gPick perm us)
  | [] => .nil
  | i :: perm => by
    have ih := vals_pick r perm
    unfold gPick at ih ⊢
    rcases vals_get r i with ⟨e1, e2⟩ | ⟨v, u, e1, e2, q⟩
    · rw [List.filterMap_cons_none e1, List.filterMap_cons_none e2]; exact ih
    · rw [List.filterMap_cons_some e1, List.filterMap_cons_some e2]; exact .cons q ih
theorem rvs_pick {W : Vw} {ds : List D} {vs : List V} (r : RVs W ds vs) : ∀ perm : List Nat, RVs W (gPick perm ds) (gPick perm vs)
  | [] => .nil
  | i :: perm => by
    have ih := rvs_pick r perm
    unfold gPick at ih ⊢
    rcases rvs_get r i with ⟨e1, e2⟩ | ⟨v, u, e1, e2, q⟩
    · rw [List.filterMap_cons_none e1, List.filterMap_cons_none e2]; exact ih
    · rw [List.filterMap_cons_some e1, List.filterMap_cons_some e2]; exact .cons q ih
section
variable {K : PySem.W.Frag} {x qual : Str} {params : Arguments} {body : List Stmt} {scope : Scope} {dvs : List V} {kws : List (Str × V)} {f : Addr} {fd : FuncData} {ps : List Str}
theorem kbn_pick0 (F : FunD K x qual params body scope [] kws f fd) (n : Nat) (ks : List Str) (perm : List Nat)
    (h : ∀ (kV doc pm : Value) (an : Option Addr) (cdv ct : Value) (us ws : List Value), us.length = n → ws.length = ks.length → bindArgs (PySem.W.fnOf x qual params body scope .none kV doc pm an cdv ct) ⟨us, ks.zip ws⟩ = pure (ps.zip (gPick perm (us ++ ws)))) :
    ∃ its : List Value, KBn K fd ps n ks (fun us ws => gPick perm (us ++ (its ++ ws))) (fun vs zs => gPick perm (vs ++ ([] ++ zs))) := by
  obtain ⟨oc, od, dV, kV, doc, pm, an, cdv, ct, osl, rfl, lk, hcd, hD, hK⟩ := F.ex
  rcases hD with ⟨_, rfl⟩ | ⟨e, _⟩
  · exact ⟨[], ⟨fun s us ws X l1 l2 => .of_eq (h kV doc pm an cdv ct us ws l1 l2), fun r1 r2 => vals_pick (r1.append r2) perm⟩⟩
  · exact absurd rfl e
theorem kbn_pickD (F : FunD K x qual params body scope dvs kws f fd) (n : Nat) (ks : List Str) (perm : List Nat) (hd : dvs ≠ [])
    (h : ∀ (T : Addr) (kV doc pm : Value) (an : Option Addr) (cdv ct : Value) (us its ws : List Value), us.length = n → its.length = dvs.length → ws.length = ks.length →
      ∃ k, bindArgs (PySem.W.fnOf x qual params body scope (.ref T) kV doc pm an cdv ct) ⟨us, ks.zip ws⟩ = seqItems? (.ref T) >>= k ∧ k (some its.toArray) = pure (ps.zip (gPick perm (us ++ (its ++ ws))))) :
    ∃ its : List Value, KBn K fd ps n ks (fun us ws => gPick perm (us ++ (its ++ ws))) (fun vs zs => gPick perm (vs ++ (dvs ++ zs))) :=
  F.kbindsD n ks (fun us its ws => gPick perm (us ++ (its ++ ws))) hd (fun r1 r2 r3 => vals_pick (r1.append (r2.append r3)) perm) h
end
section
variable {X : Cx} {F : Fx} {k n : Nat} {f : Addr} {fd : FuncData} {ps ks : List Str} {fs : Fn} {x : Str} {p pos : Pos} {e : Expr} {es : List Expr} {kws : List Keyword} {j jk : IA} {g : List Value → List Value → List Value} {dvs : List V} {dd : List D} {perm : List Nat}
def kPick (fs : Fn) (n m : Nat) (perm : List Nat) (dd ds zs : List D) (st : Sto) : R D := if ds.length = n ∧ zs.length = m then fs (gPick perm (ds ++ (dd ++ zs))) st else .bad
def iCallK (fs : Fn) (m : Nat) (perm : List Nat) (dd : List D) (jk : IA) : IE := fun env st => (jk env st).bind fun zs s2 => kPick fs 0 m perm dd [] zs s2
theorem run_gN {pins : List (Addr × Obj)} {σ : L2.St} {H : Hp} {s : Shared} {Q : VK} {us ws : List Value} {vs zs : List V} {sp : Sp} {gV : List V → List V → List V} (G : FnG X.prog X.w X.K X.mg X.base k f fd ps sp) (hr : Room k X.A) (hgd : X.A.guards = some []) (hb : KBn X.K fd ps n ks g gV) (tk : L2N.Takes X F.E)
    (I : Inv X pins σ H s) (r : Vals vs us) (rz : Vals zs ws) (l1 : vs.length = n) (l2 : zs.length = ks.length) (h : sp (gV vs zs) H Q (F.at_ σ)) : wpAny (model X.prog X.w) X.A (call (.ref f) us (ks.zip ws)) (EP X pins σ Q) X.xe s := by
  have r2 := hb.rel r rz
  refine wpAny_call (codeAny_mono (G.run X.A X.stack s H ⟨us, ks.zip ws⟩ (g us ws) (gV vs zs) Q (F.at_ σ) hr hgd I.env0 (hb.to s us ws I.kIn (r.length.symm.trans l1) (rz.length.symm.trans l2)) r2 h) fun r s' hq => ?_)
  cases r with
  | error e => exact tk e s' (L2N.XE.of_call I (fun _ _ _ h => h) hq)
  | ok fl =>
    cases fl with
    | ret u => exact I.after hq
    | next => exact hq.elim
    | brk => exact hq.elim
    | cont => exact hq.elim
theorem pick_sp {W : Vw} {st : Sto} {env : Env} {σ : L2.St} {H : Hp} {ds zs : List D} {vs ws : List V} {Q : VK} {m : Nat} (hdd : ∀ W : Vw, W.K = F.K → W.g = F.g → RVs W dd dvs) (A : At F W st env σ H) (r : RVs W ds vs) (rz : RVs W zs ws) (q : Post W RV (kPick fs n m perm dd ds zs st) Q (F.at_ σ)) :
    vs.length = n ∧ ws.length = m ∧ SPx F.K F.g fs (gPick perm (vs ++ (dvs ++ ws))) H Q (F.at_ σ) := by
  unfold kPick at q
  split at q
  · rename_i c
    exact ⟨r.length.symm.trans c.1, rz.length.symm.trans c.2, W, st, _, A.k, A.g, A.h, A.sim, rvs_pick (r.append ((hdd W A.k A.g).append rz)) perm, q⟩
  · exact q.elim
end
/-! ### range(i, j, -1) -/
section
variable {X : Cx} {F : Fx}
def nxD (lo : Int) (n : Nat) : Nx := fun i _ => if i < n then some (some (.int (lo + i * (-1)))) else some none
theorem itok_dn {W : Vw} {lo : Int} {n m : Nat} : ItOk W (nxD lo n, m) (Itc lo (-1) n) where
  go := fun V st i d x S e => by
    have e' : (if i < n then some (some (D.int (lo + i * (-1)))) else some none) = some (some d) := e
    split at e'
    · rename_i c
      cases e'
      exact ⟨c, fun y H2 ⟨e2, f⟩ => by subst e2; subst f; exact ⟨Ext.refl, S, .int _⟩⟩
    · cases e'
  stop := fun V st i x S e => by
    have e' : (if i < n then some (some (D.int (lo + i * (-1)))) else some none) = some none := e
    split at e'
    · cases e'
    · rename_i c
      exact Nat.not_lt.mp c
def kRng3 (ds : List D) (s : Sto) : R (Nx × Nat) := match ds with
  | [.int i, .int j, .int (-1)] => if -(2 ^ 62) ≤ i ∧ i < 2 ^ 62 ∧ -(2 ^ 62) ≤ j ∧ j < 2 ^ 62 then .ok (nxD i (i - j).toNat, (i - j).toNat) s else .bad
  | _ => .bad
def wRng3 (i : IA) : IW := fun env st => (i env st).bind kRng3
theorem rv3' {W : Vw} {a b c : D} {vs : List V} (r : RVs W [a, b, c] vs) : ∃ x y z, vs = [x, y, z] ∧ RV W a x ∧ RV W b y ∧ RV W c z := by
  cases r with
  | cons r1 r => cases r with
    | cons r2 r => cases r with
      | cons r3 r => cases r with
        | nil => exact ⟨_, _, _, rfl, r1, r2, r3⟩
theorem w_rng3 {tg a b c : Expr} {p pos : Pos} {i : IA} (hg : Gl X "range") (hm : X.mg "range" = none) (ha : PA X [a, b, c] (TA_ F i))
    (hs : starEach [a, b, c] X.env = (false, eval a X.env) :: starEach [b, c] X.env := by rfl) (hpl : (backTo pos (starEach [b, c] X.env)).any (·.1) = false := by rfl) :
    PI X tg (.Call (.Name "range" p) [a, b, c] [] pos) (TW F (wRng3 i)) := PI.imp (pi_range3 hg hm ha hs hpl) fun σ H Q h =>
  (TX.bind (k := fun d env s => kRng3 d s) h).mono fun x H1 ⟨W, s, env, d, A, r, p⟩ => by
    have p' : Post W ItOk (kRng3 d s) Q (F.at_ σ) := p
    unfold kRng3 at p'
    split at p'
    · split at p'
      · rename_i cc
        obtain ⟨v, u, z, rfl, rv, ru, rz⟩ := rv3' r
        cases rv
        cases ru
        cases rz
        have q := p' W.ρ W.H _ Ext.refl A.sim itok_dn
        rw [A.h] at q
        exact ⟨_, _, _, _, rfl, RgC.neg cc.1 cc.2.1 cc.2.2.1 cc.2.2.2, q⟩
      · exact p'.elim
    · exact p'.elim
end
end M
/-! M67: defs that change a few lists handed in, and hand back what nobody changes any more. -/
namespace M
open PySem PySem.Spec PyProof.Rows L2
section
variable {W W' : Vw} {st : Sto}
structure IntoC (m : Nat) (W W' : Vw) : Prop where
  k : W'.K = W.K
  g : W'.g = W.g
  h : W'.H = W.H
  fro : ∀ a, W.fro a → W'.fro a
  ref : ∀ (j : Nat) a, m ≤ j → W.ρ[j]? = some a → W'.fro a
end
section
variable {P : Program} {w : World} {K : PySem.W.Frag} {mg : Str → Option Value} {base : Heap} {g : GG} {kk : Nat} {fa : Addr} {fd : FuncData} {ps : List Str} {f : Fn}
end
end M
/-! M68: sorted(set(e)) of ints. -/
namespace M
open PySem PySem.Spec PyProof.Rows L2

def SetI (w : World) (h : Heap) (a : Addr) (l : List Int) : Prop := SetR w h a (fun k => decide (k ∈ l)) l.length
theorem SetI.at {w : World} {h h' : Heap} {a : Addr} {l : List Int} (R : SetI w h a l) (k : ∀ o, h.get? a = some o → h'.get? a = some o) : SetI w h' a l := SetR.at R k
section
variable {P : Program} {w : World} {A : Around} {R : Result → Shared → Prop} {I : Addr} {fp wr : List Addr} {G : Array GenState → Array GenState → Prop} {n : Nat} {Pv : Nat → Value → Prop} {St : Nat → Shared → Prop}
end
section
variable {P : Program} {w : World} {A : Around} {E : Value → Shared → Prop} {s : Shared}
end

section
variable {X : Cx} {F : Fx} {pos : Pos}
theorem vals_ints : ∀ {us : List Value} {xs : List Int}, Vals (xs.map V.int) us → IntsAre us xs
  | [], [], .nil => .nil
  | u :: us, x :: xs, .cons r t => by
    obtain ⟨k, rfl⟩ := r
    exact .cons x k (vals_ints t)
end
end M
/-! M69: dicts that nobody changes: dict(pairs), list(d.items()), d[k]. -/
namespace M
open PySem PySem.Spec PyProof.Rows L2
section
variable {X : Cx} {F : Fx} {W : Vw} {st : Sto} {pos : Pos}
/-! ### d[k] -/
/-! ### dict(pairs) -/
/-! ### list(d.items()) -/
end
end M
/-! M70: list(range(a)), {k: v} with a tuple for a key. -/
namespace M
open PySem PySem.Spec PyProof.Rows L2
section
variable {X : Cx} {F : Fx} {pos : Pos}
/-! ### list(range(a)) -/
end
/-! ### what was hidden is now at hand -/
section
variable {W : Vw} {q : Addr} {st : Sto}
end
/-! ### {k: v} -/
section
variable {P : Program} {w : World} {A : Around} {E : Value → Shared → Prop} {s : Shared}
end
section
variable {X : Cx} {F : Fx} {pos : Pos}
end
end M
/-! M71: loops over zip of two lists that nobody changes. -/
namespace M
open PySem PySem.Spec PyProof.Rows L2 RZ
def kZipL : List D → Sto → R (Nx × Nat) := fun ds s => match ds with
  | [.lst xs, .lst ys] => .ok (nxZ xs ys, xs.length) s
  | _ => .bad
def wZipL (j : IA) : IW := fun env st => (j env st).bind kZipL
section
variable {W : Vw} {X : Cx} {F : Fx} {pos : Pos}
theorem itok_zipL {a b : Addr} {xs xs' : List D} {ys ys' : List L2.V} {m : Nat} (t : W.Lst a ys) (r : RVs W xs ys) (t' : W.Lst b ys') (r' : RVs W xs' ys') : ItOk W (nxZ xs xs', m) (L2.Itz W.K a b) where
  go := fun V st i d x S e => by
    have e0 : nxZ xs xs' i st = some (some d) := e
    unfold nxZ at e0
    split at e0
    · rename_i z z' e1 e2
      cases e0
      have t1 := (t.vx x).sq
      have t2 := (t'.vx x).sq
      have r1 := r.vx x
      have r2 := r'.vx x
      rw [x.k] at t1 t2
      obtain ⟨v, hv, rv⟩ := r1.get e1
      obtain ⟨v', hv', rv'⟩ := r2.get e2
      refine ⟨⟨ys, ys', v, v', t1, t2, hv, hv'⟩, fun y H2 ⟨T, u, u', ey, hT, e2, f, f'⟩ => ?_⟩
      subst ey
      subst e2
      have q := f ys t1
      rw [hv] at q
      cases q
      have q' := f' ys' t2
      rw [hv'] at q'
      cases q'
      exact pair_new2 S hT rv rv'
    · cases e0
  stop := fun V st i x S e => by
    have e0 : nxZ xs xs' i st = some none := e
    refine ⟨ys, ys', by rw [← x.k]; exact (t.vx x).sq, by rw [← x.k]; exact (t'.vx x).sq, ?_⟩
    rw [← r.length, ← r'.length]
    unfold nxZ at e0
    by_cases h1 : xs.length ≤ i
    · exact .inl h1
    · by_cases h2 : xs'.length ≤ i
      · exact .inr h2
      · rw [List.getElem?_eq_getElem (by omega), List.getElem?_eq_getElem (by omega)] at e0
        cases e0
/-- for x, y in zip(e, e2) -/
theorem w_zipL {elts : List Expr} {kk : Nat} {tpos p : Pos} {e e2 : Expr} {j : IA} (hk : X.K = F.K) (hg : Gl X "zip") (hm : X.mg "zip" = none) (ha : PA X [e, e2] (TA_ F j))
    (hs : starEach [e, e2] X.env = (false, eval e X.env) :: starEach [e2] X.env := by rfl) (hpl : (backTo pos (starEach [e2] X.env)).any (·.1) = false := by rfl) :
    PI X (.Tuple elts kk tpos) (.Call (.Name "zip" p) [e, e2] [] pos) (TW F (wZipL j)) := PI.imp (pi_zipA hg hm ha hs hpl) fun σ H Q h =>
  (TX.bind (k := fun ds env s => kZipL ds s) h).mono fun x H1 ⟨W, s, env, ds, A, r, p⟩ => by
    have p' : Post W ItOk (kZipL ds s) Q (F.at_ σ) := p
    unfold kZipL at p'
    split at p'
    · rename_i xs xs'
      cases r with
      | cons r1 rr =>
        cases rr with
        | cons r2 rn =>
          cases rn
          cases r1 with
          | lst t q1 =>
            cases r2 with
            | lst t' q2 =>
              have q := p' W.ρ W.H _ Ext.refl A.sim (itok_zipL t q1 t' q2)
              have s1 := t.sq
              have s2 := t'.sq
              rw [A.k, ← hk] at q s1 s2
              rw [A.h] at q s1 s2
              exact ⟨_, _, _, _, rfl, .inl ⟨s1, s2, q⟩⟩
    · exact p'.elim
end
end M
/-! M72: targets x[i] in a tuple of targets whose parts raise nothing. -/
namespace M
open PySem PySem.Spec PyProof.Rows L2
def NeX (i : IE) : Prop := ∀ env st C fs s, i env st ≠ .exc C fs s
theorem ne_var (n : Nat) : NeX (iVar n) := fun env st C fs s h => by
  have h' : (match env[n]? with | some (some d) => R.ok d st | _ => .bad) = .exc C fs s := h
  split at h' <;> cases h'
end M
/-! M73: loops over d.items() of a dict of the store, which stands locked while it is walked. -/
namespace M
open PySem PySem.Spec PyProof.Rows L2
section
variable {X : Cx} {pins : List (Addr × Obj)} {σ : L2.St} {H : Hp} {s : Shared} {a : Addr} {od : Obj} {xs : List (List Leaf × Addr × V)}
end
section
variable {P : Program} {w : World} {K : PySem.W.Frag} {a : Addr} {od : Obj} {es : Array DictEntry} {ep : Nat} {xs : List (List Leaf × Addr × V)}
end
/-! ### the store's side -/
section
variable {W : Vw} {ρ' : List Addr} {H' : Hp} {q : Addr} {u : HO} {st : Sto}
end
end M
/-! M74: for x, y in d.items(): the dict is locked while the loop runs. -/
namespace M
open PySem PySem.Spec PyProof.Rows L2
end M
/-! M75: list(d.values()) of a dict with tuple keys. -/
namespace M
open PySem PySem.Spec PyProof.Rows L2
section
variable {prog : Program} {w : World} {A : Around} {E : Value → Shared → Prop} {s : Shared}
end
section
variable {X : Cx} {F : Fx} {pos apos p : Pos} {o e : Expr} {i : IE}
end
end M
/-! M76: sorted(.., key = f) where f is a def known by its rule (what it changes is said by Inv). -/
namespace M
open PySem PySem.Spec PyProof.Rows L2
open PySem.W (EachIs AllAlike KeyedOut KeepsBut)
section
variable {X : Cx} {A' : Around} {f a : Addr} {vs : List Value} {xs : List V} {P : List V → Hp → Prop} {kz : List PyData} {R : PySem.Fin → Shared → Prop} {E : Value → Shared → Prop} {σ : L2.St} {pins : List (Addr × Obj)}
/-- what stays of a fresh place, whatever the abstract heap -/
def Away (X : Cx) (pins : List (Addr × Obj)) (b : Addr) : Prop := b ≠ X.env.locals ∧ b ∉ X.fs ∧ (b ∈ X.ex ∨ X.s_0.heap.objs.size ≤ b) ∧ (∀ x c, X.env.cells.lookup x = some c → c ≠ b) ∧ ∀ p ∈ X.pn ++ pins, p.1 ≠ b
theorem Away.turned {H : Hp} {s : Shared} {h' : Heap} {t' : Nat} {b : Addr} (w : Away X pins b) (I : Inv X pins σ H s) (hn : H b = none) (k : ∀ c o, c ≠ b → s.heap.get? c = some o → h'.get? c = some o) : Inv X pins σ H { s with heap := h', toks := t' } :=
  I.turned k hn w.1 w.2.2.1 w.2.2.2.1 w.2.2.2.2
theorem Away.sub {b : Addr} {q : Addr × Obj} (w : Away X pins b) (n : q.1 ≠ b) : Away X (q :: pins) b := ⟨w.1, w.2.1, w.2.2.1, w.2.2.2.1, fun p hp => by
  rcases List.mem_append.mp hp with h | h
  · exact w.2.2.2.2 p (List.mem_append_left _ h)
  · rcases List.mem_cons.mp h with h | h
    · rw [h]; exact n
    · exact w.2.2.2.2 p (List.mem_append_right _ h)⟩
end
end M
/-! M77: sorted(d.items(), key = f), d a dict with tuple keys, f a def whose keys are tuples of whole numbers. -/
namespace M
open PySem PySem.Spec PyProof.Rows L2
open PySem.W (EachIs AllAlike KeyedOut KeepsBut)
def tI : PyData → Bool
  | .int _ => true
  | _ => false
section
variable {X : Cx} {F : Fx} {k : Nat} {f : Addr} {fd : FuncData} {ps : List Str} {fs : Fn}
end
end M
/-! M78: sorted(d.items(), key = f) as an expression. -/
namespace M
open PySem PySem.Spec PyProof.Rows L2
section
variable {X : Cx} {F : Fx} {k : Nat} {f : Addr} {fd : FuncData} {ps : List Str} {fs : Fn} {pos apos p p2 px kpos : Pos} {o : Expr} {i : IE} {xn : Str}
end
end M
/-! M79: sorted of a list of pairs (a tuple of whole numbers, a whole number). -/
namespace M
open PySem PySem.Spec PyProof.Rows L2
open PySem.W (EachIs AllAlike KeyedOut KeepsBut)
end M
/-! M80: len(d), k in d, d[k] of a dict with tuple keys; len(set(e)) of ints. -/
namespace M
open PySem PySem.Spec PyProof.Rows L2
section
variable {X : Cx} {F : Fx} {pos : Pos}
/-! ### len(set(e)) -/
end
end M
/-! M81: dicts whose keys are pairs of a tuple and a number: {}, get, d[k] = v, d[k]. -/
namespace M
open PySem PySem.Spec PyProof.Rows L2
/-! ### keys -/
/-! ### pairs -/
section
variable {W : Vw} {kvs : List (PKy × D)} {xs : List (PKy × Addr × V)} {vs : List (NestedKey × Addr × Value)} {k : PKy}
end
/-! ### the object -/
section
variable {X : Cx} {pins : List (Addr × Obj)} {σ : L2.St} {H : Hp} {s : Shared} {W : Vw} {a b : Addr} {kvs : List (PKy × D)} {xs : List (PKy × Addr × V)} {k : PKy}
end
section
variable {X : Cx} {F : Fx} {pos apos p : Pos} {o e : Expr} {es : List Expr} {i j : IE} {ja : IA} {name : Str} {id : String}
/-! ### {} -/
/-! ### methods -/
/-! ### get -/
/-! ### d[k] = v -/
end
end M
/-! M82: an expression runs while a dict is locked; walks of its keys; d[k] of a locked dict. -/
namespace M
open PySem PySem.Spec PyProof.Rows L2
/-! ### keys of a locked dict -/
section
variable {X : Cx} {pins : List (Addr × Obj)} {σ : L2.St} {H : Hp} {s : Shared} {a : Addr} {od : Obj}
end
section
variable {P : Program} {w : World} {K : PySem.W.Frag} {tg : Expr} {a : Addr} {od : Obj} {es : Array DictEntry} {ep : Nat}
end
/-! ### the store's side -/
/-! ### the lock -/
/-! ### d[k] of a locked dict -/
end M
/-! M83: sorted of a list of texts, as long as one likes. -/
namespace M
open PySem PySem.Spec PyProof.Rows L2
open PySem.W (EachIs AllAlike KeyedOut KeepsBut)
end M
/-! M85: one dict's entries put into another (the model's mergeMapping), for keys that are carried by value. -/
namespace PySem
open PySem.Spec PyProof.Rows
section
variable {prog : Program} {w : World} {K : Type} [DecidableEq K] {knd : KeyKind prog w K} {A : Around} {E : Value → Shared → Prop} {s : Shared}
end
end PySem
/-! M86: {**d, k: v}, {**d, **e}: at the kit's level. -/
namespace M
open PySem PySem.Spec PyProof.Rows L2
/-! ### the display, unrolled -/
section
variable {P : Program} {w : World} {K : Type} [DecidableEq K] {knd : KeyKind P w K} {A : Around} {E : Value → Shared → Prop} {s : Shared}
end
/-! ### an untracked dict of ours is taken up -/
section
variable {X : Cx} {pins : List (Addr × Obj)} {σ : L2.St} {H : Hp} {s : Shared}
end
end M
/-! M87: {**d, **e}; the embedding's rules for the displays; d.get(k, x) of a dict that nobody changes. -/
namespace M
open PySem PySem.Spec PyProof.Rows L2
/-! ### the embedding -/
section
variable {X : Cx} {F : Fx} {pos : Pos}
/-! ### d.get(k, x) -/
end
end M
/-! M88: {k: v for x in d} of a dict that nobody changes: the dict is locked while the comprehension runs. -/
namespace M
open PySem PySem.Spec PyProof.Rows L2
/-! ### a locked dict of values -/
structure Sw (H H' : Hp) (a : Addr) (ys : List (Key × V)) : Prop where
  l : Rd H a (.dK ys)
  r : Rd H' a (.dK ys)
  off : ∀ b, b ≠ a → H' b = H b
section
variable {W : Vw} {H' : Hp} {a : Addr} {ys : List (Key × V)} {st : Sto}
theorem Sw.ne {H : Hp} (s : Sw H H' a ys) {b : Addr} {o : HO} (h : H b = some o) (n1 : ∀ zs, o ≠ .dK zs) (n2 : ∀ od zs, o ≠ .frz od (.dK zs)) : b ≠ a := fun e => by
  subst e
  rcases s.l with z | ⟨od, z⟩
  · rw [h] at z; exact n1 _ (Option.some.inj z)
  · rw [h] at z; exact n2 _ _ (Option.some.inj z)
theorem Sw.at_ {H : Hp} (s : Sw H H' a ys) {b : Addr} {o : HO} (h : H b = some o) (n1 : ∀ zs, o ≠ .dK zs) (n2 : ∀ od zs, o ≠ .frz od (.dK zs)) : H' b = some o := (s.off b (s.ne h n1 n2)).trans h
theorem Sw.dk {H : Hp} (s : Sw H H' a ys) {b : Addr} {zs : List (Key × V)} (h : Rd H b (.dK zs)) : Rd H' b (.dK zs) := by
  by_cases e : b = a
  · subst e
    have : zs = ys := by
      rcases h with h | ⟨o, h⟩ <;> rcases s.l with z | ⟨od, z⟩ <;> rw [h] at z <;> cases z <;> rfl
    subst this
    exact s.r
  · rcases h with h | ⟨o, h⟩
    · exact .inl ((s.off b e).trans h)
    · exact .inr ⟨o, (s.off b e).trans h⟩
theorem Sw.tup {H : Hp} (s : Sw H H' a ys) {b : Addr} {zs : List V} (h : H b = some (.tup zs)) : H' b = some (.tup zs) := by
  have n1 : ∀ ws, (HO.tup zs) ≠ .dK ws := fun ws z => HO.noConfusion z
  have n2 : ∀ od ws, (HO.tup zs) ≠ .frz od (.dK ws) := fun od ws z => HO.noConfusion z
  exact s.at_ h n1 n2
theorem Sw.lst {H : Hp} (s : Sw H H' a ys) {b : Addr} {zs : List V} (h : H b = some (.lst zs)) : H' b = some (.lst zs) := by
  have n1 : ∀ ws, (HO.lst zs) ≠ .dK ws := fun ws z => HO.noConfusion z
  have n2 : ∀ od ws, (HO.lst zs) ≠ .frz od (.dK ws) := fun od ws z => HO.noConfusion z
  exact s.at_ h n1 n2
theorem Sw.ins {H : Hp} (s : Sw H H' a ys) {b : Addr} {C dx : Addr} {fs : List (Str × V)} (h : H b = some (.ins C dx fs)) : H' b = some (.ins C dx fs) := by
  have n1 : ∀ ws, (HO.ins C dx fs) ≠ .dK ws := fun ws z => HO.noConfusion z
  have n2 : ∀ od ws, (HO.ins C dx fs) ≠ .frz od (.dK ws) := fun od ws z => HO.noConfusion z
  exact s.at_ h n1 n2
theorem Sw.xd {H : Hp} (s : Sw H H' a ys) {b : Addr} {fs : List (Str × V)} (h : H b = some (.xd fs)) : H' b = some (.xd fs) := by
  have n1 : ∀ ws, (HO.xd fs) ≠ .dK ws := fun ws z => HO.noConfusion z
  have n2 : ∀ od ws, (HO.xd fs) ≠ .frz od (.dK ws) := fun od ws z => HO.noConfusion z
  exact s.at_ h n1 n2
theorem Sw.ext {H : Hp} (s : Sw H H' a ys) {b : Addr} {φ : Heap → Prop} (h : H b = some (.ext φ)) : H' b = some (.ext φ) := by
  have n1 : ∀ ws, (HO.ext φ) ≠ .dK ws := fun ws z => HO.noConfusion z
  have n2 : ∀ od ws, (HO.ext φ) ≠ .frz od (.dK ws) := fun od ws z => HO.noConfusion z
  exact s.at_ h n1 n2
theorem Sw.ftup {H : Hp} (s : Sw H H' a ys) {b : Addr} {zs : List V} {od : Obj} (h : H b = some (.frz od (.tup zs))) : H' b = some (.frz od (.tup zs)) := by
  have n1 : ∀ ws, (HO.frz od (.tup zs)) ≠ .dK ws := fun ws z => HO.noConfusion z
  have n2 : ∀ od' ws, (HO.frz od (.tup zs)) ≠ .frz od' (.dK ws) := fun od' ws z => by
    injection z with z1 z2
    exact HO.noConfusion z2
  exact s.at_ h n1 n2
theorem Sw.flst {H : Hp} (s : Sw H H' a ys) {b : Addr} {zs : List V} {od : Obj} (h : H b = some (.frz od (.lst zs))) : H' b = some (.frz od (.lst zs)) := by
  have n1 : ∀ ws, (HO.frz od (.lst zs)) ≠ .dK ws := fun ws z => HO.noConfusion z
  have n2 : ∀ od' ws, (HO.frz od (.lst zs)) ≠ .frz od' (.dK ws) := fun od' ws z => by
    injection z with z1 z2
    exact HO.noConfusion z2
  exact s.at_ h n1 n2
theorem rdT_sw (s : Sw W.H H' a ys) {b : Addr} {zs : List V} (h : Rd W.H b (.tup zs)) : Rd H' b (.tup zs) := by
  rcases h with h | ⟨o, h⟩
  · exact .inl (s.tup h)
  · exact .inr ⟨o, s.ftup h⟩
theorem rdL_sw (s : Sw W.H H' a ys) {b : Addr} {zs : List V} (h : Rd W.H b (.lst zs)) : Rd H' b (.lst zs) := by
  rcases h with h | ⟨o, h⟩
  · exact .inl (s.lst h)
  · exact .inr ⟨o, s.flst h⟩
theorem tup_sw (s : Sw W.H H' a ys) {b : Addr} {zs : List V} (h : W.Tup b zs) : (W.to W.ρ H').Tup b zs := by
  rcases h with ⟨h, f⟩ | h
  · exact Or.inl ⟨rdT_sw s h, f⟩
  · exact Or.inr h
theorem lst_sw (s : Sw W.H H' a ys) {b : Addr} {zs : List V} (h : W.Lst b zs) : (W.to W.ρ H').Lst b zs := by
  rcases h with ⟨h, f⟩ | h
  · exact Or.inl ⟨rdL_sw s h, f⟩
  · exact Or.inr h
theorem tpl_sw (s : Sw W.H H' a ys) {b : Addr} {zs : List V} (h : W.Tpl b zs) : (W.to W.ρ H').Tpl b zs := by
  obtain ⟨⟨o, e, d⟩, f⟩ := h
  exact ⟨⟨o, s.ftup e, d⟩, f⟩
theorem key_sw (s : Sw W.H H' a ys) {t : Bool} {b : Addr} {zs : List V} (h : W.Key t b zs) : (W.to W.ρ H').Key t b zs := by
  cases t with
  | true => exact tpl_sw s h
  | false => exact tup_sw s h
mutual
theorem RV.sw (s : Sw W.H H' a ys) : ∀ {d : D} {v : V}, RV W d v → RV (W.to W.ρ H') d v
  | _, _, .non => .non
  | _, _, .bl b => .bl b
  | _, _, .int i => .int i
  | _, _, .str x => .str x
  | _, _, .ty n => .ty n
  | _, _, .glo x => .glo (W := W.to W.ρ H') x
  | _, _, .tup h r => .tup (tup_sw s h) (r.sw s)
  | _, _, .lst h r => .lst (lst_sw s h) (r.sw s)
  | _, _, .dct h f e r => .dct (s.dk h) f e (r.sw s)
  | _, _, .obj h f r => .obj (s.ins h) f (r.sw s)
  | _, _, .exc h f p q r => .exc (s.ext h) f p (fun dx e => ⟨s.xd (q dx e).1, (q dx e).2⟩) (r.sw s)
  | _, _, .ref h => .ref h
  | _, _, .tpl h r => .tpl (tpl_sw s h) (r.sw s)
  | _, _, .adr h f r => .adr (s.ext h) f (r.sw s)
theorem RVs.sw (s : Sw W.H H' a ys) : ∀ {d : List D} {v : List V}, RVs W d v → RVs (W.to W.ρ H') d v
  | _, _, .nil => .nil
  | _, _, .cons h r => .cons (h.sw s) (r.sw s)
theorem RFs.sw (s : Sw W.H H' a ys) : ∀ {d : List (Str × D)} {v : List (Str × V)}, RFs W d v → RFs (W.to W.ρ H') d v
  | _, _, .nil => .nil
  | _, _, .cons h r => .cons (h.sw s) (r.sw s)
end
theorem OR.sw (s : Sw W.H H' a ys) {b : Addr} (n : b ≠ a) : ∀ {o : O}, OR W b o → OR (W.to W.ρ H') b o
  | .lst xs, ⟨zs, h, r⟩ => ⟨zs, (s.off b n).trans h, r.sw s⟩
  | .dct kvs, ⟨zs, h, k, r⟩ => ⟨zs, (s.off b n).trans h, k, r.sw s⟩
  | .ins C fs, ⟨dx, gs, h, r⟩ => ⟨dx, gs, (s.off b n).trans h, r.sw s⟩
  | .dcn t kvs, ⟨xs, h, r⟩ => ⟨xs, (s.off b n).trans h, Paired.mapP r fun p y z => ⟨z.1, key_sw s z.2.1, z.2.2.sw s⟩⟩
  | .lck t kvs, ⟨od, xs, h, r⟩ => ⟨od, xs, (s.off b n).trans h, Paired.mapP r fun p y z => ⟨z.1, key_sw s z.2.1, z.2.2.sw s⟩⟩
  | .dcp lk kvs, ⟨u, xs, h, l, r⟩ => ⟨u, xs, (s.off b n).trans h, l, Paired.mapP r fun p y z => ⟨z.1, z.2.1.map (fun t => tup_sw s t), z.2.2.sw s⟩⟩
  | .tbl nm _, ⟨ha, ps, h, t, k⟩ => ⟨ha, ps, (s.off b n).trans h, t, fun pos cv hc => let ⟨c, e, h1, f⟩ := k pos cv hc; ⟨c, e, s.ext h1, f⟩⟩
theorem Sim.sw (S : Sim W st) (s : Sw W.H H' a ys) (n : a ∉ W.ρ) : Sim (W.to W.ρ H') st where
  len := S.len
  nd := S.nd
  nz := S.nz
  zt := fun b h => by
    by_cases e : b = a
    · subst e
      rcases s.r with z | ⟨o, z⟩
      · exact ⟨_, z⟩
      · exact ⟨_, z⟩
    · obtain ⟨o, z⟩ := S.zt b h
      exact ⟨o, (s.off b e).trans z⟩
  at_ := fun m o b h1 h2 => (S.at_ m o b h1 h2).sw s fun e => n (by rw [← e]; exact List.mem_of_getElem? h2)
  hot := fun b h => let ⟨C, d, e, f⟩ := S.hot b h; ⟨C, d, s.ext e, f⟩
theorem EnvR.sw {env : Env} {σ : L2.St} (h : EnvR W env σ) (s : Sw W.H H' a ys) : EnvR (W.to W.ρ H') env σ := ⟨h.len, fun i d e => by obtain ⟨v, e1, r⟩ := h.at_ i d e; exact ⟨v, e1, r.sw s⟩⟩
end
/-! ### the comprehension -/
section
variable {X : Cx} {F : Fx} {pos : Pos}
end
end M
/-! M89: sorted(set(e)) of tuples of whole numbers (fewer than 64). -/
namespace M
open PySem PySem.Spec PyProof.Rows L2
open PySem.W (EachIs AllAlike)
/-! ### sorted(set) -/
section
variable {P : Program} {w : World} {A : Around} {E : Value → Shared → Prop} {s : Shared}
end
section
variable {X : Cx} {F : Fx} {pos : Pos}
end
end M
/-! M90: dicts of the store whose keys are texts or whole numbers: {}, d[k], d[k] = v. -/
namespace M
open PySem PySem.Spec PyProof.Rows L2
section
variable {X : Cx} {F : Fx} {pos : Pos}
/-! ### d[k] -/
/-! ### d[k] = v -/
end
end M
/-! M91: == of an instance with one of another class. -/
namespace M
open PySem PySem.Spec PyProof.Rows L2
section
variable {X : Cx} {F : Fx} {W : Vw} {st : Sto} {k : Nat} {C : Str} {cs : List Str} {fE : Addr} {ts : List String} {fd : FuncData} {ps : List Str} {fn : Fn}
end
end M
/-! M92: sorted(d.items()), d a dict with tuple keys; keys and values are tuples of whole numbers. -/
namespace M
open PySem PySem.Spec PyProof.Rows L2
open PySem.W (EachIs AllAlike KeyedOut KeepsBut)
section
variable {X : Cx} {F : Fx}
end
end M
/-! M93: sorted(d), d a dict whose keys are tuples of whole numbers. -/
namespace M
open PySem PySem.Spec PyProof.Rows L2
open PySem.W (EachIs AllAlike KeyedOut KeepsBut)
end M
/-! M94: tuple(range(a, b)). -/
namespace M
open PySem PySem.Spec PyProof.Rows L2
section
variable {X : Cx} {F : Fx} {pos : Pos}
end
end M
/-! M95: a lambda without parameters is made; the table of its code objects is a thing of the store. -/
namespace M
open PySem PySem.Spec PyProof.Rows L2 LamX
section
variable {X : Cx} {pins : List (Addr × Obj)} {σ : L2.St} {W : Vw} {st : Sto} {s : Shared}
theorem Sim.kept (S : Sim W st) {H1 : Hp} (x : Ext W W.ρ H1) {n : Nat} {o' : O} {P : Addr} (hn : st[n]? = some o') (hP : W.ρ[n]? = some P) (same : ∀ a, a ∈ W.ρ → a ≠ P → H1 a = W.H a) (zt : ∀ a, W.Z a → ∃ o, H1 a = some o) (new : OR (W.to W.ρ H1) P o') : Sim (W.to W.ρ H1) st where
  len := S.len
  nd := S.nd
  nz := S.nz
  zt := zt
  hot := fun a h => let ⟨C, d, e, f⟩ := S.hot a h; ⟨C, d, x.keep a _ e f.1, fro_mono x e f⟩
  at_ := fun m o a h1 h2 => by
    have h2' : W.ρ[m]? = some a := h2
    by_cases e : a = P
    · subst e
      have mn : m = n := by
        obtain ⟨b1, b2⟩ := List.getElem?_eq_some_iff.mp h2'
        obtain ⟨b3, b4⟩ := List.getElem?_eq_some_iff.mp hP
        exact (List.getElem_inj S.nd).mp (b2.trans b4.symm)
      rw [mn, hn] at h1
      cases h1
      exact new
    · exact (S.at_ m o a h1 h2').mono x (same a (List.mem_of_getElem? h2') e)
end
end M
/-! M96: a lambda handed to a def that calls it. -/
namespace M
open PySem PySem.Spec PyProof.Rows L2 LamX
theorem EnvR.tail {W : Vw} {o : Option D} {u : Option V} {e : Env} {s : L2.St} (h : EnvR W (o :: e) (u :: s)) : EnvR W e s := ⟨by have := h.len; simpa using this, fun i d q => h.at_ (i + 1) d q⟩
/-- what a slot holds is called -/
def iTh (i : Nat) (th : D → Sto → R D) : IE := fun env st => match env[i]? with
  | some (some d) => th d st
  | _ => .bad
section
variable {X : Cx} {F : Fx} {pins : List (Addr × Obj)} {σ : L2.St} {H : Hp} {s : Shared}
end
/-- a def that calls what it gets: its text, at any state -/
def CalOk (P : Program) (w : World) (K : PySem.W.Frag) (mg : Str → Option Value) (base : Heap) (gg : GG) (N : List Str) (x : Str) (sg : Scope) (g : Addr) (bg : List Stmt) (a : Str) (k : Nat) (B : (D → Sto → R D) → IS) : Prop :=
  ∀ (cdv : Value) (A : Around) (outer : List PySem.Env) (s : Shared) (H : Hp) (E : XK) (th : D → Sto → R D), Room k (A.deeper (envOfC x sg s.heap.objs.size g cdv)) → A.guards = some [] →
    (∀ (W : WX) (pn : List (Addr × Obj)) (xe : Value → Shared → Prop) (p1 p2 : Pos), L2N.Takes ((cxOf (L2N.CX P w) P w K mg base N x sg g cdv A outer s H E).tr pn xe) W → PE ((cxOf (L2N.CX P w) P w K mg base N x sg g cdv A outer s H E).tr pn xe) (.Call (.Name a p1) [] [] p2) (TI ⟨K, gg, W⟩ (iTh 0 th))) →
    PSs (cxOf (L2N.CX P w) P w K mg base N x sg g cdv A outer s H E) bg (TS_ (Fx.of K gg E) (B th))
section
variable {X : Cx} {F : Fx}
end
end M
/-! M97: defs that make lambdas; the law's call with tables of code objects in the store. -/
namespace M
open PySem PySem.Spec PyProof.Rows L2 LamX
section
variable {P : Program} {w : World} {K : PySem.W.Frag} {mg : Str → Option Value} {base : Heap} {g : GG}
end
/-! ### the law's call -/
section
variable {P : Program} {w : World} {K : PySem.W.Frag} {mg mb : Str → Option Value} {k : Nat} {fa a : Addr} {fd : FuncData} {x : Str} {sp : Sp} {s1 : Shared} {vs : List Value} {ns : List Int} {ts : List (Addr × Addr)}
end
end M
/-! M98: what a def makes of what it calls; repr of data with empty dicts. -/
namespace M
open PySem PySem.Spec PyProof.Rows L2
theorem CalOk.mono {P : Program} {w : World} {K : PySem.W.Frag} {mg : Str → Option Value} {base : Heap} {gg : GG} {N : List Str} {x : Str} {sg : Scope} {g : Addr} {bg : List Stmt} {a : Str} {j k : Nat} {B : (D → Sto → R D) → IS} (h : CalOk P w K mg base gg N x sg g bg a j B) (l : j ≤ k) : CalOk P w K mg base gg N x sg g bg a k B :=
  fun cdv A outer s H E th hr hgd act => h cdv A outer s H E th (hr.mono l) hgd act
/-! ### repr -/
section
variable {X : Cx} {F : Fx} {pins : List (Addr × Obj)} {σ : L2.St} {s : Shared} {W : Vw} {st : Sto}
end
section
variable {X : Cx} {F : Fx}
end
end M
/-! M99: sum of a tuple of whole numbers. -/
namespace M
open PySem PySem.Spec PyProof.Rows L2
section
variable {X : Cx} {F : Fx}
end
end M
/-! M100: defs called where an exception is handled; loops over lists and tuples there. -/
namespace M
open PySem PySem.Spec PyProof.Rows L2
abbrev GG.at (g : GG) (o : Option Addr) : GG := { g with hd := o }
abbrev Vw.at (W : Vw) (o : Option Addr) : Vw := { W with g := W.g.at o }
/-! ### views that know what is handled -/
section
variable {W : Vw} {o : Option Addr}
mutual
theorem RV.at : ∀ {d : D} {v : V}, RV W d v → RV (W.at o) d v
  | _, _, .non => .non
  | _, _, .bl b => .bl b
  | _, _, .int i => .int i
  | _, _, .str s => .str s
  | _, _, .ty n => .ty n
  | _, _, .glo s => .glo (W := W.at o) s
  | _, _, .tup h r => .tup (W := W.at o) h r.at
  | _, _, .lst h r => .lst (W := W.at o) h r.at
  | _, _, .dct h f e r => .dct (W := W.at o) h f e r.at
  | _, _, .obj h f r => .obj (W := W.at o) h f r.at
  | _, _, .exc h f a b r => .exc (W := W.at o) h f a b r.at
  | _, _, .ref h => .ref (W := W.at o) h
  | _, _, .tpl h r => .tpl (W := W.at o) h r.at
  | _, _, .adr h f r => .adr (W := W.at o) h f r.at
theorem RVs.at : ∀ {d : List D} {v : List V}, RVs W d v → RVs (W.at o) d v
  | _, _, .nil => .nil
  | _, _, .cons h r => .cons h.at r.at
theorem RFs.at : ∀ {d : List (Str × D)} {v : List (Str × V)}, RFs W d v → RFs (W.at o) d v
  | _, _, .nil => .nil
  | _, _, .cons h r => .cons h.at r.at
end
theorem Key.at {t : Bool} {a : Addr} {ys : List V} (h : W.Key t a ys) : (W.at o).Key t a ys := by
  cases t with
  | true => exact h
  | false => exact h
theorem OR.at {a : Addr} : ∀ {x : O}, OR W a x → OR (W.at o) a x
  | .lst xs, ⟨ys, h, r⟩ => ⟨ys, h, r.at⟩
  | .dct kvs, ⟨ys, h, k, r⟩ => ⟨ys, h, k, r.at⟩
  | .ins C fs, ⟨dx, gs, h, r⟩ => ⟨dx, gs, h, r.at⟩
  | .dcn t kvs, ⟨xs, h, r⟩ => ⟨xs, h, Paired.mapP r fun p y z => ⟨z.1, Key.at z.2.1, z.2.2.at⟩⟩
  | .lck t kvs, ⟨od, xs, h, r⟩ => ⟨od, xs, h, Paired.mapP r fun p y z => ⟨z.1, Key.at z.2.1, z.2.2.at⟩⟩
  | .dcp lk kvs, ⟨u, xs, h, l, r⟩ => ⟨u, xs, h, l, Paired.mapP r fun p y z => ⟨z.1, z.2.1, z.2.2.at⟩⟩
  | .tbl nm _, ⟨ha, ps, h, t, k⟩ => ⟨ha, ps, h, t, k⟩
theorem EnvR.at {env : Env} {σ : L2.St} (h : EnvR W env σ) : EnvR (W.at o) env σ := ⟨h.len, fun i d e => let ⟨v, e1, r⟩ := h.at_ i d e; ⟨v, e1, r.at⟩⟩
theorem XR.at {fs : List (Str × D)} {d : Option Addr} (h : XR W fs d) : XR (W.at o) fs d := let ⟨gs, r, z⟩ := h; ⟨gs, r.at, z⟩
theorem Ext.at {ρ' : List Addr} {H' : Hp} (x : Ext W ρ' H') : Ext (W.at o) ρ' H' := ⟨x.pre, x.new, x.keep, x.frz⟩
theorem Sim.at {st : Sto} (S : Sim W st) (h : ∀ a, o = some a → ∃ C d, W.H a = some (exq a C d) ∧ W.fro a) : Sim (W.at o) st := ⟨S.len, S.nd, S.nz, S.zt, fun n x a h1 h2 => (S.at_ n x a h1 h2).at, h⟩
theorem PostS.at {r : RS} {N : Ends} {E : WX} (hn : W.g.hd = none) (p : PostS W r N E) : PostS (W.at o) r N E := by
  have b1 : ∀ {ρ' : List Addr} {H' : Hp}, Ext (W.at o) ρ' H' → Ext W ρ' H' := fun x => ⟨x.pre, x.new, x.keep, x.frz⟩
  have b2 : ∀ {ρ' : List Addr} {H' : Hp} {st : Sto}, Sim ((W.at o).to ρ' H') st → Sim (W.to ρ' H') st := fun S => Sim.at (W := (W.at o).to _ _) (o := W.g.hd) S fun a h => by rw [hn] at h; cases h
  cases r with
  | nx e st => exact fun ρ' H' σ' x S r => p ρ' H' σ' (b1 x) (b2 S) (EnvR.at (W := (W.at o).to ρ' H') (o := W.g.hd) r)
  | ret d st => exact fun ρ' H' v x S r => p ρ' H' v (b1 x) (b2 S) (RV.at (W := (W.at o).to ρ' H') (o := W.g.hd) r)
  | bk e st => exact fun ρ' H' σ' x S r => p ρ' H' σ' (b1 x) (b2 S) (EnvR.at (W := (W.at o).to ρ' H') (o := W.g.hd) r)
  | ct e st => exact fun ρ' H' σ' x S r => p ρ' H' σ' (b1 x) (b2 S) (EnvR.at (W := (W.at o).to ρ' H') (o := W.g.hd) r)
  | exc C fs e st => exact fun ρ' H' σ' d x S r y => p ρ' H' σ' d (b1 x) (b2 S) (EnvR.at (W := (W.at o).to ρ' H') (o := W.g.hd) r) (XR.at (W := (W.at o).to ρ' H') (o := W.g.hd) y)
  | bad => exact p
end
abbrev Fx.at (F : Fx) (o : Option Addr) : Fx := { F with g := F.g.at o }
/-! ### the end of a list, of a tuple, an exception handled -/
section
open PySem.HandSPX
variable {prog : Program} {w : World} {A : Around} {E : Value → Shared → Prop} {s : Shared}
end
/-! ### walks there -/
section
structure TurnZ (P : Program) (w : World) (K : PySem.W.Frag) (tg : Expr) (J : It) (fp : List Addr) (it : Addr) (tn : Nat → Heap → Prop) : Prop where
  mem : it ∈ fp
  obj : ∀ i h, tn i h → ∀ b ∈ fp, ∃ o, h.get? b = some o ∧ ∀ v, o.data ≠ .cell v
  keep : ∀ i h h', tn i h → (∀ b ∈ fp, ∀ o, h.get? b = some o → h'.get? b = some o) → tn i h'
  item : ∀ (X : Cx), X.prog = P → X.w = w → X.K = K → ∀ (i : Nat) (pins : List (Addr × Obj)) (s : Shared) (σ : L2.St) (H : Hp) (E : Value → Shared → Prop), Inv X pins σ H s → (∀ b ∈ fp, FpOk X pins H b) → tn i s.heap → J.go i H →
    wpAny (model P w) X.A (pyNext (.ref it)) (fun r s1 => ∃ u, r = some u ∧
      wpAny (model P w) X.A (letOwnedTupleGo tg (.ref it) u) (fun _ s2 => ∃ x H', Inv X pins σ H' s2 ∧ RelV x u ∧ J.yld i H x H' ∧ tn (i + 1) s2.heap ∧ ∀ b ∈ fp, H' b = none) E s1) E s
  done : ∀ (X : Cx), X.prog = P → X.w = w → X.K = K → ∀ (x1 : Addr) (i : Nat) (pins : List (Addr × Obj)) (s : Shared) (σ : L2.St) (H : Hp) (E : Value → Shared → Prop), HotX.HotAt X.A x1 s.heap → (∃ o, H x1 = some o) → Inv X pins σ H s → (∀ b ∈ fp, FpOk X pins H b) → tn i s.heap → J.stop i H →
    wpAny (model P w) X.A (pyNext (.ref it)) (fun r s1 => r = none ∧ Inv X pins σ H s1) E s
def PIEZ (X : Cx) (pins : List (Addr × Obj)) (σ : L2.St) (tg : Expr) (R : It → Hp → Prop) (itv : Value) (s2 : Shared) : Prop :=
  ∃ (it : Addr) (fp : List Addr) (tn : Nat → Heap → Prop) (J : It) (H' : Hp), itv = .ref it ∧ Inv X pins σ H' s2 ∧ TurnZ X.prog X.w X.K tg J fp it tn ∧ tn 0 s2.heap ∧ (∀ b ∈ fp, FpOk X pins H' b) ∧ R J H'
structure PIZ (X : Cx) (tg iter : Expr) (wi : L2.TI) : Prop where
  run : ∀ (pins : List (Addr × Obj)) (s : Shared) (σ : L2.St) (H : Hp) (R : It → Hp → Prop), Inv X pins σ H s → wi σ H R →
    wpAny (model X.prog X.w) X.A (eval iter X.env) (fun v s1 => wpAny (model X.prog X.w) X.A (pyIter v) (PIEZ X pins σ tg R) X.xe s1) X.xe s
theorem PIZ.imp {X : Cx} {tg e : Expr} {t t' : L2.TI} (h : PIZ X tg e t) (w : ∀ σ H Q, t' σ H Q → t σ H Q) : PIZ X tg e t' := ⟨fun p s σ H Q I q => h.run p s σ H Q I (w σ H Q q)⟩
theorem PIZ.or {X : Cx} {tg e : Expr} {t t' : L2.TI} (h : PIZ X tg e t) (h' : PIZ X tg e t') : PIZ X tg e (fun σ H R => t σ H R ∨ t' σ H R) := ⟨fun p s σ H Q I q => q.elim (h.run p s σ H Q I) (h'.run p s σ H Q I)⟩
variable {X : Cx} {tg : Expr}
end
/-! ### in the embedding -/
section
variable {X : Cx} {F : Fx} {pos : Pos} {a : Addr}
theorem PIZ.TW {tg e : Expr} {t t' : L2.TI} (h : PIZ X tg e t) (w : ∀ σ H Q, t' σ H Q → t σ H Q) : PIZ X tg e t' := h.imp w
end
end M
/-! M101: defs called where an exception is handled; a try whose suite knows what it handles. -/
namespace M
open PySem PySem.Spec PyProof.Rows L2
section
variable {go : Bool} {P : Program} {w : World} {K : PySem.W.Frag} {mg : Str → Option Value} {base : Heap} {g : GG}
/-- a def's promise where the exception at a is handled -/
structure FnZ (go : Bool) (P : Program) (w : World) (K : PySem.W.Frag) (mg : Str → Option Value) (base : Heap) (k : Nat) (f : Addr) (fd : FuncData) (ps : List Str) (sp : Addr → Sp) : Prop where
  len : ∀ a vs H Q E, sp a vs H Q E → vs.length = ps.length
  run : ∀ (a : Addr) (A : Around) (outer : List PySem.Env) (s : Shared) (H : Hp) (args : Args) (us : List Value) (vs : List V) (Q : VK) (E : XK), L2H.RoomH k A → (go = true ∨ A.guards = some []) → A.handled = some (.ref a) → Env0 P w K mg base A outer s H → BindsTo s fd args (ps.zip us) → Vals vs us → sp a vs H Q E →
    codeAny (model P w) A (.call (.ref f) args) (CR (L2N.CX P w) outer P w H s Q E) s
theorem FnZ.mono {j k : Nat} {f : Addr} {fd : FuncData} {ps : List Str} {sp : Addr → Sp} (G : FnZ go P w K mg base j f fd ps sp) (h : j ≤ k) : FnZ go P w K mg base k f fd ps sp := ⟨G.len, fun a A o s H x us vs Q E hr => G.run a A o s H x us vs Q E (hr.mono h)⟩
theorem FnZ.imp {k : Nat} {f : Addr} {fd : FuncData} {ps : List Str} {sp sp' : Addr → Sp} (G : FnZ go P w K mg base k f fd ps sp) (h : ∀ a vs H Q E, sp' a vs H Q E → sp a vs H Q E) : FnZ go P w K mg base k f fd ps sp' :=
  ⟨fun a vs H Q E q => G.len a vs H Q E (h _ _ _ _ _ q), fun a A o s H x us vs Q E hr hg hh e b v q => G.run a A o s H x us vs Q E hr hg hh e b v (h _ _ _ _ _ q)⟩
end
/-! ### what a def does with a view of its own (pureA, pureT), said of its promise alone -/
section
variable {K : PySem.W.Frag} {g : GG} {f : Fn}
variable {go : Bool} {P : Program} {w : World} {mg : Str → Option Value} {base : Heap} {k : Nat} {fa : Addr} {fd : FuncData} {ps : List Str}
end
/-! ### calls of such defs -/
theorem takesF {X : Cx} : L2N.Takes X (fun _ _ _ _ => False) := fun u s' ⟨_, _, _, _, _, _, _, _, _, _, _, _, _, _, _, _, w⟩ => w.elim
section
variable {go : Bool} {X : Cx} {F : Fx} {k : Nat} {f : Addr} {fd : FuncData} {ps : List Str} {ds : List Value} {dvs : List V} {x : Str} {p pos : Pos} {e : Expr} {es : List Expr} {fs : Fn} {j : IA} {dd : List D} {a : Addr} {sp : Addr → Sp}
end
/-! ### a try whose suite knows what is handled -/
section
variable {X : Cx} {F : Fx} {n : Str} {i : Nat} {te : Expr} {tf : Value → Option Bool} {tfD : Str → Option Bool} {body suite : List Stmt} {b₀ : Stmt} {pos pos' : Pos} {b su : IS}
end
end M
/-! M102: walks of texts where an exception is handled; wAny there; repr of instances there. -/
namespace M
open PySem PySem.Spec PyProof.Rows L2
section
open PySem.HandSPX
variable {prog : Program} {w : World} {A : Around} {E : Value → Shared → Prop} {s : Shared}
end
section
variable {X : Cx} {F : Fx} {W : Vw} {st : Sto} {pos : Pos}
end
end M
/-! M103: repr of what may be an instance of one of several classes, where an exception is handled, too. -/
namespace M
open PySem PySem.Spec PyProof.Rows L2
section
variable {X : Cx} {F : Fx}
variable {C : Str} {fn : Fn} {fS : Addr} {fd : FuncData} {k : Nat} {a : Addr}
end
end M
/-! M104: islower, upper; replace of written texts behind a test that names a written text. -/
namespace M
open PySem PySem.Spec PyProof.Rows L2
def opRepl (y z : Str) : Op1 := fun d st => match d with
  | .str x => if x.length + (x.length + 1) * z.length ≤ 16777216 then some (.str (Txt.replace x y z), st) else none
  | _ => none
section
variable {X : Cx} {F : Fx} {o : Expr} {i : IE} {apos pos : Pos}
/-- an expression where a token is out -/
theorem pet_repl {y z : Str} {j k : Nat} {c0 c1 : Pos} (ho : PE X o (TI F i)) (hyz : (y == z) = false := by decide)
    (hst : starEach [.Constant (.str y) j c0, .Constant (.str z) k c1] X.env = [(false, eval (.Constant (.str y) j c0) X.env), (false, eval (.Constant (.str z) k c1) X.env)] := by rfl)
    (hbase : attributeBase o "replace" X.env (eval o X.env) = eval o X.env := by rfl) (hline : (apos.endLine == pos.line) = true := by rfl) :
    PET X (.Call (.Attribute o "replace" apos) [.Constant (.str y) j c0, .Constant (.str z) k c1] [] pos) (TI F (iUn (opRepl y z) i)) := fun pins s σ H Q h0 I h =>
  CwR.pet_replC ho hyz hst hbase hline pins s σ H Q h0 I ((TX.bind (k := fun a env s1 => ofO (opRepl y z a s1)) h).mono fun x H1 ⟨W, st, env, a, A, ra, p⟩ => by
    have p' : Post W RV (ofO (opRepl y z a st)) Q (F.at_ σ) := p
    have q := PostO.of p'
    unfold opRepl at q
    split at q
    · split at q
      · rename_i c
        cases ra
        exact ⟨_, rfl, c, A.in_.now q (.str _)⟩
      · exact q.elim
    · exact q.elim)
end
end M
/-! M105: a generator def's promise, with exceptions whose context is None. -/
namespace LGN
open PySem PySem.Spec PyProof.Rows GenW L2 LG
section
variable {P : Program} {w : World} {K : PySem.W.Frag} {mg : Str → Option Value} {base : Heap} {N : List Str} {qual : Str} {scope : Scope} {f : Addr} {cd : Value} {A : Around} {outer : List PySem.Env} {s : Shared} {H : Hp} {E : XK} {own : List (Addr × Obj)}
end
/-- what stands at Ls is as it was when the generator was woken -/
def Kept (Ls : List Addr) (s₀ s : Shared) : Prop := ∀ b ∈ Ls, ∀ o, s₀.heap.get? b = some o → s.heap.get? b = some o
def REnd (P : Program) (w : World) (outer : List Env) (H : Hp) (s : Shared) (ex : List Addr) (S : Addr) (Ls : List Addr) (a : Addr) (g : Nat) (Q : List V → Hp → Prop) (E : XK) : GenEnd := fun n s₀ r s1 =>
  ((r = .ok (.ret .none) ∨ r = .ok .next) ∧ Kept Ls s₀ s1 ∧ ∃ H' ys acc c, s1.os = s.os ∧ AllBare s1.gens ∧ Un (frs outer) ex H H' s.heap s1.heap ∧ HOk P w H' s1.heap ∧ H' S = none ∧ (∀ b ∈ Ls, H' b = none) ∧ s1.heap.get? S = some (lstObj acc c) ∧ Vals ys acc.toList ∧ ys.length ≤ sizeLine ∧ Q ys H') ∨
  ∃ e, r = .error e ∧ L2N.CX P w outer H s E e s1 ∧ s1.heap.IsGen a g
def YItem (s : Shared) (S : Addr) (Ls : List Addr) (a : Addr) (g : Nat) : Protocol := fun n s₀ v s1 kap =>
  s1.os = s.os ∧ AllBare s1.gens ∧ s1.heap.NoLimit ∧ s1.heap.IsGen a g ∧ Kept Ls s₀ s1 ∧ (∃ (acc : Array Value) (c : Nat), s1.heap.get? S = some (lstObj acc c) ∧ n + 1 + acc.size = sizeLine) ∧ ∀ s', Slept S Ls v s1 s' → kap (.send .none) s'
def Wakes (P : Program) (w : World) (k : Nat) (outer : List Env) (H : Hp) (s : Shared) (ex : List Addr) (Q : List V → Hp → Prop) (E : XK) (a : Addr) (g : Nat) (c : Code) (s' : Shared) : Prop :=
  ∀ (A : Around) (S : Addr) (Ls : List Addr) (s2 : Shared), Room k A → A.frames = some outer → s'.heap.objs.size ≤ S → (∀ b ∈ Ls, s'.heap.objs.size ≤ b) → (∀ b o, s'.heap.get? b = some o → s2.heap.get? b = some o) → (∃ c, s2.heap.get? S = some (lstObj #[] c)) →
    (∀ b ∈ Ls, ∃ o, s2.heap.get? b = some o ∧ ∀ u, o.data ≠ .cell u) → s2.os = s.os → AllBare s2.gens → Seg (model P w) A (REnd P w outer H s ex S Ls a g Q E) (YItem s S Ls a g) sizeLine s2 c ((model P w).den c) [] s2
def GMade (P : Program) (w : World) (k : Nat) (outer : List Env) (H : Hp) (s : Shared) (ex : List Addr) (Q : List V → Hp → Prop) (E : XK) (u : Value) (s' : Shared) : Prop :=
  ∃ (a : Addr) (g : Nat) (c : Code), u = .ref a ∧ s.heap.objs.size ≤ a ∧ a < s'.heap.objs.size ∧ s'.heap.IsGen a g ∧ s'.gens[g]? = some (.fresh c) ∧ s'.os = s.os ∧ AllBare s'.gens ∧ s'.heap.NoLimit ∧ (∀ b o, s.heap.get? b = some o → s'.heap.get? b = some o) ∧ Wakes P w k outer H s ex Q E a g c s'
structure GFn (P : Program) (w : World) (K : PySem.W.Frag) (mg : Str → Option Value) (base : Heap) (k : Nat) (f : Addr) (fd : FuncData) (ps : List Str) (sp : SpG) : Prop where
  len : ∀ vs H Q E, sp vs H Q E → vs.length = ps.length
  run : ∀ (A : Around) (outer : List Env) (s : Shared) (H : Hp) (args : Args) (us : List Value) (vs : List V) (Q : List V → Hp → Prop) (E : XK), Room k A → Env0 P w K mg base A outer s H → BindsTo s fd args (ps.zip us) → Vals vs us → sp vs H Q E →
    codeAny (model P w) A (.call (.ref f) args) (fun r s' => match r with | .ok (.ret u) => GMade P w k outer H s [] Q E u s' | _ => False) s
end LGN
/-! M106: list(g) of a generator that lets out what has no context. -/
namespace LGN
open PySem PySem.Spec PyProof.Rows GenW L2 LG
section
variable {P : Program} {w : World} {outer : List PySem.Env} {H : Hp} {s0 : Shared} {ex : List Addr} {Q : List V → Hp → Prop} {EX : XK} {A : Around} {S a : Addr} {g : Nat}
/-- what stands when the generator is through -/
def Thru (P : Program) (w : World) (outer : List PySem.Env) (H : Hp) (s0 : Shared) (ex : List Addr) (S : Addr) (Q : List V → Hp → Prop) (s1 : Shared) : Prop :=
  ∃ H2 ys acc c, s1.os = s0.os ∧ AllBare s1.gens ∧ Un (frs outer) ex H H2 s0.heap s1.heap ∧ HOk P w H2 s1.heap ∧ H2 S = none ∧ s1.heap.get? S = some (lstObj acc c) ∧ Vals ys acc.toList ∧ ys.length ≤ sizeLine ∧ Q ys H2
/-- how it ends, as the filling of a list wants it -/
def Ends (P : Program) (w : World) (outer : List PySem.Env) (H : Hp) (s0 : Shared) (ex : List Addr) (S a : Addr) (g : Nat) (Q : List V → Hp → Prop) (EX : XK) : GenEnd := fun n s₀ r s1 =>
  ((r = .ok (.ret .none) ∨ r = .ok .next) ∧ Thru P w outer H s0 ex S Q s1) ∨ ∃ u, r = .error u ∧ (L2N.CX P w outer H s0 EX u s1 ∧ s1.heap.IsGen a g)
end
end LGN
/-! M107: list(g(..)), generator defs in the embedding. -/
namespace LGN
open PySem PySem.Spec PyProof.Rows GenW L2 LG
end LGN
namespace M
open PySem PySem.Spec PyProof.Rows L2
section
variable {X : Cx} {F : Fx} {k : Nat} {f : Addr} {fd : FuncData} {ps : List Str} {x : Str} {p p2 pos pos2 : Pos} {e : Expr} {es : List Expr} {fl : FnGn} {cs : List Str} {j : IA}
end
/-- the turns of a loop that counts a number down -/
def mInt (i : Nat) : Env → Sto → Nat := fun env _ => match env[i]? with
  | some (some (.int n)) => n.toNat + 1
  | _ => 0
section
variable {P : Program} {w : World} {K : PySem.W.Frag} {mg : Str → Option Value} {base : Heap} {g : GG}
end
end M
/-! M108: *d in a display, d a dict whose keys are tuples. -/
namespace M
open PySem PySem.Spec PyProof.Rows L2
open PySem.W (EachIs AllAlike KeyedOut KeepsBut)
section
variable {X : Cx} {e : Expr} {es : List Expr} {te : TE} {t : TA} {sp : Pos}
variable {F : Fx} {i : IE} {j : IA}
end
end M
/-! M109: what is not reached; operators of own classes, from the left and reflected. -/
namespace PySem.W
open Lean Elab Tactic Meta PySem PySem.Calls PyProof.Rows
section
variable {prog : Program} {w : World} {A : Around} {E : Value → Shared → Prop} {s : Shared} {K : Frag} {x C f : Addr} {ox : Obj} {od : Option Obj} {T : String}
end
end PySem.W
namespace M
open PySem PySem.Spec PyProof.Rows L2
/-! ### what is not reached -/
end M
/-! M110: operators of own classes as expressions. -/
namespace M
open PySem PySem.Spec PyProof.Rows L2
/-- what is known of the class with its own operator -/
structure BinC (K : PySem.W.Frag) (g : Str → Addr) (C : Str) (op : Operator) (fA : Addr) (ts : List String) : Prop where
  sf : PySem.W.selfFirst K (g C) = true
  eq : PySem.W.findIn K (.ref (g C)) (dunder op.info.2) = some (some (.ref fA))
  fn : PySem.W.isFn K (.ref fA) = true
  rr : ∃ rc, PySem.W.findIn K (.ref (g C)) (dunderR op.info.2) = some rc ∧ (rc = none ∨ ∃ g, rc = some (.ref g))
  ty : ∀ t ∈ ts, PySem.W.subIn K (.type t) (.ref (g C)) = some false
section
variable {X : Cx} {F : Fx} {W : Vw} {st : Sto} {k : Nat} {C : Str} {fE : Addr} {ts : List String} {fd : FuncData} {ps : List Str} {fn : Fn}
/-- the operator reflected -/
structure BinR (K : PySem.W.Frag) (g : Str → Addr) (C : Str) (op : Operator) (fR : Addr) : Prop where
  sf : PySem.W.selfFirst K (g C) = true
  eq : ∃ fA, PySem.W.findIn K (.ref (g C)) (dunder op.info.2) = some (some (.ref fA))
  fn : PySem.W.isFn K (.ref fR) = true
  rr : PySem.W.findIn K (.ref (g C)) (dunderR op.info.2) = some (some (.ref fR))
  bl : PySem.W.subIn K (.ref (g C)) (.type "bool") = some false
/-- a truth on the left -/
structure BoolR (op : Operator) : Prop where
  run : ∀ {prog : Program} {w : World} {A : Around} {E : Value → Shared → Prop} {s : Shared} {K : PySem.W.Frag} {x C f g0 dx : Addr} {od : Option Obj} {b : Bool} {Q : Value → Shared → Prop}, K.In s.heap → PySem.W.InstAt s.heap x (PySem.W.instObj C dx) C od → PySem.W.selfFirst K C = true →
    PySem.W.findIn K (.ref C) (dunder op.info.2) = some (some (.ref g0)) → PySem.W.findIn K (.ref C) (dunderR op.info.2) = some (some (.ref f)) → PySem.W.isFn K (.ref f) = true → PySem.W.subIn K (.ref C) (.type "bool") = some false →
    wpAny (model prog w) A (call (.ref f) [.ref x, .bool b]) (PySem.W.CmpBack Q) E s → wpAny (model prog w) A (binaryOp op (.bool b) (.ref x)) Q E s
end
end M
/-! M111: try with several clauses, each with or without a name; what is handled is known in each suite. -/
namespace M
open PySem PySem.Spec PyProof.Rows L2
/-- a clause: where the name lies, what its test answers, its suite -/
structure Cl (α β : Type) where
  at_ : Option Nat
  tst : α → Option Bool
  su : β
inductive ClsV (X : Cx) : List ExceptHandler → List (Cl Value (Addr → TS)) → Prop
  | nil : ClsV X [] []
  | as {n : Str} {i : Nat} {te : Expr} {tf : Value → Option Bool} {b₀ : Stmt} {suite : List Stmt} {pos' : Pos} {ts : Addr → TS} {hds : List ExceptHandler} {l : List (Cl Value (Addr → TS))} (hi : X.N[i]? = some n) (hln : X.env.kindOf n = some .local) (ht : TstOk X te tf)
      (hsu : ∀ (a : Addr), PSs (X.suite a X.pn) (b₀ :: suite) (ts a)) (r : ClsV X hds l) : ClsV X (.ExceptHandler (some te) (some n) (b₀ :: suite) pos' :: hds) (⟨some i, tf, ts⟩ :: l)
  | un {te : Expr} {tf : Value → Option Bool} {b₀ : Stmt} {suite : List Stmt} {pos' : Pos} {ts : Addr → TS} {hds : List ExceptHandler} {l : List (Cl Value (Addr → TS))} (ht : TstOk X te tf)
      (hsu : ∀ (a : Addr), PSs (X.suite a X.pn) (b₀ :: suite) (ts a)) (r : ClsV X hds l) : ClsV X (.ExceptHandler (some te) none (b₀ :: suite) pos' :: hds) (⟨none, tf, ts⟩ :: l)
section
variable {X : Cx} {body : List Stmt} {h₀ : ExceptHandler} {hds : List ExceptHandler} {l : List (Cl Value (Addr → TS))} {pos : Pos} {tb : WX → TS} {Wout : WX}
end
/-! ### in the embedding -/
inductive ClsD (X : Cx) (F : Fx) : List ExceptHandler → List (Cl Str IS) → Prop
  | nil : ClsD X F [] []
  | as {n : Str} {i : Nat} {te : Expr} {tf : Value → Option Bool} {tfD : Str → Option Bool} {b₀ : Stmt} {suite : List Stmt} {pos' : Pos} {su : IS} {hds : List ExceptHandler} {l : List (Cl Str IS)} (hi : X.N[i]? = some n) (hln : X.env.kindOf n = some .local) (ht : TstOk X te tf) (htf : ∀ C b, tfD C = some b → tf (.ref (F.g C)) = some b)
      (hsu : ∀ (a : Addr), PSs (X.suite a X.pn) (b₀ :: suite) (TS_ { K := F.K, g := F.g.at (some a), E := fun _ _ _ _ => False } su)) (r : ClsD X F hds l) : ClsD X F (.ExceptHandler (some te) (some n) (b₀ :: suite) pos' :: hds) (⟨some i, tfD, su⟩ :: l)
  | un {te : Expr} {tf : Value → Option Bool} {tfD : Str → Option Bool} {b₀ : Stmt} {suite : List Stmt} {pos' : Pos} {su : IS} {hds : List ExceptHandler} {l : List (Cl Str IS)} (ht : TstOk X te tf) (htf : ∀ C b, tfD C = some b → tf (.ref (F.g C)) = some b)
      (hsu : ∀ (a : Addr), PSs (X.suite a X.pn) (b₀ :: suite) (TS_ { K := F.K, g := F.g.at (some a), E := fun _ _ _ _ => False } su)) (r : ClsD X F hds l) : ClsD X F (.ExceptHandler (some te) none (b₀ :: suite) pos' :: hds) (⟨none, tfD, su⟩ :: l)
section
variable {X : Cx} {F : Fx} {hds : List ExceptHandler} {l : List (Cl Str IS)}
end
section
variable {X : Cx} {F : Fx} {body : List Stmt} {h₀ : ExceptHandler} {hds : List ExceptHandler} {l : List (Cl Str IS)} {pos : Pos} {b : IS}
end
end M
/-! M112: own operators' facts; methods, static methods, instances called; fields as targets in a tuple; making with keywords in any order; {x} of an instance. -/
namespace M
open PySem PySem.Spec PyProof.Rows L2
open He (eqO eqO_ok ba)
/-! ### facts -/
structure FmtO (K : PySem.W.Frag) (C : Addr) : Prop where
  fm : PySem.W.findIn K (.ref C) "__format__" = some (some (.builtin "object.__format__"))
  ob : PySem.W.mroIn K C (.type "object") = some true
theorem fmtB_ok {K : PySem.W.Frag} {x : Str} (h : fmtB K x = true) : FmtO K (He.ga K x) := ⟨eqO_ok (ba h).1, of_decide_eq_true (ba h).2⟩
/-! ### methods -/
section
variable {X : Cx} {F : Fx} {k n : Nat} {C m x : Str} {fA : Addr} {fd : FuncData} {ps ks : List Str} {fn : Fn} {o e : Expr} {es : List Expr} {kws : List Keyword} {i : IE} {j jk : IA} {apos pos p : Pos} {pl : Sem Bool} {perm : List Nat}
/-- C.m(e, ..), m a staticmethod -/
theorem e_stat {pA : Addr} (hk : X.K = F.K) (T : StatOf F.K (F.g C) m pA fA) (kp : PySem.W.keepIn X.K (.ref fA) = true) (G : FnG X.prog X.w X.K X.mg X.base k fA fd ps (SPx F.K F.g fn)) (hr : Room k X.A) (hgd : X.A.guards = some []) (hb : Binds X.K fd ps []) (tk : L2N.Takes X F.E) (hg : Gl X x) (hmg : X.mg x = some (.ref (F.g C))) (ha : PA X (e :: es) (TA_ F j))
    (hdb : (x == ("__debug__" : Str)) = false := by decide) (hst : starEach (e :: es) X.env = (false, eval e X.env) :: starEach es X.env := by rfl) (hpl : (backTo pos (starEach es X.env)).any (·.1) = false := by rfl)
    (ht : eval (.Call (.Attribute (.Name x p) m apos) (e :: es) [] pos) X.env = (do
      let ov ← eval (.Name x p) X.env
      standAt apos.atName
      let (f, first) ← holding [ov] (getMethod ov m pl)
      callWith pos f first (backTo pos (starEach (e :: es) X.env)) (backToKw pos (keywordEach [] X.env))) := by rfl) :
    PE X (.Call (.Attribute (.Name x p) m apos) (e :: es) [] pos) (TI F (iCall fn [] j)) := by
  refine ⟨fun pins s σ H Q I h => ?_⟩
  have h1 := T.rd
  have h2 := T.ga
  have h3 := T.at_
  obtain ⟨rest, h4⟩ := T.rc
  rw [← hk] at h1 h2 h3 h4
  refine PySem.W.methodCall_KW (pl := pl) (ld_glob I hg hmg ?_ hdb) ht
  refine PySem.W.method_cls I.kIn h2 (PySem.W.cls_bind I.kIn h1 h3 (wpAny_call (PySem.W.sm_get (s := { s with toks := s.toks + 1 }) I.kIn h4 (PySem.W.handed_on rfl ?_))))
  have I1 := I.tok (s.toks + 1)
  refine PySem.W.callWith_K (first := []) (h₀ := X.base) I.ok.mod.kin kp (thn (ha.run pos pins _ σ H _ I1 (TX.bind (k := fun ds env s => fn (ds ++ []) s) h)) fun us s2 ⟨vs, H2, I2, rr, q⟩ => ⟨I2.kIn, ?_⟩) hst hpl
  exact run_g (dvs := []) (ds := []) G hr hgd hb .nil tk I2 rr (sp_of (dd := []) (dvs := []) (fun _ _ _ => .nil) q)
end
/-! ### o.f as a target -/
def kFld (xs : List Str) (f : Str) (d o : D) (env : Env) (st : Sto) : R Env := match o with
  | .ref n => match st[n]? with
    | some (.ins C fs) => if C ∈ xs ∧ fs.length < 1000 then .ok env (st.set n (.ins C (putD f d fs))) else .bad
    | _ => .bad
  | _ => .bad
def gFld (xs : List Str) (f : Str) (i : IE) : IG := fun d env st => (i env st).bind fun o s => kFld xs f d o env s
section
variable {X : Cx} {F : Fx} {xs : List Str} {f : Str} {o : Expr} {i : IE} {p : Pos}
theorem g_fld (hk : X.K = F.K) (T : Has F.K F.g f xs) (ho : PE X o (TI F i)) : PG X (.Attribute o f p) (TG_ F (gFld xs f i)) := by
  refine ⟨fun pins s σ H v u Q I r h => ?_⟩
  have h0 : TK RV PE_ F (fun d env st => (i env st).bind fun o s => kFld xs f d o env s) v σ H Q := h
  refine PySem.W.kas_attr (thn (ho.run pins s σ H _ I (TK.bind (i := i) (P' := RV) (k := fun d o env s => kFld xs f d o env s) (fun x r => RV.mono x r) h0)) fun ov s1 ⟨x, H1, I1, rx, W, st, env, d, b, A, rd, rb, p⟩ => ?_)
  have p' : Post W PE_ (kFld xs f d b env st) Q (F.at_ σ) := p
  unfold kFld at p'
  split at p'
  · rename_i n
    split at p'
    · rename_i C fs hq
      split at p'
      · rename_i hC
        cases rb with
        | @ref _ a e =>
          obtain rfl : ov = Value.ref a := rx
          obtain ⟨dx, gs, ha, rg⟩ := A.sim.at_ n _ a hq e
          have cl := T.cl C hC.1
          have no := T.no C hC.1
          have eH := A.h
          subst eH
          rw [← hk] at cl no
          have x7 : Ext W W.ρ (upd W.H a (.ins (W.g C) dx (putF f v gs))) := ext_put (List.mem_of_getElem? e)
          have S := A.sim.put e (o := .ins C (putD f d fs)) (u := .ins (W.g C) dx (putF f v gs)) ⟨dx, _, upd_same, RFs.mono x7 (putD_rel rd rg)⟩
          have q := p' W.ρ _ σ x7 S (A.env.mono x7)
          rw [A.g] at ha q
          exact setattr_ok I1 ha cl no (by rw [← rg.length]; exact hC.2) r fun s3 I3 => ⟨σ, _, I3, q⟩
      · exact p'.elim
    · exact p'.elim
  · exact p'.elim
theorem gsFld_ne {g : IGs} (hi : NeX i) (ne : ∀ ds env st C fs s, g ds env st ≠ .exc C fs s) : ∀ ds env st C fs s, gsCons (gFld xs f i) g ds env st ≠ .exc C fs s := fun ds env st C fs s h => by
  cases ds with
  | nil => cases h
  | cons d r =>
    have h' : (gFld xs f i d env st).bind (fun env' s => g r env' s) = .exc C fs s := h
    cases q : gFld xs f i d env st with
    | ok e2 s2 => rw [q] at h'; exact ne _ _ _ _ _ _ h'
    | bad => rw [q] at h'; cases h'
    | exc C' fs' s2 =>
      have q' : ((i env st).bind fun o s => kFld xs f d o env s) = .exc C' fs' s2 := q
      cases z : i env st with
      | bad => rw [z] at q'; cases q'
      | exc C3 fs3 s3 => exact hi _ _ _ _ _ z
      | ok o3 s3 =>
        rw [z] at q'
        have q3 : kFld xs f d o3 env s3 = .exc C' fs' s2 := q'
        unfold kFld at q3
        split at q3
        · split at q3
          · split at q3 <;> cases q3
          · cases q3
        · cases q3
end
end M
/-! M113: raise C(); making with arguments in any order; {x} of an instance; small operations; range(i, j, -1) where an exception is handled. -/
namespace M
open PySem PySem.Spec PyProof.Rows L2
open He (eqO eqO_ok ba)
/-! ### raise C() -/
def sRaise0 (C : Str) : IS := fun env st => .exc C [] env st
section
variable {X : Cx} {F : Fx} {C x : Str} {p pos pos' : Pos} {B newId initId : String} {tail : List Value}
theorem s_raise0 (hc : X.calm = true) (tk : L2N.Takes X F.E) (b : XB B newId initId tail) (q : PySem.W.excIn X.K (F.g C) tail newId = true) (kC : PySem.W.keepIn X.K (.ref (F.g C)) = true) (rs : Raises X (.ref (F.g C))) (hg : Gl X x) (hm : X.mg x = some (.ref (F.g C))) (hdb : (x == ("__debug__" : Str)) = false := by decide) :
    PS X (.Raise (some (.Call (.Name x p) [] [] pos)) none pos') (TS_ F (sRaise0 C)) := by
  refine PS.imp (L2N.ps_raise (t := fun σ H Q => Q (.ref (F.g C)) none H) hc tk ?_) fun N σ H h => ?_
  · intro pins s σ H Q I h
    refine wpAny_Call_Name_kw (ld_glob I hg hm (PySem.W.callWith_K0 I.kIn kC ?_) hdb)
    show wpAny _ _ (call (.ref (F.g C)) []) _ _ _
    obtain ⟨bm, N, nm, qn, bs, hdct, sn, sub, ab, col, dd, k0, k1, k2, k3, k5, mN, hC, hN, hni, T⟩ := exc_obj I.kIn q
    obtain ⟨hp, g0, dr, tk, os⟩ := s
    refine wpAny_call_exc_subT b.f T hC hN hni (fun h' a hmx => ?_) (Nat.zero_le _)
    have hn : H a = none := I.hok.gone hmx.new
    exact L2N.mk_of I hmx rs h hn
  · obtain ⟨W, st, env, A, p⟩ := h
    have p' : PostS W (RS.exc C [] env st) N F.E := p
    have q := p' W.ρ W.H σ none Ext.refl A.sim A.env ⟨[], .nil, fun _ => rfl, fun dx z => by cases z⟩
    rw [A.h, A.g] at q
    exact q
end
theorem xr0B_ok {X : Cx} {x : Str} (h : xr0B X.K x = true) : Raises X (.ref (He.ga X.K x)) := raises_own (of_decide_eq_true (ba h).1) (of_decide_eq_true (ba h).2)
/-! ### C(..), the arguments in any order -/
section
variable {K : PySem.W.Frag} {x qual : Str} {params : Arguments} {body : List Stmt} {scope : Scope} {dvs : List V} {kws : List (Str × V)} {f : Addr} {fd : FuncData} {ps : List Str}
theorem kbn_pickF (F : FunD K x qual params body scope dvs kws f fd) (n : Nat) (ks : List Str) (perm : List Nat) (hd : dvs ≠ [])
    (h : ∀ (T : Addr) (kV doc pm : Value) (an : Option Addr) (cdv ct : Value) (us its ws : List Value), us.length = n → its.length = dvs.length → ws.length = ks.length →
      ∃ k, bindArgs (PySem.W.fnOf x qual params body scope (.ref T) kV doc pm an cdv ct) ⟨us, ks.zip ws⟩ = seqItems? (.ref T) >>= k ∧ k (some its.toArray) = pure (ps.zip (gPick perm (us ++ ws)))) :
    KBn K fd ps n ks (fun us ws => gPick perm (us ++ ws)) (fun vs zs => gPick perm (vs ++ zs)) := by
  obtain ⟨its, hb⟩ := F.kbindsD n ks (fun us its ws => gPick perm (us ++ ws)) hd (fun r1 r2 r3 => vals_pick (r1.append r3) perm) h
  exact hb
end
def opNewP (C : Str) (f : Fn) (n m : Nat) (perm : List Nat) (ds zs : List D) (st : Sto) : R D := if ds.length = n ∧ zs.length = m then opNew C (fun l s => f (gPick perm l) s) (ds ++ zs) st else .bad
def iNewP (C : Str) (f : Fn) (n m : Nat) (perm : List Nat) (j jk : IA) : IE := fun env st => (j env st).bind fun ds s => (jk env s).bind fun zs s2 => opNewP C f n m perm ds zs s2
section
variable {X : Cx} {F : Fx} {k n : Nat} {C x : Str} {fI : Addr} {fd : FuncData} {ps ks : List Str} {f : Fn} {p pos : Pos} {e : Expr} {es : List Expr} {kws : List Keyword} {j jk : IA} {perm : List Nat}
theorem run_newP {pins : List (Addr × Obj)} {σ : L2.St} {H : Hp} {s : Shared} {Q : VK} {us ws : List Value} {vs zs : List V} {ds dz : List D} {W : Vw} {st : Sto} {env : Env} (Mc : Mk X.K (F.g C) fI) (G : FnG X.prog X.w X.K X.mg X.base k fI fd ps (SPx F.K F.g f)) (hr : Room (k + 1) X.A) (hgd : X.A.guards = some [])
    (hb : KBn X.K fd ps (n + 1) ks (fun us ws => gPick perm (us ++ ws)) (fun vs zs => gPick perm (vs ++ zs))) (tk : L2N.Takes X F.E) (I : Inv X pins σ H s) (r : Vals vs us) (rz : Vals zs ws) (A : At F W st env σ H) (re : RVs W ds vs) (rez : RVs W dz zs) (p : PostE W (opNewP C f n ks.length perm ds dz st) Q (F.at_ σ)) :
    wpAny (model X.prog X.w) X.A (call (.ref (F.g C)) us (ks.zip ws)) (EP X pins σ Q) X.xe s := by
  unfold opNewP at p
  split at p
  · rename_i c
    have hq := new_sp A.in_ (I.hok.fresh (Nat.le_succ _)) (I.hok.fresh (Nat.le_refl _)) (Nat.ne_of_lt (Nat.lt_succ_self s.heap.objs.size)) (re.append rez) p
    have hq2 : SPx F.K F.g f (gPick perm ((.ref (s.heap.objs.size + 1) :: vs) ++ zs)) (upd (upd H s.heap.objs.size (.own (s.heap.objs.size + 1))) (s.heap.objs.size + 1) (.ins (F.g C) s.heap.objs.size [])) (fun v H2 => v = .non ∧ Q (.ref (s.heap.objs.size + 1)) H2) (F.at_ σ) := by
      obtain ⟨W1, st1, ds1, h1, h2, h3, h4, h5, h6⟩ := hq
      exact ⟨W1, st1, gPick perm ds1, h1, h2, h3, h4, rvs_pick h5 perm, h6⟩
    have I2 := Inv.made (C := F.g C) I
    have r1 : Vals (V.ref (s.heap.objs.size + 1) :: vs) (Value.ref (s.heap.objs.size + 1) :: us) := .cons rfl r
    have r2 := hb.rel r1 rz
    have l1 : (Value.ref (s.heap.objs.size + 1) :: us).length = n + 1 := by rw [List.length_cons, ← r.length, ← re.length, c.1]
    have l2 : ws.length = ks.length := by rw [← rz.length, ← rez.length, c.2]
    refine wpAny_call (make_map (f := fI) I.kIn Mc.makes Mc.init (beq_iff_eq.mp Mc.fn) (codeAny_mono (G.run _ X.stack _ _ ⟨Value.ref (s.heap.objs.size + 1) :: us, ks.zip ws⟩ (gPick perm ((Value.ref (s.heap.objs.size + 1) :: us) ++ ws)) _ _ (F.at_ σ) (hr.make (F.g C) us (ks.zip ws)) (make_guards hgd)
      (I2.env0.make (F.g C) us (ks.zip ws)) (hb.to _ _ ws I2.kIn l1 l2) r2 hq2) fun r s' hq' => ?_))
    cases r with
    | error e => exact tk e s' (L2N.XE.of_call I2 (fun _ _ _ h => h) hq')
    | ok fl =>
      cases fl with
      | ret u =>
        obtain ⟨v, H', I3, rv, ev, q3⟩ := I2.after hq'
        subst ev
        exact ⟨rv, V.ref (s.heap.objs.size + 1), H', I3, rfl, q3⟩
      | next => exact False.elim hq'
      | brk => exact False.elim hq'
      | cont => exact False.elim hq'
  · exact p.elim
theorem e_newP (Mc : Mk X.K (F.g C) fI) (G : FnG X.prog X.w X.K X.mg X.base k fI fd ps (SPx F.K F.g f)) (hr : Room (k + 1) X.A) (hgd : X.A.guards = some []) (hg : Gl X x) (hm : X.mg x = some (.ref (F.g C))) (hb : KBn X.K fd ps (n + 1) [] (fun us ws => gPick perm (us ++ ws)) (fun vs zs => gPick perm (vs ++ zs))) (tk : L2N.Takes X F.E)
    (ha : PA X (e :: es) (TA_ F j)) (hdb : (x == ("__debug__" : Str)) = false := by decide) (he : starEach (e :: es) X.env = (false, eval e X.env) :: starEach es X.env := by rfl) (hpl : (backTo pos (starEach es X.env)).any (·.1) = false := by rfl) :
    PE X (.Call (.Name x p) (e :: es) [] pos) (TI F (iNewP C f n 0 perm j aNil)) := by
  refine ⟨fun pins s σ H Q I h => ?_⟩
  refine wpAny_Call_Name_kw (ld_glob I hg hm (PySem.W.callWith_K (h₀ := X.base) I.ok.mod.kin Mc.kp (thn (ha.run pos pins s σ H _ I (TX.bind (k := fun ds env s => opNewP C f n 0 perm ds [] s) h)) fun us s1 ⟨vs, H1, I1, r, W, st, env, es, A, re, q⟩ => ⟨I1.kIn, ?_⟩) he hpl) hdb)
  exact run_newP (ks := []) (ws := []) (zs := []) (dz := []) Mc G hr hgd hb tk I1 r .nil A re .nil q
theorem e_newPK (Mc : Mk X.K (F.g C) fI) (G : FnG X.prog X.w X.K X.mg X.base k fI fd ps (SPx F.K F.g f)) (hr : Room (k + 1) X.A) (hgd : X.A.guards = some []) (hg : Gl X x) (hm : X.mg x = some (.ref (F.g C))) (hb : KBn X.K fd ps (0 + 1) ks (fun us ws => gPick perm (us ++ ws)) (fun vs zs => gPick perm (vs ++ zs))) (tk : L2N.Takes X F.E)
    (hkw : PK X kws (TA_ F jk)) (hall : (backToKw pos (keywordEach kws X.env)).all (·.1.isSome) = true := by rfl) (hks : (backToKw pos (keywordEach kws X.env)).filterMap (·.1) = ks := by rfl)
    (hdb : (x == ("__debug__" : Str)) = false := by decide) (hpl : ((backTo pos (starEach [] X.env)).any (·.1) || (backToKw pos (keywordEach kws X.env)).any (·.1.isNone)) = false := by rfl) : PE X (.Call (.Name x p) [] kws pos) (TI F (iNewP C f 0 ks.length perm aNil jk)) := by
  refine ⟨fun pins s σ H Q I h => ?_⟩
  refine wpAny_Call_Name_kw (ld_glob I hg hm (PySem.W.callWith_KW0 (h₀ := X.base) I.ok.mod.kin Mc.kp hall (thn (hkw.run pos pins s σ H _ I (TX.bind (k := fun zs env s => opNewP C f 0 ks.length perm [] zs s) h)) fun ws s1 ⟨zs, H1, I1, rz, W, st, env, es, A, re, q⟩ => ⟨I1.kIn, ?_⟩) hpl) hdb)
  rw [hks]
  exact run_newP (us := []) (vs := []) (ds := []) Mc G hr hgd hb tk I1 .nil rz A .nil re q
end
/-! ### {x} of an instance -/
/-- how an own method without arguments answers, wherever it is called -/
def OwnM (X : Cx) (F : Fx) (m : Str) (C : Str) (fn : Fn) : Prop := ∃ fS : Addr, PySem.W.findIn F.K (.ref (F.g C)) m = some (some (.ref fS)) ∧ PySem.W.isFn F.K (.ref fS) = true ∧
  ∀ (A' : Around), A'.handled = X.A.handled → A'.frames = X.A.frames → A'.depth ≤ X.A.depth + 4 → A'.units ≤ X.A.units + 9 → ∀ (pins : List (Addr × Obj)) (σ : L2.St) (s : Shared) (H : Hp) (b : Addr) (Q : VK), Inv X pins σ H s → SPx F.K F.g fn [V.ref b] H Q (fun _ _ _ => False) →
    wpAny (model X.prog X.w) A' (call (.ref fS) [.ref b]) (EP X pins σ Q) X.xe s
section
variable {X : Cx} {F : Fx} {C m : Str} {fn : Fn} {fS : Addr} {fd : FuncData} {k : Nat} {a : Addr}
theorem ownM_O (hs : PySem.W.findIn F.K (.ref (F.g C)) m = some (some (.ref fS))) (hf : PySem.W.isFn F.K (.ref fS) = true) (G : FnO X.prog X.w X.K X.mg X.base k fS fd ["self"] (SPx F.K F.g fn)) (hr : Room (k + 4) X.A) (hb : Binds X.K fd ["self"] []) : OwnM X F m C fn :=
  ⟨fS, hs, hf, fun A' h1 h2 h3 h4 pins σ s H b Q I h => by
    have e0 : Env0 X.prog X.w X.K X.mg X.base A' X.stack s H := { I.env0 with frames := h2.trans I.env0.frames }
    refine wpAny_call (codeAny_mono (G.run A' X.stack s H ⟨[.ref b], []⟩ [.ref b] [V.ref b] Q (fun _ _ _ => False) ⟨h1.trans hr.hd, by have := hr.dp; omega, by have := hr.un; omega⟩ e0 (by simpa using hb s [.ref b] I.kIn rfl) (.cons rfl .nil) h) fun r s' hq => ?_)
    cases r with
    | error er =>
      obtain ⟨_, _, _, _, _, _, _, _, _, _, _, _, z⟩ := hq
      exact z.elim
    | ok fl =>
      cases fl with
      | ret u => exact I.after hq
      | next => exact False.elim hq
      | brk => exact False.elim hq
      | cont => exact False.elim hq⟩
def opFmtI (C : Str) (fn : Fn) : Op1 := fun d st => match insD st d with
  | some (C', _) => if C' = C then strR (optR (fn [d] st)) else none
  | none => none
theorem e_fmtI {e : Expr} {i : IE} {pos : Pos} (hk : X.K = F.K) (hu : X.A.units + 64 < cLine) (T : FmtO F.K (F.g C)) (O1 : OwnM X F "__str__" C fn) (he : PE X e (TI F i)) : PE X (.FormattedValue e (-1) none pos) (TI F (iUn (opFmtI C fn) i)) := by
  refine ⟨fun pins s σ H Q I h => ?_⟩
  refine wpAny_FormattedValue_plain (thn (he.run pins s σ H _ I (TX.bind (k := fun a env s1 => ofO (opFmtI C fn a s1)) h)) fun v s1 ⟨x, H1, I1, rx, W, st, env, d, A, r, p⟩ => ?_)
  replace p := PostO.of p
  unfold opFmtI at p
  split at p
  · rename_i C' fs hd
    split at p
    · rename_i hC
      subst hC
      obtain ⟨fS, hs, hf, ans⟩ := O1
      obtain ⟨q, dx, gs, rfl, ea, _⟩ := insD_at A.sim hd r
      cases rx
      rw [A.g, A.h] at ea
      obtain ⟨mA, O, _⟩ := ins_get I1.hok ea
      obtain ⟨od, JI, _⟩ := O.look
      have T1 := T.fm
      have T2 := T.ob
      rw [← hk] at hs hf T1 T2
      have p2 : PostE W (fn [d] st) (fun z H' => (∃ y, z = .str y) ∧ Q z H') (fun _ _ _ => False) := by
        cases q2 : fn [d] st with
        | ok d2 s2 =>
          rw [q2] at p
          cases d2 with
          | str y =>
            intro ρ' H' b x S r
            cases r
            exact ⟨⟨_, rfl⟩, p ρ' H' _ x S (.str _)⟩
          | _ => exact p.elim
        | exc D fs s2 => rw [q2] at p; exact p.elim
        | bad => rw [q2] at p; exact p.elim
      have sp : SPx F.K F.g fn [V.ref q] H1 (fun z H' => (∃ y, z = .str y) ∧ Q z H') (fun _ _ _ => False) := ⟨W, st, [d], A.k, A.g, A.h, A.sim, .cons r .nil, p2⟩
      have I2 := I1.tok (s1.toks + 1)
      refine PySem.W.kfo_fieldS (by show X.A.units + 1 < cLine; omega) I1.kIn JI T1 T2 hs hf (wpAny_mono (ans X.A.in1 rfl rfl (by show X.A.depth ≤ _; omega) (by show X.A.units + 1 ≤ _; omega) pins σ _ H1 q _ I2 sp) (fun v s2 h => ?_) fun _ _ y => y)
      obtain ⟨x, H', I', rx, ⟨y, rfl⟩, qx⟩ := h
      obtain ⟨t, rfl⟩ := rx
      exact ⟨.str y, H', I', ⟨t, rfl⟩, qx⟩
    · exact p.elim
  · exact p.elim
end
/-! ### tuple * int, 0 too -/
section
variable {X : Cx} {F : Fx} {W : Vw} {st : Sto}
theorem tuple_mul0 (l : Addr) (items : Array Value) (n : Nat) (dd : Option Addr) (sl : Array (Option Value)) (u : Tok) (c1 : items.isEmpty = false) :
    Meets (Builtin.«tuple.__mul__» ⟨[.ref l, .int 0 u], []⟩) (fun _ R s => s.heap.get? l = some { cls := .type "tuple", dict := dd, data := .seq items n, slots := sl } ∧ R (.ok (.ret (Value.ref s.heap.objs.size))) { s with heap := s.heap.push { cls := Value.type "tuple", data := Data.seq #[] }, toks := s.toks }) :=
  .of_wp fun prog w A R s h => by
    obtain ⟨hp, g, d, tk, os⟩ := s
    obtain ⟨hl, h⟩ := h
    have f1 := AutoSeq1.idx_int
    have c2 : (items.isEmpty || ((0 : Int) == 1)) = false := by rw [c1]; rfl
    wp_walk using wpAny_loadPart' hl
    repeat (first
      | (refine wpAny_ite_false (decide_eq_false (by simp)) ?_; wp_walk using wpAny_loadPart' hl)
      | (refine wpAny_ite_false (decide_eq_false (by rw [c2]; exact Bool.false_ne_true)) ?_; wp_walk using wpAny_loadPart' hl)
      | (refine wpAny_ite_true (decide_eq_true (by simp)) ?_; wp_walk using wpAny_loadPart' hl)
      | (refine wpAny_ite_true (by simp) ?_; wp_walk using wpAny_loadPart' hl))
    all_goals first | exact ⟨_, rfl, h⟩ | skip
theorem op_rep0 : OpR X (binaryOp .Mult) (fun x y H Q => ∃ l xs, x = .ref l ∧ y = .int 0 ∧ SqT X.K H l xs ∧ xs ≠ [] ∧ ∀ p, H p = none → Q (.ref p) (upd H p (.tup []))) := by
  intro pins s σ H x y v u Q I rx ry h
  obtain ⟨l, xs, rfl, rfl, hT, hne, q⟩ := h
  cases rx
  obtain ⟨t, rfl⟩ := ry
  obtain ⟨its, r, ⟨⟨cls, dd, data, sl⟩, ho, hc, n, hd⟩, hs⟩ := I.tuple hT
  simp only at hc hd
  subst hc hd
  have hle : its.length = xs.length := r.length.symm
  have hi : its.toArray.isEmpty = false := by
    cases its with
    | nil => exact absurd (List.eq_nil_of_length_eq_zero hle.symm) hne
    | cons a b => rfl
  refine wpAny_binaryOp_repeat_ref (T := "tuple") (U := "int") (by decide) ⟨_, ho, rfl⟩ (fun s' => typeIs_int s' 0 t) noFill_tuple_mul F.fills_int_mul F.slot_int_rmul repeat_tuple F.slot_int_index.lookup
    (call_meets F.slot_int_rmul (typeIs_int s 0 t) F.entry_int_rmul (F.args_int_rmul_2 _ _) (int_rmul_tuple 0 t l its.toArray n dd sl)
      ⟨ho, rfl, ⟨_, ho, rfl⟩, call_meets F.slot_tuple_mul ⟨_, ho, rfl⟩ F.entry_tuple_mul (F.args_tuple_mul_2 _ _) (tuple_mul0 l its.toArray n dd sl t hi) ⟨ho, ?_⟩⟩)
  refine ⟨.ref s.heap.objs.size, _, I.laid (t' := s.toks) (o := .tup []) (fun b ob q => Heap.get?_push_of_some _ q) (Nat.le_refl _) ?_, rfl, q _ (I.hok.fresh (Nat.le_refl _))⟩
  exact ⟨Nat.zero_le _, _, .nil, IsTup.new _ _⟩
def opMulZ : Op2 := fun a b st => match a, b with
  | .tup (x :: xs), .int 0 => some (.tup [], st)
  | a, b => opMulU a b st
theorem or_mulZ (hk : X.K = F.K) : OpR X (binaryOp .Mult) (r2 F opMulZ) := OpR.imp (OpR.or op_rep0 (or_mulU (F := F) hk)) fun x y H Q ⟨W, st, a, b, I, ra, rb, p⟩ => by
  unfold opMulZ at p
  split at p
  · rename_i d ds
    cases rb
    have eH := I.h
    subst eH
    obtain ⟨q, ys, rfl, t1, r⟩ := tup_at ra
    rw [I.k, ← hk] at t1
    refine .inl ⟨q, ys, rfl, rfl, t1, fun e => ?_, fun z hz => p.tuple I.sim .nil hz⟩
    subst e
    cases r
  · exact .inr ⟨W, st, _, _, I, ra, rb, p⟩
/-! ### t[i:j], the whole too -/
def opSlA (a : D) (lo hi : Option Int) (st : Sto) : Option (D × Sto) := match a with
  | .tup xs => some (.tup (cutL xs lo hi), st)
  | a => opSl a lo hi st
theorem cut_whole {xs : List D} {lo hi : Option Int} (h : HT.sIx xs.length 0 lo = 0 ∧ HT.sIx xs.length xs.length hi = xs.length) : cutL xs lo hi = xs := by
  unfold cutL
  rw [h.1, h.2]
  simp
theorem sr_slA (hk : X.K = F.K) : SlR X (fun x lo hi H Q => ∃ W st a, In F W st H ∧ RV W a x ∧ PostO W (opSlA a lo hi st) Q) := SlR.imp (sl_tupA.or (sr_sl (F := F) hk)) fun x lo hi H Q ⟨W, st, a, I, ra, p⟩ => by
  unfold opSlA at p
  split at p
  · have eH := I.h
    subst eH
    obtain ⟨q, ys, rfl, hs, ry⟩ := tup_at ra
    rw [I.k, ← hk] at hs
    refine .inl ⟨q, ys, rfl, hs, fun hw => ?_, fun _ l hl => p.tuple I.sim (ry.cut lo hi) hl⟩
    rw [← ry.length] at hw
    rw [cut_whole hw] at p
    exact p.now I.sim ra
  · exact .inr ⟨W, st, _, I, ra, p⟩
def iSlA (i : IE) (lo hi : IO) : IE := fun env st => (i env st).bind fun a s => (lo env s).bind fun l s1 => (hi env s1).bind fun u s2 => ofO (opSlA a l u s2)
theorem e_slA {a : Expr} {lo hi : Option Expr} {i : IE} {l u : IO} {p2 pos : Pos} (hk : X.K = F.K) (ha : PE X a (TI F i)) (hl : PO X lo (TO_ F l)) (hu : PO X hi (TO_ F u)) : PE X (.Subscript a (.Slice lo hi none p2) pos) (TI F (iSlA i l u)) := PE.imp (pe_slice (sr_slA hk) ha hl hu) fun σ H Q h =>
  (TX.bind (k := fun a env s => (l env s).bind fun x s1 => (u env s1).bind fun y s2 => ofO (opSlA a x y s2)) h).mono fun x H1 h1 =>
    (TK.bind (i := l) (k := fun a x env s1 => (u env s1).bind fun y s2 => ofO (opSlA a x y s2)) (fun x r => RV.mono x r) h1).mono fun y H2 h2 =>
      (TK.bind (P := fun W (x : D × Option Int) (y : V × Option Int) => RV W x.1 y.1 ∧ PN W x.2 y.2) (i := u) (k := fun a y env s2 => ofO (opSlA a.1 a.2 y s2)) (fun x r => ⟨RV.mono x r.1, r.2⟩) (TK.pair (P := RV) (P' := PN) (k := fun a x env s1 => (u env s1).bind fun y s2 => ofO (opSlA a x y s2)) h2)).mono fun z H3 ⟨W, st, env, a, b, A, ra, rb, p⟩ => by
        cases (show b = z from rb)
        obtain ⟨ra, e⟩ := ra
        cases (show a.2 = y from e)
        exact ⟨W, st, a.1, A.in_, ra, PostO.of p⟩
/-! ### int(text) -/
def opIntS : OpN := fun ds st => match ds with
  | [.str a] => if a.length ≤ 640 then (PySem.intText? a).map fun n => (.int n, st) else none
  | _ => none
theorem cr_intS : CallR X (.type "int") (rN F opIntS) := CallR.imp call_int_str fun xs H Q ⟨W, st, ds, I, r, p⟩ => by
  unfold opIntS at p
  split at p
  · split at p
    · rename_i a c
      obtain ⟨v, rfl, rv⟩ := rv1 r
      cases rv
      cases e : PySem.intText? a with
      | none => rw [e] at p; exact p.elim
      | some n =>
        rw [e] at p
        exact ⟨a, n, rfl, e, c, I.now p (.int _)⟩
    · exact p.elim
  · exact p.elim
end
end M
/-! M114: replace where nothing is to be replaced; isinstance(x, (T, U, ..)); range(i, j, -1) where an exception is handled; what a def with several clauses makes of a call. -/
namespace M
open PySem PySem.Spec PyProof.Rows L2
open He (eqO eqO_ok ba)
/-! ### x.replace('a', 'b'), 'a' not in x -/
section
variable {X : Cx} {F : Fx} {o : Expr} {i : IE} {y z : Str} {j k : Nat} {c0 c1 apos pos : Pos}
end
/-! ### isinstance(x, (T, U, ..)), all of them built in -/
section
variable {X : Cx} {F : Fx}
end
/-! ### range(i, j, -1) where an exception is handled -/
section
variable {X : Cx} {F : Fx} {tg : Expr}
end
/-! ### try: act() / except A as e: return .. / except B: return .. / return .. -/
end M
/-! M115: the test of a clause for one class. -/
namespace M
open PySem PySem.Spec PyProof.Rows L2
end M
/-! M116: endswith, count of a text. -/
namespace M
open PySem PySem.Spec PyProof.Rows L2
section
variable {X : Cx} {F : Fx} {W : Vw} {st : Sto}
abbrev opEnds : Op2 := opTT (fun x y => .bl (Txt.endswith x y)) fun _ => true
abbrev opCntT : Op2 := opTT (fun x y => .int (Txt.count x y)) fun _ => true
theorem mr_ends : MtR X "str.endswith" (rM1 F opEnds) := MtR.imp mt_endswith fun x xs H Q ⟨y, e, W, st, a, b, J, ra, rb, p⟩ => by
  subst e
  unfold opEnds opTT at p
  split at p
  · split at p
    · cases ra; cases rb; exact ⟨_, _, rfl, rfl, J.now p (.bl _)⟩
    · exact p.elim
  · exact p.elim
theorem mr_cntT : MtR X "str.count" (rM1 F opCntT) := MtR.imp mt_count fun x xs H Q ⟨y, e, W, st, a, b, J, ra, rb, p⟩ => by
  subst e
  unfold opCntT opTT at p
  split at p
  · split at p
    · cases ra; cases rb; exact ⟨_, _, rfl, rfl, J.now p (.int _)⟩
    · exact p.elim
  · exact p.elim
end
end M
/-! M117: // by any number, products of great numbers; replace of written texts behind a docstring; bool(x) of an instance; C(..) with a default behind; C.m(k = e). -/
namespace M
open PySem PySem.Spec PyProof.Rows L2
open He (eqO eqO_ok ba)
/-! ### // by any number -/
/-- what a long division asks of the frames and of the base -/
def SeerX (X : Cx) : Prop := X.base.NoSeer ∧ X.prog.given.tree = none ∧ X.A.depth + 100 < recursionLimit ∧
  ∃ env l, X.stack = env :: l ∧ env.scope.isGenerator = false ∧ env.scope.isCoroutine = false ∧ env.builtins = builtinsNs ∧ env.globals = mainGlobals
/-- what a law's walk is handed of the start -/
def Sr (P : Program) (base : Heap) : Prop := base.NoSeer ∧ P.given.tree = none
section
variable {X : Cx} {F : Fx}
theorem seer_room {pins : List (Addr × Obj)} {σ : L2.St} {H : Hp} {s : Shared} (S : SeerX X) (I : Inv X pins σ H s) : PylongRoom (model X.prog X.w) X.A s := by
  obtain ⟨h1, h2, h3, env, l, e, g1, g2, g3, g4⟩ := S
  exact PylongRoom.of I.nolimit (by show X.A.depth + Builtin.pylongFrames < _; exact h3) (SeerAt.of (h1.keeps I.bk) h2 (by rw [I.ok.frames, e]) g1 g2 g3 g4)
theorem op_fdivA (S : SeerX X) : OpR X (binaryOp .FloorDiv) (rI (fun _ j => j ≠ 0) fun i j => .int (i.fdiv j)) := by
  intro pins s σ H x y v u Q I rx ry h
  obtain ⟨i, j, rfl, rfl, hc, q⟩ := h
  obtain ⟨t, rfl⟩ := rx
  obtain ⟨t', rfl⟩ := ry
  exact floordiv_int hc ⟨.int (i.fdiv j), H, I.tok _, ⟨_, rfl⟩, q⟩ (.inr (seer_room S I))
def opFdivA : Op2 := fun a b st => match a, b with
  | .int i, .int j => if j ≠ 0 then some (.int (i.fdiv j), st) else none
  | _, _ => none
theorem or_fdivA (S : SeerX X) : OpR X (binaryOp .FloorDiv) (r2 F opFdivA) := OpR.imp (op_fdivA S) fun x y H Q ⟨W, st, a, b, I, ra, rb, p⟩ => by
  unfold opFdivA at p
  split at p
  · split at p
    · cases ra; cases rb; exact ⟨_, _, rfl, rfl, by assumption, I.now p (.int _)⟩
    · exact p.elim
  · exact p.elim
/-- * of numbers of together less than 2 ^ 27 bits -/
def opMulA : Op2 := fun a b st => match a, b with
  | .int i, .int j => if i.natAbs.log2 + j.natAbs.log2 < 134217700 then some (.int (i * j), st) else none
  | _, _ => none
theorem or_mulA : OpR X (binaryOp .Mult) (r2 F opMulA) := OpR.imp op_mulX fun x y H Q ⟨W, st, a, b, I, ra, rb, p⟩ => by
  unfold opMulA at p
  split at p
  · split at p
    · rename_i c
      cases ra; cases rb
      exact ⟨_, _, rfl, rfl, mulx_ok (a := _ + 1) (b := _ + 1) Nat.lt_log2_self Nat.lt_log2_self (by omega), I.now p (.int _)⟩
    · exact p.elim
  · exact p.elim
end
theorem seer_def {P : Program} {w : World} {K : PySem.W.Frag} {mg : Str → Option Value} {base : Heap} {N : List Str} {qual : Str} {scope : Scope} {f : Addr} {cd : Value} {A : Around} {outer : List PySem.Env} {s : Shared} {H : Hp} {E : XK} {k : Nat}
    (T : Sr P base) (hr : Room k (A.deeper (envOfC qual scope s.heap.objs.size f cd))) (hk : 33 ≤ k) (h1 : scope.isGenerator = false) (h2 : scope.isCoroutine = false) : SeerX (cxOf (L2N.CX P w) P w K mg base N qual scope f cd A outer s H E) :=
  ⟨T.1, T.2, by have := hr.dp; show (A.deeper (envOfC qual scope s.heap.objs.size f cd)).depth + 100 < _; omega, _, _, rfl, h1, h2, rfl, rfl⟩
/-! ### statements where a token is out -/
section
variable {X : Cx} {F : Fx} {st : Stmt} {rest : List Stmt} {i j : IS}
theorem PSsT.imp {t u : TS} (a : PSsT X rest t) (h : ∀ N σ H, u N σ H → t N σ H) : PSsT X rest u := fun p s σ H D h0 I q => a p s σ H D h0 I (h D σ H q)
theorem PST.imp {t u : TS} (a : PST X st t) (h : ∀ N σ H, u N σ H → t N σ H) : PST X st u := fun p s σ H D h0 I q => a p s σ H D h0 I (h D σ H q)
theorem s_consT (h1 : PS X st (TS_ F i)) (h2 : PSsT X rest (TS_ F j)) : PSsT X (st :: rest) (TS_ F (sSeq i j)) := PSsT.imp (psst_cons (PST.of h1) h2) fun _ _ _ h => h.seq
theorem s_consU (h1 : PST X st (TS_ F i)) (h2 : PSs X rest (TS_ F j)) : PSsT X (st :: rest) (TS_ F (sSeq i j)) := PSsT.imp (psst_cons h1 (PSsT.of h2)) fun _ _ _ h => h.seq
theorem pst_set {i : Nat} {x : Str} {e : Expr} {te : TE} {pos' pos : Pos} (hN : X.N.Nodup) (hi : X.N[i]? = some x) (hx : Loc X.env.scope x) (he : PET X e te) (hs : swapsWith e (some (.Name x pos')) pos.line X.env = pure false := by rfl) (hf : X.fn x = true ∨ X.env.scope.names.lookup x = some .local := by first | exact .inl rfl | exact .inr rfl | assumption) :
    PST X (.Assign [.Name x pos'] e pos) (tAsg te (gName i)) := fun pins s σ H D h0 I h => by
  refine wpAny_Assign_Name (thn (he pins s σ H _ h0 I h) fun v s1 ⟨y, H1, I1, r1, q1⟩ => ?_) hs
  exact store_ok I1 hN hi hx r1 (fun s2 I2 => ⟨_, H1, I2, q1⟩) hf
theorem s_setT {i : Nat} {x : Str} {e : Expr} {j : IE} {pos' pos : Pos} (hN : X.N.Nodup) (hi : X.N[i]? = some x) (hx : Loc X.env.scope x) (he : PET X e (TI F j)) (hs : swapsWith e (some (.Name x pos')) pos.line X.env = pure false := by rfl) (hf : X.fn x = true ∨ X.env.scope.names.lookup x = some .local := by first | exact .inl rfl | exact .inr rfl | assumption) :
    PST X (.Assign [.Name x pos'] e pos) (TS_ F (sSet i j)) := PST.imp (pst_set hN hi hx he hs hf) fun N σ H h =>
  (TX.bindS (k := fun d env s => .nx (env.set i (some d)) s) h).mono fun v H1 ⟨W, s, env, a, A, r, p⟩ => by
    have q := PostS.nx p A.sim (A.env.set r i)
    rw [A.h] at q
    exact q
theorem pet_m1 {f : Op2} {i j : IE} {id : String} {name : Str} {o e : Expr} {apos pos : Pos} (slot : Slot "str" name id) (ty : typeOf (.builtin id) = pure (.type "method_descriptor")) (rule : MtR X id (rM1 F f)) (ho : PET X o (TI F i)) (he : PE X e (TI F j))
    (hs : starEach [e] X.env = [(false, eval e X.env)] := by rfl) (hbase : attributeBase o name X.env (eval o X.env) = eval o X.env := by rfl) (hline : (apos.endLine == pos.line) = true := by rfl) : PET X (.Call (.Attribute o name apos) [e] [] pos) (TI F (iM1 f i j)) := fun pins s σ H Q h0 I h => by
  refine PySem.Call_method1 hbase hs hline (thn (ho pins s σ H _ h0 I (m1_red h)) fun v s1 ⟨x, H1, I1, r1, q1⟩ => ?_)
  obtain ⟨⟨a, rfl⟩, q1⟩ := q1
  obtain ⟨t, rfl⟩ := _root_.id r1
  refine ⟨"str", _, PySem.F.plainAttrs_str, slot, ty, typeIs_str _ _ _, (fun _ e => nomatch e), Calls.callWith_builtin rfl (Calls.evalArgs_plain (Calls.spliced_cons ?_))⟩
  exact thn (he.run pins s1 σ H1 _ I1 q1) fun u s2 ⟨y, H2, I2, r2, q2⟩ => Calls.spliced_nil (rule pins s2 σ H2 _ [y] _ [u] Q I2 r1 (.cons r2 .nil) q2)
end
/-! ### a statement that makes a number: behind it a token is out -/
section
variable {X : Cx}
def PEO (X : Cx) (e : Expr) (t : TE) : Prop :=
  ∀ (pins : List (Addr × Obj)) (s : Shared) (σ : L2.St) (H : Hp) (Q : VK), Inv X pins σ H s → t σ H Q → wpAny (model X.prog X.w) X.A (eval e X.env) (fun v s' => 1 ≤ s'.toks ∧ EP X pins σ Q v s') X.xe s
def PAO (X : Cx) (es : List Expr) (t : TA) : Prop :=
  ∀ (pos : Pos) (pins : List (Addr × Obj)) (s : Shared) (σ : L2.St) (H : Hp) (Q : List V → Hp → Prop), Inv X pins σ H s → t σ H Q → wpAny (model X.prog X.w) X.A (spliced (backTo pos (starEach es X.env))) (fun v s' => 1 ≤ s'.toks ∧ AP X pins σ Q v s') X.xe s
def PSO (X : Cx) (st : Stmt) (t : TS) : Prop :=
  ∀ (pins : List (Addr × Obj)) (s : Shared) (σ : L2.St) (H : Hp) (D : Ends), Inv X pins σ H s → t D σ H → wpAny (model X.prog X.w) X.A (exec st X.env) (fun f s' => 1 ≤ s'.toks ∧ SP X pins D f s') X.xe s
theorem PEO.imp {e : Expr} {t u : TE} (a : PEO X e t) (h : ∀ σ H Q, u σ H Q → t σ H Q) : PEO X e u := fun p s σ H Q I q => a p s σ H Q I (h σ H Q q)
theorem PAO.imp {es : List Expr} {t u : TA} (a : PAO X es t) (h : ∀ σ H Q, u σ H Q → t σ H Q) : PAO X es u := fun pos p s σ H Q I q => a pos p s σ H Q I (h σ H Q q)
theorem PSO.imp {st : Stmt} {t u : TS} (a : PSO X st t) (h : ∀ N σ H, u N σ H → t N σ H) : PSO X st u := fun p s σ H D I q => a p s σ H D I (h D σ H q)
theorem peO_int {i : Int} {j : Nat} {pos : Pos} : PEO X (.Constant (.int i) j pos) (tC (.int i)) := fun _ _ _ H _ I h => wpAny_Constant_int ⟨by show 1 ≤ _ + 1; omega, .int i, H, I.tok _, ⟨_, rfl⟩, h⟩
theorem paO_cons {e : Expr} {es : List Expr} {te : TE} {ta : TA} (ha : PEO X e te) (hr : PA X es ta) (hs : starEach (e :: es) X.env = (false, eval e X.env) :: starEach es X.env := by rfl) : PAO X (e :: es) (tCons te ta) := by
  intro pos pins s σ H Q I h
  rw [hs]
  show wpAny _ _ (spliced ((false, eval e X.env) :: backTo pos (starEach es X.env))) _ _ s
  refine Calls.spliced_cons (thn (ha pins s σ H _ I h) fun v s1 ⟨hk, x, H1, I1, r1, q1⟩ => ?_)
  exact wpAny_mono (PySem.wpAny_toks (hr.run pos pins s1 σ H1 _ I1 q1)) (fun us s2 ⟨hk2, xs, H2, I2, r2, q2⟩ => ⟨Nat.le_trans hk hk2, x :: xs, H2, I2, .cons r1 r2, q2⟩) fun _ _ z => z.2
theorem peO_tup {es : List Expr} {t : TA} {x1} {pos : Pos} (h : PAO X es t) : PEO X (.Tuple es x1 pos) (tTup t) := by
  intro pins s σ H Q I hq
  refine wpAny_Tuple_spliced (thn (h pos pins s σ H _ I hq) fun us s1 ⟨hk, xs, H1, I1, r, z, q⟩ => ⟨by rw [← r.length]; exact z, ?_⟩)
  have hf : H1 s1.heap.objs.size = none := I1.hok.fresh (Nat.le_refl _)
  refine ⟨hk, .ref s1.heap.objs.size, upd H1 s1.heap.objs.size (.tup xs), I1.laid (t' := s1.toks) (fun b u e => Heap.get?_push_of_some _ e) (Nat.le_refl _) ?_, rfl, q _ hf⟩
  exact ⟨z, us, r, ⟨_, Heap.get?_push_size _ rfl, rfl, _, rfl⟩⟩
theorem psO_set {i : Nat} {x : Str} {e : Expr} {te : TE} {pos' pos : Pos} (hN : X.N.Nodup) (hi : X.N[i]? = some x) (hx : Loc X.env.scope x) (he : PEO X e te) (hs : swapsWith e (some (.Name x pos')) pos.line X.env = pure false := by rfl) (hf : X.fn x = true ∨ X.env.scope.names.lookup x = some .local := by first | exact .inl rfl | exact .inr rfl | assumption) :
    PSO X (.Assign [.Name x pos'] e pos) (tAsg te (gName i)) := fun pins s σ H D I h => by
  refine wpAny_Assign_Name (thn (he pins s σ H _ I h) fun v s1 ⟨hk, y, H1, I1, r1, q1⟩ => ?_) hs
  exact wpAny_mono (PySem.wpAny_toks (store_ok (Q := fun f s2 => SP X pins D .next s2) I1 hN hi hx r1 (fun s2 I2 => ⟨_, H1, I2, q1⟩) hf)) (fun _ s2 ⟨hk2, q⟩ => ⟨Nat.le_trans hk hk2, q⟩) fun _ _ z => z.2
theorem pssO_cons {st : Stmt} {rest : List Stmt} {t u : TS} (h1 : PSO X st t) (h2 : PSsT X rest u) : PSs X (st :: rest) (tSeq t u) := by
  refine ⟨fun pins s σ H D I h => ?_⟩
  refine wpAny_execs_cons (thn (h1 pins s σ H { D with nx := u D } I h) fun f s1 q => ?_)
  obtain ⟨hk, q⟩ := q
  cases f with
  | next =>
    obtain ⟨σ', H', I', q⟩ := q
    exact h2 pins s1 σ' H' D hk I' q
  | ret v => exact q
  | brk => exact q
  | cont => exact q
variable {F : Fx} {pos : Pos}
theorem e_intO {i : Int} {j : Nat} : PEO X (.Constant (.int i) j pos) (TI F (iC (.int i))) := PEO.imp peO_int fun σ H Q h => by
  obtain ⟨W, st, env, A, p⟩ := h
  have p' : Post W RV (R.ok (D.int i) st) Q (F.at_ σ) := p
  have q := p' W.ρ W.H _ Ext.refl A.sim (.int i)
  rw [A.h] at q
  exact q
theorem a_consO {e : Expr} {es : List Expr} {i : IE} {j : IA} (he : PEO X e (TI F i)) (hr : PA X es (TA_ F j)) (hs : starEach (e :: es) X.env = (false, eval e X.env) :: starEach es X.env := by rfl) : PAO X (e :: es) (TA_ F (aCons i j)) := PAO.imp (paO_cons he hr hs) fun σ H Q h => (TX.bind (k := fun d env s => (j env s).bind fun ds s2 => .ok (d :: ds) s2) h).mono fun x H1 h1 =>
    (TK.bind (i := j) (k := fun d ds env s2 => .ok (d :: ds) s2) (fun x r => RV.mono x r) h1).mono fun y H2 ⟨W, st, env, a, b, A, ra, rb, p⟩ => by
      have q := p W.ρ W.H (x :: y) Ext.refl A.sim (.cons ra rb)
      rw [A.h] at q
      exact q
theorem e_tupO {es : List Expr} {j : IA} {x1} (h : PAO X es (TA_ F j)) : PEO X (.Tuple es x1 pos) (TI F (iN opTup j)) := PEO.imp (peO_tup h) fun σ H Q h => (n_rN h).mono fun vs H1 ⟨W, st, ds, I, r, p⟩ => by
  unfold opTup at p
  split at p
  · rename_i c
    have eH := I.h
    subst eH
    exact ⟨by rw [← r.length]; exact c, fun q hq => p.tuple I.sim r hq⟩
  · exact p.elim
theorem s_setO {i : Nat} {x : Str} {e : Expr} {j : IE} {pos' pos : Pos} (hN : X.N.Nodup) (hi : X.N[i]? = some x) (hx : Loc X.env.scope x) (he : PEO X e (TI F j)) (hs : swapsWith e (some (.Name x pos')) pos.line X.env = pure false := by rfl) (hf : X.fn x = true ∨ X.env.scope.names.lookup x = some .local := by first | exact .inl rfl | exact .inr rfl | assumption) :
    PSO X (.Assign [.Name x pos'] e pos) (TS_ F (sSet i j)) := PSO.imp (psO_set hN hi hx he hs hf) fun N σ H h =>
  (TX.bindS (k := fun d env s => .nx (env.set i (some d)) s) h).mono fun v H1 ⟨W, s, env, a, A, r, p⟩ => by
    have q := PostS.nx p A.sim (A.env.set r i)
    rw [A.h] at q
    exact q
theorem s_consO {st : Stmt} {rest : List Stmt} {i j : IS} (h1 : PSO X st (TS_ F i)) (h2 : PSsT X rest (TS_ F j)) : PSs X (st :: rest) (TS_ F (sSeq i j)) := PSs.imp (pssO_cons h1 h2) fun _ _ _ h => h.seq
end
/-! ### bool(x) of an instance -/
open Builtin in
theorem bool_new_tree (v : Value) : Builtin.«bool.__new__» ⟨[.type "bool", v], []⟩ = (do
    if !(← isType (.type "bool")) then
      rule "bool.__new__.no-type"; raiseError "TypeError" s!"bool.__new__(X): X is not a type object ({← typeNameOf (.type "bool")})"
    if !(← isSubtype (.type "bool") (.type "bool")) then
      rule "bool.__new__.no-subtype"; raiseError "TypeError" s!"bool.__new__({← typeName (.type "bool")}): {← typeName (.type "bool")} is not a subtype of bool"
    ret (.bool (← truthy v))) := rfl
section
variable {prog : Program} {w : World} {A : Around} {E : Value → Shared → Prop} {s : Shared} {K : PySem.W.Frag} {x C f : Addr} {ox : Obj} {od : Option Obj} {h₀ : Heap} {L : Addr} {m : Str → Option Value}
theorem kbo_call {Q : Value → Shared → Prop} (F : Fr h₀ L s.heap m) (X₀ : K.In h₀) (I : PySem.W.InstAt s.heap x ox C od) (hs : PySem.W.findIn K (.ref C) "__bool__" = some (some (.ref f))) (hf : PySem.W.isFn K (.ref f) = true)
    (h : wpAny (model prog w) A.in1.in1 (call (.ref f) [.ref x]) (PySem.W.BoolBack fun b s' => Q (.bool b) s') E s) : wpAny (model prog w) A (call (.type "bool") [.ref x]) Q E s := by
  refine callType_codes (T := "bool") (Bi := Builtin.«object.__init__») (Q₁ := fun r s₁ => ∃ b, r = .bool b ∧ Q r s₁) PySem.F.called_bool (PySem.F.typeCall_bool_1 _) PySem.F.entry_object_init ?_ ?_
  · refine codeAny_of_tree ?_
    show wpAny _ A.in1.in1 (do checkBuiltinCall "bool.__new__" ⟨[.type "bool", .ref x], []⟩; again (.builtin "bool.__new__" ⟨[.type "bool", .ref x], []⟩)) _ _ s
    refine wpAny_bind (wpAny_of_eq (PySem.F.newCall_bool_1 _) (wpAny_pure ⟨plainId_quiet (by decide +kernel) _, codeAny_builtin PySem.F.entry_bool_new ?_⟩))
    rw [Around.under_plainId (by decide +kernel) _]
    rw [bool_new_tree]
    refine wpAny_bind (wpAny_pure ?_)
    refine wpAny_bind (wpAny_of_eq PySem.F.conv_sub_bool ?_)
    refine wpAny_bind (wpAny_mono (PySem.W.truthy_K (Q := fun b s' => Q (.bool b) s') F X₀ I hs hf h) (fun b s₁ hr => wpAny_pure ⟨b, rfl, hr⟩) fun _ _ y => y)
  · rintro obj s₁ ⟨b, rfl, hq⟩
    exact ⟨PySem.typeIs_bool _ _, PySem.F.args_object_init_2 _ _, object_init_meets PySem.F.called_bool.init.lookup PySem.F.called_bool.made (by decide) prog w A.in1 _ s₁ ⟨PySem.typeIs_bool _ _, rfl, hq⟩⟩
end
def boolR : Option (D × Sto) → Option (D × Sto)
  | some (.bl z, s) => some (.bl z, s)
  | _ => none
def opBoolI (C : Str) (fn : Fn) : OpN := fun ds st => match ds with
  | [d] => match insD st d with
    | some (C', _) => if C' = C then boolR (optR (fn [d] st)) else none
    | none => none
  | _ => none
section
variable {X : Cx} {F : Fx} {W : Vw} {st : Sto} {k : Nat} {C : Str} {fS : Addr} {fd : FuncData} {ps : List Str} {fn : Fn}
theorem own1_callB {A' : Around} {pins : List (Addr × Obj)} {σ : L2.St} {H : Hp} {s : Shared} {Q : VK} {a : D} {x : V} {v : Value} (J : In F W st H) (I : Inv X pins σ H s) (G : FnG X.prog X.w X.K X.mg X.base k fS fd ps (SPx F.K F.g fn)) (hr : Room k A') (hgd : A'.guards = some []) (he : Env0 X.prog X.w X.K X.mg X.base A' X.stack s H) (hb : Binds X.K fd ps [])
    (ra : RV W a x) (rx : RelV x v) (p : PostO W (boolR (optR (fn [a] st))) Q) : wpAny (model X.prog X.w) A' (call (.ref fS) [v]) (PySem.W.BoolBack fun b s' => EP X pins σ Q (.bool b) s') X.xe s := by
  have p2 : PostE W (fn [a] st) (fun z H' => (∃ y, z = .bl y) ∧ Q z H') (fun _ _ _ => False) := by
    cases q : fn [a] st with
    | ok d s2 =>
      rw [q] at p
      cases d with
      | bl y =>
        intro ρ' H' b x S r
        cases r
        exact ⟨⟨_, rfl⟩, p ρ' H' _ x S (.bl _)⟩
      | _ => exact p.elim
    | exc D fs s2 => rw [q] at p; exact p.elim
    | bad => rw [q] at p; exact p.elim
  have sp : SPx F.K F.g fn [x] H _ (fun _ _ _ => False) := ⟨W, st, [a], J.k, J.g, J.h, J.sim, .cons ra .nil, p2⟩
  have r2 : Vals [x] [v] := .cons rx .nil
  have hl := G.len _ _ _ _ sp
  refine wpAny_call (codeAny_mono (G.run A' X.stack s H ⟨[v], []⟩ [v] [x] _ (fun _ _ _ => False) hr hgd he (by simpa using hb s [v] I.kIn (by simpa using hl)) r2 sp) fun r s' hq => ?_)
  cases r with
  | error er =>
    obtain ⟨_, _, _, _, _, _, _, _, _, _, _, _, z⟩ := hq
    exact z.elim
  | ok fl =>
    cases fl with
    | ret u =>
      obtain ⟨z, H', I', rz, ⟨y, rfl⟩, q⟩ := I.after hq
      obtain rfl : u = .bool y := rz
      exact ⟨.bl y, H', I', rfl, q⟩
    | next => exact False.elim hq
    | brk => exact False.elim hq
    | cont => exact False.elim hq
theorem cr_boolI (hk : X.K = F.K) (hs : PySem.W.findIn F.K (.ref (F.g C)) "__bool__" = some (some (.ref fS))) (hf : PySem.W.isFn F.K (.ref fS) = true) (G : FnG X.prog X.w X.K X.mg X.base k fS fd ps (SPx F.K F.g fn)) (hr : Room (k + 2) X.A) (hgd : X.A.guards = some []) (hb : Binds X.K fd ps []) : CallR X (.type "bool") (rN F (opBoolI C fn)) := fun pins s σ H xs us Q I r ⟨W, st, ds, J, rd, p⟩ => by
  unfold opBoolI at p
  split at p
  · rename_i d
    obtain ⟨v, rfl, rv⟩ := rv1 rd
    obtain ⟨u, rfl, ru⟩ := vals1 r
    split at p
    · rename_i C' fs hd
      split at p
      · rename_i hC
        subst hC
        obtain ⟨q, dx, gs, rfl, ea, _⟩ := insD_at J.sim hd rv
        cases ru
        rw [J.g, J.h] at ea
        obtain ⟨mA, O, _⟩ := ins_get I.hok ea
        obtain ⟨od, JI, _⟩ := O.look
        rw [← hk] at hs hf
        obtain ⟨m, hF⟩ := I.fr
        exact kbo_call hF I.ok.mod.kin JI hs hf (own1_callB (A' := X.A.in1.in1) J I G (hr.in1.in1) hgd I.env0.in1.in1 hb rv rfl p)
      · exact p.elim
    · exact p.elim
  · exact p.elim
end
/-! ### C(e, ..), defaults behind -/
theorem dtB_rv {W : Vw} {a : Addr} {vs : List He.Dv} (hF : W.g = He.ga W.K) (h : dtB W.K a vs = true) (hv : vs.all dvOk = true) : RV W (.tup (vs.map dvD)) (.ref a) := by
  unfold dtB at h
  cases q : W.K.lookup a with
  | none => rw [q] at h; cases h
  | some o =>
    obtain ⟨oc, od, dt, osl⟩ := o
    rw [q] at h
    cases oc with
    | type c =>
      cases dt with
      | seq its n =>
        obtain ⟨h1, h2⟩ := ba (show (decide (c = "tuple") && (decide (its.size ≤ sizeLine) && He.relAll (vs.map (He.Dv.v W.K)) its.toList)) = true from h)
        obtain ⟨h3, h4⟩ := ba h2
        exact .tup (.inr ⟨_, its, n, q, congrArg Value.type (of_decide_eq_true h1), rfl, of_decide_eq_true h3, He.relAll_ok h4⟩) (dvs_rv hF hv)
      | _ => cases h
    | _ => cases dt <;> cases h
def iNewD (C : Str) (f : Fn) (n : Nat) (perm : List Nat) (dd : List D) (j : IA) : IE := fun env st => (j env st).bind fun ds s => if ds.length = n then opNew C (fun l s => f (gPick perm l) s) (ds ++ dd) s else .bad
section
variable {X : Cx} {F : Fx} {k n : Nat} {C x : Str} {fI : Addr} {fd : FuncData} {ps ks : List Str} {f : Fn} {p pos : Pos} {e : Expr} {es : List Expr} {kws : List Keyword} {j jk : IA} {perm : List Nat} {dd : List D} {dvs : List V} {its : List Value}
theorem e_newD (Mc : Mk X.K (F.g C) fI) (G : FnG X.prog X.w X.K X.mg X.base k fI fd ps (SPx F.K F.g f)) (hr : Room (k + 1) X.A) (hgd : X.A.guards = some []) (hg : Gl X x) (hm : X.mg x = some (.ref (F.g C))) (hb : KBn X.K fd ps (n + 1) [] (fun us ws => gPick perm (us ++ (its ++ ws))) (fun vs zs => gPick perm (vs ++ (dvs ++ zs)))) (hdd : ∀ W : Vw, W.K = F.K → W.g = F.g → RVs W dd dvs) (tk : L2N.Takes X F.E)
    (ha : PA X (e :: es) (TA_ F j)) (hdb : (x == ("__debug__" : Str)) = false := by decide) (he : starEach (e :: es) X.env = (false, eval e X.env) :: starEach es X.env := by rfl) (hpl : (backTo pos (starEach es X.env)).any (·.1) = false := by rfl) :
    PE X (.Call (.Name x p) (e :: es) [] pos) (TI F (iNewD C f n perm dd j)) := by
  refine ⟨fun pins s σ H Q I h => ?_⟩
  refine wpAny_Call_Name_kw (ld_glob I hg hm (PySem.W.callWith_K (h₀ := X.base) I.ok.mod.kin Mc.kp (thn (ha.run pos pins s σ H _ I (TX.bind (k := fun ds env s => if ds.length = n then opNew C (fun l s => f (gPick perm l) s) (ds ++ dd) s else .bad) h)) fun us s1 ⟨vs, H1, I1, r, W, st, env, es, A, re, q⟩ => ⟨I1.kIn, ?_⟩) he hpl) hdb)
  have q' : PostE W (if es.length = n then opNew C (fun l s => f (gPick perm l) s) (es ++ dd) st else .bad) Q (F.at_ σ) := q
  split at q'
  · rename_i c
    have hq := new_sp A.in_ (I1.hok.fresh (Nat.le_succ _)) (I1.hok.fresh (Nat.le_refl _)) (Nat.ne_of_lt (Nat.lt_succ_self s1.heap.objs.size)) (re.append (hdd W A.k A.g)) q'
    have hq2 : SPx F.K F.g f (gPick perm ((.ref (s1.heap.objs.size + 1) :: vs) ++ (dvs ++ []))) (upd (upd H1 s1.heap.objs.size (.own (s1.heap.objs.size + 1))) (s1.heap.objs.size + 1) (.ins (F.g C) s1.heap.objs.size [])) (fun v H2 => v = .non ∧ Q (.ref (s1.heap.objs.size + 1)) H2) (F.at_ σ) := by
      obtain ⟨W1, st1, ds1, h1, h2, h3, h4, h5, h6⟩ := hq
      refine ⟨W1, st1, gPick perm ds1, h1, h2, h3, h4, ?_, h6⟩
      rw [List.append_nil]
      exact rvs_pick h5 perm
    have I2 := Inv.made (C := F.g C) I1
    have r1 : Vals (V.ref (s1.heap.objs.size + 1) :: vs) (Value.ref (s1.heap.objs.size + 1) :: us) := .cons rfl r
    have r2 := hb.rel r1 .nil
    have l1 : (Value.ref (s1.heap.objs.size + 1) :: us).length = n + 1 := by rw [List.length_cons, ← r.length, ← re.length, c]
    refine wpAny_call (make_map (f := fI) I1.kIn Mc.makes Mc.init (beq_iff_eq.mp Mc.fn) (codeAny_mono (G.run _ X.stack _ _ ⟨Value.ref (s1.heap.objs.size + 1) :: us, []⟩ (gPick perm ((Value.ref (s1.heap.objs.size + 1) :: us) ++ (its ++ []))) _ _ (F.at_ σ) (hr.make (F.g C) us []) (make_guards hgd)
      (I2.env0.make (F.g C) us []) (hb.to _ _ [] I2.kIn l1 rfl) r2 hq2) fun r s' hq' => ?_))
    cases r with
    | error e => exact tk e s' (L2N.XE.of_call I2 (fun _ _ _ h => h) hq')
    | ok fl =>
      cases fl with
      | ret u =>
        obtain ⟨v, H', I3, rv, ev, q3⟩ := I2.after hq'
        subst ev
        exact ⟨rv, V.ref (s1.heap.objs.size + 1), H', I3, rfl, q3⟩
      | next => exact False.elim hq'
      | brk => exact False.elim hq'
      | cont => exact False.elim hq'
  · exact q'.elim
end
/-! ### C.m(k = e, ..), m a staticmethod -/
section
variable {X : Cx} {F : Fx} {k : Nat} {C x m : Str} {fA : Addr} {fd : FuncData} {ps ks : List Str} {fn : Fn} {p pos apos : Pos} {kws : List Keyword} {jk : IA} {perm : List Nat} {its : List Value} {pl : Sem Bool}
theorem e_statK {pA : Addr} (hk : X.K = F.K) (T : StatOf F.K (F.g C) m pA fA) (kp : PySem.W.keepIn X.K (.ref fA) = true) (G : FnG X.prog X.w X.K X.mg X.base k fA fd ps (SPx F.K F.g fn)) (hr : Room k X.A) (hgd : X.A.guards = some []) (hb : KBn X.K fd ps 0 ks (fun us ws => gPick perm (us ++ (its ++ ws))) (fun vs zs => gPick perm (vs ++ ([] ++ zs)))) (tk : L2N.Takes X F.E) (hg : Gl X x) (hmg : X.mg x = some (.ref (F.g C)))
    (hkw : PK X kws (TA_ F jk)) (hall : (backToKw pos (keywordEach kws X.env)).all (·.1.isSome) = true := by rfl) (hks : (backToKw pos (keywordEach kws X.env)).filterMap (·.1) = ks := by rfl)
    (hdb : (x == ("__debug__" : Str)) = false := by decide) (hpl : ((backTo pos (starEach [] X.env)).any (·.1) || (backToKw pos (keywordEach kws X.env)).any (·.1.isNone)) = false := by rfl)
    (ht : eval (.Call (.Attribute (.Name x p) m apos) [] kws pos) X.env = (do
      let ov ← eval (.Name x p) X.env
      standAt apos.atName
      let (f, first) ← holding [ov] (getMethod ov m pl)
      callWith pos f first (backTo pos (starEach [] X.env)) (backToKw pos (keywordEach kws X.env))) := by rfl) :
    PE X (.Call (.Attribute (.Name x p) m apos) [] kws pos) (TI F (iCallK fn ks.length perm [] jk)) := by
  refine ⟨fun pins s σ H Q I h => ?_⟩
  have h1 := T.rd
  have h2 := T.ga
  have h3 := T.at_
  obtain ⟨rest, h4⟩ := T.rc
  rw [← hk] at h1 h2 h3 h4
  refine PySem.W.methodCall_KW (pl := pl) (ld_glob I hg hmg ?_ hdb) ht
  refine PySem.W.method_cls I.kIn h2 (PySem.W.cls_bind I.kIn h1 h3 (wpAny_call (PySem.W.sm_get (s := { s with toks := s.toks + 1 }) I.kIn h4 (PySem.W.handed_on rfl ?_))))
  have I1 := I.tok (s.toks + 1)
  refine PySem.W.callWith_KW0 (first := []) (h₀ := X.base) I.ok.mod.kin kp hall (thn (hkw.run pos pins _ σ H _ I1 (TX.bind (k := fun zs env s2 => kPick fn 0 ks.length perm [] [] zs s2) h)) fun ws s2 ⟨zs, H2, I2, rz, W, st, env, es, A, re, q⟩ => ⟨I2.kIn, ?_⟩) hpl
  rw [hks]
  obtain ⟨l1, l2, q2⟩ := pick_sp (vs := []) (dd := []) (dvs := []) (fun _ _ _ => .nil) A .nil re q
  exact run_gN (us := []) (vs := []) G hr hgd hb tk I2 .nil rz rfl l2 q2
end
end M
/-! M118: the law's call and its end, with what a long division asks. -/
namespace M
open PySem PySem.Spec PyProof.Rows L2
section
variable {P : Program} {w : World} {K : PySem.W.Frag} {mg mb : Str → Option Value} {k : Nat} {fa a : Addr} {fd : FuncData} {x : Str} {sp : Sp} {s1 : Shared} {vs : List Value} {ns : List Int}
theorem law_coreS {H : Hp} (KX : K.In s1.heap) (hns : s1.heap.Ns mainGlobals mg) (hb : s1.heap.Ns builtinsNs mb) (hbb : ∀ x : Str, x ≠ "__name__" → mb x = bootBuiltins x) (hlim : s1.heap.NoLimit) (hg : s1.gens = #[])
    (ha : s1.heap.get? a = some { cls := .type "list", data := .seq vs.toArray }) (hr : Room k callerA) (hse : s1.heap.NoSeer) (G : ∀ base : Heap, base.NoSeer → FnG P w K mg base k fa fd [x] sp) (bi : ∀ (s : Shared) (u : Value), BindsTo s fd ⟨[u], []⟩ [(x, u)])
    (hO : Only H) (hok : HOk P w H s1.heap) (hA : ∀ b, H b ≠ none → b = a) (hK : H a ≠ none → K.lookup a = none) (hsp : sp [.ref a] H (fun v _ => v = .bl true) fun _ _ _ => False) :
    codeAny (model P w) callerA (.call (.ref fa) ⟨[.ref a], []⟩) (LawEnd s1) s1 := by
  have not : ∀ {b : Addr} {o : Obj}, s1.heap.get? b = some o → (∀ u, H b = some u → False) → (hidT s1.heap H).get? b = some o := fun {b o} e n => hidT_get e (by
    cases q : H b with
    | none => rfl
    | some u => exact (n u q).elim)
  have dic : ∀ {b : Addr} {m : Str → Option Value}, s1.heap.Ns b m → (hidT s1.heap H).Ns b m := fun {b m} ⟨o, es, ep, e, d, r⟩ => ⟨o, es, ep, not e (fun u q => by
    have e' := hA b (by rw [q]; exact fun z => nomatch z)
    subst e'
    rw [ha] at e
    cases e
    exact nomatch (show Data.seq vs.toArray _ = Data.dict es ep from d)), d, r⟩
  have kin : K.In (hidT s1.heap H) := fun b o e => not (KX b o e) fun u q => by
    have e' := hA b (by rw [q]; exact fun z => nomatch z)
    subst e'
    rw [hK (by rw [q]; exact fun z => nomatch z)] at e
    cases e
  have md : Mod K mg (hidT s1.heap H) := ⟨kin, dic hns, ⟨mb, dic hb, hbb⟩, by obtain ⟨mc, h1, h2⟩ := hlim; exact ⟨mc, dic h1, h2⟩⟩
  have sr : (hidT s1.heap H).NoSeer := by
    refine ⟨?_, ?_, ?_, ?_⟩
    · obtain ⟨mc, h1, h2⟩ := hse.statics
      exact ⟨mc, dic h1, h2⟩
    · obtain ⟨mc, h1, h2⟩ := hse.mods
      exact ⟨mc, dic h1, h2⟩
    · obtain ⟨mc, h1, h2⟩ := hse.imp
      exact ⟨mc, dic h1, h2⟩
    · obtain ⟨mg, bm, ob, h1, h2, h3, h4, h5⟩ := hse.main
      refine ⟨mg, bm, ob, dic h1, h2, not h3 (fun u q => ?_), h4, h5⟩
      have e' := hA bm (by rw [q]; exact fun z => nomatch z)
      subst e'
      rw [ha] at h3
      cases h3
      exact absurd (show Value.type "list" = Value.type "module" from h4) (by decide)
  have e0 : Env0 P w K mg (hidT s1.heap H) callerA [] s1 H := ⟨rfl, md, fun b o e => of_hidT e, Nat.le_of_eq (hidT_size _ _), trivial, (fun b m => absurd (show b ∈ ([] : List Addr) from m) (by simp)), hok, .of_eq hg⟩
  refine codeAny_mono ((G _ sr).run callerA [] s1 H ⟨[.ref a], []⟩ [.ref a] [.ref a] _ _ hr rfl e0 (bi s1 (.ref a)) (.cons rfl .nil) hsp) fun r s' h => ?_
  cases r with
  | error e =>
    obtain ⟨_, _, _, _, _, _, _, _, _, _, _, _, z⟩ := h
    exact z.elim
  | ok fl =>
    cases fl with
    | next => exact h.elim
    | brk => exact h.elim
    | cont => exact h.elim
    | ret u =>
      obtain ⟨v, H', os, bare, un, hok', rv, q⟩ := h
      cases (show v = .bl true from q)
      cases (show u = Value.bool true from rv)
      refine ⟨rfl, OldK.of_keep fun b o e => ?_, os, bare⟩
      rcases hO b with q | ⟨ob, xs, q⟩
      · exact un.keep b o e q (fun m => nomatch (show b ∈ ([] : List Addr) from m)) (by simp)
      · have z1 := (hok b _ q).1
        have z2 := (hok' b _ (un.frzs b ob _ q)).1
        rw [e] at z1
        cases z1
        exact z2
theorem law_callS (KX : K.In s1.heap) (hns : s1.heap.Ns mainGlobals mg) (hb : s1.heap.Ns builtinsNs mb) (hbb : ∀ x : Str, x ≠ "__name__" → mb x = bootBuiltins x) (hlim : s1.heap.NoLimit) (hg : s1.gens = #[])
    (ha : s1.heap.get? a = some { cls := .type "list", data := .seq vs.toArray }) (hi : IntsAre vs ns) (hl : ns.length ≤ sizeLine) (hr : Room k callerA) (hse : s1.heap.NoSeer) (G : ∀ base : Heap, base.NoSeer → FnG P w K mg base k fa fd [x] sp) (bi : ∀ (s : Shared) (u : Value), BindsTo s fd ⟨[u], []⟩ [(x, u)])
    (hsp : ∀ H : Hp, Only H → LsE K H a (ns.map V.int) → sp [.ref a] H (fun v _ => v = .bl true) fun _ _ _ => False) : codeAny (model P w) callerA (.call (.ref fa) ⟨[.ref a], []⟩) (LawEnd s1) s1 := by
  have rv := L2.vals_ints hi
  cases hk : K.lookup a with
  | some o =>
    have e := KX a o hk
    rw [ha] at e
    cases e
    have O : Only (fun _ => none) := fun _ => .inl rfl
    exact law_coreS KX hns hb hbb hlim hg ha hr hse G bi O (fun b u z => by cases (show (none : Option HO) = some u from z)) (fun b z => absurd rfl z) (fun z => absurd rfl z) (hsp _ O (.inr ⟨vs.toArray, _, hk, by rw [List.size_toArray, hi.length]; exact hl, by simpa using rv⟩))
  | none =>
    let H : Hp := fun b => if b = a then some (.frz { cls := .type "list", data := .seq vs.toArray } (.lst (ns.map V.int))) else none
    have at_ : H a = some (.frz { cls := .type "list", data := .seq vs.toArray } (.lst (ns.map V.int))) := if_pos rfl
    have off : ∀ b, b ≠ a → H b = none := fun b h => if_neg h
    have O : Only H := fun b => by
      by_cases h : b = a
      · subst h; exact .inr ⟨_, _, at_⟩
      · exact .inl (off b h)
    refine law_coreS KX hns hb hbb hlim hg ha hr hse G bi O (fun b u z => ?_) (fun b z => ?_) (fun _ => hk) (hsp _ O (.inl (.inr ⟨_, at_⟩)))
    · by_cases h : b = a
      · subst h
        rw [at_] at z
        cases z
        exact ⟨ha, by rw [List.length_map]; exact hl, vs, _, rv, ha⟩
      · rw [off b h] at z; cases z
    · by_cases h : b = a
      · exact h
      · exact absurd (off b h) z
end

theorem walk_ofS {l : PySem.W.OpenLaw} {n k : Nat} {q : Program} {loose : List Str} {XP : (Str → Option Value) → Heap → Prop} {YP : World → Heap → Prop} {d : DefRec} {x : Str} {f : Fn}
    (hn : l.most = some n) (hn2 : n ≤ sizeLine) (hdf : d.params.defaults = []) (hno : PyProof.Rows.importsNone q = true) (htr : l.prog.given.tree = none) (hr : Room k callerA)
    (F : ∀ (w : World) (mg : Str → Option Value) (fa : Addr) (h : Heap), YP w h → h.Ns mainGlobals mg → mg d.name = some (.ref fa) →
      ∃ (K : PySem.W.Frag) (fd : FuncData), K.In h ∧ (∀ (s : Shared) (u : Value), BindsTo s fd ⟨[u], []⟩ [(x, u)]) ∧ ∀ base : Heap, Sr l.prog base → FnG l.prog w K mg base k fa fd [x] (SPx K (gq l.prog w K) f))
    (hf : ∀ ns : List Int, ns.length ≤ n → ∃ st, f [.lst (ns.map .int)] [] = .ok (.bl true) st) :
    PySem.W.WalkO q loose XP YP l.row.toRowW d [] (fun f vs => PySem.call f vs) := by
  refine Att.attach_call hn hdf fun w s₀ s₁ mg mb fa o pm cd doc a vs ns G Y ho hd hcd hmg hobj hints hlen hg => ?_
  obtain ⟨K, fd, KX, hb, hF⟩ := F w mg fa _ Y G.T.g hmg
  refine law_callS KX G.T.g G.T.b G.T.builtins G.T.nolimit hg hobj hints (Nat.le_trans hlen hn2) hr (G.T.seer hno) (fun base hs => hF base ⟨hs, htr⟩) hb fun H hO hS => ?_
  obtain ⟨st, e⟩ := hf ns hlen
  let W : Vw := ⟨K, gq l.prog w K, fun _ => False, [], H⟩
  have rr : ∀ ns : List Int, RVs W (ns.map D.int) (ns.map V.int) := fun ns => by
    induction ns with
    | nil => exact .nil
    | cons i is ih => exact .cons (.int i) ih
  refine ⟨W, [], _, rfl, rfl, rfl, ⟨rfl, List.nodup_nil, (fun _ m => by cases m), (fun _ z => False.elim z), (fun n o a h _ => by simp at h), (fun a h => nomatch h)⟩, .cons (.lst (hS.imp (fun h => ⟨h, ⟨(fun m => by cases m), (fun z => z)⟩⟩) id) (rr ns)) .nil, ?_⟩
  rw [e]
  intro ρ' H' v _ _ rv
  cases rv
  rfl
end M
/-! the program's functions as Lean functions -/
namespace M
open PySem
def B_p_Ratio___eq__ : IS := (sRet (iAnd (iN (opIsiI ["Ratio"] [] (isaT tl_Ratio)) (aCons (iVar 1) (aCons (iC (.glo "Ratio")) aNil))) (iAnd (iBin (opEq false) (iUn (opGet ["Ratio"] "top") (iVar 0)) (iUn (opGet ["Ratio"] "top") (iVar 1))) (iBin (opEq false) (iUn (opGet ["Ratio"] "bottom") (iVar 0)) (iUn (opGet ["Ratio"] "bottom") (iVar 1))))))
def p_Ratio___eq__ : Fn := (runB B_p_Ratio___eq__ 2 2)
def B_p_is_whole : IS := (sRet (iAnd (iN (opIsiI ["Ratio"] [] (isaT tl_int)) (aCons (iVar 0) (aCons (iC (.ty "int")) aNil))) (iNot (iN (opIsiI ["Ratio"] [] (isaT tl_bool)) (aCons (iVar 0) (aCons (iC (.ty "bool")) aNil))))))
def p_is_whole : Fn := (runB B_p_is_whole 1 1)
def B_p_is_row : IS := (sRet (iAnd (iN (opIsiI ["Ratio"] [] (isaT tl_tuple)) (aCons (iVar 0) (aCons (iC (.ty "tuple")) aNil))) (iAnd (iBin (opEq true) (iVar 0) (iN opTup aNil)) (iN opAll (aCons (iCompF (wAny (iVar 0)) (.one 1) tYes' (iCall p_is_whole [] (aCons (iVar 1) aNil))) aNil)))))
def p_is_row : Fn := (runB B_p_is_row 2 1)
def B_p_divisor_of : IS := (sSeq (sPar 0 1 (aCons (iN opAbs (aCons (iVar 0) aNil)) (aCons (iN opAbs (aCons (iVar 1) aNil)) aNil)))
  (sSeq (sWhile (mInt 1) (tBl (iBin (opEq true) (iVar 1) (iC (.int 0)))) (sPar 0 1 (aCons (iVar 1) (aCons (iBin opMod (iVar 0) (iVar 1)) aNil))))
  (sRet (iVar 0))))
def p_divisor_of : Fn := (runB B_p_divisor_of 2 2)
def B_p_plain : IS := (sSeq (sSet 1 (iC (.int 0)))
  (sSeq (sFor (wAny (iVar 0)) (gVar 2) (sSet 1 (iCall p_divisor_of [] (aCons (iVar 1) (aCons (iVar 2) aNil)))))
  (sRet (iN opTuple (aCons (iCompF (wAny (iVar 0)) (.one 2) tYes' (iBin opFdivA (iVar 2) (iVar 1))) aNil)))))
def p_plain : Fn := (runB B_p_plain 3 1)
def B_p_trimmed : IS := (sSeq (sSet 1 (iN opLen (aCons (iVar 0) aNil)))
  (sSeq (sWhile (mLen 0) (tAnd' (tBl (iBin opGt (iVar 1) (iC (.int 1)))) (tBl (iBin (opEq false) (iBin opIx (iVar 0) (iBin opSub (iVar 1) (iC (.int 1)))) (iC (.int 0))))) (sSet 1 (iBin opSub (iVar 1) (iC (.int 1)))))
  (sRet (iN opTuple (aCons (iSlA (iVar 0) oNone (oSome (iVar 1))) aNil)))))
def p_trimmed : Fn := (runB B_p_trimmed 2 1)
def B_p_row_sum : IS := (sSeq (sSet 3 (iN opMax (aCons (iN opLen (aCons (iVar 0) aNil)) (aCons (iN opLen (aCons (iVar 1) aNil)) aNil))))
  (sSeq (sPar 4 5 (aCons (iBin opAdd (iN opListF (aCons (iVar 0) aNil)) (iBin opMul (iN opLstF (aCons (iC (.int 0)) aNil)) (iBin opSub (iVar 3) (iN opLen (aCons (iVar 0) aNil))))) (aCons (iBin opAdd (iN opListF (aCons (iVar 1) aNil)) (iBin opMul (iN opLstF (aCons (iC (.int 0)) aNil)) (iBin opSub (iVar 3) (iN opLen (aCons (iVar 1) aNil))))) aNil)))
  (sRet (iCall p_trimmed [] (aCons (iCompF (wZipL (aCons (iVar 4) (aCons (iVar 5) aNil))) (.tup [6, 7]) tYes' (iBin opAdd (iVar 6) (iBin opMulA (iVar 2) (iVar 7)))) aNil)))))
def p_row_sum : Fn := (runB B_p_row_sum 8 3)
def B_p_rest_of : IS := (sSeq (sSet 2 (iVar 0))
  (sSeq (sWhile (mLen 2) (tAnd' (tBl (iBin opGe (iN opLen (aCons (iVar 2) aNil)) (iN opLen (aCons (iVar 1) aNil)))) (tBl (iBin (opEq true) (iVar 2) (iN opTup (aCons (iC (.int 0)) aNil))))) (sSeq (sSet 3 (iBin opMulZ (iN opTup (aCons (iC (.int 0)) aNil)) (iBin opSub (iN opLen (aCons (iVar 2) aNil)) (iN opLen (aCons (iVar 1) aNil)))))
  (sSeq (sSet 4 (iN opTuple (aCons (iCompF (wAny (iVar 2)) (.one 5) tYes' (iBin opMulA (iVar 5) (iBin opIx (iVar 1) (iUn opNeg (iC (.int 1)))))) aNil)))
  (sSet 2 (iCall p_row_sum [] (aCons (iVar 4) (aCons (iBin opAdd (iVar 3) (iVar 1)) (aCons (iBin opSub (iC (.int 0)) (iBin opIx (iVar 2) (iUn opNeg (iC (.int 1))))) aNil))))))))
  (sRet (iIf (tBl (iBin (opEq false) (iVar 2) (iN opTup (aCons (iC (.int 0)) aNil)))) (iVar 2) (iCall p_plain [] (aCons (iVar 2) aNil))))))
def p_rest_of : Fn := (runB B_p_rest_of 6 2)
def B_p_common_row : IS := (sSeq (sPar 2 3 (aCons (iCall p_plain [] (aCons (iVar 0) aNil)) (aCons (iCall p_plain [] (aCons (iVar 1) aNil)) aNil)))
  (sSeq (sWhile (mLen 3) (tBl (iBin (opEq true) (iVar 3) (iN opTup (aCons (iC (.int 0)) aNil)))) (sPar 2 3 (aCons (iVar 3) (aCons (iCall p_rest_of [] (aCons (iVar 2) (aCons (iVar 3) aNil))) aNil))))
  (sRet (iVar 2))))
def p_common_row : Fn := (runB B_p_common_row 4 2)
def B_p_quotient : IS := (sSeq (sPar 2 3 (aCons (iN opTup (aCons (iC (.int 0)) aNil)) (aCons (iVar 0) aNil)))
  (sSeq (sWhile (mLen 3) (tBl (iBin (opEq true) (iVar 3) (iN opTup (aCons (iC (.int 0)) aNil)))) (sSeq (sPar 4 5 (aCons (iBin opSub (iN opLen (aCons (iVar 3) aNil)) (iN opLen (aCons (iVar 1) aNil))) (aCons (iBin opFdivA (iBin opIx (iVar 3) (iUn opNeg (iC (.int 1)))) (iBin opIx (iVar 1) (iUn opNeg (iC (.int 1))))) aNil)))
  (sSeq (sSet 2 (iCall p_row_sum [] (aCons (iVar 2) (aCons (iBin opAdd (iBin opMulZ (iN opTup (aCons (iC (.int 0)) aNil)) (iVar 4)) (iN opTup (aCons (iVar 5) aNil))) (aCons (iC (.int 1)) aNil)))))
  (sSet 3 (iCall p_row_sum [] (aCons (iVar 3) (aCons (iBin opAdd (iBin opMulZ (iN opTup (aCons (iC (.int 0)) aNil)) (iVar 4)) (iVar 1)) (aCons (iBin opSub (iC (.int 0)) (iVar 5)) aNil))))))))
  (sRet (iVar 2))))
def p_quotient : Fn := (runB B_p_quotient 6 2)
def B_p_lowest : IS := (sSeq (sIf (tBl (iBin (opEq false) (iVar 0) (iN opTup (aCons (iC (.int 0)) aNil)))) (sRet (iN opTup (aCons (iN opTup (aCons (iC (.int 0)) aNil)) (aCons (iN opTup (aCons (iC (.int 1)) aNil)) aNil)))) sNil)
  (sSeq (sSet 2 (iCall p_common_row [] (aCons (iVar 0) (aCons (iVar 1) aNil))))
  (sSeq (sPar 0 1 (aCons (iCall p_quotient [] (aCons (iVar 0) (aCons (iVar 2) aNil))) (aCons (iCall p_quotient [] (aCons (iVar 1) (aCons (iVar 2) aNil))) aNil)))
  (sSeq (sSet 3 (iC (.int 0)))
  (sSeq (sFor (wAny (iBin opAdd (iVar 0) (iVar 1))) (gVar 4) (sSet 3 (iCall p_divisor_of [] (aCons (iVar 3) (aCons (iVar 4) aNil)))))
  (sSeq (sIf (tBl (iBin opLt (iBin opIx (iVar 1) (iUn opNeg (iC (.int 1)))) (iC (.int 0)))) (sSet 3 (iBin opSub (iC (.int 0)) (iVar 3))) sNil)
  (sRet (iN opTup (aCons (iN opTuple (aCons (iCompF (wAny (iVar 0)) (.one 4) tYes' (iBin opFdivA (iVar 4) (iVar 3))) aNil)) (aCons (iN opTuple (aCons (iCompF (wAny (iVar 1)) (.one 4) tYes' (iBin opFdivA (iVar 4) (iVar 3))) aNil)) aNil))))))))))
def p_lowest : Fn := (runB B_p_lowest 5 2)
def B_p_Ratio___init__ : IS := (sSeq (sIf (tNot' (tTru (iCall p_is_row [] (aCons (iVar 1) aNil)))) (sRaise "InvalidCount" 1 ["value"] gCat (aCons (iVar 1) aNil)) sNil)
  (sSeq (sIf (tNot' (tTru (iCall p_is_row [] (aCons (iVar 2) aNil)))) (sRaise "InvalidCount" 1 ["value"] gCat (aCons (iVar 2) aNil)) sNil)
  (sSeq (sIf (tBl (iBin (opEq false) (iCall p_trimmed [] (aCons (iVar 2) aNil)) (iN opTup (aCons (iC (.int 0)) aNil)))) (sRaise0 "ZeroBelow") sNil)
  (sAsg (gTup' 2 (gsCons (gFld ["Ratio"] "top" (iVar 0)) (gsCons (gFld ["Ratio"] "bottom" (iVar 0)) gsNil))) (iCall p_lowest [] (aCons (iCall p_trimmed [] (aCons (iVar 1) aNil)) (aCons (iCall p_trimmed [] (aCons (iVar 2) aNil)) aNil)))))))
def p_Ratio___init__ : Fn := (runB B_p_Ratio___init__ 3 3)
def B_p_power_text : IS := (sRet (iIf (tBl (iBin (opEq false) (iVar 0) (iC (.int 1)))) (iC (.str "n")) (iJs [(iC (.str "n^")), (iUn opFmt (iVar 0))] Str.empty)))
def p_power_text : Fn := (runB B_p_power_text 1 1)
def B_p_row_text : IS := (sSeq (sSet 1 (iC (.str "")))
  (sSeq (sFor (wRng3 (aCons (iBin opSub (iN opLen (aCons (iVar 0) aNil)) (iC (.int 1))) (aCons (iUn opNeg (iC (.int 1))) (aCons (iUn opNeg (iC (.int 1))) aNil)))) (gVar 2) (sSeq (sSet 3 (iBin opIx (iVar 0) (iVar 2)))
  (sIf (tBl (iBin (opEq true) (iVar 3) (iC (.int 0)))) (sSeq (sSet 4 (iN opAbs (aCons (iVar 3) aNil)))
  (sSeq (sSet 5 (iIf (tBl (iBin (opEq false) (iVar 2) (iC (.int 0)))) (iUn opFmt (iVar 4)) (iIf (tBl (iBin (opEq false) (iVar 4) (iC (.int 1)))) (iCall p_power_text [] (aCons (iVar 2) aNil)) (iJs [(iUn opFmt (iVar 4)), (iC (.str "*")), (iUn opFmt (iCall p_power_text [] (aCons (iVar 2) aNil)))] Str.empty))))
  (sIf (tBl (iBin (opEq false) (iVar 1) (iC (.str "")))) (sSet 1 (iIf (tBl (iBin opLt (iVar 3) (iC (.int 0)))) (iBin opAdd (iC (.str "-")) (iVar 5)) (iVar 5))) (sSet 1 (iBin opAdd (iBin opAdd (iVar 1) (iIf (tBl (iBin opLt (iVar 3) (iC (.int 0)))) (iC (.str " - ")) (iC (.str " + ")))) (iVar 5)))))) sNil)))
  (sRet (iIf (tBl (iBin (opEq true) (iVar 1) (iC (.str "")))) (iVar 1) (iC (.str "0"))))))
def p_row_text : Fn := (runB B_p_row_text 6 1)
def B_p_Ratio___str__ : IS := (sSeq (sIf (tBl (iBin (opEq false) (iUn (opGet ["Ratio"] "bottom") (iVar 0)) (iN opTup (aCons (iC (.int 1)) aNil)))) (sRet (iUn opFmt (iCall p_row_text [] (aCons (iUn (opGet ["Ratio"] "top") (iVar 0)) aNil)))) sNil)
  (sRet (iJs [(iC (.str "(")), (iUn opFmt (iCall p_row_text [] (aCons (iUn (opGet ["Ratio"] "top") (iVar 0)) aNil))), (iC (.str ")/(")), (iUn opFmt (iCall p_row_text [] (aCons (iUn (opGet ["Ratio"] "bottom") (iVar 0)) aNil))), (iC (.str ")"))] Str.empty)))
def p_Ratio___str__ : Fn := (runB B_p_Ratio___str__ 1 1)
def B_p_is_digits : IS := (sRet (iAnd (iChain opLe opLe (iC (.int 1)) (iN opLen (aCons (iVar 0) aNil)) (iC (.int 4000))) (iN opAll (aCons (iCompF (wAny (iVar 0)) (.one 1) tYes' (iBin (opIn false) (iVar 1) (iC (.str "0123456789")))) aNil))))
def p_is_digits : Fn := (runB B_p_is_digits 2 1)
def B_p_term_in : IS := (sSeq (sAsg (gTup' 3 (gsVar 1 (gsVar 2 (gsVar 3 gsNil)))) (iM1 opPart (iVar 0) (iC (.str "*"))))
  (sSeq (sIf (tAnd' (tBl (iBin (opEq false) (iVar 2) (iC (.str "")))) (tTru (iM1 opStarts (iVar 0) (iC (.str "n"))))) (sPar 1 3 (aCons (iC (.str "1")) (aCons (iVar 0) aNil))) sNil)
  (sSeq (sIf (tNot' (tTru (iCall p_is_digits [] (aCons (iVar 1) aNil)))) (sRet (iC .non)) sNil)
  (sSeq (sIf (tAnd' (tBl (iBin (opEq false) (iVar 2) (iC (.str "")))) (tNot' (tTru (iM1 opStarts (iVar 0) (iC (.str "n")))))) (sRet (iN opTup (aCons (iN opIntS (aCons (iVar 1) aNil)) aNil))) sNil)
  (sSeq (sIf (tBl (iBin (opEq false) (iVar 3) (iC (.str "n")))) (sRet (iN opTup (aCons (iC (.int 0)) (aCons (iN opIntS (aCons (iVar 1) aNil)) aNil)))) sNil)
  (sSeq (sIf (tOr' (tNot' (tTru (iM1 opStarts (iVar 3) (iC (.str "n^"))))) (tOr' (tNot' (tTru (iCall p_is_digits [] (aCons (iSl (iVar 3) (oSome (iC (.int 2))) oNone) aNil)))) (tBl (iBin opGt (iN opIntS (aCons (iSl (iVar 3) (oSome (iC (.int 2))) oNone) aNil)) (iC (.int 99)))))) (sRet (iC .non)) sNil)
  (sRet (iBin opAdd (iBin opMulZ (iN opTup (aCons (iC (.int 0)) aNil)) (iN opIntS (aCons (iSl (iVar 3) (oSome (iC (.int 2))) oNone) aNil))) (iN opTup (aCons (iN opIntS (aCons (iVar 1) aNil)) aNil))))))))))
def p_term_in : Fn := (runB B_p_term_in 4 1)
def B_p_row_in : IS := (sSeq (sSet 1 (iN opTup (aCons (iC (.int 0)) aNil)))
  (sSeq (sSet 2 (iIf (tTru (iM1 opStarts (iVar 0) (iC (.str "-")))) (iSl (iVar 0) (oSome (iC (.int 1))) oNone) (iVar 0)))
  (sSeq (sSet 3 (iIf (tTru (iM1 opStarts (iVar 0) (iC (.str "-")))) (iUn opNeg (iC (.int 1))) (iC (.int 1))))
  (sSeq (sSet 4 (iM1 opSplit (iUn (opRepl " - " " + -") (iVar 2)) (iC (.str " + "))))
  (sSeq (sFor (wEnum (aCons (iVar 4) aNil)) (gTup' 2 (gsVar 5 (gsVar 6 gsNil))) (sSeq (sSet 7 (iIf (tBl (iBin (opEq false) (iVar 5) (iC (.int 0)))) (iVar 3) (iIf (tTru (iM1 opStarts (iVar 6) (iC (.str "-")))) (iUn opNeg (iC (.int 1))) (iC (.int 1)))))
  (sSeq (sSet 8 (iCall p_term_in [] (aCons (iIf (tAnd' (tBl (iBin opGt (iVar 5) (iC (.int 0)))) (tTru (iM1 opStarts (iVar 6) (iC (.str "-"))))) (iSl (iVar 6) (oSome (iC (.int 1))) oNone) (iVar 6)) aNil)))
  (sSeq (sIf (tBl (iBin (opIs false) (iVar 8) (iC .non))) (sRet (iC .non)) sNil)
  (sSet 1 (iCall p_row_sum [] (aCons (iVar 1) (aCons (iVar 8) (aCons (iVar 7) aNil)))))))))
  (sRet (iVar 1)))))))
def p_row_in : Fn := (runB B_p_row_in 9 1)
def B_p_ratio_in : IS := (sSeq (sPar 1 2 (aCons (iVar 0) (aCons (iC (.str "1")) aNil)))
  (sSeq (sIf (tAnd' (tTru (iM1 opStarts (iVar 0) (iC (.str "(")))) (tAnd' (tTru (iM1 opEnds (iVar 0) (iC (.str ")")))) (tBl (iBin (opEq false) (iM1 opCntT (iVar 0) (iC (.str ")/("))) (iC (.int 1)))))) (sAsg (gTup' 3 (gsVar 1 (gsVar 3 (gsVar 2 gsNil)))) (iM1 opPart (iSl (iVar 0) (oSome (iC (.int 1))) (oSome (iUn opNeg (iC (.int 1))))) (iC (.str ")/(")))) sNil)
  (sSeq (sPar 4 5 (aCons (iCall p_row_in [] (aCons (iVar 1) aNil)) (aCons (iCall p_row_in [] (aCons (iVar 2) aNil)) aNil)))
  (sSeq (sIf (tOr' (tBl (iBin (opIs false) (iVar 4) (iC .non))) (tOr' (tBl (iBin (opIs false) (iVar 5) (iC .non))) (tBl (iBin (opEq false) (iVar 5) (iN opTup (aCons (iC (.int 0)) aNil)))))) (sRet (iC .non)) sNil)
  (sRet (iNewP "Ratio" p_Ratio___init__ 2 0 [0, 1, 2] (aCons (iVar 4) (aCons (iVar 5) aNil)) aNil))))))
def p_ratio_in : Fn := (runB B_p_ratio_in 6 1)
def B_p_Ratio_read : IS := (sSeq (sSet 1 (iIf (tTru (iN (opIsiI ["Ratio"] [] (isaT tl_str)) (aCons (iVar 0) (aCons (iC (.ty "str")) aNil)))) (iCall p_ratio_in [] (aCons (iVar 0) aNil)) (iC .non)))
  (sSeq (sIf (tOr' (tBl (iBin (opIs false) (iVar 1) (iC .non))) (tBl (iBin (opEq true) (iN (opStrI "Ratio" p_Ratio___str__) (aCons (iVar 1) aNil)) (iVar 0)))) (sRaise "InvalidText" 1 ["value"] gCat (aCons (iVar 0) aNil)) sNil)
  (sRet (iVar 1))))
def p_Ratio_read : Fn := (runB B_p_Ratio_read 2 1)
def B_p_Ratio___bool__ : IS := (sRet (iNot (iBin (opEq false) (iUn (opGet ["Ratio"] "top") (iVar 0)) (iN opTup (aCons (iC (.int 0)) aNil)))))
def p_Ratio___bool__ : Fn := (runB B_p_Ratio___bool__ 1 1)
def B_p_Ratio___repr__ : IS := (sRet (iJs [(iC (.str "Ratio(")), (iUn (opFmtI "Ratio" p_Ratio___str__) (iVar 0)), (iC (.str ")"))] Str.empty))
def p_Ratio___repr__ : Fn := (runB B_p_Ratio___repr__ 1 1)
end M
/-! the law law_k02_ratios_made as Lean functions -/
namespace M
open PySem
def B_k02__law_dip : IS := (sSeq (sAsg (gIx (iVar 0) (iC (.int 2))) (iBin opAdd (iBin opIx (iVar 0) (iC (.int 2))) (iC (.int 1))))
  (sSeq (sIf (tBl (iBin opGt (iBin opIx (iVar 0) (iC (.int 0))) (iC (.int 0)))) (sSeq (sSet 2 (iBin opMod (iN opInt (aCons (iBin opIx (iVar 0) (iC (.int 0))) aNil)) (iVar 1)))
  (sSeq (sAsg (gIx (iVar 0) (iC (.int 0))) (iBin opFdiv (iBin opIx (iVar 0) (iC (.int 0))) (iVar 1)))
  (sRet (iVar 2)))) sNil)
  (sSeq (sSet 3 (iN opInt (aCons (iBin opIx (iVar 0) (iC (.int 1))) aNil)))
  (sSeq (sAsg (gIx (iVar 0) (iC (.int 1))) (iBin opMod (iN opInt (aCons (iBin opAdd (iBin opAdd (iBin opMul (iVar 3) (iBin opAdd (iBin opMod (iVar 3) (iC (.int 48611))) (iC (.int 8191)))) (iBin opMul (iC (.int 6151)) (iBin opIx (iVar 0) (iC (.int 2))))) (iC (.int 11))) aNil)) (iC (.int 998244353))))
  (sRet (iBin opMod (iN opInt (aCons (iBin opFdiv (iBin opIx (iVar 0) (iC (.int 1))) (iC (.int 131))) aNil)) (iVar 1)))))))
def k02__law_dip : Fn := (runB B_k02__law_dip 4 2)
def B_k02__law_any : IS := (sRet (iBin opIx (iVar 1) (iCall k02__law_dip [] (aCons (iVar 0) (aCons (iN opLen (aCons (iVar 1) aNil)) aNil)))))
def k02__law_any : Fn := (runB B_k02__law_any 2 2)
def B_k02__law_row : IS := (sSeq (sSet 1 (iN opLen (aCons (iVar 0) aNil)))
  (sSeq (sWhile (mLen 0) (tAnd' (tBl (iBin opGt (iVar 1) (iC (.int 1)))) (tBl (iBin (opEq false) (iBin opIx (iVar 0) (iBin opSub (iVar 1) (iC (.int 1)))) (iC (.int 0))))) (sSet 1 (iBin opSub (iVar 1) (iC (.int 1)))))
  (sRet (iN opListF (aCons (iSlA (iVar 0) oNone (oSome (iVar 1))) aNil)))))
def k02__law_row : Fn := (runB B_k02__law_row 2 1)
def B_k02__law_drawn_row : IS := (sSeq (sSet 2 (iBin opAdd (iC (.int 1)) (iCall k02__law_dip [] (aCons (iVar 0) (aCons (iVar 1) aNil)))))
  (sSeq (sIf (tBl (iBin (opEq false) (iCall k02__law_dip [] (aCons (iVar 0) (aCons (iC (.int 8)) aNil))) (iC (.int 0)))) (sRet (iCall k02__law_row [] (aCons (iCompF (wRng1 (aCons (iVar 2) aNil)) (.one 3) tYes' (iBin opSub (iCall k02__law_dip [] (aCons (iVar 0) (aCons (iBin opPow (iC (.int 10)) (iC (.int 12))) aNil))) (iBin opPow (iC (.int 10)) (iC (.int 11))))) aNil))) sNil)
  (sRet (iCall k02__law_row [] (aCons (iCompF (wRng1 (aCons (iVar 2) aNil)) (.one 3) tYes' (iBin opSub (iCall k02__law_dip [] (aCons (iVar 0) (aCons (iC (.int 9)) aNil))) (iC (.int 4)))) aNil)))))
def k02__law_drawn_row : Fn := (runB B_k02__law_drawn_row 4 2)
def B_k02__law_multiplied : IS := (sSeq (sSet 2 (iBin opMul (iN opLst (aCons (iC (.int 0)) aNil)) (iBin opSub (iBin opAdd (iN opLen (aCons (iVar 0) aNil)) (iN opLen (aCons (iVar 1) aNil))) (iC (.int 1)))))
  (sSeq (sFor (wRng1 (aCons (iN opLen (aCons (iVar 0) aNil)) aNil)) (gVar 3) (sFor (wRng1 (aCons (iN opLen (aCons (iVar 1) aNil)) aNil)) (gVar 4) (sAsg (gIx (iVar 2) (iBin opAdd (iVar 3) (iVar 4))) (iBin opAdd (iBin opIx (iVar 2) (iBin opAdd (iVar 3) (iVar 4))) (iBin opMulA (iBin opIx (iVar 0) (iVar 3)) (iBin opIx (iVar 1) (iVar 4)))))))
  (sRet (iCall k02__law_row [] (aCons (iVar 2) aNil)))))
def k02__law_multiplied : Fn := (runB B_k02__law_multiplied 5 2)
def B_k02__law_common : IS := (sSeq (sPar 0 1 (aCons (iN opAbs (aCons (iVar 0) aNil)) (aCons (iN opAbs (aCons (iVar 1) aNil)) aNil)))
  (sSeq (sWhile (mInt 1) (tBl (iBin (opEq true) (iVar 1) (iC (.int 0)))) (sPar 0 1 (aCons (iVar 1) (aCons (iBin opMod (iVar 0) (iVar 1)) aNil))))
  (sRet (iVar 0))))
def k02__law_common : Fn := (runB B_k02__law_common 2 2)
def B_k02__law_rest : IS := (sSeq (sSet 2 (iN opList (aCons (iVar 0) aNil)))
  (sSeq (sWhile (mLen 2) (tAnd' (tBl (iBin opGe (iN opLen (aCons (iVar 2) aNil)) (iN opLen (aCons (iVar 1) aNil)))) (tBl (iBin (opEq true) (iVar 2) (iN opLstF (aCons (iC (.int 0)) aNil))))) (sSeq (sPar 3 4 (aCons (iBin opIx (iVar 2) (iUn opNeg (iC (.int 1)))) (aCons (iBin opSub (iN opLen (aCons (iVar 2) aNil)) (iN opLen (aCons (iVar 1) aNil))) aNil)))
  (sSeq (sSet 2 (iComp (wAny (iVar 2)) (.one 7) tYes' (iBin opMulA (iVar 7) (iBin opIx (iVar 1) (iUn opNeg (iC (.int 1)))))))
  (sSeq (sFor (wRng1 (aCons (iN opLen (aCons (iVar 1) aNil)) aNil)) (gVar 5) (sAsg (gIx (iVar 2) (iBin opAdd (iVar 5) (iVar 4))) (iBin opSub (iBin opIx (iVar 2) (iBin opAdd (iVar 5) (iVar 4))) (iBin opMulA (iVar 3) (iBin opIx (iVar 1) (iVar 5))))))
  (sSeq (sSet 2 (iCall k02__law_row [] (aCons (iVar 2) aNil)))
  (sSeq (sSet 6 (iC (.int 0)))
  (sSeq (sFor (wAny (iVar 2)) (gVar 7) (sSet 6 (iCall k02__law_common [] (aCons (iVar 6) (aCons (iVar 7) aNil)))))
  (sSet 2 (iComp (wAny (iVar 2)) (.one 7) tYes' (iBin opFdivA (iVar 7) (iN opMax (aCons (iC (.int 1)) (aCons (iVar 6) aNil)))))))))))))
  (sRet (iVar 2))))
def k02__law_rest : Fn := (runB B_k02__law_rest 8 2)
def B_k02__law_is_low : IS := (sSeq (sIf (tBl (iBin (opEq false) (iVar 0) (iN opLstF (aCons (iC (.int 0)) aNil)))) (sRet (iBin (opEq false) (iVar 1) (iN opLstF (aCons (iC (.int 1)) aNil)))) sNil)
  (sSeq (sSet 2 (iC (.int 0)))
  (sSeq (sFor (wAny (iBin opAdd (iVar 0) (iVar 1))) (gVar 3) (sSet 2 (iCall k02__law_common [] (aCons (iVar 2) (aCons (iVar 3) aNil)))))
  (sSeq (sPar 4 5 (aCons (iVar 0) (aCons (iVar 1) aNil)))
  (sSeq (sWhile (fun _ _ => 60) (tBl (iBin (opEq true) (iVar 5) (iN opLstF (aCons (iC (.int 0)) aNil)))) (sPar 4 5 (aCons (iVar 5) (aCons (iCall k02__law_rest [] (aCons (iVar 4) (aCons (iVar 5) aNil))) aNil))))
  (sRet (iAnd (iBin (opEq false) (iVar 2) (iC (.int 1))) (iAnd (iBin opGt (iBin opIx (iVar 1) (iUn opNeg (iC (.int 1)))) (iC (.int 0))) (iBin (opEq false) (iN opLen (aCons (iVar 4) aNil)) (iC (.int 1)))))))))))
def k02__law_is_low : Fn := (runB B_k02__law_is_low 6 2)
def B_k02__law_poly_text : IS := (sSeq (sSet 1 (iC (.str "")))
  (sSeq (sFor (wRng3 (aCons (iBin opSub (iN opLen (aCons (iVar 0) aNil)) (iC (.int 1))) (aCons (iUn opNeg (iC (.int 1))) (aCons (iUn opNeg (iC (.int 1))) aNil)))) (gVar 2) (sSeq (sSet 3 (iBin opIx (iVar 0) (iVar 2)))
  (sIf (tBl (iBin (opEq true) (iVar 3) (iC (.int 0)))) (sSeq (sSet 4 (iIf (tBl (iBin (opEq false) (iVar 2) (iC (.int 0)))) (iC (.str "")) (iIf (tBl (iBin (opEq false) (iVar 2) (iC (.int 1)))) (iC (.str "n")) (iBin opAdd (iC (.str "n^")) (iN opStrS (aCons (iVar 2) aNil))))))
  (sSeq (sIf (tOr' (tBl (iBin (opEq false) (iVar 2) (iC (.int 0)))) (tBl (iBin (opEq true) (iN opAbs (aCons (iVar 3) aNil)) (iC (.int 1))))) (sSet 4 (iBin opAdd (iBin opAdd (iN opStrS (aCons (iN opAbs (aCons (iVar 3) aNil)) aNil)) (iIf (tBl (iBin opGt (iVar 2) (iC (.int 0)))) (iC (.str "*")) (iC (.str "")))) (iVar 4))) sNil)
  (sSeq (sSet 5 (iIf (tBl (iBin opLt (iVar 3) (iC (.int 0)))) (iC (.str "-")) (iC (.str ""))))
  (sSeq (sIf (tBl (iBin (opEq true) (iVar 1) (iC (.str "")))) (sSet 5 (iIf (tBl (iBin opLt (iVar 3) (iC (.int 0)))) (iC (.str " - ")) (iC (.str " + ")))) sNil)
  (sSet 1 (iBin opAdd (iBin opAdd (iVar 1) (iVar 5)) (iVar 4))))))) sNil)))
  (sRet (iIf (tBl (iBin (opEq true) (iVar 1) (iC (.str "")))) (iVar 1) (iC (.str "0"))))))
def k02__law_poly_text : Fn := (runB B_k02__law_poly_text 6 1)
def B_k02__law_ratio_text : IS := (sSeq (sIf (tBl (iBin (opEq false) (iVar 1) (iN opLstF (aCons (iC (.int 1)) aNil)))) (sRet (iCall k02__law_poly_text [] (aCons (iVar 0) aNil))) sNil)
  (sRet (iBin opAdd (iBin opAdd (iBin opAdd (iBin opAdd (iC (.str "(")) (iCall k02__law_poly_text [] (aCons (iVar 0) aNil))) (iC (.str ")/("))) (iCall k02__law_poly_text [] (aCons (iVar 1) aNil))) (iC (.str ")")))))
def k02__law_ratio_text : Fn := (runB B_k02__law_ratio_text 2 2)
def B_k02__law_seen_right : IS := (sSeq (sIf (tOr' (tNot' (tTru (iN (opIsiI ["Ratio"] [] (isaT tl_Ratio)) (aCons (iVar 0) (aCons (iC (.glo "Ratio")) aNil))))) (tOr' (tNot' (tTru (iN (opIsiI ["Ratio"] [] (isaT tl_tuple)) (aCons (iUn (opGet ["Ratio"] "top") (iVar 0)) (aCons (iC (.ty "tuple")) aNil))))) (tNot' (tTru (iN (opIsiI ["Ratio"] [] (isaT tl_tuple)) (aCons (iUn (opGet ["Ratio"] "bottom") (iVar 0)) (aCons (iC (.ty "tuple")) aNil))))))) (sRet (iC (.bl false))) sNil)
  (sSeq (sPar 3 4 (aCons (iN opListF (aCons (iUn (opGet ["Ratio"] "top") (iVar 0)) aNil)) (aCons (iN opListF (aCons (iUn (opGet ["Ratio"] "bottom") (iVar 0)) aNil)) aNil)))
  (sSeq (sIf (tOr' (tBl (iBin (opEq true) (iVar 3) (iCall k02__law_row [] (aCons (iVar 3) aNil)))) (tBl (iBin (opEq true) (iVar 4) (iCall k02__law_row [] (aCons (iVar 4) aNil))))) (sRet (iC (.bl false))) sNil)
  (sSeq (sIf (tNot' (tTru (iCall k02__law_is_low [] (aCons (iVar 3) (aCons (iVar 4) aNil))))) (sRet (iC (.bl false))) sNil)
  (sSeq (sIf (tBl (iBin (opEq true) (iCall k02__law_multiplied [] (aCons (iVar 3) (aCons (iVar 2) aNil))) (iCall k02__law_multiplied [] (aCons (iVar 4) (aCons (iVar 1) aNil))))) (sRet (iC (.bl false))) sNil)
  (sSeq (sSet 5 (iCall k02__law_ratio_text [] (aCons (iVar 3) (aCons (iVar 4) aNil))))
  (sRet (iBin (opEq false) (iN opLstF (aCons (iN (opStrI "Ratio" p_Ratio___str__) (aCons (iVar 0) aNil)) (aCons (iN (opReprI "Ratio" p_Ratio___repr__) (aCons (iVar 0) aNil)) (aCons (iN (opBoolI "Ratio" p_Ratio___bool__) (aCons (iVar 0) aNil)) aNil)))) (iN opLstF (aCons (iVar 5) (aCons (iBin opAdd (iBin opAdd (iC (.str "Ratio(")) (iVar 5)) (iC (.str ")"))) (aCons (iBin (opEq true) (iVar 1) (iN opLstF (aCons (iC (.int 0)) aNil))) aNil))))))))))))
def k02__law_seen_right : Fn := (runB B_k02__law_seen_right 6 3)
def B_k02__law_right : IS := (sSeq (sAsg (gTup' 3 (gsVar 1 (gsVar 2 (gsVar 3 gsNil)))) (iCompF (wRng1 (aCons (iC (.int 3)) aNil)) (.one 11) tYes' (iCall k02__law_drawn_row [] (aCons (iVar 0) (aCons (iC (.int 5)) aNil)))))
  (sSeq (sSet 2 (iIf (tBl (iBin (opEq true) (iVar 2) (iN opLstF (aCons (iC (.int 0)) aNil)))) (iVar 2) (iN opLstF (aCons (iCall k02__law_any [] (aCons (iVar 0) (aCons (iN opLstF (aCons (iC (.int 1)) (aCons (iUn opNeg (iC (.int 2))) (aCons (iC (.int 7)) aNil)))) aNil))) aNil))))
  (sSeq (sSet 3 (iIf (tBl (iBin (opEq true) (iVar 3) (iN opLstF (aCons (iC (.int 0)) aNil)))) (iVar 3) (iN opLstF (aCons (iC (.int 3)) aNil))))
  (sSeq (sSet 4 (iBin opMulZ (iN opTup (aCons (iC (.int 0)) aNil)) (iCall k02__law_dip [] (aCons (iVar 0) (aCons (iC (.int 3)) aNil)))))
  (sSeq (sSet 5 (iNewP "Ratio" p_Ratio___init__ 2 0 [0, 1, 2] (aCons (iBin opAdd (iN opTuple (aCons (iVar 1) aNil)) (iVar 4)) (aCons (iBin opAdd (iN opTuple (aCons (iVar 2) aNil)) (iVar 4)) aNil)) aNil))
  (sSeq (sSet 6 (iNewP "Ratio" p_Ratio___init__ 0 2 [0, 2, 1] aNil (aCons (iN opTuple (aCons (iCall k02__law_multiplied [] (aCons (iVar 2) (aCons (iVar 3) aNil))) aNil)) (aCons (iN opTuple (aCons (iCall k02__law_multiplied [] (aCons (iVar 1) (aCons (iVar 3) aNil))) aNil)) aNil))))
  (sSeq (sIf (tOr' (tNot' (tTru (iCall k02__law_seen_right [] (aCons (iVar 5) (aCons (iVar 1) (aCons (iVar 2) aNil)))))) (tNot' (tTru (iCall k02__law_seen_right [] (aCons (iVar 6) (aCons (iVar 1) (aCons (iVar 2) aNil))))))) (sRet (iC (.bl false))) sNil)
  (sSeq (sIf (tNot' (tTru (iCall k02__law_seen_right [] (aCons (iNewD "Ratio" p_Ratio___init__ 1 [0, 1, 2] [.tup [.int 1]] (aCons (iN opTuple (aCons (iVar 1) aNil)) aNil)) (aCons (iVar 1) (aCons (iN opLstF (aCons (iC (.int 1)) aNil)) aNil)))))) (sRet (iC (.bl false))) sNil)
  (sSeq (sIf (tNot' (tTru (iCall k02__law_seen_right [] (aCons (iCallK p_Ratio_read 1 [0] [] (aCons (iN (opStrI "Ratio" p_Ratio___str__) (aCons (iVar 5) aNil)) aNil)) (aCons (iVar 1) (aCons (iVar 2) aNil)))))) (sRet (iC (.bl false))) sNil)
  (sSeq (sSet 7 (iNewP "Ratio" p_Ratio___init__ 2 0 [0, 1, 2] (aCons (iN opTuple (aCons (iCall k02__law_row [] (aCons (iBin opAdd (iN opLstF (aCons (iBin opAdd (iBin opIx (iVar 1) (iC (.int 0))) (iBin opIx (iVar 2) (iC (.int 0)))) aNil)) (iSl (iVar 1) (oSome (iC (.int 1))) oNone)) aNil)) aNil)) (aCons (iN opTuple (aCons (iVar 2) aNil)) aNil)) aNil))
  (sSeq (sSet 8 (iN opLstF (aCons (iBin (opEqI "Ratio" ["str", "tuple", "list", "NoneType", "int", "bool", "dict"] p_Ratio___eq__ false) (iVar 5) (iVar 6)) (aCons (iBin (opEqI "Ratio" ["str", "tuple", "list", "NoneType", "int", "bool", "dict"] p_Ratio___eq__ true) (iVar 5) (iVar 6)) (aCons (iBin (opEqI "Ratio" ["str", "tuple", "list", "NoneType", "int", "bool", "dict"] p_Ratio___eq__ false) (iVar 5) (iCall p_Ratio_read [] (aCons (iN (opStrI "Ratio" p_Ratio___str__) (aCons (iVar 5) aNil)) aNil))) (aCons (iBin (opEqI "Ratio" ["str", "tuple", "list", "NoneType", "int", "bool", "dict"] p_Ratio___eq__ false) (iVar 5) (iVar 7)) (aCons (iBin (opEqI "Ratio" ["str", "tuple", "list", "NoneType", "int", "bool", "dict"] p_Ratio___eq__ true) (iVar 5) (iVar 7)) aNil)))))))
  (sSeq (sSet 9 (iAnd (iBin (opEq false) (iN opListF (aCons (iUn (opGet ["Ratio"] "top") (iVar 7)) aNil)) (iN opListF (aCons (iUn (opGet ["Ratio"] "top") (iVar 5)) aNil))) (iBin (opEq false) (iN opListF (aCons (iUn (opGet ["Ratio"] "bottom") (iVar 7)) aNil)) (iN opListF (aCons (iUn (opGet ["Ratio"] "bottom") (iVar 5)) aNil)))))
  (sSeq (sIf (tBl (iBin (opEq true) (iVar 8) (iN opLstF (aCons (iC (.bl true)) (aCons (iC (.bl false)) (aCons (iC (.bl true)) (aCons (iVar 9) (aCons (iNot (iVar 9)) aNil)))))))) (sRet (iC (.bl false))) sNil)
  (sSeq (sFor (wAny (iN opLstF (aCons (iN (opStrI "Ratio" p_Ratio___str__) (aCons (iVar 5) aNil)) (aCons (iBin opIx (iVar 1) (iC (.int 0))) (aCons (iC .non) (aCons (iN opTup (aCons (iUn (opGet ["Ratio"] "top") (iVar 5)) (aCons (iUn (opGet ["Ratio"] "bottom") (iVar 5)) aNil))) aNil)))))) (gVar 10) (sIf (tOr' (tBl (iBin (opEqI "Ratio" ["str", "tuple", "list", "NoneType", "int", "bool", "dict"] p_Ratio___eq__ false) (iVar 5) (iVar 10))) (tNot' (tBl (iBin (opEqI "Ratio" ["str", "tuple", "list", "NoneType", "int", "bool", "dict"] p_Ratio___eq__ true) (iVar 5) (iVar 10))))) (sRet (iC (.bl false))) sNil))
  (sRet (iC (.bl true)))))))))))))))))
def k02__law_right : Fn := (runB B_k02__law_right 12 1)
def B_k02__law_well : IS := (sSeq (sSet 2 (iBin opAdd (iC (.int 41)) (iVar 1)))
  (sSeq (sFor (wAny (iSl (iVar 0) oNone (oSome (iC (.int 4))))) (gVar 3) (sSet 2 (iBin opMod (iN opInt (aCons (iBin opAdd (iBin opAdd (iBin opMul (iVar 2) (iC (.int 6007))) (iBin opMul (iVar 3) (iC (.int 19)))) (iC (.int 5))) aNil)) (iC (.int 998244353)))))
  (sSeq (sSet 4 (iIf (tBl (iBin opLt (iVar 1) (iN opLen (aCons (iVar 0) aNil)))) (iBin opIx (iVar 0) (iVar 1)) (iBin opAdd (iBin opMul (iVar 2) (iC (.int 53))) (iVar 1))))
  (sSeq (sSet 5 (iIf (tOr' (tBl (iBin opLt (iVar 4) (iC (.int 0)))) (tBl (iBin opGe (iVar 4) (iBin opPow (iC (.int 10)) (iC (.int 18)))))) (iN opAbs (aCons (iVar 4) aNil)) (iC (.int 0))))
  (sRet (iN opLst (aCons (iVar 5) (aCons (iBin opMod (iN opInt (aCons (iBin opAdd (iBin opAdd (iBin opMul (iVar 4) (iC (.int 3301))) (iBin opMul (iVar 2) (iC (.int 7)))) (iC (.int 271))) aNil)) (iC (.int 998244353))) (aCons (iC (.int 0)) aNil)))))))))
def k02__law_well : Fn := (runB B_k02__law_well 6 2)
def B_k02_law : IS := (sSeq (sFor (wRng1 (aCons (iN opMax (aCons (iC (.int 2)) (aCons (iN opMin (aCons (iN opLen (aCons (iVar 0) aNil)) (aCons (iC (.int 5)) aNil))) aNil))) aNil)) (gVar 1) (sSeq (sSet 2 (iCall k02__law_well [] (aCons (iVar 0) (aCons (iVar 1) aNil))))
  (sIf (tNot' (tTru (iN opAll (aCons (iCompF (wRng1 (aCons (iC (.int 4)) aNil)) (.one 3) tYes' (iCall k02__law_right [] (aCons (iVar 2) aNil))) aNil)))) (sRet (iC (.bl false))) sNil)))
  (sRet (iC (.bl true))))
def k02_law : Fn := (runB B_k02_law 4 1)
end M
/-! the walks -/
namespace M
open PySem PySem.Spec PyProof.Rows L2
structure Cn (K : PySem.W.Frag) (mg : Str → Option Value) : Prop where
  c : SaysP bB_ fa_ fn_ pd_ K
  h : ∃ h : Heap, K.In h ∧ h.Ns mainGlobals mg
section
variable {P : Program} {w : World} {K : PySem.W.Frag} {mg : Str → Option Value} {base : Heap}
theorem Cn.glo (C : Cn K mg) (i : Nat) {x : Str} (h : fa_[i]? = some (.glo x) := by rfl) : mg x = some (.ref (He.ga K x)) := by
  obtain ⟨h0, X, G⟩ := C.h
  exact He.glo_ok X G (C.c.says.fact i h)
theorem Cn.free (C : Cn K mg) (i : Nat) {x : Str} (h : fa_[i]? = some (.free x) := by rfl) : mg x = none := by
  obtain ⟨h0, X, G⟩ := C.h
  exact He.free_ok X G (C.c.says.fact i h)
theorem Cn.int (C : Cn K mg) (i : Nat) {x : Str} {n : Int} (h : fa_[i]? = some (.int x n) := by rfl) : ∃ t, mg x = some (.int n t) := by
  obtain ⟨h0, X, G⟩ := C.h
  exact He.int_ok X G (C.c.says.fact i h)
theorem Cn.str (C : Cn K mg) (i : Nat) {x z : Str} (h : fa_[i]? = some (.str x z) := by rfl) : ∃ t, mg x = some (.str z t) := by
  obtain ⟨h0, X, G⟩ := C.h
  exact He.str_ok X G (C.c.says.fact i h)
theorem Cn.bx (C : Cn K mg) (i : Nat) {b : Bool} (h : (bs_ K)[i]? = some b := by rfl) : b = true := List.all_eq_true.mp C.c.b b (List.mem_of_getElem? h)
theorem Cn.g_InvalidCount (C : Cn K mg) : mg "InvalidCount" = some (.ref (He.ga K "InvalidCount")) := C.glo 1
theorem Cn.g_InvalidText (C : Cn K mg) : mg "InvalidText" = some (.ref (He.ga K "InvalidText")) := C.glo 2
theorem Cn.g_Ratio (C : Cn K mg) : mg "Ratio" = some (.ref (He.ga K "Ratio")) := C.glo 4
theorem Cn.g_ZeroBelow (C : Cn K mg) : mg "ZeroBelow" = some (.ref (He.ga K "ZeroBelow")) := C.glo 5
theorem Cn.g__law_any (C : Cn K mg) : mg "_law_any" = some (.ref (He.ga K "_law_any")) := C.glo 6
theorem Cn.g__law_common (C : Cn K mg) : mg "_law_common" = some (.ref (He.ga K "_law_common")) := C.glo 7
theorem Cn.g__law_dip (C : Cn K mg) : mg "_law_dip" = some (.ref (He.ga K "_law_dip")) := C.glo 8
theorem Cn.g__law_drawn_row (C : Cn K mg) : mg "_law_drawn_row" = some (.ref (He.ga K "_law_drawn_row")) := C.glo 9
theorem Cn.g__law_is_low (C : Cn K mg) : mg "_law_is_low" = some (.ref (He.ga K "_law_is_low")) := C.glo 10
theorem Cn.g__law_multiplied (C : Cn K mg) : mg "_law_multiplied" = some (.ref (He.ga K "_law_multiplied")) := C.glo 11
theorem Cn.g__law_poly_text (C : Cn K mg) : mg "_law_poly_text" = some (.ref (He.ga K "_law_poly_text")) := C.glo 12
theorem Cn.g__law_ratio_text (C : Cn K mg) : mg "_law_ratio_text" = some (.ref (He.ga K "_law_ratio_text")) := C.glo 13
theorem Cn.g__law_rest (C : Cn K mg) : mg "_law_rest" = some (.ref (He.ga K "_law_rest")) := C.glo 14
theorem Cn.g__law_right (C : Cn K mg) : mg "_law_right" = some (.ref (He.ga K "_law_right")) := C.glo 15
theorem Cn.g__law_row (C : Cn K mg) : mg "_law_row" = some (.ref (He.ga K "_law_row")) := C.glo 16
theorem Cn.g__law_seen_right (C : Cn K mg) : mg "_law_seen_right" = some (.ref (He.ga K "_law_seen_right")) := C.glo 17
theorem Cn.g__law_well (C : Cn K mg) : mg "_law_well" = some (.ref (He.ga K "_law_well")) := C.glo 18
theorem Cn.g_common_row (C : Cn K mg) : mg "common_row" = some (.ref (He.ga K "common_row")) := C.glo 19
theorem Cn.g_divisor_of (C : Cn K mg) : mg "divisor_of" = some (.ref (He.ga K "divisor_of")) := C.glo 20
theorem Cn.g_is_digits (C : Cn K mg) : mg "is_digits" = some (.ref (He.ga K "is_digits")) := C.glo 22
theorem Cn.g_is_row (C : Cn K mg) : mg "is_row" = some (.ref (He.ga K "is_row")) := C.glo 23
theorem Cn.g_is_whole (C : Cn K mg) : mg "is_whole" = some (.ref (He.ga K "is_whole")) := C.glo 24
theorem Cn.g_lowest (C : Cn K mg) : mg "lowest" = some (.ref (He.ga K "lowest")) := C.glo 25
theorem Cn.g_plain (C : Cn K mg) : mg "plain" = some (.ref (He.ga K "plain")) := C.glo 26
theorem Cn.g_power_text (C : Cn K mg) : mg "power_text" = some (.ref (He.ga K "power_text")) := C.glo 27
theorem Cn.g_quotient (C : Cn K mg) : mg "quotient" = some (.ref (He.ga K "quotient")) := C.glo 28
theorem Cn.g_ratio_in (C : Cn K mg) : mg "ratio_in" = some (.ref (He.ga K "ratio_in")) := C.glo 29
theorem Cn.g_rest_of (C : Cn K mg) : mg "rest_of" = some (.ref (He.ga K "rest_of")) := C.glo 31
theorem Cn.g_row_in (C : Cn K mg) : mg "row_in" = some (.ref (He.ga K "row_in")) := C.glo 32
theorem Cn.g_row_sum (C : Cn K mg) : mg "row_sum" = some (.ref (He.ga K "row_sum")) := C.glo 34
theorem Cn.g_row_text (C : Cn K mg) : mg "row_text" = some (.ref (He.ga K "row_text")) := C.glo 35
theorem Cn.g_term_in (C : Cn K mg) : mg "term_in" = some (.ref (He.ga K "term_in")) := C.glo 36
theorem Cn.g_trimmed (C : Cn K mg) : mg "trimmed" = some (.ref (He.ga K "trimmed")) := C.glo 37
theorem Cn.f_abs (C : Cn K mg) : mg "abs" = none := C.free 39
theorem Cn.f_all (C : Cn K mg) : mg "all" = none := C.free 40
theorem Cn.f_bool (C : Cn K mg) : mg "bool" = none := C.free 41
theorem Cn.f_enumerate (C : Cn K mg) : mg "enumerate" = none := C.free 42
theorem Cn.f_int (C : Cn K mg) : mg "int" = none := C.free 43
theorem Cn.f_isinstance (C : Cn K mg) : mg "isinstance" = none := C.free 44
theorem Cn.f_len (C : Cn K mg) : mg "len" = none := C.free 45
theorem Cn.f_list (C : Cn K mg) : mg "list" = none := C.free 46
theorem Cn.f_max (C : Cn K mg) : mg "max" = none := C.free 47
theorem Cn.f_min (C : Cn K mg) : mg "min" = none := C.free 48
theorem Cn.f_range (C : Cn K mg) : mg "range" = none := C.free 49
theorem Cn.f_repr (C : Cn K mg) : mg "repr" = none := C.free 50
theorem Cn.f_str (C : Cn K mg) : mg "str" = none := C.free 51
theorem Cn.f_tuple (C : Cn K mg) : mg "tuple" = none := C.free 52
theorem Cn.f_zip (C : Cn K mg) : mg "zip" = none := C.free 53
theorem Cn.n_MOST_READ (C : Cn K mg) : ∃ t, mg "MOST_READ" = some (.int 99 t) := C.int 55
theorem Cn.g_law (C : Cn K mg) : mg "law" = some (.ref (He.ga K "law")) := C.glo 56
theorem Cn.mk_Ratio (C : Cn K mg) : Mk K (He.ga K "Ratio") (He.ma K (He.ga K "Ratio") "__init__") := He.mkr_ok (C.c.says.fact 57 rfl)
theorem Cn.cls_Ratio (C : Cn K mg) : Cls K (He.ga K "Ratio") := He.cls_ok (C.c.says.fact 58 rfl)
theorem Cn.noat_Ratio_bottom (C : Cn K mg) : NoAttr K (He.ga K "Ratio") "bottom" := He.noat_ok (C.c.says.fact 59 rfl)
theorem Cn.noat_Ratio_top (C : Cn K mg) : NoAttr K (He.ga K "Ratio") "top" := He.noat_ok (C.c.says.fact 60 rfl)
theorem Cn.has_bottom (C : Cn K mg) : Has K (He.ga K) "bottom" ["Ratio"] := ⟨fun c hc => by
  simp only [List.mem_cons, List.not_mem_nil, or_false] at hc
  rcases hc with rfl
  · exact C.cls_Ratio
, fun c hc => by
  simp only [List.mem_cons, List.not_mem_nil, or_false] at hc
  rcases hc with rfl
  · exact C.noat_Ratio_bottom
⟩
theorem Cn.has_top (C : Cn K mg) : Has K (He.ga K) "top" ["Ratio"] := ⟨fun c hc => by
  simp only [List.mem_cons, List.not_mem_nil, or_false] at hc
  rcases hc with rfl
  · exact C.cls_Ratio
, fun c hc => by
  simp only [List.mem_cons, List.not_mem_nil, or_false] at hc
  rcases hc with rfl
  · exact C.noat_Ratio_top
⟩
theorem Cn.insb_Ratio (C : Cn K mg) : insB K "Ratio" = true := C.bx 0
theorem Cn.eqb (C : Cn K mg) : eqcB K "Ratio" ["str", "tuple", "list", "NoneType", "int", "bool", "dict"] = true := C.bx 1
theorem Cn.sltb_str (C : Cn K mg) : slotB K "Ratio" "__str__" = true := C.bx 2
theorem Cn.sltb_repr (C : Cn K mg) : slotB K "Ratio" "__repr__" = true := C.bx 3
theorem Cn.isb_Ratio (C : Cn K mg) : tl_Ratio.all (isaB K) = true := C.bx 4
theorem Cn.isb_bool (C : Cn K mg) : tl_bool.all (isaB K) = true := C.bx 5
theorem Cn.isb_int (C : Cn K mg) : tl_int.all (isaB K) = true := C.bx 6
theorem Cn.isb_str (C : Cn K mg) : tl_str.all (isaB K) = true := C.bx 7
theorem Cn.isb_tuple (C : Cn K mg) : tl_tuple.all (isaB K) = true := C.bx 8
theorem Cn.xdb (C : Cn K mg) : xd_.all (fun d => d.ok K) = true := C.bx 9
theorem Cn.xr_ZeroBelow (C : Cn K mg) : xr0B K "ZeroBelow" = true := C.bx 10
theorem Cn.fmb_Ratio (C : Cn K mg) : fmtB K "Ratio" = true := C.bx 11
theorem Cn.bob_Ratio (C : Cn K mg) : slotB K "Ratio" "__bool__" = true := C.bx 12
theorem Cn.dtb_Ratio___init___0 (C : Cn K mg) : dtB K (dfA "Ratio" "__init__" 0 K) [.int 1] = true := C.bx 13
theorem Cn.ins_Ratio (C : Cn K mg) : ∀ D ∈ (["Ratio"] : List Str), InsF K (He.ga K D) := fun D h => by
  simp only [List.mem_cons, List.not_mem_nil, or_false] at h
  subst h
  exact insB_ok C.insb_Ratio
theorem Cn.eqc (C : Cn K mg) : EqC K (He.ga K) "Ratio" (He.ma K (He.ga K "Ratio") "__eq__") ["str", "tuple", "list", "NoneType", "int", "bool", "dict"] := eqcB_ok C.eqb
theorem Cn.slot_str (C : Cn K mg) : PySem.W.findIn K (.ref (He.ga K "Ratio")) "__str__" = some (some (.ref (He.ma K (He.ga K "Ratio") "__str__"))) ∧ PySem.W.isFn K (.ref (He.ma K (He.ga K "Ratio") "__str__")) = true := slotB_ok C.sltb_str
theorem Cn.slot_repr (C : Cn K mg) : PySem.W.findIn K (.ref (He.ga K "Ratio")) "__repr__" = some (some (.ref (He.ma K (He.ga K "Ratio") "__repr__"))) ∧ PySem.W.isFn K (.ref (He.ma K (He.ga K "Ratio") "__repr__")) = true := slotB_ok C.sltb_repr
theorem Cn.isa_Ratio (C : Cn K mg) : Isa K (He.ga K) [] (isaT tl_Ratio) := ⟨(fun _ h => nomatch h), isaT_ok C.isb_Ratio⟩
theorem Cn.isa_bool (C : Cn K mg) : Isa K (He.ga K) [] (isaT tl_bool) := ⟨(fun _ h => nomatch h), isaT_ok C.isb_bool⟩
theorem Cn.isa_int (C : Cn K mg) : Isa K (He.ga K) [] (isaT tl_int) := ⟨(fun _ h => nomatch h), isaT_ok C.isb_int⟩
theorem Cn.isa_str (C : Cn K mg) : Isa K (He.ga K) [] (isaT tl_str) := ⟨(fun _ h => nomatch h), isaT_ok C.isb_str⟩
theorem Cn.isa_tuple (C : Cn K mg) : Isa K (He.ga K) [] (isaT tl_tuple) := ⟨(fun _ h => nomatch h), isaT_ok C.isb_tuple⟩
theorem Cn.xd (C : Cn K mg) (i : Nat) {d : XD} (h : xd_[i]? = some d := by rfl) : d.ok K = true := List.all_eq_true.mp C.xdb d (List.mem_of_getElem? h)
theorem Cn.bo_Ratio (C : Cn K mg) : PySem.W.findIn K (.ref (He.ga K "Ratio")) "__bool__" = some (some (.ref (He.ma K (He.ga K "Ratio") "__bool__"))) ∧ PySem.W.isFn K (.ref (He.ma K (He.ga K "Ratio") "__bool__")) = true := slotB_ok C.bob_Ratio
theorem Cn.fm_Ratio (C : Cn K mg) : FmtO K (He.ga K "Ratio") := fmtB_ok C.fmb_Ratio
theorem Cn.x0_ZeroBelow (C : Cn K mg) : PySem.W.excIn K (He.ga K "ZeroBelow") (Fam.r).tail (Fam.r).new = true ∧ PySem.W.keepIn K (.ref (He.ga K "ZeroBelow")) = true := XD.plain (C.xd 1) rfl
theorem Cn.xp_InvalidText (C : Cn K mg) : XI_ P w K mg base 1 1 (He.ga K "InvalidText") ["value"] [] gCat := by
  obtain ⟨fd, Fd⟩ := C.c.says.def_ 35 rfl
  obtain ⟨z1, z2, z3, z4⟩ := XD.made (C.xd 0) rfl
  exact ⟨z1, z2, ⟨_, fd, ["self", "value"], _, z3, z4, ok_init1 Fd (⟨rfl, rfl, rfl, by decide +kernel, rfl, by decide +kernel, by decide +kernel⟩ : FnScope ["self", "value"] ["self", "value"] _) rfl rfl (by decide) (by decide), kbn_plain Fd 2 [] (fun {α} => gCat) hCat fun _ _ _ _ _ _ us ws h1 h2 => match us, ws, h1, h2 with
    | [_, _], [], _, _ => rfl⟩⟩
theorem Cn.xp_InvalidCount (C : Cn K mg) : XI_ P w K mg base 1 1 (He.ga K "InvalidCount") ["value"] [] gCat := by
  obtain ⟨fd, Fd⟩ := C.c.says.def_ 36 rfl
  obtain ⟨z1, z2, z3, z4⟩ := XD.made (C.xd 2) rfl
  exact ⟨z1, z2, ⟨_, fd, ["self", "value"], _, z3, z4, ok_init1 Fd (⟨rfl, rfl, rfl, by decide +kernel, rfl, by decide +kernel, by decide +kernel⟩ : FnScope ["self", "value"] ["self", "value"] _) rfl rfl (by decide) (by decide), kbn_plain Fd 2 [] (fun {α} => gCat) hCat fun _ _ _ _ _ _ us ws h1 h2 => match us, ws, h1, h2 with
    | [_, _], [], _, _ => rfl⟩⟩
abbrev N_Ratio___eq__ : List Str := ["self", "other"]
theorem sc_Ratio___eq__ : FnScope N_Ratio___eq__ ["self", "other"] (defScope (inCls (top 27) 14)) := ⟨rfl, rfl, rfl, by decide +kernel, rfl, by decide +kernel, by decide +kernel⟩
abbrev N_is_whole : List Str := ["value"]
theorem sc_is_whole : FnScope N_is_whole ["value"] (defScope (top 12)) := ⟨rfl, rfl, rfl, by decide +kernel, rfl, by decide +kernel, by decide +kernel⟩
abbrev N_is_row : List Str := ["value", "factor"]
theorem sc_is_row : FnScope N_is_row ["value"] (defScope (top 23)) := ⟨rfl, rfl, rfl, by decide +kernel, rfl, by decide +kernel, by decide +kernel⟩
abbrev N_divisor_of : List Str := ["one", "other"]
theorem sc_divisor_of : FnScope N_divisor_of ["one", "other"] (defScope (top 13)) := ⟨rfl, rfl, rfl, by decide +kernel, rfl, by decide +kernel, by decide +kernel⟩
abbrev N_plain : List Str := ["row", "common", "factor"]
theorem sc_plain : FnScope N_plain ["row"] (defScope (top 18)) := ⟨rfl, rfl, rfl, by decide +kernel, rfl, by decide +kernel, by decide +kernel⟩
abbrev N_trimmed : List Str := ["row", "end"]
theorem sc_trimmed : FnScope N_trimmed ["row"] (defScope (top 15)) := ⟨rfl, rfl, rfl, by decide +kernel, rfl, by decide +kernel, by decide +kernel⟩
abbrev N_row_sum : List Str := ["one", "other", "times", "size", "wide", "more", "first", "second"]
theorem sc_row_sum : FnScope N_row_sum ["one", "other", "times"] (defScope (top 16)) := ⟨rfl, rfl, rfl, by decide +kernel, rfl, by decide +kernel, by decide +kernel⟩
abbrev N_rest_of : List Str := ["one", "other", "rest", "shift", "scaled", "factor"]
theorem sc_rest_of : FnScope N_rest_of ["one", "other"] (defScope (top 19)) := ⟨rfl, rfl, rfl, by decide +kernel, rfl, by decide +kernel, by decide +kernel⟩
abbrev N_common_row : List Str := ["one", "other", "first", "second"]
theorem sc_common_row : FnScope N_common_row ["one", "other"] (defScope (top 20)) := ⟨rfl, rfl, rfl, by decide +kernel, rfl, by decide +kernel, by decide +kernel⟩
abbrev N_quotient : List Str := ["one", "other", "found", "rest", "at", "factor"]
theorem sc_quotient : FnScope N_quotient ["one", "other"] (defScope (top 21)) := ⟨rfl, rfl, rfl, by decide +kernel, rfl, by decide +kernel, by decide +kernel⟩
abbrev N_lowest : List Str := ["top", "bottom", "common", "number", "factor"]
theorem sc_lowest : FnScope N_lowest ["top", "bottom"] (defScope (top 24)) := ⟨rfl, rfl, rfl, by decide +kernel, rfl, by decide +kernel, by decide +kernel⟩
abbrev N_Ratio___init__ : List Str := ["self", "top", "bottom"]
theorem sc_Ratio___init__ : FnScope N_Ratio___init__ ["self", "top", "bottom"] (defScope (inCls (top 27) 0)) := ⟨rfl, rfl, rfl, by decide +kernel, rfl, by decide +kernel, by decide +kernel⟩
abbrev N_power_text : List Str := ["power"]
theorem sc_power_text : FnScope N_power_text ["power"] (defScope (top 25)) := ⟨rfl, rfl, rfl, by decide +kernel, rfl, by decide +kernel, by decide +kernel⟩
abbrev N_row_text : List Str := ["row", "words", "power", "factor", "size", "word"]
theorem sc_row_text : FnScope N_row_text ["row"] (defScope (top 26)) := ⟨rfl, rfl, rfl, by decide +kernel, rfl, by decide +kernel, by decide +kernel⟩
abbrev N_Ratio___str__ : List Str := ["self"]
theorem sc_Ratio___str__ : FnScope N_Ratio___str__ ["self"] (defScope (inCls (top 27) 15)) := ⟨rfl, rfl, rfl, by decide +kernel, rfl, by decide +kernel, by decide +kernel⟩
abbrev N_is_digits : List Str := ["text", "sign"]
theorem sc_is_digits : FnScope N_is_digits ["text"] (defScope (top 31)) := ⟨rfl, rfl, rfl, by decide +kernel, rfl, by decide +kernel, by decide +kernel⟩
abbrev N_term_in : List Str := ["word", "factor", "star", "power"]
theorem sc_term_in : FnScope N_term_in ["word"] (defScope (top 32)) := ⟨rfl, rfl, rfl, by decide +kernel, rfl, by decide +kernel, by decide +kernel⟩
abbrev N_row_in : List Str := ["text", "found", "body", "sign", "words", "at", "word", "way", "term"]
theorem sc_row_in : FnScope N_row_in ["text"] (defScope (top 30)) := ⟨rfl, rfl, rfl, by decide +kernel, rfl, by decide +kernel, by decide +kernel⟩
abbrev N_ratio_in : List Str := ["text", "top", "bottom", "sign", "first", "second"]
theorem sc_ratio_in : FnScope N_ratio_in ["text"] (defScope (top 29)) := ⟨rfl, rfl, rfl, by decide +kernel, rfl, by decide +kernel, by decide +kernel⟩
abbrev N_Ratio_read : List Str := ["text", "found"]
theorem sc_Ratio_read : FnScope N_Ratio_read ["text"] (defScope (inCls (top 27) 1)) := ⟨rfl, rfl, rfl, by decide +kernel, rfl, by decide +kernel, by decide +kernel⟩
abbrev N__law_dip : List Str := ["_law_well_here", "_law_many", "_law_digit", "_law_state"]
theorem sc__law_dip : FnScope N__law_dip ["_law_well_here", "_law_many"] (defScope (top 35)) := ⟨rfl, rfl, rfl, by decide +kernel, rfl, by decide +kernel, by decide +kernel⟩
abbrev N__law_any : List Str := ["_law_well_here", "_law_things"]
theorem sc__law_any : FnScope N__law_any ["_law_well_here", "_law_things"] (defScope (top 36)) := ⟨rfl, rfl, rfl, by decide +kernel, rfl, by decide +kernel, by decide +kernel⟩
abbrev N__law_row : List Str := ["_law_row_here", "_law_end"]
theorem sc__law_row : FnScope N__law_row ["_law_row_here"] (defScope (top 37)) := ⟨rfl, rfl, rfl, by decide +kernel, rfl, by decide +kernel, by decide +kernel⟩
abbrev N__law_drawn_row : List Str := ["_law_well_here", "_law_most", "_law_size", "_law_at"]
theorem sc__law_drawn_row : FnScope N__law_drawn_row ["_law_well_here", "_law_most"] (defScope (top 44)) := ⟨rfl, rfl, rfl, by decide +kernel, rfl, by decide +kernel, by decide +kernel⟩
abbrev N__law_multiplied : List Str := ["_law_one", "_law_two", "_law_found", "_law_at", "_law_spot"]
theorem sc__law_multiplied : FnScope N__law_multiplied ["_law_one", "_law_two"] (defScope (top 38)) := ⟨rfl, rfl, rfl, by decide +kernel, rfl, by decide +kernel, by decide +kernel⟩
abbrev N_Ratio___bool__ : List Str := ["self"]
theorem sc_Ratio___bool__ : FnScope N_Ratio___bool__ ["self"] (defScope (inCls (top 27) 13)) := ⟨rfl, rfl, rfl, by decide +kernel, rfl, by decide +kernel, by decide +kernel⟩
abbrev N_Ratio___repr__ : List Str := ["self"]
theorem sc_Ratio___repr__ : FnScope N_Ratio___repr__ ["self"] (defScope (inCls (top 27) 16)) := ⟨rfl, rfl, rfl, by decide +kernel, rfl, by decide +kernel, by decide +kernel⟩
abbrev N__law_common : List Str := ["_law_one", "_law_two"]
theorem sc__law_common : FnScope N__law_common ["_law_one", "_law_two"] (defScope (top 42)) := ⟨rfl, rfl, rfl, by decide +kernel, rfl, by decide +kernel, by decide +kernel⟩
abbrev N__law_rest : List Str := ["_law_one", "_law_two", "_law_rest_here", "_law_lead", "_law_shift", "_law_at", "_law_size", "_law_factor"]
theorem sc__law_rest : FnScope N__law_rest ["_law_one", "_law_two"] (defScope (top 41)) := ⟨rfl, rfl, rfl, by decide +kernel, rfl, by decide +kernel, by decide +kernel⟩
abbrev N__law_is_low : List Str := ["_law_upper", "_law_lower", "_law_size", "_law_factor", "_law_one", "_law_two"]
theorem sc__law_is_low : FnScope N__law_is_low ["_law_upper", "_law_lower"] (defScope (top 43)) := ⟨rfl, rfl, rfl, by decide +kernel, rfl, by decide +kernel, by decide +kernel⟩
abbrev N__law_poly_text : List Str := ["_law_row_here", "_law_words", "_law_power", "_law_factor", "_law_word", "_law_sign"]
theorem sc__law_poly_text : FnScope N__law_poly_text ["_law_row_here"] (defScope (top 39)) := ⟨rfl, rfl, rfl, by decide +kernel, rfl, by decide +kernel, by decide +kernel⟩
abbrev N__law_ratio_text : List Str := ["_law_upper", "_law_lower"]
theorem sc__law_ratio_text : FnScope N__law_ratio_text ["_law_upper", "_law_lower"] (defScope (top 40)) := ⟨rfl, rfl, rfl, by decide +kernel, rfl, by decide +kernel, by decide +kernel⟩
abbrev N__law_seen_right : List Str := ["_law_ratio", "_law_upper", "_law_lower", "_law_above", "_law_below", "_law_line"]
theorem sc__law_seen_right : FnScope N__law_seen_right ["_law_ratio", "_law_upper", "_law_lower"] (defScope (top 45)) := ⟨rfl, rfl, rfl, by decide +kernel, rfl, by decide +kernel, by decide +kernel⟩
abbrev N__law_right : List Str := ["_law_well_here", "_law_upper", "_law_lower", "_law_more", "_law_zeros", "_law_ratio", "_law_wide", "_law_far", "_law_told", "_law_same", "_law_other", "_law_turn"]
theorem sc__law_right : FnScope N__law_right ["_law_well_here"] (defScope (top 46)) := ⟨rfl, rfl, rfl, by decide +kernel, rfl, by decide +kernel, by decide +kernel⟩
abbrev N__law_well : List Str := ["_law_script", "_law_spot", "_law_mixed", "_law_number", "_law_own", "_law_digits"]
theorem sc__law_well : FnScope N__law_well ["_law_script", "_law_spot"] (defScope (top 34)) := ⟨rfl, rfl, rfl, by decide +kernel, rfl, by decide +kernel, by decide +kernel⟩
abbrev N_law : List Str := ["_law_script", "_law_spot", "_law_well_here", "_law_turn"]
theorem sc_law : FnScope N_law ["_law_script"] (defScope (top 47)) := ⟨rfl, rfl, rfl, by decide +kernel, rfl, by decide +kernel, by decide +kernel⟩
theorem ok_Ratio___eq__ (C : Cn K mg) {fd : FuncData} (Fd : FunD K "__eq__" "Ratio.__eq__" (defArgs (inCls (top 27) 14)) (defBody (inCls (top 27) 14)) (defScope (inCls (top 27) 14)) [] [] (He.ma K (He.ga K "Ratio") "__eq__") fd) : FnG P w K mg base 41 (He.ma K (He.ga K "Ratio") "__eq__") fd ["self", "other"] (SPx K (gq P w K) p_Ratio___eq__) := by
  have sc := sc_Ratio___eq__
  refine (fn_ok (k := 40) (N := N_Ratio___eq__) (b := B_p_Ratio___eq__) Fd sc fun cdv A outer s H E hr hgd => ?_)
  have hu := hr.units
  have hu1 : (A.deeper (envOfC "Ratio.__eq__" (defScope (inCls (top 27) 14)) s.heap.objs.size (He.ma K (He.ga K "Ratio") "__eq__") cdv)).units + (64 + 1) < cLine := by have := hr.un; omega
  unfold B_p_Ratio___eq__
  exact (s_one (s_ret (e_and rfl (e_callB (cr_isiI rfl C.isa_Ratio C.ins_Ratio) rfl C.f_isinstance (by decide +kernel) (a_cons (e_v 1) (a_cons (e_glo rfl C.g_Ratio) a_nil))) (e_and rfl (e_cmp (or_eq rfl hu) (e_get rfl C.has_top (e_v 0)) (e_get rfl C.has_top (e_v 1))) (e_one (e_cmp (or_eq rfl hu) (e_get rfl C.has_bottom (e_v 0)) (e_get rfl C.has_bottom (e_v 1))))))))
theorem ok_is_whole (C : Cn K mg) {fd : FuncData} (Fd : FunD K "is_whole" "is_whole" (defArgs (top 12)) (defBody (top 12)) (defScope (top 12)) [] [] (He.ga K "is_whole") fd) : FnG P w K mg base 41 (He.ga K "is_whole") fd ["value"] (SPx K (gq P w K) p_is_whole) := by
  have sc := sc_is_whole
  refine (fn_ok (k := 40) (N := N_is_whole) (b := B_p_is_whole) Fd sc fun cdv A outer s H E hr hgd => ?_)
  have hu := hr.units
  have hu1 : (A.deeper (envOfC "is_whole" (defScope (top 12)) s.heap.objs.size (He.ga K "is_whole") cdv)).units + (64 + 1) < cLine := by have := hr.un; omega
  unfold B_p_is_whole
  exact (s_one (s_ret (e_and rfl (e_callB (cr_isiI rfl C.isa_int C.ins_Ratio) rfl C.f_isinstance (by decide +kernel) (a_cons (e_v 0) (a_cons (e_bty rfl C.f_int (by decide +kernel)) a_nil))) (e_one (e_not rfl (e_callB (cr_isiI rfl C.isa_bool C.ins_Ratio) rfl C.f_isinstance (by decide +kernel) (a_cons (e_v 0) (a_cons (e_bty rfl C.f_bool (by decide +kernel)) a_nil))))))))
theorem ok_is_row (C : Cn K mg) {fd : FuncData} (Fd : FunD K "is_row" "is_row" (defArgs (top 23)) (defBody (top 23)) (defScope (top 23)) [] [] (He.ga K "is_row") fd) : FnG P w K mg base 42 (He.ga K "is_row") fd ["value"] (SPx K (gq P w K) p_is_row) := by
  have sc := sc_is_row
  obtain ⟨fd_is_whole, F_is_whole⟩ := C.c.says.def_ 1 rfl
  have G_is_whole := (ok_is_whole (P := P) (w := w) (base := base) C F_is_whole)
  have b_is_whole : Binds K fd_is_whole ["value"] [] := F_is_whole.bindsN fun _ _ _ _ _ _ us hl => match us, hl with | [_], _ => rfl
  refine (fn_ok (k := 41) (N := N_is_row) (b := B_p_is_row) Fd sc fun cdv A outer s H E hr hgd => ?_)
  have hu := hr.units
  have hu1 : (A.deeper (envOfC "is_row" (defScope (top 23)) s.heap.objs.size (He.ga K "is_row") cdv)).units + (64 + 1) < cLine := by have := hr.un; omega
  unfold B_p_is_row
  exact (s_one (s_ret (e_and rfl (e_callB (cr_isiI rfl C.isa_tuple C.ins_Ratio) rfl C.f_isinstance (by decide +kernel) (a_cons (e_v 0) (a_cons (e_bty rfl C.f_tuple (by decide +kernel)) a_nil))) (e_and rfl (e_cmp (or_ne rfl hu) (e_v 0) (e_tup a_nil)) (e_one (e_callB (cr_allL rfl rfl) rfl C.f_all (by decide +kernel) (a_cons (e_lcF (patOk_one (i := 1)) rfl rfl sc.nd (w_any rfl (e_v 0)) (blkOk_by (own := [("factor", 1)]) (N := N_is_row) (sc := (defScope (top 23))) (by decide +kernel)) (fun _ _ _ _ _ => (pg_name (i := 1) sc.nd rfl (by first | exact .inl rfl | exact .inr rfl))) (fun _ _ _ _ _ => ts_nil) (fun _ _ _ _ _ => (e_call (dd := []) (dvs := []) (ds := []) (G_is_whole.mono (by omega)) hr hgd rfl C.g_is_whole F_is_whole.kp b_is_whole .nil (fun _ _ _ => .nil) takesF (a_cons (e_v 1) a_nil)))) a_nil)))))))
theorem ok_divisor_of (C : Cn K mg) {fd : FuncData} (Fd : FunD K "divisor_of" "divisor_of" (defArgs (top 13)) (defBody (top 13)) (defScope (top 13)) [] [] (He.ga K "divisor_of") fd) : FnG P w K mg base 41 (He.ga K "divisor_of") fd ["one", "other"] (SPx K (gq P w K) p_divisor_of) := by
  have sc := sc_divisor_of
  refine (fn_ok (k := 40) (N := N_divisor_of) (b := B_p_divisor_of) Fd sc fun cdv A outer s H E hr hgd => ?_)
  have hu := hr.units
  have hu1 : (A.deeper (envOfC "divisor_of" (defScope (top 13)) s.heap.objs.size (He.ga K "divisor_of") cdv)).units + (64 + 1) < cLine := by have := hr.un; omega
  unfold B_p_divisor_of
  exact (s_cons (s_par (i := 0) (j := 1) rfl sc.nd rfl rfl (by decide) rfl rfl (a_cons (e_callB cr_abs rfl C.f_abs (by decide +kernel) (a_cons (e_v 0) a_nil)) (a_cons (e_callB cr_abs rfl C.f_abs (by decide +kernel) (a_cons (e_v 1) a_nil)) a_nil)) rfl)
  (s_cons (s_while (m := (mInt 1)) (passes_of rfl) (t_cmp (or_ne rfl hu) (e_v 1) e_int) (s_one (s_par (i := 0) (j := 1) rfl sc.nd rfl rfl (by decide) rfl rfl (a_cons (e_v 1) (a_cons (e_bin or_mod (e_v 0) (e_v 1)) a_nil)) rfl)))
  (s_one (s_ret (e_v 0)))))
theorem ok_plain (C : Cn K mg) (T : Sr P base) {fd : FuncData} (Fd : FunD K "plain" "plain" (defArgs (top 18)) (defBody (top 18)) (defScope (top 18)) [] [] (He.ga K "plain") fd) : FnG P w K mg base 42 (He.ga K "plain") fd ["row"] (SPx K (gq P w K) p_plain) := by
  have sc := sc_plain
  obtain ⟨fd_divisor_of, F_divisor_of⟩ := C.c.says.def_ 3 rfl
  have G_divisor_of := (ok_divisor_of (P := P) (w := w) (base := base) C F_divisor_of)
  have b_divisor_of : Binds K fd_divisor_of ["one", "other"] [] := F_divisor_of.bindsN fun _ _ _ _ _ _ us hl => match us, hl with | [_, _], _ => rfl
  refine (fn_ok (k := 41) (N := N_plain) (b := B_p_plain) Fd sc fun cdv A outer s H E hr hgd => ?_)
  have hu := hr.units
  have hu1 : (A.deeper (envOfC "plain" (defScope (top 18)) s.heap.objs.size (He.ga K "plain") cdv)).units + (64 + 1) < cLine := by have := hr.un; omega
  have S : SeerX (cxOf (L2N.CX P w) P w K mg base N_plain "plain" (defScope (top 18)) (He.ga K "plain") cdv A outer s H E) := seer_def T hr (by decide) (by kernel_rfl) (by kernel_rfl)
  unfold B_p_plain
  exact (s_cons (s_set (i := 1) sc.nd rfl (by first | exact .inl rfl | exact .inr rfl) e_int)
  (s_cons (s_for (passes_of rfl) rfl (w_any rfl (e_v 0)) (g_name (i := 2) sc.nd rfl (by first | exact .inl rfl | exact .inr rfl)) (s_one (s_set (i := 1) sc.nd rfl (by first | exact .inl rfl | exact .inr rfl) (e_call (dd := []) (dvs := []) (ds := []) (G_divisor_of.mono (by omega)) hr hgd rfl C.g_divisor_of F_divisor_of.kp b_divisor_of .nil (fun _ _ _ => .nil) (L2N.takes_of rfl rfl rfl rfl) (a_cons (e_v 1) (a_cons (e_v 2) a_nil))))))
  (s_one (s_ret (e_callTy (cr_tuple rfl) rfl C.f_tuple (by decide +kernel) (a_cons (e_lcF (patOk_one (i := 2)) rfl rfl sc.nd (w_any rfl (e_v 0)) (blkOk_by (own := [("factor", 2)]) (N := N_plain) (sc := (defScope (top 18))) (by decide +kernel)) (fun _ _ _ _ _ => (pg_name (i := 2) sc.nd rfl (by first | exact .inl rfl | exact .inr rfl))) (fun _ _ _ _ _ => ts_nil) (fun _ _ _ _ _ => (e_bin (or_fdivA S) (e_v 2) (e_v 1)))) a_nil))))))
theorem ok_trimmed (C : Cn K mg) {fd : FuncData} (Fd : FunD K "trimmed" "trimmed" (defArgs (top 15)) (defBody (top 15)) (defScope (top 15)) [] [] (He.ga K "trimmed") fd) : FnG P w K mg base 41 (He.ga K "trimmed") fd ["row"] (SPx K (gq P w K) p_trimmed) := by
  have sc := sc_trimmed
  refine (fn_ok (k := 40) (N := N_trimmed) (b := B_p_trimmed) Fd sc fun cdv A outer s H E hr hgd => ?_)
  have hu := hr.units
  have hu1 : (A.deeper (envOfC "trimmed" (defScope (top 15)) s.heap.objs.size (He.ga K "trimmed") cdv)).units + (64 + 1) < cLine := by have := hr.un; omega
  unfold B_p_trimmed
  exact (s_cons (s_set (i := 1) sc.nd rfl (by first | exact .inl rfl | exact .inr rfl) (e_callB (cr_len rfl) rfl C.f_len (by decide +kernel) (a_cons (e_v 0) a_nil)))
  (s_cons (s_while (m := (mLen 0)) (passes_of rfl) (t_ws (w_and (t_cmp or_gt (e_v 1) e_int) (w_and1 (t_cmp (or_eq rfl hu) (e_ix rfl (e_v 0) (e_bin or_sub (e_v 1) e_int)) e_int)))) (s_one (s_set (i := 1) sc.nd rfl (by first | exact .inl rfl | exact .inr rfl) (e_bin or_sub (e_v 1) e_int))))
  (s_one (s_ret (e_callTy (cr_tuple rfl) rfl C.f_tuple (by decide +kernel) (a_cons (e_slA rfl (e_v 0) o_none (o_some (e_v 1))) a_nil))))))
theorem ok_row_sum (C : Cn K mg) {fd : FuncData} (Fd : FunD K "row_sum" "row_sum" (defArgs (top 16)) (defBody (top 16)) (defScope (top 16)) [] [] (He.ga K "row_sum") fd) : FnG P w K mg base 42 (He.ga K "row_sum") fd ["one", "other", "times"] (SPx K (gq P w K) p_row_sum) := by
  have sc := sc_row_sum
  obtain ⟨fd_trimmed, F_trimmed⟩ := C.c.says.def_ 5 rfl
  have G_trimmed := (ok_trimmed (P := P) (w := w) (base := base) C F_trimmed)
  have b_trimmed : Binds K fd_trimmed ["row"] [] := F_trimmed.bindsN fun _ _ _ _ _ _ us hl => match us, hl with | [_], _ => rfl
  refine (fn_ok (k := 41) (N := N_row_sum) (b := B_p_row_sum) Fd sc fun cdv A outer s H E hr hgd => ?_)
  have hu := hr.units
  have hu1 : (A.deeper (envOfC "row_sum" (defScope (top 16)) s.heap.objs.size (He.ga K "row_sum") cdv)).units + (64 + 1) < cLine := by have := hr.un; omega
  unfold B_p_row_sum
  exact (s_cons (s_set (i := 3) sc.nd rfl (by first | exact .inl rfl | exact .inr rfl) (e_callB (cr_max rfl) rfl C.f_max (by decide +kernel) (a_cons (e_callB (cr_len rfl) rfl C.f_len (by decide +kernel) (a_cons (e_v 0) a_nil)) (a_cons (e_callB (cr_len rfl) rfl C.f_len (by decide +kernel) (a_cons (e_v 1) a_nil)) a_nil))))
  (s_cons (s_par (i := 4) (j := 5) rfl sc.nd rfl rfl (by decide) rfl rfl (a_cons (e_bin (or_add rfl) (e_callTy (cr_listF rfl) rfl C.f_list (by decide +kernel) (a_cons (e_v 0) a_nil)) (e_bin (or_mul rfl) (e_lstF (a_cons e_int a_nil)) (e_bin or_sub (e_v 3) (e_callB (cr_len rfl) rfl C.f_len (by decide +kernel) (a_cons (e_v 0) a_nil))))) (a_cons (e_bin (or_add rfl) (e_callTy (cr_listF rfl) rfl C.f_list (by decide +kernel) (a_cons (e_v 1) a_nil)) (e_bin (or_mul rfl) (e_lstF (a_cons e_int a_nil)) (e_bin or_sub (e_v 3) (e_callB (cr_len rfl) rfl C.f_len (by decide +kernel) (a_cons (e_v 1) a_nil))))) a_nil)) rfl)
  (s_one (s_ret (e_call (dd := []) (dvs := []) (ds := []) (G_trimmed.mono (by omega)) hr hgd rfl C.g_trimmed F_trimmed.kp b_trimmed .nil (fun _ _ _ => .nil) (L2N.takes_of rfl rfl rfl rfl) (a_cons (e_lcF (patOk_tup (is := [6, 7]) (n := 2) rfl) rfl rfl sc.nd (w_zipL rfl rfl C.f_zip (a_cons (e_v 4) (a_cons (e_v 5) a_nil))) (blkOk_by (own := [("first", 6), ("second", 7)]) (N := N_row_sum) (sc := (defScope (top 16))) (by decide +kernel)) (fun _ _ _ _ _ => (pg_tl rfl (pgs_cons (pg_name (i := 6) sc.nd rfl (by first | exact .inl rfl | exact .inr rfl)) (pgs_cons (pg_name (i := 7) sc.nd rfl (by first | exact .inl rfl | exact .inr rfl)) pgs_nil)))) (fun _ _ _ _ _ => ts_nil) (fun _ _ _ _ _ => (e_bin (or_add rfl) (e_v 6) (e_bin or_mulA (e_v 2) (e_v 7))))) a_nil))))))
theorem ok_rest_of (C : Cn K mg) (T : Sr P base) {fd : FuncData} (Fd : FunD K "rest_of" "rest_of" (defArgs (top 19)) (defBody (top 19)) (defScope (top 19)) [] [] (He.ga K "rest_of") fd) : FnG P w K mg base 43 (He.ga K "rest_of") fd ["one", "other"] (SPx K (gq P w K) p_rest_of) := by
  have sc := sc_rest_of
  obtain ⟨fd_plain, F_plain⟩ := C.c.says.def_ 4 rfl
  have G_plain := (ok_plain (P := P) (w := w) (base := base) C T F_plain)
  have b_plain : Binds K fd_plain ["row"] [] := F_plain.bindsN fun _ _ _ _ _ _ us hl => match us, hl with | [_], _ => rfl
  obtain ⟨fd_row_sum, F_row_sum⟩ := C.c.says.def_ 6 rfl
  have G_row_sum := (ok_row_sum (P := P) (w := w) (base := base) C F_row_sum)
  have b_row_sum : Binds K fd_row_sum ["one", "other", "times"] [] := F_row_sum.bindsN fun _ _ _ _ _ _ us hl => match us, hl with | [_, _, _], _ => rfl
  refine (fn_ok (k := 42) (N := N_rest_of) (b := B_p_rest_of) Fd sc fun cdv A outer s H E hr hgd => ?_)
  have hu := hr.units
  have hu1 : (A.deeper (envOfC "rest_of" (defScope (top 19)) s.heap.objs.size (He.ga K "rest_of") cdv)).units + (64 + 1) < cLine := by have := hr.un; omega
  unfold B_p_rest_of
  exact (s_cons (s_set (i := 2) sc.nd rfl (by first | exact .inl rfl | exact .inr rfl) (e_v 0))
  (s_cons (s_while (m := (mLen 2)) (passes_of rfl) (t_ws (w_and (t_cmp or_ge (e_callB (cr_len rfl) rfl C.f_len (by decide +kernel) (a_cons (e_v 2) a_nil)) (e_callB (cr_len rfl) rfl C.f_len (by decide +kernel) (a_cons (e_v 1) a_nil))) (w_and1 (t_cmp (or_ne rfl hu) (e_v 2) (e_tup (a_cons e_int a_nil)))))) (s_cons (s_set (i := 3) sc.nd rfl (by first | exact .inl rfl | exact .inr rfl) (e_bin (or_mulZ rfl) (e_tup (a_cons e_int a_nil)) (e_bin or_sub (e_callB (cr_len rfl) rfl C.f_len (by decide +kernel) (a_cons (e_v 2) a_nil)) (e_callB (cr_len rfl) rfl C.f_len (by decide +kernel) (a_cons (e_v 1) a_nil)))))
  (s_cons (s_set (i := 4) sc.nd rfl (by first | exact .inl rfl | exact .inr rfl) (e_callTy (cr_tuple rfl) rfl C.f_tuple (by decide +kernel) (a_cons (e_lcF (patOk_one (i := 5)) rfl rfl sc.nd (w_any rfl (e_v 2)) (blkOk_by (own := [("factor", 5)]) (N := N_rest_of) (sc := (defScope (top 19))) (by decide +kernel)) (fun _ _ _ _ _ => (pg_name (i := 5) sc.nd rfl (by first | exact .inl rfl | exact .inr rfl))) (fun _ _ _ _ _ => ts_nil) (fun _ _ _ _ _ => (e_bin or_mulA (e_v 5) (e_ix rfl (e_v 1) (e_un ur_neg e_int))))) a_nil)))
  (s_one (s_set (i := 2) sc.nd rfl (by first | exact .inl rfl | exact .inr rfl) (e_call (dd := []) (dvs := []) (ds := []) (G_row_sum.mono (by omega)) hr hgd rfl C.g_row_sum F_row_sum.kp b_row_sum .nil (fun _ _ _ => .nil) (L2N.takes_of rfl rfl rfl rfl) (a_cons (e_v 4) (a_cons (e_bin (or_add rfl) (e_v 3) (e_v 1)) (a_cons (e_bin or_sub e_int (e_ix rfl (e_v 2) (e_un ur_neg e_int))) a_nil)))))))))
  (s_one (s_ret (e_if (t_cmp (or_eq rfl hu) (e_v 2) (e_tup (a_cons e_int a_nil))) (e_v 2) (e_call (dd := []) (dvs := []) (ds := []) (G_plain.mono (by omega)) hr hgd rfl C.g_plain F_plain.kp b_plain .nil (fun _ _ _ => .nil) (L2N.takes_of rfl rfl rfl rfl) (a_cons (e_v 2) a_nil)))))))
theorem ok_common_row (C : Cn K mg) (T : Sr P base) {fd : FuncData} (Fd : FunD K "common_row" "common_row" (defArgs (top 20)) (defBody (top 20)) (defScope (top 20)) [] [] (He.ga K "common_row") fd) : FnG P w K mg base 44 (He.ga K "common_row") fd ["one", "other"] (SPx K (gq P w K) p_common_row) := by
  have sc := sc_common_row
  obtain ⟨fd_plain, F_plain⟩ := C.c.says.def_ 4 rfl
  have G_plain := (ok_plain (P := P) (w := w) (base := base) C T F_plain)
  have b_plain : Binds K fd_plain ["row"] [] := F_plain.bindsN fun _ _ _ _ _ _ us hl => match us, hl with | [_], _ => rfl
  obtain ⟨fd_rest_of, F_rest_of⟩ := C.c.says.def_ 7 rfl
  have G_rest_of := (ok_rest_of (P := P) (w := w) (base := base) C T F_rest_of)
  have b_rest_of : Binds K fd_rest_of ["one", "other"] [] := F_rest_of.bindsN fun _ _ _ _ _ _ us hl => match us, hl with | [_, _], _ => rfl
  refine (fn_ok (k := 43) (N := N_common_row) (b := B_p_common_row) Fd sc fun cdv A outer s H E hr hgd => ?_)
  have hu := hr.units
  have hu1 : (A.deeper (envOfC "common_row" (defScope (top 20)) s.heap.objs.size (He.ga K "common_row") cdv)).units + (64 + 1) < cLine := by have := hr.un; omega
  unfold B_p_common_row
  exact (s_cons (s_par (i := 2) (j := 3) rfl sc.nd rfl rfl (by decide) rfl rfl (a_cons (e_call (dd := []) (dvs := []) (ds := []) (G_plain.mono (by omega)) hr hgd rfl C.g_plain F_plain.kp b_plain .nil (fun _ _ _ => .nil) (L2N.takes_of rfl rfl rfl rfl) (a_cons (e_v 0) a_nil)) (a_cons (e_call (dd := []) (dvs := []) (ds := []) (G_plain.mono (by omega)) hr hgd rfl C.g_plain F_plain.kp b_plain .nil (fun _ _ _ => .nil) (L2N.takes_of rfl rfl rfl rfl) (a_cons (e_v 1) a_nil)) a_nil)) rfl)
  (s_cons (s_while (m := (mLen 3)) (passes_of rfl) (t_cmp (or_ne rfl hu) (e_v 3) (e_tup (a_cons e_int a_nil))) (s_one (s_par (i := 2) (j := 3) rfl sc.nd rfl rfl (by decide) rfl rfl (a_cons (e_v 3) (a_cons (e_call (dd := []) (dvs := []) (ds := []) (G_rest_of.mono (by omega)) hr hgd rfl C.g_rest_of F_rest_of.kp b_rest_of .nil (fun _ _ _ => .nil) (L2N.takes_of rfl rfl rfl rfl) (a_cons (e_v 2) (a_cons (e_v 3) a_nil))) a_nil)) rfl)))
  (s_one (s_ret (e_v 2)))))
theorem ok_quotient (C : Cn K mg) (T : Sr P base) {fd : FuncData} (Fd : FunD K "quotient" "quotient" (defArgs (top 21)) (defBody (top 21)) (defScope (top 21)) [] [] (He.ga K "quotient") fd) : FnG P w K mg base 43 (He.ga K "quotient") fd ["one", "other"] (SPx K (gq P w K) p_quotient) := by
  have sc := sc_quotient
  obtain ⟨fd_row_sum, F_row_sum⟩ := C.c.says.def_ 6 rfl
  have G_row_sum := (ok_row_sum (P := P) (w := w) (base := base) C F_row_sum)
  have b_row_sum : Binds K fd_row_sum ["one", "other", "times"] [] := F_row_sum.bindsN fun _ _ _ _ _ _ us hl => match us, hl with | [_, _, _], _ => rfl
  refine (fn_ok (k := 42) (N := N_quotient) (b := B_p_quotient) Fd sc fun cdv A outer s H E hr hgd => ?_)
  have hu := hr.units
  have hu1 : (A.deeper (envOfC "quotient" (defScope (top 21)) s.heap.objs.size (He.ga K "quotient") cdv)).units + (64 + 1) < cLine := by have := hr.un; omega
  have S : SeerX (cxOf (L2N.CX P w) P w K mg base N_quotient "quotient" (defScope (top 21)) (He.ga K "quotient") cdv A outer s H E) := seer_def T hr (by decide) (by kernel_rfl) (by kernel_rfl)
  unfold B_p_quotient
  exact (s_cons (s_par (i := 2) (j := 3) rfl sc.nd rfl rfl (by decide) rfl rfl (a_cons (e_tup (a_cons e_int a_nil)) (a_cons (e_v 0) a_nil)) rfl)
  (s_cons (s_while (m := (mLen 3)) (passes_of rfl) (t_cmp (or_ne rfl hu) (e_v 3) (e_tup (a_cons e_int a_nil))) (s_cons (s_par (i := 4) (j := 5) rfl sc.nd rfl rfl (by decide) rfl rfl (a_cons (e_bin or_sub (e_callB (cr_len rfl) rfl C.f_len (by decide +kernel) (a_cons (e_v 3) a_nil)) (e_callB (cr_len rfl) rfl C.f_len (by decide +kernel) (a_cons (e_v 1) a_nil))) (a_cons (e_bin (or_fdivA S) (e_ix rfl (e_v 3) (e_un ur_neg e_int)) (e_ix rfl (e_v 1) (e_un ur_neg e_int))) a_nil)) rfl)
  (s_cons (s_set (i := 2) sc.nd rfl (by first | exact .inl rfl | exact .inr rfl) (e_call (dd := []) (dvs := []) (ds := []) (G_row_sum.mono (by omega)) hr hgd rfl C.g_row_sum F_row_sum.kp b_row_sum .nil (fun _ _ _ => .nil) (L2N.takes_of rfl rfl rfl rfl) (a_cons (e_v 2) (a_cons (e_bin (or_add rfl) (e_bin (or_mulZ rfl) (e_tup (a_cons e_int a_nil)) (e_v 4)) (e_tup (a_cons (e_v 5) a_nil))) (a_cons e_int a_nil)))))
  (s_one (s_set (i := 3) sc.nd rfl (by first | exact .inl rfl | exact .inr rfl) (e_call (dd := []) (dvs := []) (ds := []) (G_row_sum.mono (by omega)) hr hgd rfl C.g_row_sum F_row_sum.kp b_row_sum .nil (fun _ _ _ => .nil) (L2N.takes_of rfl rfl rfl rfl) (a_cons (e_v 3) (a_cons (e_bin (or_add rfl) (e_bin (or_mulZ rfl) (e_tup (a_cons e_int a_nil)) (e_v 4)) (e_v 1)) (a_cons (e_bin or_sub e_int (e_v 5)) a_nil)))))))))
  (s_one (s_ret (e_v 2)))))
theorem ok_lowest (C : Cn K mg) (T : Sr P base) {fd : FuncData} (Fd : FunD K "lowest" "lowest" (defArgs (top 24)) (defBody (top 24)) (defScope (top 24)) [] [] (He.ga K "lowest") fd) : FnG P w K mg base 45 (He.ga K "lowest") fd ["top", "bottom"] (SPx K (gq P w K) p_lowest) := by
  have sc := sc_lowest
  obtain ⟨fd_common_row, F_common_row⟩ := C.c.says.def_ 8 rfl
  have G_common_row := (ok_common_row (P := P) (w := w) (base := base) C T F_common_row)
  have b_common_row : Binds K fd_common_row ["one", "other"] [] := F_common_row.bindsN fun _ _ _ _ _ _ us hl => match us, hl with | [_, _], _ => rfl
  obtain ⟨fd_divisor_of, F_divisor_of⟩ := C.c.says.def_ 3 rfl
  have G_divisor_of := (ok_divisor_of (P := P) (w := w) (base := base) C F_divisor_of)
  have b_divisor_of : Binds K fd_divisor_of ["one", "other"] [] := F_divisor_of.bindsN fun _ _ _ _ _ _ us hl => match us, hl with | [_, _], _ => rfl
  obtain ⟨fd_quotient, F_quotient⟩ := C.c.says.def_ 9 rfl
  have G_quotient := (ok_quotient (P := P) (w := w) (base := base) C T F_quotient)
  have b_quotient : Binds K fd_quotient ["one", "other"] [] := F_quotient.bindsN fun _ _ _ _ _ _ us hl => match us, hl with | [_, _], _ => rfl
  refine (fn_ok (k := 44) (N := N_lowest) (b := B_p_lowest) Fd sc fun cdv A outer s H E hr hgd => ?_)
  have hu := hr.units
  have hu1 : (A.deeper (envOfC "lowest" (defScope (top 24)) s.heap.objs.size (He.ga K "lowest") cdv)).units + (64 + 1) < cLine := by have := hr.un; omega
  have S : SeerX (cxOf (L2N.CX P w) P w K mg base N_lowest "lowest" (defScope (top 24)) (He.ga K "lowest") cdv A outer s H E) := seer_def T hr (by decide) (by kernel_rfl) (by kernel_rfl)
  unfold B_p_lowest
  exact (s_cons (s_if (t_cmp (or_eq rfl hu) (e_v 0) (e_tup (a_cons e_int a_nil))) (s_one (s_ret (e_tup (a_cons (e_tup (a_cons e_int a_nil)) (a_cons (e_tup (a_cons e_int a_nil)) a_nil))))) s_nil)
  (s_cons (s_set (i := 2) sc.nd rfl (by first | exact .inl rfl | exact .inr rfl) (e_call (dd := []) (dvs := []) (ds := []) (G_common_row.mono (by omega)) hr hgd rfl C.g_common_row F_common_row.kp b_common_row .nil (fun _ _ _ => .nil) (L2N.takes_of rfl rfl rfl rfl) (a_cons (e_v 0) (a_cons (e_v 1) a_nil))))
  (s_cons (s_par (i := 0) (j := 1) rfl sc.nd rfl rfl (by decide) rfl rfl (a_cons (e_call (dd := []) (dvs := []) (ds := []) (G_quotient.mono (by omega)) hr hgd rfl C.g_quotient F_quotient.kp b_quotient .nil (fun _ _ _ => .nil) (L2N.takes_of rfl rfl rfl rfl) (a_cons (e_v 0) (a_cons (e_v 2) a_nil))) (a_cons (e_call (dd := []) (dvs := []) (ds := []) (G_quotient.mono (by omega)) hr hgd rfl C.g_quotient F_quotient.kp b_quotient .nil (fun _ _ _ => .nil) (L2N.takes_of rfl rfl rfl rfl) (a_cons (e_v 1) (a_cons (e_v 2) a_nil))) a_nil)) rfl)
  (s_cons (s_set (i := 3) sc.nd rfl (by first | exact .inl rfl | exact .inr rfl) e_int)
  (s_cons (s_for (passes_of rfl) rfl (w_any rfl (e_bin (or_add rfl) (e_v 0) (e_v 1))) (g_name (i := 4) sc.nd rfl (by first | exact .inl rfl | exact .inr rfl)) (s_one (s_set (i := 3) sc.nd rfl (by first | exact .inl rfl | exact .inr rfl) (e_call (dd := []) (dvs := []) (ds := []) (G_divisor_of.mono (by omega)) hr hgd rfl C.g_divisor_of F_divisor_of.kp b_divisor_of .nil (fun _ _ _ => .nil) (L2N.takes_of rfl rfl rfl rfl) (a_cons (e_v 3) (a_cons (e_v 4) a_nil))))))
  (s_cons (s_if (t_cmp or_lt (e_ix rfl (e_v 1) (e_un ur_neg e_int)) e_int) (s_one (s_set (i := 3) sc.nd rfl (by first | exact .inl rfl | exact .inr rfl) (e_bin or_sub e_int (e_v 3)))) s_nil)
  (s_one (s_ret (e_tup (a_cons (e_callTy (cr_tuple rfl) rfl C.f_tuple (by decide +kernel) (a_cons (e_lcF (patOk_one (i := 4)) rfl rfl sc.nd (w_any rfl (e_v 0)) (blkOk_by (own := [("factor", 4)]) (N := N_lowest) (sc := (defScope (top 24))) (by decide +kernel)) (fun _ _ _ _ _ => (pg_name (i := 4) sc.nd rfl (by first | exact .inl rfl | exact .inr rfl))) (fun _ _ _ _ _ => ts_nil) (fun _ _ _ _ _ => (e_bin (or_fdivA S) (e_v 4) (e_v 3)))) a_nil)) (a_cons (e_callTy (cr_tuple rfl) rfl C.f_tuple (by decide +kernel) (a_cons (e_lcF (patOk_one (i := 4)) rfl rfl sc.nd (w_any rfl (e_v 1)) (blkOk_by (own := [("factor", 4)]) (N := N_lowest) (sc := (defScope (top 24))) (by decide +kernel)) (fun _ _ _ _ _ => (pg_name (i := 4) sc.nd rfl (by first | exact .inl rfl | exact .inr rfl))) (fun _ _ _ _ _ => ts_nil) (fun _ _ _ _ _ => (e_bin (or_fdivA S) (e_v 4) (e_v 3)))) a_nil)) a_nil)))))))))))
theorem ok_Ratio___init__ (C : Cn K mg) (T : Sr P base) {fd : FuncData} (Fd : FunD K "__init__" "Ratio.__init__" (defArgs (inCls (top 27) 0)) (defBody (inCls (top 27) 0)) (defScope (inCls (top 27) 0)) (([.adr (dfA "Ratio" "__init__" 0)] : List He.Dv).map (He.Dv.v K)) [] (He.ma K (He.ga K "Ratio") "__init__") fd) : FnG P w K mg base 46 (He.ma K (He.ga K "Ratio") "__init__") fd ["self", "top", "bottom"] (SPx K (gq P w K) p_Ratio___init__) := by
  have sc := sc_Ratio___init__
  obtain ⟨fd_is_row, F_is_row⟩ := C.c.says.def_ 2 rfl
  have G_is_row := (ok_is_row (P := P) (w := w) (base := base) C F_is_row)
  have b_is_row : Binds K fd_is_row ["value"] [] := F_is_row.bindsN fun _ _ _ _ _ _ us hl => match us, hl with | [_], _ => rfl
  obtain ⟨fd_lowest, F_lowest⟩ := C.c.says.def_ 10 rfl
  have G_lowest := (ok_lowest (P := P) (w := w) (base := base) C T F_lowest)
  have b_lowest : Binds K fd_lowest ["top", "bottom"] [] := F_lowest.bindsN fun _ _ _ _ _ _ us hl => match us, hl with | [_, _], _ => rfl
  obtain ⟨fd_trimmed, F_trimmed⟩ := C.c.says.def_ 5 rfl
  have G_trimmed := (ok_trimmed (P := P) (w := w) (base := base) C F_trimmed)
  have b_trimmed : Binds K fd_trimmed ["row"] [] := F_trimmed.bindsN fun _ _ _ _ _ _ us hl => match us, hl with | [_], _ => rfl
  refine (fn_ok (k := 45) (N := N_Ratio___init__) (b := B_p_Ratio___init__) Fd sc fun cdv A outer s H E hr hgd => ?_)
  have hu := hr.units
  have hu1 : (A.deeper (envOfC "Ratio.__init__" (defScope (inCls (top 27) 0)) s.heap.objs.size (He.ma K (He.ga K "Ratio") "__init__") cdv)).units + (64 + 1) < cLine := by have := hr.un; omega
  unfold B_p_Ratio___init__
  exact (s_cons (s_if (t_not (t_tru rfl (e_call (dd := []) (dvs := []) (ds := []) (G_is_row.mono (by omega)) hr hgd rfl C.g_is_row F_is_row.kp b_is_row .nil (fun _ _ _ => .nil) (L2N.takes_of rfl rfl rfl rfl) (a_cons (e_v 1) a_nil)))) (s_one (s_raise rfl (L2N.takes_of rfl rfl rfl rfl) (XI_.of (C.xp_InvalidCount (P := P) (w := w) (base := base))) (raisesX (C.xp_InvalidCount (P := P) (w := w) (base := base)).cls) pm_pos (hr.mono (by omega)) rfl C.g_InvalidCount (a_cons (e_v 1) a_nil))) s_nil)
  (s_cons (s_if (t_not (t_tru rfl (e_call (dd := []) (dvs := []) (ds := []) (G_is_row.mono (by omega)) hr hgd rfl C.g_is_row F_is_row.kp b_is_row .nil (fun _ _ _ => .nil) (L2N.takes_of rfl rfl rfl rfl) (a_cons (e_v 2) a_nil)))) (s_one (s_raise rfl (L2N.takes_of rfl rfl rfl rfl) (XI_.of (C.xp_InvalidCount (P := P) (w := w) (base := base))) (raisesX (C.xp_InvalidCount (P := P) (w := w) (base := base)).cls) pm_pos (hr.mono (by omega)) rfl C.g_InvalidCount (a_cons (e_v 2) a_nil))) s_nil)
  (s_cons (s_if (t_cmp (or_eq rfl hu) (e_call (dd := []) (dvs := []) (ds := []) (G_trimmed.mono (by omega)) hr hgd rfl C.g_trimmed F_trimmed.kp b_trimmed .nil (fun _ _ _ => .nil) (L2N.takes_of rfl rfl rfl rfl) (a_cons (e_v 2) a_nil)) (e_tup (a_cons e_int a_nil))) (s_one (s_raise0 rfl (L2N.takes_of rfl rfl rfl rfl) (Fam.xb .r) C.x0_ZeroBelow.1 C.x0_ZeroBelow.2 (xr0B_ok C.xr_ZeroBelow) rfl C.g_ZeroBelow)) s_nil)
  (s_one (s_asg (e_call (dd := []) (dvs := []) (ds := []) (G_lowest.mono (by omega)) hr hgd rfl C.g_lowest F_lowest.kp b_lowest .nil (fun _ _ _ => .nil) (L2N.takes_of rfl rfl rfl rfl) (a_cons (e_call (dd := []) (dvs := []) (ds := []) (G_trimmed.mono (by omega)) hr hgd rfl C.g_trimmed F_trimmed.kp b_trimmed .nil (fun _ _ _ => .nil) (L2N.takes_of rfl rfl rfl rfl) (a_cons (e_v 1) a_nil)) (a_cons (e_call (dd := []) (dvs := []) (ds := []) (G_trimmed.mono (by omega)) hr hgd rfl C.g_trimmed F_trimmed.kp b_trimmed .nil (fun _ _ _ => .nil) (L2N.takes_of rfl rfl rfl rfl) (a_cons (e_v 2) a_nil)) a_nil))) (g_tup (n := 2) rfl rfl (gs_cons (g_fld rfl C.has_top (e_v 0)) (gs_cons (g_fld rfl C.has_bottom (e_v 0)) gs_nil gsNil_ne) (gsFld_ne (ne_var _) gsNil_ne))))))))
theorem ok_power_text (C : Cn K mg) {fd : FuncData} (Fd : FunD K "power_text" "power_text" (defArgs (top 25)) (defBody (top 25)) (defScope (top 25)) [] [] (He.ga K "power_text") fd) : FnO P w K mg base 41 (He.ga K "power_text") fd ["power"] (SPx K (gq P w K) p_power_text) := by
  have sc := sc_power_text
  refine (fno_ok (k := 40) (N := N_power_text) (b := B_p_power_text) Fd sc fun cdv A outer s H E hr => ?_)
  have hu := hr.units
  have hu1 : (A.deeper (envOfC "power_text" (defScope (top 25)) s.heap.objs.size (He.ga K "power_text") cdv)).units + (64 + 1) < cLine := by have := hr.un; omega
  unfold B_p_power_text
  exact (s_one (s_ret (e_if (t_cmp (or_eq rfl hu) (e_v 0) e_int) e_str (e_joined (.cons e_str (.cons (e_fmt (e_v 0)) .nil))))))
theorem ok_row_text (C : Cn K mg) {fd : FuncData} (Fd : FunD K "row_text" "row_text" (defArgs (top 26)) (defBody (top 26)) (defScope (top 26)) [] [] (He.ga K "row_text") fd) : FnO P w K mg base 42 (He.ga K "row_text") fd ["row"] (SPx K (gq P w K) p_row_text) := by
  have sc := sc_row_text
  obtain ⟨fd_power_text, F_power_text⟩ := C.c.says.def_ 12 rfl
  have G_power_text := (ok_power_text (P := P) (w := w) (base := base) C F_power_text)
  have b_power_text : Binds K fd_power_text ["power"] [] := F_power_text.bindsN fun _ _ _ _ _ _ us hl => match us, hl with | [_], _ => rfl
  refine (fno_ok (k := 41) (N := N_row_text) (b := B_p_row_text) Fd sc fun cdv A outer s H E hr => ?_)
  have hu := hr.units
  have hu1 : (A.deeper (envOfC "row_text" (defScope (top 26)) s.heap.objs.size (He.ga K "row_text") cdv)).units + (64 + 1) < cLine := by have := hr.un; omega
  unfold B_p_row_text
  exact (s_cons (s_set (i := 1) sc.nd rfl (by first | exact .inl rfl | exact .inr rfl) e_str)
  (s_cons (s_for (passes_of rfl) rfl (w_rng3 rfl C.f_range (a_cons (e_bin or_sub (e_callB (cr_len rfl) rfl C.f_len (by decide +kernel) (a_cons (e_v 0) a_nil)) e_int) (a_cons (e_un ur_neg e_int) (a_cons (e_un ur_neg e_int) a_nil)))) (g_name (i := 2) sc.nd rfl (by first | exact .inl rfl | exact .inr rfl)) (s_cons (s_set (i := 3) sc.nd rfl (by first | exact .inl rfl | exact .inr rfl) (e_ix rfl (e_v 0) (e_v 2)))
  (s_one (s_if (t_cmp (or_ne rfl hu) (e_v 3) e_int) (s_cons (s_set (i := 4) sc.nd rfl (by first | exact .inl rfl | exact .inr rfl) (e_callB cr_abs rfl C.f_abs (by decide +kernel) (a_cons (e_v 3) a_nil)))
  (s_cons (s_set (i := 5) sc.nd rfl (by first | exact .inl rfl | exact .inr rfl) (e_if (t_cmp (or_eq rfl hu) (e_v 2) e_int) (e_joined1 (e_fmt (e_v 4))) (e_if (t_cmp (or_eq rfl hu) (e_v 4) e_int) (e_callO (dd := []) (dvs := []) (ds := []) (G_power_text.mono (by omega)) hr rfl C.g_power_text F_power_text.kp b_power_text .nil (fun _ _ _ => .nil) (L2N.takes_of rfl rfl rfl rfl) (a_cons (e_v 2) a_nil)) (e_joined (.cons (e_fmt (e_v 4)) (.cons e_str (.cons (e_fmt (e_callO (dd := []) (dvs := []) (ds := []) (G_power_text.mono (by omega)) hr rfl C.g_power_text F_power_text.kp b_power_text .nil (fun _ _ _ => .nil) (L2N.takes_of rfl rfl rfl rfl) (a_cons (e_v 2) a_nil))) .nil)))))))
  (s_one (s_if (t_cmp (or_eq rfl hu) (e_v 1) e_str) (s_one (s_set (i := 1) sc.nd rfl (by first | exact .inl rfl | exact .inr rfl) (e_if (t_cmp or_lt (e_v 3) e_int) (e_bin (or_add rfl) e_str (e_v 5)) (e_v 5)))) (s_one (s_set (i := 1) sc.nd rfl (by first | exact .inl rfl | exact .inr rfl) (e_bin (or_add rfl) (e_bin (or_add rfl) (e_v 1) (e_if (t_cmp or_lt (e_v 3) e_int) e_str e_str)) (e_v 5)))))))) s_nil))))
  (s_one (s_ret (e_if (t_cmp (or_ne rfl hu) (e_v 1) e_str) (e_v 1) e_str)))))
theorem ok_Ratio___str__ (C : Cn K mg) {fd : FuncData} (Fd : FunD K "__str__" "Ratio.__str__" (defArgs (inCls (top 27) 15)) (defBody (inCls (top 27) 15)) (defScope (inCls (top 27) 15)) [] [] (He.ma K (He.ga K "Ratio") "__str__") fd) : FnO P w K mg base 43 (He.ma K (He.ga K "Ratio") "__str__") fd ["self"] (SPx K (gq P w K) p_Ratio___str__) := by
  have sc := sc_Ratio___str__
  obtain ⟨fd_row_text, F_row_text⟩ := C.c.says.def_ 13 rfl
  have G_row_text := (ok_row_text (P := P) (w := w) (base := base) C F_row_text)
  have b_row_text : Binds K fd_row_text ["row"] [] := F_row_text.bindsN fun _ _ _ _ _ _ us hl => match us, hl with | [_], _ => rfl
  refine (fno_ok (k := 42) (N := N_Ratio___str__) (b := B_p_Ratio___str__) Fd sc fun cdv A outer s H E hr => ?_)
  have hu := hr.units
  have hu1 : (A.deeper (envOfC "Ratio.__str__" (defScope (inCls (top 27) 15)) s.heap.objs.size (He.ma K (He.ga K "Ratio") "__str__") cdv)).units + (64 + 1) < cLine := by have := hr.un; omega
  unfold B_p_Ratio___str__
  exact (s_cons (s_if (t_cmp (or_eq rfl hu) (e_get rfl C.has_bottom (e_v 0)) (e_tup (a_cons e_int a_nil))) (s_one (s_ret (e_joined1 (e_fmt (e_callO (dd := []) (dvs := []) (ds := []) (G_row_text.mono (by omega)) hr rfl C.g_row_text F_row_text.kp b_row_text .nil (fun _ _ _ => .nil) (L2N.takes_of rfl rfl rfl rfl) (a_cons (e_get rfl C.has_top (e_v 0)) a_nil)))))) s_nil)
  (s_one (s_ret (e_joined (.cons e_str (.cons (e_fmt (e_callO (dd := []) (dvs := []) (ds := []) (G_row_text.mono (by omega)) hr rfl C.g_row_text F_row_text.kp b_row_text .nil (fun _ _ _ => .nil) (L2N.takes_of rfl rfl rfl rfl) (a_cons (e_get rfl C.has_top (e_v 0)) a_nil))) (.cons e_str (.cons (e_fmt (e_callO (dd := []) (dvs := []) (ds := []) (G_row_text.mono (by omega)) hr rfl C.g_row_text F_row_text.kp b_row_text .nil (fun _ _ _ => .nil) (L2N.takes_of rfl rfl rfl rfl) (a_cons (e_get rfl C.has_bottom (e_v 0)) a_nil))) (.cons e_str .nil)))))))))
theorem ok_is_digits (C : Cn K mg) {fd : FuncData} (Fd : FunD K "is_digits" "is_digits" (defArgs (top 31)) (defBody (top 31)) (defScope (top 31)) [] [] (He.ga K "is_digits") fd) : FnG P w K mg base 41 (He.ga K "is_digits") fd ["text"] (SPx K (gq P w K) p_is_digits) := by
  have sc := sc_is_digits
  refine (fn_ok (k := 40) (N := N_is_digits) (b := B_p_is_digits) Fd sc fun cdv A outer s H E hr hgd => ?_)
  have hu := hr.units
  have hu1 : (A.deeper (envOfC "is_digits" (defScope (top 31)) s.heap.objs.size (He.ga K "is_digits") cdv)).units + (64 + 1) < cLine := by have := hr.un; omega
  unfold B_p_is_digits
  exact (s_one (s_ret (e_and rfl (e_chain or_le or_le e_int (e_callB (cr_len rfl) rfl C.f_len (by decide +kernel) (a_cons (e_v 0) a_nil)) e_int) (e_one (e_callB (cr_allL rfl rfl) rfl C.f_all (by decide +kernel) (a_cons (e_lcF (patOk_one (i := 1)) rfl rfl sc.nd (w_any rfl (e_v 0)) (blkOk_by (own := [("sign", 1)]) (N := N_is_digits) (sc := (defScope (top 31))) (by decide +kernel)) (fun _ _ _ _ _ => (pg_name (i := 1) sc.nd rfl (by first | exact .inl rfl | exact .inr rfl))) (fun _ _ _ _ _ => ts_nil) (fun _ _ _ _ _ => (e_cmp (or_in rfl) (e_v 1) e_str))) a_nil))))))
theorem ok_term_in (C : Cn K mg) {fd : FuncData} (Fd : FunD K "term_in" "term_in" (defArgs (top 32)) (defBody (top 32)) (defScope (top 32)) [] [] (He.ga K "term_in") fd) : FnG P w K mg base 42 (He.ga K "term_in") fd ["word"] (SPx K (gq P w K) p_term_in) := by
  have sc := sc_term_in
  obtain ⟨fd_is_digits, F_is_digits⟩ := C.c.says.def_ 15 rfl
  have G_is_digits := (ok_is_digits (P := P) (w := w) (base := base) C F_is_digits)
  have b_is_digits : Binds K fd_is_digits ["text"] [] := F_is_digits.bindsN fun _ _ _ _ _ _ us hl => match us, hl with | [_], _ => rfl
  refine (fn_ok (k := 41) (N := N_term_in) (b := B_p_term_in) Fd sc fun cdv A outer s H E hr hgd => ?_)
  have hu := hr.units
  have hu1 : (A.deeper (envOfC "term_in" (defScope (top 32)) s.heap.objs.size (He.ga K "term_in") cdv)).units + (64 + 1) < cLine := by have := hr.un; omega
  unfold B_p_term_in
  exact (s_cons (s_asg (e_m1 PySem.F.slot_str_partition PySem.F.type_str_partition mr_part (e_v 0) e_str) (g_tup (n := 3) rfl rfl (gs_name (i := 1) sc.nd rfl (by first | exact .inl rfl | exact .inr rfl) (gs_name (i := 2) sc.nd rfl (by first | exact .inl rfl | exact .inr rfl) (gs_name (i := 3) sc.nd rfl (by first | exact .inl rfl | exact .inr rfl) gs_nil gsNil_ne) (gsVar_ne gsNil_ne)) (gsVar_ne (gsVar_ne gsNil_ne)))))
  (s_cons (s_if (t_ws (w_and (t_cmp (or_eq rfl hu) (e_v 2) e_str) (w_and1 (t_tru rfl (e_m1 PySem.F.slot_str_startswith PySem.F.type_str_startswith mr_starts (e_v 0) e_str))))) (s_one (s_par (i := 1) (j := 3) rfl sc.nd rfl rfl (by decide) rfl rfl (a_cons e_str (a_cons (e_v 0) a_nil)) rfl)) s_nil)
  (s_cons (s_if (t_not (t_tru rfl (e_call (dd := []) (dvs := []) (ds := []) (G_is_digits.mono (by omega)) hr hgd rfl C.g_is_digits F_is_digits.kp b_is_digits .nil (fun _ _ _ => .nil) (L2N.takes_of rfl rfl rfl rfl) (a_cons (e_v 1) a_nil)))) (s_one (s_ret e_non)) s_nil)
  (s_cons (s_if (t_ws (w_and (t_cmp (or_eq rfl hu) (e_v 2) e_str) (w_and1 (t_not (t_tru rfl (e_m1 PySem.F.slot_str_startswith PySem.F.type_str_startswith mr_starts (e_v 0) e_str)))))) (s_one (s_ret (e_tup (a_cons (e_callTy cr_intS rfl C.f_int (by decide +kernel) (a_cons (e_v 1) a_nil)) a_nil)))) s_nil)
  (s_cons (s_if (t_cmp (or_eq rfl hu) (e_v 3) e_str) (s_one (s_ret (e_tup (a_cons e_int (a_cons (e_callTy cr_intS rfl C.f_int (by decide +kernel) (a_cons (e_v 1) a_nil)) a_nil))))) s_nil)
  (s_cons (s_if (t_ws (w_or (t_not (t_tru rfl (e_m1 PySem.F.slot_str_startswith PySem.F.type_str_startswith mr_starts (e_v 3) e_str))) (w_or (t_not (t_tru rfl (e_call (dd := []) (dvs := []) (ds := []) (G_is_digits.mono (by omega)) hr hgd rfl C.g_is_digits F_is_digits.kp b_is_digits .nil (fun _ _ _ => .nil) (L2N.takes_of rfl rfl rfl rfl) (a_cons (e_sl rfl (e_v 3) (o_some e_int) o_none) a_nil)))) (w_or1 (t_cmp or_gt (e_callTy cr_intS rfl C.f_int (by decide +kernel) (a_cons (e_sl rfl (e_v 3) (o_some e_int) o_none) a_nil)) (e_gint rfl C.n_MOST_READ)))))) (s_one (s_ret e_non)) s_nil)
  (s_one (s_ret (e_bin (or_add rfl) (e_bin (or_mulZ rfl) (e_tup (a_cons e_int a_nil)) (e_callTy cr_intS rfl C.f_int (by decide +kernel) (a_cons (e_sl rfl (e_v 3) (o_some e_int) o_none) a_nil))) (e_tup (a_cons (e_callTy cr_intS rfl C.f_int (by decide +kernel) (a_cons (e_v 1) a_nil)) a_nil)))))))))))
theorem ok_row_in (C : Cn K mg) {fd : FuncData} (Fd : FunD K "row_in" "row_in" (defArgs (top 30)) (defBody (top 30)) (defScope (top 30)) [] [] (He.ga K "row_in") fd) : FnG P w K mg base 43 (He.ga K "row_in") fd ["text"] (SPx K (gq P w K) p_row_in) := by
  have sc := sc_row_in
  obtain ⟨fd_row_sum, F_row_sum⟩ := C.c.says.def_ 6 rfl
  have G_row_sum := (ok_row_sum (P := P) (w := w) (base := base) C F_row_sum)
  have b_row_sum : Binds K fd_row_sum ["one", "other", "times"] [] := F_row_sum.bindsN fun _ _ _ _ _ _ us hl => match us, hl with | [_, _, _], _ => rfl
  obtain ⟨fd_term_in, F_term_in⟩ := C.c.says.def_ 16 rfl
  have G_term_in := (ok_term_in (P := P) (w := w) (base := base) C F_term_in)
  have b_term_in : Binds K fd_term_in ["word"] [] := F_term_in.bindsN fun _ _ _ _ _ _ us hl => match us, hl with | [_], _ => rfl
  refine (fn_ok (k := 42) (N := N_row_in) (b := B_p_row_in) Fd sc fun cdv A outer s H E hr hgd => ?_)
  have hu := hr.units
  have hu1 : (A.deeper (envOfC "row_in" (defScope (top 30)) s.heap.objs.size (He.ga K "row_in") cdv)).units + (64 + 1) < cLine := by have := hr.un; omega
  unfold B_p_row_in
  exact (s_consO (s_setO (i := 1) sc.nd rfl (by first | exact .inl rfl | exact .inr rfl) (e_tupO (a_consO e_intO a_nil)))
  (s_consT (s_set (i := 2) sc.nd rfl (by first | exact .inl rfl | exact .inr rfl) (e_if (t_tru rfl (e_m1 PySem.F.slot_str_startswith PySem.F.type_str_startswith mr_starts (e_v 0) e_str)) (e_sl rfl (e_v 0) (o_some e_int) o_none) (e_v 0)))
  (s_consT (s_set (i := 3) sc.nd rfl (by first | exact .inl rfl | exact .inr rfl) (e_if (t_tru rfl (e_m1 PySem.F.slot_str_startswith PySem.F.type_str_startswith mr_starts (e_v 0) e_str)) (e_un ur_neg e_int) e_int))
  (s_consU (s_setT (i := 4) sc.nd rfl (by first | exact .inl rfl | exact .inr rfl) (pet_m1 PySem.F.slot_str_split PySem.F.type_str_split mr_split (pet_repl (e_v 2)) e_str))
  (s_cons (s_for (passes_of rfl) rfl (w_enum rfl rfl C.f_enumerate (a_cons (e_v 4) a_nil)) (g_tup (n := 2) rfl rfl (gs_name (i := 5) sc.nd rfl (by first | exact .inl rfl | exact .inr rfl) (gs_name (i := 6) sc.nd rfl (by first | exact .inl rfl | exact .inr rfl) gs_nil gsNil_ne) (gsVar_ne gsNil_ne))) (s_cons (s_set (i := 7) sc.nd rfl (by first | exact .inl rfl | exact .inr rfl) (e_if (t_cmp (or_eq rfl hu) (e_v 5) e_int) (e_v 3) (e_if (t_tru rfl (e_m1 PySem.F.slot_str_startswith PySem.F.type_str_startswith mr_starts (e_v 6) e_str)) (e_un ur_neg e_int) e_int)))
  (s_cons (s_set (i := 8) sc.nd rfl (by first | exact .inl rfl | exact .inr rfl) (e_call (dd := []) (dvs := []) (ds := []) (G_term_in.mono (by omega)) hr hgd rfl C.g_term_in F_term_in.kp b_term_in .nil (fun _ _ _ => .nil) (L2N.takes_of rfl rfl rfl rfl) (a_cons (e_if (t_ws (w_and (t_cmp or_gt (e_v 5) e_int) (w_and1 (t_tru rfl (e_m1 PySem.F.slot_str_startswith PySem.F.type_str_startswith mr_starts (e_v 6) e_str))))) (e_sl rfl (e_v 6) (o_some e_int) o_none) (e_v 6)) a_nil)))
  (s_cons (s_if (t_cmp or_is (e_v 8) e_non) (s_one (s_ret e_non)) s_nil)
  (s_one (s_set (i := 1) sc.nd rfl (by first | exact .inl rfl | exact .inr rfl) (e_call (dd := []) (dvs := []) (ds := []) (G_row_sum.mono (by omega)) hr hgd rfl C.g_row_sum F_row_sum.kp b_row_sum .nil (fun _ _ _ => .nil) (L2N.takes_of rfl rfl rfl rfl) (a_cons (e_v 1) (a_cons (e_v 8) (a_cons (e_v 7) a_nil))))))))))
  (s_one (s_ret (e_v 1))))))))
theorem ok_ratio_in (C : Cn K mg) (T : Sr P base) {fd : FuncData} (Fd : FunD K "ratio_in" "ratio_in" (defArgs (top 29)) (defBody (top 29)) (defScope (top 29)) [] [] (He.ga K "ratio_in") fd) : FnG P w K mg base 48 (He.ga K "ratio_in") fd ["text"] (SPx K (gq P w K) p_ratio_in) := by
  have sc := sc_ratio_in
  obtain ⟨fd_Ratio___init__, F_Ratio___init__⟩ := C.c.says.def_ 11 rfl
  have G_Ratio___init__ := (ok_Ratio___init__ (P := P) (w := w) (base := base) C T F_Ratio___init__)
  replace F_Ratio___init__ : FunD K "__init__" "Ratio.__init__" (defArgs (inCls (top 27) 0)) (defBody (inCls (top 27) 0)) (defScope (inCls (top 27) 0)) (([.adr (dfA "Ratio" "__init__" 0)] : List He.Dv).map (He.Dv.v K)) [] (He.ma K (He.ga K "Ratio") "__init__") fd_Ratio___init__ := F_Ratio___init__
  obtain ⟨fd_row_in, F_row_in⟩ := C.c.says.def_ 17 rfl
  have G_row_in := (ok_row_in (P := P) (w := w) (base := base) C F_row_in)
  have b_row_in : Binds K fd_row_in ["text"] [] := F_row_in.bindsN fun _ _ _ _ _ _ us hl => match us, hl with | [_], _ => rfl
  have nk_Ratio___init___2_ := kbn_pickF (ps := ["self", "top", "bottom"]) F_Ratio___init__ 3 [] [0, 1, 2] (List.cons_ne_nil _ _) fun _ _ _ _ _ _ _ us its ws h1 h2 h3 => match us, its, ws, h1, h2, h3 with | [_, _, _], [_], [], _, _, _ => by refine ⟨_, rfl, ?_⟩; rfl
  refine (fn_ok (k := 47) (N := N_ratio_in) (b := B_p_ratio_in) Fd sc fun cdv A outer s H E hr hgd => ?_)
  have hu := hr.units
  have hu1 : (A.deeper (envOfC "ratio_in" (defScope (top 29)) s.heap.objs.size (He.ga K "ratio_in") cdv)).units + (64 + 1) < cLine := by have := hr.un; omega
  unfold B_p_ratio_in
  exact (s_cons (s_par (i := 1) (j := 2) rfl sc.nd rfl rfl (by decide) rfl rfl (a_cons (e_v 0) (a_cons e_str a_nil)) rfl)
  (s_cons (s_if (t_ws (w_and (t_tru rfl (e_m1 PySem.F.slot_str_startswith PySem.F.type_str_startswith mr_starts (e_v 0) e_str)) (w_and (t_tru rfl (e_m1 PySem.F.slot_str_endswith PySem.F.type_str_endswith mr_ends (e_v 0) e_str)) (w_and1 (t_cmp (or_eq rfl hu) (e_m1 PySem.F.slot_str_count PySem.F.type_str_count mr_cntT (e_v 0) e_str) e_int))))) (s_one (s_asg (e_m1 PySem.F.slot_str_partition PySem.F.type_str_partition mr_part (e_sl rfl (e_v 0) (o_some e_int) (o_some (e_un ur_neg e_int))) e_str) (g_tup (n := 3) rfl rfl (gs_name (i := 1) sc.nd rfl (by first | exact .inl rfl | exact .inr rfl) (gs_name (i := 3) sc.nd rfl (by first | exact .inl rfl | exact .inr rfl) (gs_name (i := 2) sc.nd rfl (by first | exact .inl rfl | exact .inr rfl) gs_nil gsNil_ne) (gsVar_ne gsNil_ne)) (gsVar_ne (gsVar_ne gsNil_ne)))))) s_nil)
  (s_cons (s_par (i := 4) (j := 5) rfl sc.nd rfl rfl (by decide) rfl rfl (a_cons (e_call (dd := []) (dvs := []) (ds := []) (G_row_in.mono (by omega)) hr hgd rfl C.g_row_in F_row_in.kp b_row_in .nil (fun _ _ _ => .nil) (L2N.takes_of rfl rfl rfl rfl) (a_cons (e_v 1) a_nil)) (a_cons (e_call (dd := []) (dvs := []) (ds := []) (G_row_in.mono (by omega)) hr hgd rfl C.g_row_in F_row_in.kp b_row_in .nil (fun _ _ _ => .nil) (L2N.takes_of rfl rfl rfl rfl) (a_cons (e_v 2) a_nil)) a_nil)) rfl)
  (s_cons (s_if (t_ws (w_or (t_cmp or_is (e_v 4) e_non) (w_or (t_cmp or_is (e_v 5) e_non) (w_or1 (t_cmp (or_eq rfl hu) (e_v 5) (e_tup (a_cons e_int a_nil))))))) (s_one (s_ret e_non)) s_nil)
  (s_one (s_ret (e_newP (k := 46) (n := 2) (perm := [0, 1, 2]) C.mk_Ratio G_Ratio___init__ (hr.mono (by omega)) hgd rfl C.g_Ratio nk_Ratio___init___2_ (L2N.takes_of rfl rfl rfl rfl) (a_cons (e_v 4) (a_cons (e_v 5) a_nil)))))))))
theorem ok_Ratio_read (C : Cn K mg) (T : Sr P base) {fd : FuncData} (Fd : FunD K "read" "Ratio.read" (defArgs (inCls (top 27) 1)) (defBody (inCls (top 27) 1)) (defScope (inCls (top 27) 1)) [] [] (sfA K "Ratio" "read") fd) : FnG P w K mg base 49 (sfA K "Ratio" "read") fd ["text"] (SPx K (gq P w K) p_Ratio_read) := by
  have sc := sc_Ratio_read
  obtain ⟨fd_Ratio___str__, F_Ratio___str__⟩ := C.c.says.def_ 14 rfl
  have G_Ratio___str__ := (ok_Ratio___str__ (P := P) (w := w) (base := base) C F_Ratio___str__).toG
  have b_Ratio___str__ : Binds K fd_Ratio___str__ ["self"] [] := F_Ratio___str__.bindsN fun _ _ _ _ _ _ us hl => match us, hl with | [_], _ => rfl
  obtain ⟨fd_ratio_in, F_ratio_in⟩ := C.c.says.def_ 18 rfl
  have G_ratio_in := (ok_ratio_in (P := P) (w := w) (base := base) C T F_ratio_in)
  have b_ratio_in : Binds K fd_ratio_in ["text"] [] := F_ratio_in.bindsN fun _ _ _ _ _ _ us hl => match us, hl with | [_], _ => rfl
  refine (fn_ok (k := 48) (N := N_Ratio_read) (b := B_p_Ratio_read) Fd sc fun cdv A outer s H E hr hgd => ?_)
  have hu := hr.units
  have hu1 : (A.deeper (envOfC "Ratio.read" (defScope (inCls (top 27) 1)) s.heap.objs.size (sfA K "Ratio" "read") cdv)).units + (64 + 1) < cLine := by have := hr.un; omega
  unfold B_p_Ratio_read
  exact (s_cons (s_set (i := 1) sc.nd rfl (by first | exact .inl rfl | exact .inr rfl) (e_if (t_tru rfl (e_callB (cr_isiI rfl C.isa_str C.ins_Ratio) rfl C.f_isinstance (by decide +kernel) (a_cons (e_v 0) (a_cons (e_bty rfl C.f_str (by decide +kernel)) a_nil)))) (e_call (dd := []) (dvs := []) (ds := []) (G_ratio_in.mono (by omega)) hr hgd rfl C.g_ratio_in F_ratio_in.kp b_ratio_in .nil (fun _ _ _ => .nil) (L2N.takes_of rfl rfl rfl rfl) (a_cons (e_v 0) a_nil)) e_non))
  (s_cons (s_if (t_ws (w_or (t_cmp or_is (e_v 1) e_non) (w_or1 (t_cmp (or_ne rfl hu) (e_callTy (cr_strI (k := 43) rfl C.slot_str.1 C.slot_str.2 G_Ratio___str__ (hr.mono (by omega)) hgd b_Ratio___str__) rfl C.f_str (by decide +kernel) (a_cons (e_v 1) a_nil)) (e_v 0))))) (s_one (s_raise rfl (L2N.takes_of rfl rfl rfl rfl) (XI_.of (C.xp_InvalidText (P := P) (w := w) (base := base))) (raisesX (C.xp_InvalidText (P := P) (w := w) (base := base)).cls) pm_pos (hr.mono (by omega)) rfl C.g_InvalidText (a_cons (e_v 0) a_nil))) s_nil)
  (s_one (s_ret (e_v 1)))))
theorem ok__law_dip (C : Cn K mg) {fd : FuncData} (Fd : FunD K "_law_dip" "_law_dip" (defArgs (top 35)) (defBody (top 35)) (defScope (top 35)) [] [] (He.ga K "_law_dip") fd) : FnG P w K mg base 41 (He.ga K "_law_dip") fd ["_law_well_here", "_law_many"] (SPx K (gq P w K) k02__law_dip) := by
  have sc := sc__law_dip
  refine (fn_ok (k := 40) (N := N__law_dip) (b := B_k02__law_dip) Fd sc fun cdv A outer s H E hr hgd => ?_)
  have hu := hr.units
  have hu1 : (A.deeper (envOfC "_law_dip" (defScope (top 35)) s.heap.objs.size (He.ga K "_law_dip") cdv)).units + (64 + 1) < cLine := by have := hr.un; omega
  unfold B_k02__law_dip
  exact (s_cons (s_asg (e_bin (or_add rfl) (e_ix rfl (e_v 0) e_int) e_int) (g_ix (e_v 0) e_int))
  (s_cons (s_if (t_cmp or_gt (e_ix rfl (e_v 0) e_int) e_int) (s_cons (s_set (i := 2) sc.nd rfl (by first | exact .inl rfl | exact .inr rfl) (e_bin or_mod (e_callTy cr_int rfl C.f_int (by decide +kernel) (a_cons (e_ix rfl (e_v 0) e_int) a_nil)) (e_v 1)))
  (s_cons (s_asg (e_bin or_fdiv (e_ix rfl (e_v 0) e_int) (e_v 1)) (g_ix (e_v 0) e_int))
  (s_one (s_ret (e_v 2))))) s_nil)
  (s_cons (s_set (i := 3) sc.nd rfl (by first | exact .inl rfl | exact .inr rfl) (e_callTy cr_int rfl C.f_int (by decide +kernel) (a_cons (e_ix rfl (e_v 0) e_int) a_nil)))
  (s_cons (s_asg (e_bin or_mod (e_callTy cr_int rfl C.f_int (by decide +kernel) (a_cons (e_bin (or_add rfl) (e_bin (or_add rfl) (e_bin (or_mul rfl) (e_v 3) (e_bin (or_add rfl) (e_bin or_mod (e_v 3) e_int) e_int)) (e_bin (or_mul rfl) e_int (e_ix rfl (e_v 0) e_int))) e_int) a_nil)) e_int) (g_ix (e_v 0) e_int))
  (s_one (s_ret (e_bin or_mod (e_callTy cr_int rfl C.f_int (by decide +kernel) (a_cons (e_bin or_fdiv (e_ix rfl (e_v 0) e_int) e_int) a_nil)) (e_v 1))))))))
theorem ok__law_any (C : Cn K mg) {fd : FuncData} (Fd : FunD K "_law_any" "_law_any" (defArgs (top 36)) (defBody (top 36)) (defScope (top 36)) [] [] (He.ga K "_law_any") fd) : FnG P w K mg base 42 (He.ga K "_law_any") fd ["_law_well_here", "_law_things"] (SPx K (gq P w K) k02__law_any) := by
  have sc := sc__law_any
  obtain ⟨fd__law_dip, F__law_dip⟩ := C.c.says.def_ 19 rfl
  have G__law_dip := (ok__law_dip (P := P) (w := w) (base := base) C F__law_dip)
  have b__law_dip : Binds K fd__law_dip ["_law_well_here", "_law_many"] [] := F__law_dip.bindsN fun _ _ _ _ _ _ us hl => match us, hl with | [_, _], _ => rfl
  refine (fn_ok (k := 41) (N := N__law_any) (b := B_k02__law_any) Fd sc fun cdv A outer s H E hr hgd => ?_)
  have hu := hr.units
  have hu1 : (A.deeper (envOfC "_law_any" (defScope (top 36)) s.heap.objs.size (He.ga K "_law_any") cdv)).units + (64 + 1) < cLine := by have := hr.un; omega
  unfold B_k02__law_any
  exact (s_one (s_ret (e_ix rfl (e_v 1) (e_call (dd := []) (dvs := []) (ds := []) (G__law_dip.mono (by omega)) hr hgd rfl C.g__law_dip F__law_dip.kp b__law_dip .nil (fun _ _ _ => .nil) (L2N.takes_of rfl rfl rfl rfl) (a_cons (e_v 0) (a_cons (e_callB (cr_len rfl) rfl C.f_len (by decide +kernel) (a_cons (e_v 1) a_nil)) a_nil))))))
theorem ok__law_row (C : Cn K mg) {fd : FuncData} (Fd : FunD K "_law_row" "_law_row" (defArgs (top 37)) (defBody (top 37)) (defScope (top 37)) [] [] (He.ga K "_law_row") fd) : FnG P w K mg base 41 (He.ga K "_law_row") fd ["_law_row_here"] (SPx K (gq P w K) k02__law_row) := by
  have sc := sc__law_row
  refine (fn_ok (k := 40) (N := N__law_row) (b := B_k02__law_row) Fd sc fun cdv A outer s H E hr hgd => ?_)
  have hu := hr.units
  have hu1 : (A.deeper (envOfC "_law_row" (defScope (top 37)) s.heap.objs.size (He.ga K "_law_row") cdv)).units + (64 + 1) < cLine := by have := hr.un; omega
  unfold B_k02__law_row
  exact (s_cons (s_set (i := 1) sc.nd rfl (by first | exact .inl rfl | exact .inr rfl) (e_callB (cr_len rfl) rfl C.f_len (by decide +kernel) (a_cons (e_v 0) a_nil)))
  (s_cons (s_while (m := (mLen 0)) (passes_of rfl) (t_ws (w_and (t_cmp or_gt (e_v 1) e_int) (w_and1 (t_cmp (or_eq rfl hu) (e_ix rfl (e_v 0) (e_bin or_sub (e_v 1) e_int)) e_int)))) (s_one (s_set (i := 1) sc.nd rfl (by first | exact .inl rfl | exact .inr rfl) (e_bin or_sub (e_v 1) e_int))))
  (s_one (s_ret (e_callTy (cr_listF rfl) rfl C.f_list (by decide +kernel) (a_cons (e_slA rfl (e_v 0) o_none (o_some (e_v 1))) a_nil))))))
theorem ok__law_drawn_row (C : Cn K mg) {fd : FuncData} (Fd : FunD K "_law_drawn_row" "_law_drawn_row" (defArgs (top 44)) (defBody (top 44)) (defScope (top 44)) [] [] (He.ga K "_law_drawn_row") fd) : FnG P w K mg base 42 (He.ga K "_law_drawn_row") fd ["_law_well_here", "_law_most"] (SPx K (gq P w K) k02__law_drawn_row) := by
  have sc := sc__law_drawn_row
  obtain ⟨fd__law_dip, F__law_dip⟩ := C.c.says.def_ 19 rfl
  have G__law_dip := (ok__law_dip (P := P) (w := w) (base := base) C F__law_dip)
  have b__law_dip : Binds K fd__law_dip ["_law_well_here", "_law_many"] [] := F__law_dip.bindsN fun _ _ _ _ _ _ us hl => match us, hl with | [_, _], _ => rfl
  obtain ⟨fd__law_row, F__law_row⟩ := C.c.says.def_ 21 rfl
  have G__law_row := (ok__law_row (P := P) (w := w) (base := base) C F__law_row)
  have b__law_row : Binds K fd__law_row ["_law_row_here"] [] := F__law_row.bindsN fun _ _ _ _ _ _ us hl => match us, hl with | [_], _ => rfl
  refine (fn_ok (k := 41) (N := N__law_drawn_row) (b := B_k02__law_drawn_row) Fd sc fun cdv A outer s H E hr hgd => ?_)
  have hu := hr.units
  have hu1 : (A.deeper (envOfC "_law_drawn_row" (defScope (top 44)) s.heap.objs.size (He.ga K "_law_drawn_row") cdv)).units + (64 + 1) < cLine := by have := hr.un; omega
  unfold B_k02__law_drawn_row
  exact (s_cons (s_set (i := 2) sc.nd rfl (by first | exact .inl rfl | exact .inr rfl) (e_bin (or_add rfl) e_int (e_call (dd := []) (dvs := []) (ds := []) (G__law_dip.mono (by omega)) hr hgd rfl C.g__law_dip F__law_dip.kp b__law_dip .nil (fun _ _ _ => .nil) (L2N.takes_of rfl rfl rfl rfl) (a_cons (e_v 0) (a_cons (e_v 1) a_nil)))))
  (s_cons (s_if (t_cmp (or_eq rfl hu) (e_call (dd := []) (dvs := []) (ds := []) (G__law_dip.mono (by omega)) hr hgd rfl C.g__law_dip F__law_dip.kp b__law_dip .nil (fun _ _ _ => .nil) (L2N.takes_of rfl rfl rfl rfl) (a_cons (e_v 0) (a_cons e_int a_nil))) e_int) (s_one (s_ret (e_call (dd := []) (dvs := []) (ds := []) (G__law_row.mono (by omega)) hr hgd rfl C.g__law_row F__law_row.kp b__law_row .nil (fun _ _ _ => .nil) (L2N.takes_of rfl rfl rfl rfl) (a_cons (e_lcF (patOk_one (i := 3)) rfl rfl sc.nd (w_rng1 rfl C.f_range (a_cons (e_v 2) a_nil)) (blkOk_by (own := [("_law_at", 3)]) (N := N__law_drawn_row) (sc := (defScope (top 44))) (by decide +kernel)) (fun _ _ _ _ _ => (pg_name (i := 3) sc.nd rfl (by first | exact .inl rfl | exact .inr rfl))) (fun _ _ _ _ _ => ts_nil) (fun _ _ _ _ _ => (e_bin or_sub (e_call (dd := []) (dvs := []) (ds := []) (G__law_dip.mono (by omega)) hr hgd rfl C.g__law_dip F__law_dip.kp b__law_dip .nil (fun _ _ _ => .nil) takesF (a_cons (e_v 0) (a_cons (e_bin or_pow e_int e_int) a_nil))) (e_bin or_pow e_int e_int)))) a_nil)))) s_nil)
  (s_one (s_ret (e_call (dd := []) (dvs := []) (ds := []) (G__law_row.mono (by omega)) hr hgd rfl C.g__law_row F__law_row.kp b__law_row .nil (fun _ _ _ => .nil) (L2N.takes_of rfl rfl rfl rfl) (a_cons (e_lcF (patOk_one (i := 3)) rfl rfl sc.nd (w_rng1 rfl C.f_range (a_cons (e_v 2) a_nil)) (blkOk_by (own := [("_law_at", 3)]) (N := N__law_drawn_row) (sc := (defScope (top 44))) (by decide +kernel)) (fun _ _ _ _ _ => (pg_name (i := 3) sc.nd rfl (by first | exact .inl rfl | exact .inr rfl))) (fun _ _ _ _ _ => ts_nil) (fun _ _ _ _ _ => (e_bin or_sub (e_call (dd := []) (dvs := []) (ds := []) (G__law_dip.mono (by omega)) hr hgd rfl C.g__law_dip F__law_dip.kp b__law_dip .nil (fun _ _ _ => .nil) takesF (a_cons (e_v 0) (a_cons e_int a_nil))) e_int))) a_nil))))))
theorem ok__law_multiplied (C : Cn K mg) {fd : FuncData} (Fd : FunD K "_law_multiplied" "_law_multiplied" (defArgs (top 38)) (defBody (top 38)) (defScope (top 38)) [] [] (He.ga K "_law_multiplied") fd) : FnG P w K mg base 42 (He.ga K "_law_multiplied") fd ["_law_one", "_law_two"] (SPx K (gq P w K) k02__law_multiplied) := by
  have sc := sc__law_multiplied
  obtain ⟨fd__law_row, F__law_row⟩ := C.c.says.def_ 21 rfl
  have G__law_row := (ok__law_row (P := P) (w := w) (base := base) C F__law_row)
  have b__law_row : Binds K fd__law_row ["_law_row_here"] [] := F__law_row.bindsN fun _ _ _ _ _ _ us hl => match us, hl with | [_], _ => rfl
  refine (fn_ok (k := 41) (N := N__law_multiplied) (b := B_k02__law_multiplied) Fd sc fun cdv A outer s H E hr hgd => ?_)
  have hu := hr.units
  have hu1 : (A.deeper (envOfC "_law_multiplied" (defScope (top 38)) s.heap.objs.size (He.ga K "_law_multiplied") cdv)).units + (64 + 1) < cLine := by have := hr.un; omega
  unfold B_k02__law_multiplied
  exact (s_cons (s_set (i := 2) sc.nd rfl (by first | exact .inl rfl | exact .inr rfl) (e_bin (or_mul rfl) (e_lst (a_cons e_int a_nil)) (e_bin or_sub (e_bin (or_add rfl) (e_callB (cr_len rfl) rfl C.f_len (by decide +kernel) (a_cons (e_v 0) a_nil)) (e_callB (cr_len rfl) rfl C.f_len (by decide +kernel) (a_cons (e_v 1) a_nil))) e_int)))
  (s_cons (s_for (passes_of rfl) rfl (w_rng1 rfl C.f_range (a_cons (e_callB (cr_len rfl) rfl C.f_len (by decide +kernel) (a_cons (e_v 0) a_nil)) a_nil)) (g_name (i := 3) sc.nd rfl (by first | exact .inl rfl | exact .inr rfl)) (s_one (s_for (passes_of rfl) rfl (w_rng1 rfl C.f_range (a_cons (e_callB (cr_len rfl) rfl C.f_len (by decide +kernel) (a_cons (e_v 1) a_nil)) a_nil)) (g_name (i := 4) sc.nd rfl (by first | exact .inl rfl | exact .inr rfl)) (s_one (s_asg (e_bin (or_add rfl) (e_ix rfl (e_v 2) (e_bin (or_add rfl) (e_v 3) (e_v 4))) (e_bin or_mulA (e_ix rfl (e_v 0) (e_v 3)) (e_ix rfl (e_v 1) (e_v 4)))) (g_ix (e_v 2) (e_bin (or_add rfl) (e_v 3) (e_v 4))))))))
  (s_one (s_ret (e_call (dd := []) (dvs := []) (ds := []) (G__law_row.mono (by omega)) hr hgd rfl C.g__law_row F__law_row.kp b__law_row .nil (fun _ _ _ => .nil) (L2N.takes_of rfl rfl rfl rfl) (a_cons (e_v 2) a_nil))))))
theorem ok_Ratio___bool__ (C : Cn K mg) {fd : FuncData} (Fd : FunD K "__bool__" "Ratio.__bool__" (defArgs (inCls (top 27) 13)) (defBody (inCls (top 27) 13)) (defScope (inCls (top 27) 13)) [] [] (He.ma K (He.ga K "Ratio") "__bool__") fd) : FnG P w K mg base 41 (He.ma K (He.ga K "Ratio") "__bool__") fd ["self"] (SPx K (gq P w K) p_Ratio___bool__) := by
  have sc := sc_Ratio___bool__
  refine (fn_ok (k := 40) (N := N_Ratio___bool__) (b := B_p_Ratio___bool__) Fd sc fun cdv A outer s H E hr hgd => ?_)
  have hu := hr.units
  have hu1 : (A.deeper (envOfC "Ratio.__bool__" (defScope (inCls (top 27) 13)) s.heap.objs.size (He.ma K (He.ga K "Ratio") "__bool__") cdv)).units + (64 + 1) < cLine := by have := hr.un; omega
  unfold B_p_Ratio___bool__
  exact (s_one (s_ret (e_not rfl (e_cmp (or_eq rfl hu) (e_get rfl C.has_top (e_v 0)) (e_tup (a_cons e_int a_nil))))))
theorem ok_Ratio___repr__ (C : Cn K mg) {fd : FuncData} (Fd : FunD K "__repr__" "Ratio.__repr__" (defArgs (inCls (top 27) 16)) (defBody (inCls (top 27) 16)) (defScope (inCls (top 27) 16)) [] [] (He.ma K (He.ga K "Ratio") "__repr__") fd) : FnO P w K mg base 49 (He.ma K (He.ga K "Ratio") "__repr__") fd ["self"] (SPx K (gq P w K) p_Ratio___repr__) := by
  have sc := sc_Ratio___repr__
  obtain ⟨fd_Ratio___str__, F_Ratio___str__⟩ := C.c.says.def_ 14 rfl
  have G_Ratio___str__ := (ok_Ratio___str__ (P := P) (w := w) (base := base) C F_Ratio___str__)
  have b_Ratio___str__ : Binds K fd_Ratio___str__ ["self"] [] := F_Ratio___str__.bindsN fun _ _ _ _ _ _ us hl => match us, hl with | [_], _ => rfl
  refine (fno_ok (k := 48) (N := N_Ratio___repr__) (b := B_p_Ratio___repr__) Fd sc fun cdv A outer s H E hr => ?_)
  have hu := hr.units
  have hu1 : (A.deeper (envOfC "Ratio.__repr__" (defScope (inCls (top 27) 16)) s.heap.objs.size (He.ma K (He.ga K "Ratio") "__repr__") cdv)).units + (64 + 1) < cLine := by have := hr.un; omega
  unfold B_p_Ratio___repr__
  exact (s_one (s_ret (e_joined (.cons e_str (.cons (e_fmtI rfl hu C.fm_Ratio (ownM_O C.slot_str.1 C.slot_str.2 G_Ratio___str__ (hr.mono (by omega)) b_Ratio___str__) (e_v 0)) (.cons e_str .nil))))))
theorem ok__law_common (C : Cn K mg) {fd : FuncData} (Fd : FunD K "_law_common" "_law_common" (defArgs (top 42)) (defBody (top 42)) (defScope (top 42)) [] [] (He.ga K "_law_common") fd) : FnG P w K mg base 41 (He.ga K "_law_common") fd ["_law_one", "_law_two"] (SPx K (gq P w K) k02__law_common) := by
  have sc := sc__law_common
  refine (fn_ok (k := 40) (N := N__law_common) (b := B_k02__law_common) Fd sc fun cdv A outer s H E hr hgd => ?_)
  have hu := hr.units
  have hu1 : (A.deeper (envOfC "_law_common" (defScope (top 42)) s.heap.objs.size (He.ga K "_law_common") cdv)).units + (64 + 1) < cLine := by have := hr.un; omega
  unfold B_k02__law_common
  exact (s_cons (s_par (i := 0) (j := 1) rfl sc.nd rfl rfl (by decide) rfl rfl (a_cons (e_callB cr_abs rfl C.f_abs (by decide +kernel) (a_cons (e_v 0) a_nil)) (a_cons (e_callB cr_abs rfl C.f_abs (by decide +kernel) (a_cons (e_v 1) a_nil)) a_nil)) rfl)
  (s_cons (s_while (m := (mInt 1)) (passes_of rfl) (t_cmp (or_ne rfl hu) (e_v 1) e_int) (s_one (s_par (i := 0) (j := 1) rfl sc.nd rfl rfl (by decide) rfl rfl (a_cons (e_v 1) (a_cons (e_bin or_mod (e_v 0) (e_v 1)) a_nil)) rfl)))
  (s_one (s_ret (e_v 0)))))
theorem ok__law_rest (C : Cn K mg) (T : Sr P base) {fd : FuncData} (Fd : FunD K "_law_rest" "_law_rest" (defArgs (top 41)) (defBody (top 41)) (defScope (top 41)) [] [] (He.ga K "_law_rest") fd) : FnG P w K mg base 42 (He.ga K "_law_rest") fd ["_law_one", "_law_two"] (SPx K (gq P w K) k02__law_rest) := by
  have sc := sc__law_rest
  obtain ⟨fd__law_common, F__law_common⟩ := C.c.says.def_ 26 rfl
  have G__law_common := (ok__law_common (P := P) (w := w) (base := base) C F__law_common)
  have b__law_common : Binds K fd__law_common ["_law_one", "_law_two"] [] := F__law_common.bindsN fun _ _ _ _ _ _ us hl => match us, hl with | [_, _], _ => rfl
  obtain ⟨fd__law_row, F__law_row⟩ := C.c.says.def_ 21 rfl
  have G__law_row := (ok__law_row (P := P) (w := w) (base := base) C F__law_row)
  have b__law_row : Binds K fd__law_row ["_law_row_here"] [] := F__law_row.bindsN fun _ _ _ _ _ _ us hl => match us, hl with | [_], _ => rfl
  refine (fn_ok (k := 41) (N := N__law_rest) (b := B_k02__law_rest) Fd sc fun cdv A outer s H E hr hgd => ?_)
  have hu := hr.units
  have hu1 : (A.deeper (envOfC "_law_rest" (defScope (top 41)) s.heap.objs.size (He.ga K "_law_rest") cdv)).units + (64 + 1) < cLine := by have := hr.un; omega
  have S : SeerX (cxOf (L2N.CX P w) P w K mg base N__law_rest "_law_rest" (defScope (top 41)) (He.ga K "_law_rest") cdv A outer s H E) := seer_def T hr (by decide) (by kernel_rfl) (by kernel_rfl)
  unfold B_k02__law_rest
  exact (s_cons (s_set (i := 2) sc.nd rfl (by first | exact .inl rfl | exact .inr rfl) (e_callTy (cr_list rfl) rfl C.f_list (by decide +kernel) (a_cons (e_v 0) a_nil)))
  (s_cons (s_while (m := (mLen 2)) (passes_of rfl) (t_ws (w_and (t_cmp or_ge (e_callB (cr_len rfl) rfl C.f_len (by decide +kernel) (a_cons (e_v 2) a_nil)) (e_callB (cr_len rfl) rfl C.f_len (by decide +kernel) (a_cons (e_v 1) a_nil))) (w_and1 (t_cmp (or_ne rfl hu) (e_v 2) (e_lstF (a_cons e_int a_nil)))))) (s_cons (s_par (i := 3) (j := 4) rfl sc.nd rfl rfl (by decide) rfl rfl (a_cons (e_ix rfl (e_v 2) (e_un ur_neg e_int)) (a_cons (e_bin or_sub (e_callB (cr_len rfl) rfl C.f_len (by decide +kernel) (a_cons (e_v 2) a_nil)) (e_callB (cr_len rfl) rfl C.f_len (by decide +kernel) (a_cons (e_v 1) a_nil))) a_nil)) rfl)
  (s_cons (s_setLc (i := 2) (patOk_one (i := 7)) rfl rfl sc.nd rfl rfl (sw_true (by rfl) (by rfl) (by rfl) (by rfl)) (w_any rfl (e_v 2)) (blkOk_by (own := [("_law_factor", 7)]) (N := N__law_rest) (sc := (defScope (top 41))) (by decide +kernel)) (fun _ _ _ _ _ => (pg_name (i := 7) sc.nd rfl (by first | exact .inl rfl | exact .inr rfl))) (fun _ _ _ _ _ => ts_nil) (fun _ _ _ _ _ => (e_bin or_mulA (e_v 7) (e_ix rfl (e_v 1) (e_un ur_neg e_int)))))
  (s_cons (s_for (passes_of rfl) rfl (w_rng1 rfl C.f_range (a_cons (e_callB (cr_len rfl) rfl C.f_len (by decide +kernel) (a_cons (e_v 1) a_nil)) a_nil)) (g_name (i := 5) sc.nd rfl (by first | exact .inl rfl | exact .inr rfl)) (s_one (s_asg (e_bin or_sub (e_ix rfl (e_v 2) (e_bin (or_add rfl) (e_v 5) (e_v 4))) (e_bin or_mulA (e_v 3) (e_ix rfl (e_v 1) (e_v 5)))) (g_ix (e_v 2) (e_bin (or_add rfl) (e_v 5) (e_v 4))))))
  (s_cons (s_set (i := 2) sc.nd rfl (by first | exact .inl rfl | exact .inr rfl) (e_call (dd := []) (dvs := []) (ds := []) (G__law_row.mono (by omega)) hr hgd rfl C.g__law_row F__law_row.kp b__law_row .nil (fun _ _ _ => .nil) (L2N.takes_of rfl rfl rfl rfl) (a_cons (e_v 2) a_nil)))
  (s_cons (s_set (i := 6) sc.nd rfl (by first | exact .inl rfl | exact .inr rfl) e_int)
  (s_cons (s_for (passes_of rfl) rfl (w_any rfl (e_v 2)) (g_name (i := 7) sc.nd rfl (by first | exact .inl rfl | exact .inr rfl)) (s_one (s_set (i := 6) sc.nd rfl (by first | exact .inl rfl | exact .inr rfl) (e_call (dd := []) (dvs := []) (ds := []) (G__law_common.mono (by omega)) hr hgd rfl C.g__law_common F__law_common.kp b__law_common .nil (fun _ _ _ => .nil) (L2N.takes_of rfl rfl rfl rfl) (a_cons (e_v 6) (a_cons (e_v 7) a_nil))))))
  (s_one (s_setLc (i := 2) (patOk_one (i := 7)) rfl rfl sc.nd rfl rfl (sw_true (by rfl) (by rfl) (by rfl) (by rfl)) (w_any rfl (e_v 2)) (blkOk_by (own := [("_law_factor", 7)]) (N := N__law_rest) (sc := (defScope (top 41))) (by decide +kernel)) (fun _ _ _ _ _ => (pg_name (i := 7) sc.nd rfl (by first | exact .inl rfl | exact .inr rfl))) (fun _ _ _ _ _ => ts_nil) (fun _ _ _ _ _ => (e_bin (or_fdivA S) (e_v 7) (e_callB (cr_max rfl) rfl C.f_max (by decide +kernel) (a_cons e_int (a_cons (e_v 6) a_nil))))))))))))))
  (s_one (s_ret (e_v 2)))))
theorem ok__law_is_low (C : Cn K mg) (T : Sr P base) {fd : FuncData} (Fd : FunD K "_law_is_low" "_law_is_low" (defArgs (top 43)) (defBody (top 43)) (defScope (top 43)) [] [] (He.ga K "_law_is_low") fd) : FnG P w K mg base 43 (He.ga K "_law_is_low") fd ["_law_upper", "_law_lower"] (SPx K (gq P w K) k02__law_is_low) := by
  have sc := sc__law_is_low
  obtain ⟨fd__law_common, F__law_common⟩ := C.c.says.def_ 26 rfl
  have G__law_common := (ok__law_common (P := P) (w := w) (base := base) C F__law_common)
  have b__law_common : Binds K fd__law_common ["_law_one", "_law_two"] [] := F__law_common.bindsN fun _ _ _ _ _ _ us hl => match us, hl with | [_, _], _ => rfl
  obtain ⟨fd__law_rest, F__law_rest⟩ := C.c.says.def_ 27 rfl
  have G__law_rest := (ok__law_rest (P := P) (w := w) (base := base) C T F__law_rest)
  have b__law_rest : Binds K fd__law_rest ["_law_one", "_law_two"] [] := F__law_rest.bindsN fun _ _ _ _ _ _ us hl => match us, hl with | [_, _], _ => rfl
  refine (fn_ok (k := 42) (N := N__law_is_low) (b := B_k02__law_is_low) Fd sc fun cdv A outer s H E hr hgd => ?_)
  have hu := hr.units
  have hu1 : (A.deeper (envOfC "_law_is_low" (defScope (top 43)) s.heap.objs.size (He.ga K "_law_is_low") cdv)).units + (64 + 1) < cLine := by have := hr.un; omega
  unfold B_k02__law_is_low
  exact (s_cons (s_if (t_cmp (or_eq rfl hu) (e_v 0) (e_lstF (a_cons e_int a_nil))) (s_one (s_ret (e_cmp (or_eq rfl hu) (e_v 1) (e_lstF (a_cons e_int a_nil))))) s_nil)
  (s_cons (s_set (i := 2) sc.nd rfl (by first | exact .inl rfl | exact .inr rfl) e_int)
  (s_cons (s_for (passes_of rfl) rfl (w_any rfl (e_bin (or_add rfl) (e_v 0) (e_v 1))) (g_name (i := 3) sc.nd rfl (by first | exact .inl rfl | exact .inr rfl)) (s_one (s_set (i := 2) sc.nd rfl (by first | exact .inl rfl | exact .inr rfl) (e_call (dd := []) (dvs := []) (ds := []) (G__law_common.mono (by omega)) hr hgd rfl C.g__law_common F__law_common.kp b__law_common .nil (fun _ _ _ => .nil) (L2N.takes_of rfl rfl rfl rfl) (a_cons (e_v 2) (a_cons (e_v 3) a_nil))))))
  (s_cons (s_par (i := 4) (j := 5) rfl sc.nd rfl rfl (by decide) rfl rfl (a_cons (e_v 0) (a_cons (e_v 1) a_nil)) rfl)
  (s_cons (s_while (m := (fun _ _ => 60)) (passes_of rfl) (t_cmp (or_ne rfl hu) (e_v 5) (e_lstF (a_cons e_int a_nil))) (s_one (s_par (i := 4) (j := 5) rfl sc.nd rfl rfl (by decide) rfl rfl (a_cons (e_v 5) (a_cons (e_call (dd := []) (dvs := []) (ds := []) (G__law_rest.mono (by omega)) hr hgd rfl C.g__law_rest F__law_rest.kp b__law_rest .nil (fun _ _ _ => .nil) (L2N.takes_of rfl rfl rfl rfl) (a_cons (e_v 4) (a_cons (e_v 5) a_nil))) a_nil)) rfl)))
  (s_one (s_ret (e_and rfl (e_cmp (or_eq rfl hu) (e_v 2) e_int) (e_and rfl (e_cmp or_gt (e_ix rfl (e_v 1) (e_un ur_neg e_int)) e_int) (e_one (e_cmp (or_eq rfl hu) (e_callB (cr_len rfl) rfl C.f_len (by decide +kernel) (a_cons (e_v 4) a_nil)) e_int)))))))))))
theorem ok__law_poly_text (C : Cn K mg) {fd : FuncData} (Fd : FunD K "_law_poly_text" "_law_poly_text" (defArgs (top 39)) (defBody (top 39)) (defScope (top 39)) [] [] (He.ga K "_law_poly_text") fd) : FnG P w K mg base 41 (He.ga K "_law_poly_text") fd ["_law_row_here"] (SPx K (gq P w K) k02__law_poly_text) := by
  have sc := sc__law_poly_text
  refine (fn_ok (k := 40) (N := N__law_poly_text) (b := B_k02__law_poly_text) Fd sc fun cdv A outer s H E hr hgd => ?_)
  have hu := hr.units
  have hu1 : (A.deeper (envOfC "_law_poly_text" (defScope (top 39)) s.heap.objs.size (He.ga K "_law_poly_text") cdv)).units + (64 + 1) < cLine := by have := hr.un; omega
  unfold B_k02__law_poly_text
  exact (s_cons (s_set (i := 1) sc.nd rfl (by first | exact .inl rfl | exact .inr rfl) e_str)
  (s_cons (s_for (passes_of rfl) rfl (w_rng3 rfl C.f_range (a_cons (e_bin or_sub (e_callB (cr_len rfl) rfl C.f_len (by decide +kernel) (a_cons (e_v 0) a_nil)) e_int) (a_cons (e_un ur_neg e_int) (a_cons (e_un ur_neg e_int) a_nil)))) (g_name (i := 2) sc.nd rfl (by first | exact .inl rfl | exact .inr rfl)) (s_cons (s_set (i := 3) sc.nd rfl (by first | exact .inl rfl | exact .inr rfl) (e_ix rfl (e_v 0) (e_v 2)))
  (s_one (s_if (t_cmp (or_ne rfl hu) (e_v 3) e_int) (s_cons (s_set (i := 4) sc.nd rfl (by first | exact .inl rfl | exact .inr rfl) (e_if (t_cmp (or_eq rfl hu) (e_v 2) e_int) e_str (e_if (t_cmp (or_eq rfl hu) (e_v 2) e_int) e_str (e_bin (or_add rfl) e_str (e_callTy cr_strS rfl C.f_str (by decide +kernel) (a_cons (e_v 2) a_nil))))))
  (s_cons (s_if (t_ws (w_or (t_cmp (or_eq rfl hu) (e_v 2) e_int) (w_or1 (t_cmp (or_ne rfl hu) (e_callB cr_abs rfl C.f_abs (by decide +kernel) (a_cons (e_v 3) a_nil)) e_int)))) (s_one (s_set (i := 4) sc.nd rfl (by first | exact .inl rfl | exact .inr rfl) (e_bin (or_add rfl) (e_bin (or_add rfl) (e_callTy cr_strS rfl C.f_str (by decide +kernel) (a_cons (e_callB cr_abs rfl C.f_abs (by decide +kernel) (a_cons (e_v 3) a_nil)) a_nil)) (e_if (t_cmp or_gt (e_v 2) e_int) e_str e_str)) (e_v 4)))) s_nil)
  (s_cons (s_set (i := 5) sc.nd rfl (by first | exact .inl rfl | exact .inr rfl) (e_if (t_cmp or_lt (e_v 3) e_int) e_str e_str))
  (s_cons (s_if (t_cmp (or_ne rfl hu) (e_v 1) e_str) (s_one (s_set (i := 5) sc.nd rfl (by first | exact .inl rfl | exact .inr rfl) (e_if (t_cmp or_lt (e_v 3) e_int) e_str e_str))) s_nil)
  (s_one (s_set (i := 1) sc.nd rfl (by first | exact .inl rfl | exact .inr rfl) (e_bin (or_add rfl) (e_bin (or_add rfl) (e_v 1) (e_v 5)) (e_v 4)))))))) s_nil))))
  (s_one (s_ret (e_if (t_cmp (or_ne rfl hu) (e_v 1) e_str) (e_v 1) e_str)))))
theorem ok__law_ratio_text (C : Cn K mg) {fd : FuncData} (Fd : FunD K "_law_ratio_text" "_law_ratio_text" (defArgs (top 40)) (defBody (top 40)) (defScope (top 40)) [] [] (He.ga K "_law_ratio_text") fd) : FnG P w K mg base 42 (He.ga K "_law_ratio_text") fd ["_law_upper", "_law_lower"] (SPx K (gq P w K) k02__law_ratio_text) := by
  have sc := sc__law_ratio_text
  obtain ⟨fd__law_poly_text, F__law_poly_text⟩ := C.c.says.def_ 29 rfl
  have G__law_poly_text := (ok__law_poly_text (P := P) (w := w) (base := base) C F__law_poly_text)
  have b__law_poly_text : Binds K fd__law_poly_text ["_law_row_here"] [] := F__law_poly_text.bindsN fun _ _ _ _ _ _ us hl => match us, hl with | [_], _ => rfl
  refine (fn_ok (k := 41) (N := N__law_ratio_text) (b := B_k02__law_ratio_text) Fd sc fun cdv A outer s H E hr hgd => ?_)
  have hu := hr.units
  have hu1 : (A.deeper (envOfC "_law_ratio_text" (defScope (top 40)) s.heap.objs.size (He.ga K "_law_ratio_text") cdv)).units + (64 + 1) < cLine := by have := hr.un; omega
  unfold B_k02__law_ratio_text
  exact (s_cons (s_if (t_cmp (or_eq rfl hu) (e_v 1) (e_lstF (a_cons e_int a_nil))) (s_one (s_ret (e_call (dd := []) (dvs := []) (ds := []) (G__law_poly_text.mono (by omega)) hr hgd rfl C.g__law_poly_text F__law_poly_text.kp b__law_poly_text .nil (fun _ _ _ => .nil) (L2N.takes_of rfl rfl rfl rfl) (a_cons (e_v 0) a_nil)))) s_nil)
  (s_one (s_ret (e_bin (or_add rfl) (e_bin (or_add rfl) (e_bin (or_add rfl) (e_bin (or_add rfl) e_str (e_call (dd := []) (dvs := []) (ds := []) (G__law_poly_text.mono (by omega)) hr hgd rfl C.g__law_poly_text F__law_poly_text.kp b__law_poly_text .nil (fun _ _ _ => .nil) (L2N.takes_of rfl rfl rfl rfl) (a_cons (e_v 0) a_nil))) e_str) (e_call (dd := []) (dvs := []) (ds := []) (G__law_poly_text.mono (by omega)) hr hgd rfl C.g__law_poly_text F__law_poly_text.kp b__law_poly_text .nil (fun _ _ _ => .nil) (L2N.takes_of rfl rfl rfl rfl) (a_cons (e_v 1) a_nil))) e_str))))
theorem ok__law_seen_right (C : Cn K mg) (T : Sr P base) {fd : FuncData} (Fd : FunD K "_law_seen_right" "_law_seen_right" (defArgs (top 45)) (defBody (top 45)) (defScope (top 45)) [] [] (He.ga K "_law_seen_right") fd) : FnG P w K mg base 51 (He.ga K "_law_seen_right") fd ["_law_ratio", "_law_upper", "_law_lower"] (SPx K (gq P w K) k02__law_seen_right) := by
  have sc := sc__law_seen_right
  obtain ⟨fd_Ratio___bool__, F_Ratio___bool__⟩ := C.c.says.def_ 24 rfl
  have G_Ratio___bool__ := (ok_Ratio___bool__ (P := P) (w := w) (base := base) C F_Ratio___bool__)
  have b_Ratio___bool__ : Binds K fd_Ratio___bool__ ["self"] [] := F_Ratio___bool__.bindsN fun _ _ _ _ _ _ us hl => match us, hl with | [_], _ => rfl
  obtain ⟨fd_Ratio___repr__, F_Ratio___repr__⟩ := C.c.says.def_ 25 rfl
  have G_Ratio___repr__ := (ok_Ratio___repr__ (P := P) (w := w) (base := base) C F_Ratio___repr__).toG
  have b_Ratio___repr__ : Binds K fd_Ratio___repr__ ["self"] [] := F_Ratio___repr__.bindsN fun _ _ _ _ _ _ us hl => match us, hl with | [_], _ => rfl
  obtain ⟨fd_Ratio___str__, F_Ratio___str__⟩ := C.c.says.def_ 14 rfl
  have G_Ratio___str__ := (ok_Ratio___str__ (P := P) (w := w) (base := base) C F_Ratio___str__).toG
  have b_Ratio___str__ : Binds K fd_Ratio___str__ ["self"] [] := F_Ratio___str__.bindsN fun _ _ _ _ _ _ us hl => match us, hl with | [_], _ => rfl
  obtain ⟨fd__law_is_low, F__law_is_low⟩ := C.c.says.def_ 28 rfl
  have G__law_is_low := (ok__law_is_low (P := P) (w := w) (base := base) C T F__law_is_low)
  have b__law_is_low : Binds K fd__law_is_low ["_law_upper", "_law_lower"] [] := F__law_is_low.bindsN fun _ _ _ _ _ _ us hl => match us, hl with | [_, _], _ => rfl
  obtain ⟨fd__law_multiplied, F__law_multiplied⟩ := C.c.says.def_ 23 rfl
  have G__law_multiplied := (ok__law_multiplied (P := P) (w := w) (base := base) C F__law_multiplied)
  have b__law_multiplied : Binds K fd__law_multiplied ["_law_one", "_law_two"] [] := F__law_multiplied.bindsN fun _ _ _ _ _ _ us hl => match us, hl with | [_, _], _ => rfl
  obtain ⟨fd__law_ratio_text, F__law_ratio_text⟩ := C.c.says.def_ 30 rfl
  have G__law_ratio_text := (ok__law_ratio_text (P := P) (w := w) (base := base) C F__law_ratio_text)
  have b__law_ratio_text : Binds K fd__law_ratio_text ["_law_upper", "_law_lower"] [] := F__law_ratio_text.bindsN fun _ _ _ _ _ _ us hl => match us, hl with | [_, _], _ => rfl
  obtain ⟨fd__law_row, F__law_row⟩ := C.c.says.def_ 21 rfl
  have G__law_row := (ok__law_row (P := P) (w := w) (base := base) C F__law_row)
  have b__law_row : Binds K fd__law_row ["_law_row_here"] [] := F__law_row.bindsN fun _ _ _ _ _ _ us hl => match us, hl with | [_], _ => rfl
  refine (fn_ok (k := 50) (N := N__law_seen_right) (b := B_k02__law_seen_right) Fd sc fun cdv A outer s H E hr hgd => ?_)
  have hu := hr.units
  have hu1 : (A.deeper (envOfC "_law_seen_right" (defScope (top 45)) s.heap.objs.size (He.ga K "_law_seen_right") cdv)).units + (64 + 1) < cLine := by have := hr.un; omega
  unfold B_k02__law_seen_right
  exact (s_cons (s_if (t_ws (w_or (t_not (t_tru rfl (e_callB (cr_isiI rfl C.isa_Ratio C.ins_Ratio) rfl C.f_isinstance (by decide +kernel) (a_cons (e_v 0) (a_cons (e_glo rfl C.g_Ratio) a_nil))))) (w_or (t_not (t_tru rfl (e_callB (cr_isiI rfl C.isa_tuple C.ins_Ratio) rfl C.f_isinstance (by decide +kernel) (a_cons (e_get rfl C.has_top (e_v 0)) (a_cons (e_bty rfl C.f_tuple (by decide +kernel)) a_nil))))) (w_or1 (t_not (t_tru rfl (e_callB (cr_isiI rfl C.isa_tuple C.ins_Ratio) rfl C.f_isinstance (by decide +kernel) (a_cons (e_get rfl C.has_bottom (e_v 0)) (a_cons (e_bty rfl C.f_tuple (by decide +kernel)) a_nil))))))))) (s_one (s_ret e_bl)) s_nil)
  (s_cons (s_par (i := 3) (j := 4) rfl sc.nd rfl rfl (by decide) rfl rfl (a_cons (e_callTy (cr_listF rfl) rfl C.f_list (by decide +kernel) (a_cons (e_get rfl C.has_top (e_v 0)) a_nil)) (a_cons (e_callTy (cr_listF rfl) rfl C.f_list (by decide +kernel) (a_cons (e_get rfl C.has_bottom (e_v 0)) a_nil)) a_nil)) rfl)
  (s_cons (s_if (t_ws (w_or (t_cmp (or_ne rfl hu) (e_v 3) (e_call (dd := []) (dvs := []) (ds := []) (G__law_row.mono (by omega)) hr hgd rfl C.g__law_row F__law_row.kp b__law_row .nil (fun _ _ _ => .nil) (L2N.takes_of rfl rfl rfl rfl) (a_cons (e_v 3) a_nil))) (w_or1 (t_cmp (or_ne rfl hu) (e_v 4) (e_call (dd := []) (dvs := []) (ds := []) (G__law_row.mono (by omega)) hr hgd rfl C.g__law_row F__law_row.kp b__law_row .nil (fun _ _ _ => .nil) (L2N.takes_of rfl rfl rfl rfl) (a_cons (e_v 4) a_nil)))))) (s_one (s_ret e_bl)) s_nil)
  (s_cons (s_if (t_not (t_tru rfl (e_call (dd := []) (dvs := []) (ds := []) (G__law_is_low.mono (by omega)) hr hgd rfl C.g__law_is_low F__law_is_low.kp b__law_is_low .nil (fun _ _ _ => .nil) (L2N.takes_of rfl rfl rfl rfl) (a_cons (e_v 3) (a_cons (e_v 4) a_nil))))) (s_one (s_ret e_bl)) s_nil)
  (s_cons (s_if (t_cmp (or_ne rfl hu) (e_call (dd := []) (dvs := []) (ds := []) (G__law_multiplied.mono (by omega)) hr hgd rfl C.g__law_multiplied F__law_multiplied.kp b__law_multiplied .nil (fun _ _ _ => .nil) (L2N.takes_of rfl rfl rfl rfl) (a_cons (e_v 3) (a_cons (e_v 2) a_nil))) (e_call (dd := []) (dvs := []) (ds := []) (G__law_multiplied.mono (by omega)) hr hgd rfl C.g__law_multiplied F__law_multiplied.kp b__law_multiplied .nil (fun _ _ _ => .nil) (L2N.takes_of rfl rfl rfl rfl) (a_cons (e_v 4) (a_cons (e_v 1) a_nil)))) (s_one (s_ret e_bl)) s_nil)
  (s_cons (s_set (i := 5) sc.nd rfl (by first | exact .inl rfl | exact .inr rfl) (e_call (dd := []) (dvs := []) (ds := []) (G__law_ratio_text.mono (by omega)) hr hgd rfl C.g__law_ratio_text F__law_ratio_text.kp b__law_ratio_text .nil (fun _ _ _ => .nil) (L2N.takes_of rfl rfl rfl rfl) (a_cons (e_v 3) (a_cons (e_v 4) a_nil))))
  (s_one (s_ret (e_cmp (or_eq rfl hu) (e_lstF (a_cons (e_callTy (cr_strI (k := 43) rfl C.slot_str.1 C.slot_str.2 G_Ratio___str__ (hr.mono (by omega)) hgd b_Ratio___str__) rfl C.f_str (by decide +kernel) (a_cons (e_v 0) a_nil)) (a_cons (e_callB (cr_reprI (k := 49) rfl hu1 C.slot_repr.1 C.slot_repr.2 G_Ratio___repr__ (hr.mono (by omega)) hgd b_Ratio___repr__) rfl C.f_repr (by decide +kernel) (a_cons (e_v 0) a_nil)) (a_cons (e_callTy (cr_boolI (k := 41) rfl C.bo_Ratio.1 C.bo_Ratio.2 G_Ratio___bool__ (hr.mono (by omega)) hgd b_Ratio___bool__) rfl C.f_bool (by decide +kernel) (a_cons (e_v 0) a_nil)) a_nil)))) (e_lstF (a_cons (e_v 5) (a_cons (e_bin (or_add rfl) (e_bin (or_add rfl) e_str (e_v 5)) e_str) (a_cons (e_cmp (or_ne rfl hu) (e_v 1) (e_lstF (a_cons e_int a_nil))) a_nil)))))))))))))
theorem ok__law_right (C : Cn K mg) (T : Sr P base) {fd : FuncData} (Fd : FunD K "_law_right" "_law_right" (defArgs (top 46)) (defBody (top 46)) (defScope (top 46)) [] [] (He.ga K "_law_right") fd) : FnG P w K mg base 52 (He.ga K "_law_right") fd ["_law_well_here"] (SPx K (gq P w K) k02__law_right) := by
  have sc := sc__law_right
  obtain ⟨fd_Ratio___eq__, F_Ratio___eq__⟩ := C.c.says.def_ 0 rfl
  have G_Ratio___eq__ := (ok_Ratio___eq__ (P := P) (w := w) (base := base) C F_Ratio___eq__)
  have b_Ratio___eq__ : Binds K fd_Ratio___eq__ ["self", "other"] [] := F_Ratio___eq__.bindsN fun _ _ _ _ _ _ us hl => match us, hl with | [_, _], _ => rfl
  obtain ⟨fd_Ratio___init__, F_Ratio___init__⟩ := C.c.says.def_ 11 rfl
  have G_Ratio___init__ := (ok_Ratio___init__ (P := P) (w := w) (base := base) C T F_Ratio___init__)
  replace F_Ratio___init__ : FunD K "__init__" "Ratio.__init__" (defArgs (inCls (top 27) 0)) (defBody (inCls (top 27) 0)) (defScope (inCls (top 27) 0)) (([.adr (dfA "Ratio" "__init__" 0)] : List He.Dv).map (He.Dv.v K)) [] (He.ma K (He.ga K "Ratio") "__init__") fd_Ratio___init__ := F_Ratio___init__
  obtain ⟨fd_Ratio___str__, F_Ratio___str__⟩ := C.c.says.def_ 14 rfl
  have G_Ratio___str__ := (ok_Ratio___str__ (P := P) (w := w) (base := base) C F_Ratio___str__).toG
  have b_Ratio___str__ : Binds K fd_Ratio___str__ ["self"] [] := F_Ratio___str__.bindsN fun _ _ _ _ _ _ us hl => match us, hl with | [_], _ => rfl
  obtain ⟨P_Ratio_read, fd_Ratio_read, F_Ratio_read⟩ := C.c.stat 0 rfl
  have G_Ratio_read := (ok_Ratio_read (P := P) (w := w) (base := base) C T F_Ratio_read)
  have b_Ratio_read : Binds K fd_Ratio_read ["text"] [] := F_Ratio_read.bindsN fun _ _ _ _ _ _ us hl => match us, hl with | [_], _ => rfl
  obtain ⟨fd__law_any, F__law_any⟩ := C.c.says.def_ 20 rfl
  have G__law_any := (ok__law_any (P := P) (w := w) (base := base) C F__law_any)
  have b__law_any : Binds K fd__law_any ["_law_well_here", "_law_things"] [] := F__law_any.bindsN fun _ _ _ _ _ _ us hl => match us, hl with | [_, _], _ => rfl
  obtain ⟨fd__law_dip, F__law_dip⟩ := C.c.says.def_ 19 rfl
  have G__law_dip := (ok__law_dip (P := P) (w := w) (base := base) C F__law_dip)
  have b__law_dip : Binds K fd__law_dip ["_law_well_here", "_law_many"] [] := F__law_dip.bindsN fun _ _ _ _ _ _ us hl => match us, hl with | [_, _], _ => rfl
  obtain ⟨fd__law_drawn_row, F__law_drawn_row⟩ := C.c.says.def_ 22 rfl
  have G__law_drawn_row := (ok__law_drawn_row (P := P) (w := w) (base := base) C F__law_drawn_row)
  have b__law_drawn_row : Binds K fd__law_drawn_row ["_law_well_here", "_law_most"] [] := F__law_drawn_row.bindsN fun _ _ _ _ _ _ us hl => match us, hl with | [_, _], _ => rfl
  obtain ⟨fd__law_multiplied, F__law_multiplied⟩ := C.c.says.def_ 23 rfl
  have G__law_multiplied := (ok__law_multiplied (P := P) (w := w) (base := base) C F__law_multiplied)
  have b__law_multiplied : Binds K fd__law_multiplied ["_law_one", "_law_two"] [] := F__law_multiplied.bindsN fun _ _ _ _ _ _ us hl => match us, hl with | [_, _], _ => rfl
  obtain ⟨fd__law_row, F__law_row⟩ := C.c.says.def_ 21 rfl
  have G__law_row := (ok__law_row (P := P) (w := w) (base := base) C F__law_row)
  have b__law_row : Binds K fd__law_row ["_law_row_here"] [] := F__law_row.bindsN fun _ _ _ _ _ _ us hl => match us, hl with | [_], _ => rfl
  obtain ⟨fd__law_seen_right, F__law_seen_right⟩ := C.c.says.def_ 31 rfl
  have G__law_seen_right := (ok__law_seen_right (P := P) (w := w) (base := base) C T F__law_seen_right)
  have b__law_seen_right : Binds K fd__law_seen_right ["_law_ratio", "_law_upper", "_law_lower"] [] := F__law_seen_right.bindsN fun _ _ _ _ _ _ us hl => match us, hl with | [_, _, _], _ => rfl
  have nk_Ratio___init___0_bottom_top := kbn_pickF (ps := ["self", "top", "bottom"]) F_Ratio___init__ 1 ["bottom", "top"] [0, 2, 1] (List.cons_ne_nil _ _) fun _ _ _ _ _ _ _ us its ws h1 h2 h3 => match us, its, ws, h1, h2, h3 with | [_], [_], [_, _], _, _, _ => by refine ⟨_, rfl, ?_⟩; rfl
  have nk_Ratio___init___2_ := kbn_pickF (ps := ["self", "top", "bottom"]) F_Ratio___init__ 3 [] [0, 1, 2] (List.cons_ne_nil _ _) fun _ _ _ _ _ _ _ us its ws h1 h2 h3 => match us, its, ws, h1, h2, h3 with | [_, _, _], [_], [], _, _, _ => by refine ⟨_, rfl, ?_⟩; rfl
  obtain ⟨itd_Ratio___init__, dk_Ratio___init___1⟩ := kbn_pickD (ps := ["self", "top", "bottom"]) F_Ratio___init__ 2 [] [0, 1, 2] (List.cons_ne_nil _ _) fun _ _ _ _ _ _ _ us its ws h1 h2 h3 => match us, its, ws, h1, h2, h3 with | [_, _], [_], [], _, _, _ => by refine ⟨_, rfl, ?_⟩; rfl
  obtain ⟨its_Ratio_read, sk_Ratio_read_text⟩ := kbn_pick0 (ps := ["text"]) F_Ratio_read 0 ["text"] [0] fun _ _ _ _ _ _ us ws h1 h2 => match us, ws, h1, h2 with | [], [_], _, _ => rfl
  refine (fn_ok (k := 51) (N := N__law_right) (b := B_k02__law_right) Fd sc fun cdv A outer s H E hr hgd => ?_)
  have hu := hr.units
  have hu1 : (A.deeper (envOfC "_law_right" (defScope (top 46)) s.heap.objs.size (He.ga K "_law_right") cdv)).units + (64 + 1) < cLine := by have := hr.un; omega
  unfold B_k02__law_right
  exact (s_cons (s_asg (e_lcF (patOk_one (i := 11)) rfl rfl sc.nd (w_rng1 rfl C.f_range (a_cons e_int a_nil)) (blkOk_by (own := [("_law_turn", 11)]) (N := N__law_right) (sc := (defScope (top 46))) (by decide +kernel)) (fun _ _ _ _ _ => (pg_name (i := 11) sc.nd rfl (by first | exact .inl rfl | exact .inr rfl))) (fun _ _ _ _ _ => ts_nil) (fun _ _ _ _ _ => (e_call (dd := []) (dvs := []) (ds := []) (G__law_drawn_row.mono (by omega)) hr hgd rfl C.g__law_drawn_row F__law_drawn_row.kp b__law_drawn_row .nil (fun _ _ _ => .nil) takesF (a_cons (e_v 0) (a_cons e_int a_nil))))) (g_tup (n := 3) rfl rfl (gs_name (i := 1) sc.nd rfl (by first | exact .inl rfl | exact .inr rfl) (gs_name (i := 2) sc.nd rfl (by first | exact .inl rfl | exact .inr rfl) (gs_name (i := 3) sc.nd rfl (by first | exact .inl rfl | exact .inr rfl) gs_nil gsNil_ne) (gsVar_ne gsNil_ne)) (gsVar_ne (gsVar_ne gsNil_ne)))))
  (s_cons (s_set (i := 2) sc.nd rfl (by first | exact .inl rfl | exact .inr rfl) (e_if (t_cmp (or_ne rfl hu) (e_v 2) (e_lstF (a_cons e_int a_nil))) (e_v 2) (e_lstF (a_cons (e_call (dd := []) (dvs := []) (ds := []) (G__law_any.mono (by omega)) hr hgd rfl C.g__law_any F__law_any.kp b__law_any .nil (fun _ _ _ => .nil) (L2N.takes_of rfl rfl rfl rfl) (a_cons (e_v 0) (a_cons (e_lstF (a_cons e_int (a_cons (e_un ur_neg e_int) (a_cons e_int a_nil)))) a_nil))) a_nil))))
  (s_cons (s_set (i := 3) sc.nd rfl (by first | exact .inl rfl | exact .inr rfl) (e_if (t_cmp (or_ne rfl hu) (e_v 3) (e_lstF (a_cons e_int a_nil))) (e_v 3) (e_lstF (a_cons e_int a_nil))))
  (s_cons (s_set (i := 4) sc.nd rfl (by first | exact .inl rfl | exact .inr rfl) (e_bin (or_mulZ rfl) (e_tup (a_cons e_int a_nil)) (e_call (dd := []) (dvs := []) (ds := []) (G__law_dip.mono (by omega)) hr hgd rfl C.g__law_dip F__law_dip.kp b__law_dip .nil (fun _ _ _ => .nil) (L2N.takes_of rfl rfl rfl rfl) (a_cons (e_v 0) (a_cons e_int a_nil)))))
  (s_cons (s_set (i := 5) sc.nd rfl (by first | exact .inl rfl | exact .inr rfl) (e_newP (k := 46) (n := 2) (perm := [0, 1, 2]) C.mk_Ratio G_Ratio___init__ (hr.mono (by omega)) hgd rfl C.g_Ratio nk_Ratio___init___2_ (L2N.takes_of rfl rfl rfl rfl) (a_cons (e_bin (or_add rfl) (e_callTy (cr_tuple rfl) rfl C.f_tuple (by decide +kernel) (a_cons (e_v 1) a_nil)) (e_v 4)) (a_cons (e_bin (or_add rfl) (e_callTy (cr_tuple rfl) rfl C.f_tuple (by decide +kernel) (a_cons (e_v 2) a_nil)) (e_v 4)) a_nil))))
  (s_cons (s_set (i := 6) sc.nd rfl (by first | exact .inl rfl | exact .inr rfl) (e_newPK (k := 46) (ks := ["bottom", "top"]) (perm := [0, 2, 1]) C.mk_Ratio G_Ratio___init__ (hr.mono (by omega)) hgd rfl C.g_Ratio nk_Ratio___init___0_bottom_top (L2N.takes_of rfl rfl rfl rfl) (k_cons (e_callTy (cr_tuple rfl) rfl C.f_tuple (by decide +kernel) (a_cons (e_call (dd := []) (dvs := []) (ds := []) (G__law_multiplied.mono (by omega)) hr hgd rfl C.g__law_multiplied F__law_multiplied.kp b__law_multiplied .nil (fun _ _ _ => .nil) (L2N.takes_of rfl rfl rfl rfl) (a_cons (e_v 2) (a_cons (e_v 3) a_nil))) a_nil)) (k_cons (e_callTy (cr_tuple rfl) rfl C.f_tuple (by decide +kernel) (a_cons (e_call (dd := []) (dvs := []) (ds := []) (G__law_multiplied.mono (by omega)) hr hgd rfl C.g__law_multiplied F__law_multiplied.kp b__law_multiplied .nil (fun _ _ _ => .nil) (L2N.takes_of rfl rfl rfl rfl) (a_cons (e_v 1) (a_cons (e_v 3) a_nil))) a_nil)) k_nil))))
  (s_cons (s_if (t_ws (w_or (t_not (t_tru rfl (e_call (dd := []) (dvs := []) (ds := []) (G__law_seen_right.mono (by omega)) hr hgd rfl C.g__law_seen_right F__law_seen_right.kp b__law_seen_right .nil (fun _ _ _ => .nil) (L2N.takes_of rfl rfl rfl rfl) (a_cons (e_v 5) (a_cons (e_v 1) (a_cons (e_v 2) a_nil)))))) (w_or1 (t_not (t_tru rfl (e_call (dd := []) (dvs := []) (ds := []) (G__law_seen_right.mono (by omega)) hr hgd rfl C.g__law_seen_right F__law_seen_right.kp b__law_seen_right .nil (fun _ _ _ => .nil) (L2N.takes_of rfl rfl rfl rfl) (a_cons (e_v 6) (a_cons (e_v 1) (a_cons (e_v 2) a_nil))))))))) (s_one (s_ret e_bl)) s_nil)
  (s_cons (s_if (t_not (t_tru rfl (e_call (dd := []) (dvs := []) (ds := []) (G__law_seen_right.mono (by omega)) hr hgd rfl C.g__law_seen_right F__law_seen_right.kp b__law_seen_right .nil (fun _ _ _ => .nil) (L2N.takes_of rfl rfl rfl rfl) (a_cons (e_newD (k := 46) (n := 1) (perm := [0, 1, 2]) (dd := [.tup [.int 1]]) C.mk_Ratio G_Ratio___init__ (hr.mono (by omega)) hgd rfl C.g_Ratio dk_Ratio___init___1 (fun W hWk hWg => (.cons (dtB_rv (by rw [hWk]; exact congrArg GG.f hWg) (by rw [hWk]; exact C.dtb_Ratio___init___0) rfl) .nil)) (L2N.takes_of rfl rfl rfl rfl) (a_cons (e_callTy (cr_tuple rfl) rfl C.f_tuple (by decide +kernel) (a_cons (e_v 1) a_nil)) a_nil)) (a_cons (e_v 1) (a_cons (e_lstF (a_cons e_int a_nil)) a_nil)))))) (s_one (s_ret e_bl)) s_nil)
  (s_cons (s_if (t_not (t_tru rfl (e_call (dd := []) (dvs := []) (ds := []) (G__law_seen_right.mono (by omega)) hr hgd rfl C.g__law_seen_right F__law_seen_right.kp b__law_seen_right .nil (fun _ _ _ => .nil) (L2N.takes_of rfl rfl rfl rfl) (a_cons (e_statK (C := "Ratio") (ks := ["text"]) (perm := [0]) rfl P_Ratio_read F_Ratio_read.kp (G_Ratio_read.mono (by omega)) hr hgd sk_Ratio_read_text (L2N.takes_of rfl rfl rfl rfl) rfl C.g_Ratio (k_cons (e_callTy (cr_strI (k := 43) rfl C.slot_str.1 C.slot_str.2 G_Ratio___str__ (hr.mono (by omega)) hgd b_Ratio___str__) rfl C.f_str (by decide +kernel) (a_cons (e_v 5) a_nil)) k_nil)) (a_cons (e_v 1) (a_cons (e_v 2) a_nil)))))) (s_one (s_ret e_bl)) s_nil)
  (s_cons (s_set (i := 7) sc.nd rfl (by first | exact .inl rfl | exact .inr rfl) (e_newP (k := 46) (n := 2) (perm := [0, 1, 2]) C.mk_Ratio G_Ratio___init__ (hr.mono (by omega)) hgd rfl C.g_Ratio nk_Ratio___init___2_ (L2N.takes_of rfl rfl rfl rfl) (a_cons (e_callTy (cr_tuple rfl) rfl C.f_tuple (by decide +kernel) (a_cons (e_call (dd := []) (dvs := []) (ds := []) (G__law_row.mono (by omega)) hr hgd rfl C.g__law_row F__law_row.kp b__law_row .nil (fun _ _ _ => .nil) (L2N.takes_of rfl rfl rfl rfl) (a_cons (e_bin (or_add rfl) (e_lstF (a_cons (e_bin (or_add rfl) (e_ix rfl (e_v 1) e_int) (e_ix rfl (e_v 2) e_int)) a_nil)) (e_sl rfl (e_v 1) (o_some e_int) o_none)) a_nil)) a_nil)) (a_cons (e_callTy (cr_tuple rfl) rfl C.f_tuple (by decide +kernel) (a_cons (e_v 2) a_nil)) a_nil))))
  (s_cons (s_set (i := 8) sc.nd rfl (by first | exact .inl rfl | exact .inr rfl) (e_lstF (a_cons (e_cmp (or_eqI (k := 41) rfl hu C.eqc G_Ratio___eq__ (hr.mono (by omega)) hgd b_Ratio___eq__) (e_v 5) (e_v 6)) (a_cons (e_cmp (or_neI (k := 41) rfl hu C.eqc G_Ratio___eq__ (hr.mono (by omega)) hgd b_Ratio___eq__) (e_v 5) (e_v 6)) (a_cons (e_cmp (or_eqI (k := 41) rfl hu C.eqc G_Ratio___eq__ (hr.mono (by omega)) hgd b_Ratio___eq__) (e_v 5) (e_stat (C := "Ratio") rfl P_Ratio_read F_Ratio_read.kp (G_Ratio_read.mono (by omega)) hr hgd b_Ratio_read (L2N.takes_of rfl rfl rfl rfl) rfl C.g_Ratio (a_cons (e_callTy (cr_strI (k := 43) rfl C.slot_str.1 C.slot_str.2 G_Ratio___str__ (hr.mono (by omega)) hgd b_Ratio___str__) rfl C.f_str (by decide +kernel) (a_cons (e_v 5) a_nil)) a_nil))) (a_cons (e_cmp (or_eqI (k := 41) rfl hu C.eqc G_Ratio___eq__ (hr.mono (by omega)) hgd b_Ratio___eq__) (e_v 5) (e_v 7)) (a_cons (e_cmp (or_neI (k := 41) rfl hu C.eqc G_Ratio___eq__ (hr.mono (by omega)) hgd b_Ratio___eq__) (e_v 5) (e_v 7)) a_nil)))))))
  (s_cons (s_set (i := 9) sc.nd rfl (by first | exact .inl rfl | exact .inr rfl) (e_and rfl (e_cmp (or_eq rfl hu) (e_callTy (cr_listF rfl) rfl C.f_list (by decide +kernel) (a_cons (e_get rfl C.has_top (e_v 7)) a_nil)) (e_callTy (cr_listF rfl) rfl C.f_list (by decide +kernel) (a_cons (e_get rfl C.has_top (e_v 5)) a_nil))) (e_one (e_cmp (or_eq rfl hu) (e_callTy (cr_listF rfl) rfl C.f_list (by decide +kernel) (a_cons (e_get rfl C.has_bottom (e_v 7)) a_nil)) (e_callTy (cr_listF rfl) rfl C.f_list (by decide +kernel) (a_cons (e_get rfl C.has_bottom (e_v 5)) a_nil))))))
  (s_cons (s_if (t_cmp (or_ne rfl hu) (e_v 8) (e_lstF (a_cons e_bl (a_cons e_bl (a_cons e_bl (a_cons (e_v 9) (a_cons (e_not rfl (e_v 9)) a_nil))))))) (s_one (s_ret e_bl)) s_nil)
  (s_cons (s_for (passes_of rfl) rfl (w_any rfl (e_lstF (a_cons (e_callTy (cr_strI (k := 43) rfl C.slot_str.1 C.slot_str.2 G_Ratio___str__ (hr.mono (by omega)) hgd b_Ratio___str__) rfl C.f_str (by decide +kernel) (a_cons (e_v 5) a_nil)) (a_cons (e_ix rfl (e_v 1) e_int) (a_cons e_non (a_cons (e_tup (a_cons (e_get rfl C.has_top (e_v 5)) (a_cons (e_get rfl C.has_bottom (e_v 5)) a_nil))) a_nil)))))) (g_name (i := 10) sc.nd rfl (by first | exact .inl rfl | exact .inr rfl)) (s_one (s_if (t_ws (w_or (t_cmp (or_eqI (k := 41) rfl hu C.eqc G_Ratio___eq__ (hr.mono (by omega)) hgd b_Ratio___eq__) (e_v 5) (e_v 10)) (w_or1 (t_not (t_cmp (or_neI (k := 41) rfl hu C.eqc G_Ratio___eq__ (hr.mono (by omega)) hgd b_Ratio___eq__) (e_v 5) (e_v 10)))))) (s_one (s_ret e_bl)) s_nil)))
  (s_one (s_ret e_bl))))))))))))))))
theorem ok__law_well (C : Cn K mg) {fd : FuncData} (Fd : FunD K "_law_well" "_law_well" (defArgs (top 34)) (defBody (top 34)) (defScope (top 34)) [] [] (He.ga K "_law_well") fd) : FnG P w K mg base 41 (He.ga K "_law_well") fd ["_law_script", "_law_spot"] (SPx K (gq P w K) k02__law_well) := by
  have sc := sc__law_well
  refine (fn_ok (k := 40) (N := N__law_well) (b := B_k02__law_well) Fd sc fun cdv A outer s H E hr hgd => ?_)
  have hu := hr.units
  have hu1 : (A.deeper (envOfC "_law_well" (defScope (top 34)) s.heap.objs.size (He.ga K "_law_well") cdv)).units + (64 + 1) < cLine := by have := hr.un; omega
  unfold B_k02__law_well
  exact (s_cons (s_set (i := 2) sc.nd rfl (by first | exact .inl rfl | exact .inr rfl) (e_bin (or_add rfl) e_int (e_v 1)))
  (s_cons (s_for (passes_of rfl) rfl (w_any rfl (e_sl rfl (e_v 0) o_none (o_some e_int))) (g_name (i := 3) sc.nd rfl (by first | exact .inl rfl | exact .inr rfl)) (s_one (s_set (i := 2) sc.nd rfl (by first | exact .inl rfl | exact .inr rfl) (e_bin or_mod (e_callTy cr_int rfl C.f_int (by decide +kernel) (a_cons (e_bin (or_add rfl) (e_bin (or_add rfl) (e_bin (or_mul rfl) (e_v 2) e_int) (e_bin (or_mul rfl) (e_v 3) e_int)) e_int) a_nil)) e_int))))
  (s_cons (s_set (i := 4) sc.nd rfl (by first | exact .inl rfl | exact .inr rfl) (e_if (t_cmp or_lt (e_v 1) (e_callB (cr_len rfl) rfl C.f_len (by decide +kernel) (a_cons (e_v 0) a_nil))) (e_ix rfl (e_v 0) (e_v 1)) (e_bin (or_add rfl) (e_bin (or_mul rfl) (e_v 2) e_int) (e_v 1))))
  (s_cons (s_set (i := 5) sc.nd rfl (by first | exact .inl rfl | exact .inr rfl) (e_if (t_ws (w_or (t_cmp or_lt (e_v 4) e_int) (w_or1 (t_cmp or_ge (e_v 4) (e_bin or_pow e_int e_int))))) (e_callB cr_abs rfl C.f_abs (by decide +kernel) (a_cons (e_v 4) a_nil)) e_int))
  (s_one (s_ret (e_lst (a_cons (e_v 5) (a_cons (e_bin or_mod (e_callTy cr_int rfl C.f_int (by decide +kernel) (a_cons (e_bin (or_add rfl) (e_bin (or_add rfl) (e_bin (or_mul rfl) (e_v 4) e_int) (e_bin (or_mul rfl) (e_v 2) e_int)) e_int) a_nil)) e_int) (a_cons e_int a_nil))))))))))
theorem ok_law (C : Cn K mg) (T : Sr P base) {fd : FuncData} (Fd : FunD K "law" "law" (defArgs (top 47)) (defBody (top 47)) (defScope (top 47)) [] [] (He.ga K "law") fd) : FnG P w K mg base 53 (He.ga K "law") fd ["_law_script"] (SPx K (gq P w K) k02_law) := by
  have sc := sc_law
  obtain ⟨fd__law_right, F__law_right⟩ := C.c.says.def_ 32 rfl
  have G__law_right := (ok__law_right (P := P) (w := w) (base := base) C T F__law_right)
  have b__law_right : Binds K fd__law_right ["_law_well_here"] [] := F__law_right.bindsN fun _ _ _ _ _ _ us hl => match us, hl with | [_], _ => rfl
  obtain ⟨fd__law_well, F__law_well⟩ := C.c.says.def_ 33 rfl
  have G__law_well := (ok__law_well (P := P) (w := w) (base := base) C F__law_well)
  have b__law_well : Binds K fd__law_well ["_law_script", "_law_spot"] [] := F__law_well.bindsN fun _ _ _ _ _ _ us hl => match us, hl with | [_, _], _ => rfl
  refine (fn_ok (k := 52) (N := N_law) (b := B_k02_law) Fd sc fun cdv A outer s H E hr hgd => ?_)
  have hu := hr.units
  have hu1 : (A.deeper (envOfC "law" (defScope (top 47)) s.heap.objs.size (He.ga K "law") cdv)).units + (64 + 1) < cLine := by have := hr.un; omega
  unfold B_k02_law
  exact (s_cons (s_for (passes_of rfl) rfl (w_rng1 rfl C.f_range (a_cons (e_callB (cr_max rfl) rfl C.f_max (by decide +kernel) (a_cons e_int (a_cons (e_callB (cr_min rfl) rfl C.f_min (by decide +kernel) (a_cons (e_callB (cr_len rfl) rfl C.f_len (by decide +kernel) (a_cons (e_v 0) a_nil)) (a_cons e_int a_nil))) a_nil))) a_nil)) (g_name (i := 1) sc.nd rfl (by first | exact .inl rfl | exact .inr rfl)) (s_cons (s_set (i := 2) sc.nd rfl (by first | exact .inl rfl | exact .inr rfl) (e_call (dd := []) (dvs := []) (ds := []) (G__law_well.mono (by omega)) hr hgd rfl C.g__law_well F__law_well.kp b__law_well .nil (fun _ _ _ => .nil) (L2N.takes_of rfl rfl rfl rfl) (a_cons (e_v 0) (a_cons (e_v 1) a_nil))))
  (s_one (s_if (t_not (t_tru rfl (e_callB (cr_allL rfl rfl) rfl C.f_all (by decide +kernel) (a_cons (e_lcF (patOk_one (i := 3)) rfl rfl sc.nd (w_rng1 rfl C.f_range (a_cons e_int a_nil)) (blkOk_by (own := [("_law_turn", 3)]) (N := N_law) (sc := (defScope (top 47))) (by decide +kernel)) (fun _ _ _ _ _ => (pg_name (i := 3) sc.nd rfl (by first | exact .inl rfl | exact .inr rfl))) (fun _ _ _ _ _ => ts_nil) (fun _ _ _ _ _ => (e_call (dd := []) (dvs := []) (ds := []) (G__law_right.mono (by omega)) hr hgd rfl C.g__law_right F__law_right.kp b__law_right .nil (fun _ _ _ => .nil) takesF (a_cons (e_v 2) a_nil)))) a_nil)))) (s_one (s_ret e_bl)) s_nil))))
  (s_one (s_ret e_bl)))
end
end M
/-! the head, the end -/
namespace M
open PySem PySem.W PySem.Calls PyProof.Rows
theorem facts_ {P : Program} {w : World} {K : PySem.W.Frag} {h : Heap} {mg : Str → Option Value} {f : Addr} (X : K.In h) (G : h.Ns mainGlobals mg) (hfa : mg ("law" : Str) = some (.ref f)) (c : SaysP bB_ fa_ fn_ pd_ K) :
    ∃ fd : FuncData, (∀ (s : Shared) (v : Value), BindsTo s fd ⟨[v], []⟩ [("_law_script", v)]) ∧ ∀ base : Heap, Sr P base → FnG P w K mg base 53 f fd ["_law_script"] (SPx K (gq P w K) k02_law) := by
  have C : Cn K mg := ⟨c, h, X, G⟩
  obtain ⟨fd, F⟩ := c.says.def_ 34 rfl
  have e := hfa.symm.trans C.g_law
  cases e
  have b := L2.FunD.bindsA (ps := ["_law_script"]) F fun _ _ _ _ _ _ us hl => match us, hl with | [_], _ => rfl
  exact ⟨fd, fun s v => b s [v] rfl, fun base T => ok_law C T F⟩
end M
section
open PySem PySem.W PySem.Calls PyProof.Rows
theorem M.holds_of (lawH : ∀ ns : List Int, ns.length ≤ 63 → ∃ st, M.k02_law [M.D.lst (ns.map M.D.int)] [] = M.R.ok (M.D.bl true) st) : PySem.Challenge.rw_evenkeeps_k02_ratios_made.Holds := by
  w_on; o_law
  refine HandSHeadRun.head_any (r := M.R_) (q := M.qv_) (H := M.hk_) (ob := M.ob_) (M := 9000) (loose := M.names_) (d := HandSHeadRun.topDef M.R_.prog 47) (kwd := []) M.ob_eq_
    (by kernel_rfl) (fun s => by kernel_rfl) M.run_ (by kernel_rfl) (by kernel_rfl) (by kernel_rfl) (by rfl) (by first | assumption | decide +kernel) (by decide +kernel) ⟨rfl, rfl, rfl, rfl, rfl, by decide +kernel⟩ ?hw ?hc
  case hw => w_witness2
  case hc =>
    refine M.walk_ofS (l := PySem.Challenge.rw_evenkeeps_k02_ratios_made) (n := 63) (k := 53) (x := "_law_script") (f := M.k02_law) rfl (by decide) (by kernel_rfl) (by kernel_rfl) (by kernel_rfl) ⟨rfl, by decide, by decide⟩ ?F lawH
    intro w mg fa h Y G hmg0
    obtain ⟨K, KX, c⟩ := Y
    have hmg : mg ("law" : PySem.Str) = some (.ref fa) := by
      have e : (HandSHeadRun.topDef M.R_.prog 47).name = ("law" : PySem.Str) := by kernel_rfl
      rw [← e]
      exact hmg0
    obtain ⟨fd, hb, hF⟩ := M.facts_ (P := M.R_.prog) (w := w) KX G hmg c
    exact ⟨K, fd, KX, hb, hF⟩
end
/-! TX: laws of texts: split of join. -/
namespace M
open PySem PySem.Spec PyProof.Rows

abbrev toL (x : Str) : List Nat := x.cps.toList
theorem toL_inj {x y : Str} (h : toL x = toL y) : x = y := Str.ext' (Array.toList_inj.mp h)
theorem toL_app (x y : Str) : toL (x ++ y) = toL x ++ toL y := Array.toList_append
end M
/-! TX2: texts as lists of signs: startswith, partition, lstrip, slices. -/
namespace M
open PySem PySem.Spec PyProof.Rows PySem.W Builtin Builtin.Str

theorem len_toL (x : Str) : x.length = (toL x).length := by simp [Str.length, toL]
theorem pre_take : ∀ {y l : List Nat}, (l.take y.length == y) = y.isPrefixOf l
  | [], l => by simp
  | c :: y, [] => by simp
  | c :: y, d :: l => by
    have ih := pre_take (y := y) (l := l)
    show ((d == c) && (l.take y.length == y)) = ((c == d) && y.isPrefixOf l)
    rw [ih, Bool.beq_comm]
theorem sub_pre (x y : Str) (i : Nat) : subAt x y i = (toL y).isPrefixOf ((toL x).drop i) := by
  rw [StrLaws.subAt_eq, len_toL y, pre_take]
theorem pre_len : ∀ {y l : List Nat}, y.isPrefixOf l = true → y.length ≤ l.length
  | [], l, _ => Nat.zero_le _
  | c :: y, [], h => by simp at h
  | c :: y, d :: l, h => by
    simp only [List.isPrefixOf, Bool.and_eq_true] at h
    simpa using pre_len h.2
theorem sw_eq (x y : Str) : Txt.startswith x y = (toL y).isPrefixOf (toL x) := by
  unfold Txt.startswith
  rw [sub_pre, List.drop_zero, Nat.zero_add]
  cases h : (toL y).isPrefixOf (toL x) with
  | false => simp
  | true =>
    have := pre_len h
    rw [len_toL, len_toL, decide_eq_true this]; rfl
/-- the first occurrence -/
def partL (y : List Nat) : List Nat → Option (List Nat × List Nat)
  | [] => if y.isPrefixOf [] then some ([], []) else none
  | c :: l => if y.isPrefixOf (c :: l) then some ([], (c :: l).drop y.length) else (partL y l).map fun p => (c :: p.1, p.2)
theorem partL_none {y : List Nat} : ∀ {l : List Nat}, (∀ i, i ≤ l.length → y.isPrefixOf (l.drop i) = false) → partL y l = none
  | [], h => by
    have := h 0 (Nat.le_refl _)
    unfold partL
    rw [show y.isPrefixOf [] = false from this]; rfl
  | c :: l, h => by
    have h0 := h 0 (Nat.zero_le _)
    unfold partL
    rw [show y.isPrefixOf (c :: l) = false from h0, partL_none fun i hi => h (i + 1) (by simpa using hi)]
    rfl
theorem partL_some {y : List Nat} : ∀ {l : List Nat} {i : Nat}, i ≤ l.length → y.isPrefixOf (l.drop i) = true → (∀ k, k < i → y.isPrefixOf (l.drop k) = false) → partL y l = some (l.take i, l.drop (i + y.length))
  | [], i, hi, h, _ => by
    have e : i = 0 := by simpa using hi
    subst e
    unfold partL
    rw [show y.isPrefixOf [] = true from h]
    simp
  | c :: l, 0, _, h, _ => by
    unfold partL
    rw [show y.isPrefixOf (c :: l) = true from h]
    simp
  | c :: l, i + 1, hi, h, hn => by
    unfold partL
    rw [show y.isPrefixOf (c :: l) = false from hn 0 (Nat.succ_pos _), partL_some (i := i) (by simpa using hi) h fun k hk => hn (k + 1) (by omega)]
    simp [Nat.add_right_comm]
theorem str_mk {x : Str} {l : List Nat} (h : toL x = l) : x = ⟨l.toArray⟩ := Str.ext' (by rw [← h])
theorem toL_mk (l : List Nat) : toL ⟨l.toArray⟩ = l := by simp [toL]
theorem part_eq (x y : Str) : Txt.partition x y = match partL (toL y) (toL x) with
    | some p => (⟨p.1.toArray⟩, y, ⟨p.2.toArray⟩)
    | none => (x, Str.empty, Str.empty) := by
  have at_ : ∀ i, StrLaws.At x y x.length i ↔ i + (toL y).length ≤ (toL x).length ∧ (toL y).isPrefixOf ((toL x).drop i) = true := fun i => by
    show (i + y.length ≤ x.length ∧ subAt x y i = true) ↔ _
    rw [sub_pre, len_toL, len_toL]
  have pl : ∀ i, (toL y).isPrefixOf ((toL x).drop i) = true → i ≤ (toL x).length → i + (toL y).length ≤ (toL x).length := fun i h hi => by
    have := pre_len h
    rw [List.length_drop] at this
    omega
  unfold Txt.partition
  rcases StrLaws.occ_head x y 1 (Nat.le_refl _) with ⟨h, hn⟩ | ⟨i, r, h, hi, hn⟩
  · rw [h]
    rw [partL_none fun i hi => ?_]
    cases e : (toL y).isPrefixOf ((toL x).drop i) with
    | false => rfl
    | true => exact absurd ((at_ i).mpr ⟨pl i e hi, e⟩) (hn i)
  · rw [h]
    obtain ⟨h1, h2⟩ := (at_ i).mp hi
    rw [partL_some (i := i) (by omega) h2 fun k hk => ?_]
    · have e1 : strSub x 0 i = ⟨((toL x).take i).toArray⟩ := str_mk (by show (strSub x 0 i).cps.toList = _; rw [StrLaws.strSub_toList]; rfl)
      have e2 : strSub x (i + y.length) x.length = ⟨((toL x).drop (i + (toL y).length)).toArray⟩ := str_mk (by
        show (strSub x (i + y.length) x.length).cps.toList = _
        rw [StrLaws.strSub_toList, len_toL y, len_toL x]
        exact List.take_of_length_le (by rw [List.length_drop]; exact Nat.le_refl _))
      show (strSub x 0 i, y, strSub x (i + y.length) x.length) = _
      rw [e1, e2]
    · cases e : (toL y).isPrefixOf ((toL x).drop k) with
      | false => rfl
      | true => exact absurd ((at_ k).mpr ⟨pl k e (by omega), e⟩) (hn k hk)
theorem partL_skip {d : Nat} {y : List Nat} : ∀ {a r : List Nat}, d ∉ a → partL (d :: y) (a ++ r) = (partL (d :: y) r).map fun p => (a ++ p.1, p.2)
  | [], r, _ => by simp
  | c :: a, r, h => by
    have hc : d ≠ c := fun e => h (by rw [e]; exact List.mem_cons_self)
    rw [List.cons_append, partL, partL_skip fun m => h (List.mem_cons_of_mem _ m)]
    have : (d :: y).isPrefixOf (c :: (a ++ r)) = false := by simp [List.isPrefixOf, hc]
    rw [this]
    simp [Function.comp_def]
/-! ### lstrip -/
/-! ### slices -/
theorem cut_from (z : Str) (k : Nat) : toL (L2.cutS z (some (k : Int)) none) = (toL z).drop k := by
  show ((toL z).drop (HT.sIx z.length 0 (some (k : Int)))).take (HT.sIx z.length z.length none - HT.sIx z.length 0 (some (k : Int))) = _
  rw [HT.sIx_nat, HT.sIx_none, len_toL]
  by_cases h : k ≤ (toL z).length
  · rw [Nat.min_eq_left h]
    exact List.take_of_length_le (by rw [List.length_drop]; exact Nat.le_refl _)
  · rw [Nat.min_eq_right (by omega), List.drop_of_length_le (Nat.le_refl _), List.drop_of_length_le (by omega)]
    simp
end M
/-! RL: laws of the embedding's functions: loops, comprehensions, texts. -/
namespace M
open PySem L2

theorem lstAt_new (st : Sto) (xs : List D) : lstAt (st ++ [.lst xs]) st.length = some xs := by
  unfold lstAt
  rw [List.getElem?_append_right (Nat.le_refl _), Nat.sub_self]
  rfl
theorem nxL_at (xs : List D) (i : Nat) (st : Sto) : nxL xs i st = some xs[i]? := rfl
/-- a comprehension that keeps all, and changes nothing -/
theorem compF_map {nx : Nx} {p : Pat} {e : IE} {env0 : Env} {xs : List D} {st : Sto} (f : D → D) (hn : ∀ i st, nx i st = some xs[i]?)
    (h : ∀ d ∈ xs, ∃ env, p.bind d env0 = some env ∧ e env st = .ok (f d) st) :
    ∀ (m i : Nat) (acc : List D), xs.length ≤ i + m → acc.length + xs.length ≤ sizeLine + i → compF nx p tYes' e env0 m i acc st = .ok (acc ++ (xs.drop i).map f) st
  | 0, i, acc, hl, _ => by
    unfold compF
    rw [hn, List.getElem?_eq_none (by omega), List.drop_of_length_le (by omega)]
    simp
  | m + 1, i, acc, hl, hz => by
    unfold compF
    rw [hn]
    cases q : xs[i]? with
    | none =>
      have hi : xs.length ≤ i := List.getElem?_eq_none_iff.mp q
      rw [List.drop_of_length_le hi]
      simp
    | some d =>
      obtain ⟨env, h1, h2⟩ := h d (List.mem_of_getElem? q)
      obtain ⟨hi, hd⟩ := List.getElem?_eq_some_iff.mp q
      show (match p.bind d env0 with
        | some env => ((tYes' env st).nox).bind fun k s1 => if k = true then ((e env s1).nox).bind fun v s2 => if acc.length < sizeLine then compF nx p tYes' e env0 m (i + 1) (acc ++ [v]) s2 else .bad else compF nx p tYes' e env0 m (i + 1) acc s1
        | none => .bad) = _
      rw [h1]
      show ((e env st).nox).bind (fun v s2 => if acc.length < sizeLine then compF nx p tYes' e env0 m (i + 1) (acc ++ [v]) s2 else .bad) = _
      rw [h2]
      show (if acc.length < sizeLine then compF nx p tYes' e env0 m (i + 1) (acc ++ [f d]) st else .bad) = _
      rw [if_pos (by omega), compF_map f hn h m (i + 1) (acc ++ [f d]) (by omega) (by simp; omega), List.drop_eq_getElem_cons hi, hd]
      simp
/-! ### texts -/
/-! ### steps -/
theorem sSeq_nx {i j : IS} {env e1 : Env} {st s1 : Sto} (h : i env st = .nx e1 s1) : sSeq i j env st = j e1 s1 := by
  show kSeq j (i env st) = _
  rw [h]; rfl
theorem sSet_ok {k : Nat} {e : IE} {env : Env} {st s : Sto} {d : D} (h : e env st = .ok d s) : sSet k e env st = .nx (env.set k (some d)) s := by
  show liftS (e env st) env _ = _
  rw [h]; rfl
theorem runB_ret {b : IS} {n p : Nat} {ds : List D} {st s : Sto} {d : D} (hl : ds.length = p) (h : b (ds.map some ++ List.replicate (n - p) none) st = .ret d s) : runB b n p ds st = .ok d s := by
  unfold runB
  rw [if_pos hl, h]; rfl
end M
/-! SM0: the embedding's functions step by step, for simp; loops by place. -/
namespace M
open PySem PySem.W
section
variable {i j k : IE} {a b : IA} {p q : IS} {t u : IT} {env : Env} {st : Sto} {d e : D} {n m : Nat}
@[simp] theorem R_ok {α β : Type} {a : α} {st : Sto} {k : α → Sto → R β} : (R.ok a st).bind k = k a st := Eq.trans rfl rfl
@[simp] theorem R_exc {α β : Type} {C fs} {st : Sto} {k : α → Sto → R β} : (R.exc C fs st).bind k = .exc C fs st := Eq.trans rfl rfl
@[simp] theorem R_bad {α β : Type} {k : α → Sto → R β} : (R.bad : R α).bind k = .bad := Eq.trans rfl rfl
@[simp] theorem ofO_s {x : D × Sto} : ofO (some x) = .ok x.1 x.2 := Eq.trans rfl rfl
@[simp] theorem ofO_n : ofO none = .bad := Eq.trans rfl rfl
@[simp] theorem iC_d : iC d env st = .ok d st := Eq.trans rfl rfl
@[simp] theorem iVar_d : iVar n env st = match env[n]? with | some (some d) => .ok d st | _ => .bad := Eq.trans rfl rfl
@[simp] theorem iBin_d {f : Op2} : iBin f i j env st = (i env st).bind fun a s1 => (j env s1).bind fun b s2 => ofO (f a b s2) := Eq.trans rfl rfl
@[simp] theorem iUn_d {f : Op1} : iUn f i env st = (i env st).bind fun a s1 => ofO (f a s1) := Eq.trans rfl rfl
@[simp] theorem iN_d {f : OpN} : iN f a env st = (a env st).bind fun ds s => ofO (f ds s) := Eq.trans rfl rfl
@[simp] theorem iChain_d {f g : Op2} : iChain f g i j k env st = (i env st).bind fun a s1 => (j env s1).bind fun b s2 => (ofO (f a b s2)).bind (kChain g k b env) := Eq.trans rfl rfl
@[simp] theorem kChain_t {g : Op2} : kChain g k d env (.bl true) st = (k env st).bind fun c s4 => ofO (g d c s4) := Eq.trans rfl rfl
@[simp] theorem kChain_f {g : Op2} : kChain g k d env (.bl false) st = .ok (.bl false) st := Eq.trans rfl rfl
@[simp] theorem tTru_d : tTru i env st = (i env st).bind fun d s => match truD s d with | some k => .ok k s | none => .bad := Eq.trans rfl rfl
@[simp] theorem tNot_d : tNot' t env st = (t env st).bind fun k s => .ok (!k) s := Eq.trans rfl rfl
@[simp] theorem tAnd_d : tAnd' t u env st = (t env st).bind fun k s => if k = true then u env s else .ok false s := Eq.trans rfl rfl
@[simp] theorem tOr_d : tOr' t u env st = (t env st).bind fun k s => if k = true then .ok true s else u env s := Eq.trans rfl rfl
@[simp] theorem iAnd_d : iAnd i j env st = (i env st).bind fun d s => match truD s d with | some true => j env s | some false => .ok d s | none => .bad := Eq.trans rfl rfl
@[simp] theorem iOr_d : iOr i j env st = (i env st).bind fun d s => match truD s d with | some true => .ok d s | some false => j env s | none => .bad := by
  unfold iOr
  rfl
@[simp] theorem iNot_d : iNot i env st = (i env st).bind kNot := Eq.trans rfl rfl
@[simp] theorem iIf_d : iIf t i j env st = (t env st).bind fun k s => if k = true then i env s else j env s := Eq.trans rfl rfl
@[simp] theorem aNil_d : aNil env st = .ok [] st := Eq.trans rfl rfl
@[simp] theorem aCons_d : aCons i a env st = (i env st).bind fun d s => (a env s).bind fun ds s2 => .ok (d :: ds) s2 := Eq.trans rfl rfl
@[simp] theorem aStar_d : aStar i a env st = (i env st).bind fun x s => match aseq s x with | some xs => (a env s).bind fun r s2 => .ok (xs ++ r) s2 | none => .bad := Eq.trans rfl rfl
@[simp] theorem sNil_d : sNil env st = .nx env st := Eq.trans rfl rfl
@[simp] theorem sSeq_d : sSeq p q env st = kSeq q (p env st) := Eq.trans rfl rfl
@[simp] theorem kSeq_nx : kSeq q (.nx env st) = q env st := Eq.trans rfl rfl
@[simp] theorem kSeq_ret : kSeq q (.ret d st) = .ret d st := Eq.trans rfl rfl
@[simp] theorem kSeq_bk : kSeq q (.bk env st) = .bk env st := Eq.trans rfl rfl
@[simp] theorem kSeq_ct : kSeq q (.ct env st) = .ct env st := Eq.trans rfl rfl
@[simp] theorem liftS_ok {α : Type} {x : α} {k : α → Sto → RS} : liftS (.ok x st) env k = k x st := Eq.trans rfl rfl
@[simp] theorem sExpr_d : sExpr i env st = liftS (i env st) env fun _ s => .nx env s := Eq.trans rfl rfl
@[simp] theorem sRet_d : sRet i env st = liftS (i env st) env fun d s => .ret d s := Eq.trans rfl rfl
@[simp] theorem sRetN_d : sRetN env st = .ret .non st := Eq.trans rfl rfl
@[simp] theorem sBreak_d : sBreak env st = .bk env st := Eq.trans rfl rfl
@[simp] theorem sCont_d : sCont env st = .ct env st := Eq.trans rfl rfl
@[simp] theorem sIf_d : sIf t p q env st = liftS (t env st) env fun k s => if k = true then p env s else q env s := Eq.trans rfl rfl
@[simp] theorem sSet_d : sSet n i env st = liftS (i env st) env fun d s => .nx (env.set n (some d)) s := Eq.trans rfl rfl
@[simp] theorem sPar_d : sPar n m a env st = liftS (a env st) env fun ds s => match ds with | [d, e] => .nx ((env.set n (some d)).set m (some e)) s | _ => .bad := Eq.trans rfl rfl
@[simp] theorem sPar3_d {l : Nat} : sPar3 n m l a env st = liftS (a env st) env fun ds s => match ds with | [d, e, f] => .nx (((env.set n (some d)).set m (some e)).set l (some f)) s | _ => .bad := Eq.trans rfl rfl
@[simp] theorem sAsg_d {g : IG} : sAsg g i env st = liftS (i env st) env fun d s => liftS (g d env s) env fun env' s' => .nx env' s' := Eq.trans rfl rfl
@[simp] theorem gVar_d : gVar n d env st = .ok (env.set n (some d)) st := Eq.trans rfl rfl
@[simp] theorem gTup_d {g : IGs} : gTup' n g d env st = match d with | .tup xs => if xs.length = n then g xs env st else .bad | .lst xs => if xs.length = n then g xs env st else .bad | _ => .bad := Eq.trans rfl rfl
@[simp] theorem gsNil_d : gsNil [] env st = .ok env st := Eq.trans rfl rfl
@[simp] theorem gsVar_d {g : IGs} {ds : List D} : gsVar n g (d :: ds) env st = g ds (env.set n (some d)) st := Eq.trans rfl rfl
@[simp] theorem gsCons_d {g : IG} {h : IGs} {ds : List D} : gsCons g h (d :: ds) env st = (g d env st).bind fun env' s => h ds env' s := Eq.trans rfl rfl
@[simp] theorem gIx_d : gIx i j d env st = (i env st).bind fun o s => (j env s).bind fun k s2 => kSet d o k env s2 := Eq.trans rfl rfl
@[simp] theorem tYes_d : tYes' env st = .ok true st := Eq.trans rfl rfl
@[simp] theorem iCall_d {f : Fn} {dd : List D} : iCall f dd a env st = (a env st).bind fun ds s => f (ds ++ dd) s := Eq.trans rfl rfl
@[simp] theorem oNone_d : oNone env st = .ok none st := Eq.trans rfl rfl
@[simp] theorem oSome_d : oSome i env st = (i env st).bind kPart := Eq.trans rfl rfl
@[simp] theorem kPart_i {x : Int} : kPart (.int x) st = .ok (some x) st := Eq.trans rfl rfl
@[simp] theorem iSl_d {lo hi : IO} : iSl i lo hi env st = (i env st).bind fun a s => (lo env s).bind fun l s1 => (hi env s1).bind fun u s2 => ofO (opSl a l u s2) := Eq.trans rfl rfl
@[simp] theorem tBl_d : tBl i env st = (i env st).bind kBl := Eq.trans rfl rfl
@[simp] theorem kBl_b {x : Bool} : kBl (.bl x) st = .ok x st := Eq.trans rfl rfl
@[simp] theorem iM1_d {f : Op2} : iM1 f i j env st = (i env st).bind fun a s1 => if isS a = true then (j env s1).bind fun b s2 => ofO (f a b s2) else .bad := Eq.trans rfl rfl
@[simp] theorem isS_s {x : Str} : isS (.str x) = true := Eq.trans rfl rfl
@[simp] theorem iMl_d {f : D → OpN} : iMl f i a env st = (i env st).bind fun x s1 => if isL s1 x = true then (a env s1).bind fun ds s2 => ofO (f x ds s2) else .bad := Eq.trans rfl rfl
@[simp] theorem iJs_n {acc : Str} : iJs [] acc env st = .ok (.str acc) st := Eq.trans rfl rfl
@[simp] theorem iJs_c {is : List IE} {acc : Str} : iJs (i :: is) acc env st = (i env st).bind fun d s => kJs acc (iJs is) d env s := Eq.trans rfl rfl
@[simp] theorem iCallV_d {fs : List (Str × Fn)} : iCallV fs i a env st = (i env st).bind fun d s => kCallV fs d a env s := Eq.trans rfl rfl
@[simp] theorem kCallV_1 {x : Str} {f : Fn} : kCallV [(x, f)] (.glo x) a env st = (a env st).bind fun ds s2 => f ds s2 := by
  unfold kCallV
  simp [List.lookup]
@[simp] theorem wAny_d : wAny i env st = (i env st).bind kAnyW := Eq.trans rfl rfl
@[simp] theorem kAny_tup {xs : List D} : kAnyW (.tup xs) st = .ok (nxL xs, xs.length) st := Eq.trans rfl rfl
@[simp] theorem kAny_lst {xs : List D} : kAnyW (.lst xs) st = .ok (nxL xs, xs.length) st := Eq.trans rfl rfl
@[simp] theorem kAny_str {x : Str} : kAnyW (.str x) st = .ok (nxS x, x.cps.size) st := Eq.trans rfl rfl
@[simp] theorem sFor_d {w : IW} {g : IG} : sFor w g p env st = liftS (w env st) env fun a s => forL a.1 g p a.2 0 env s := Eq.trans rfl rfl
@[simp] theorem sWhile_d {mm : Env → Sto → Nat} : sWhile mm t p env st = sWhileN t p (mm env st) env st := Eq.trans rfl rfl
@[simp] theorem iCompF_d {w : IW} {pt : Pat} : iCompF w pt t i env st = (w env st).bind fun a s => (compF a.1 pt t i (wipeE env pt.slots) a.2 0 [] s).bind fun xs s2 => .ok (.lst xs) s2 := Eq.trans rfl rfl
@[simp] theorem runB_d {ds : List D} : runB p n m ds st = if ds.length = m then endB (p (ds.map some ++ List.replicate (n - m) none) st) else .bad := Eq.trans rfl rfl
@[simp] theorem endB_ret : endB (.ret d st) = .ok d st := Eq.trans rfl rfl
@[simp] theorem endB_nx : endB (.nx env st) = .ok .non st := Eq.trans rfl rfl
@[simp] theorem tru_b {x : Bool} : truD st (.bl x) = some x := Eq.trans rfl rfl
@[simp] theorem isNon_n : D.isNon .non = true := Eq.trans rfl rfl
@[simp] theorem isNon_tup {xs : List D} : D.isNon (.tup xs) = false := Eq.trans rfl rfl
@[simp] theorem isNon_lst {xs : List D} : D.isNon (.lst xs) = false := Eq.trans rfl rfl
@[simp] theorem isNon_int {x : Int} : D.isNon (.int x) = false := Eq.trans rfl rfl
@[simp] theorem isNon_bl {x : Bool} : D.isNon (.bl x) = false := Eq.trans rfl rfl
@[simp] theorem isNon_str {x : Str} : D.isNon (.str x) = false := Eq.trans rfl rfl
@[simp] theorem isNon_ref {x : Nat} : D.isNon (.ref x) = false := Eq.trans rfl rfl
@[simp] theorem opIs_d {neg : Bool} : opIs neg d .non st = some (.bl (if neg then !d.isNon else d.isNon), st) := Eq.trans rfl rfl
end
theorem sizeLine_big : 1000000 ≤ sizeLine := by decide
@[simp] theorem le_size {n : Nat} (h : n ≤ 1000000) : (n ≤ sizeLine) = True := eq_true (Nat.le_trans h sizeLine_big)
@[simp] theorem opTup_d {ds : List D} {st : Sto} : opTup ds st = if ds.length ≤ sizeLine then some (.tup ds, st) else none := Eq.trans rfl rfl
@[simp] theorem opLst_d {ds : List D} {st : Sto} : opLst ds st = if ds.length ≤ sizeLine then some (.ref st.length, st ++ [.lst ds]) else none := Eq.trans rfl rfl
@[simp] theorem opLstF_d {ds : List D} {st : Sto} : opLstF ds st = if ds.length ≤ sizeLine then some (.lst ds, st) else none := Eq.trans rfl rfl
/-! ### texts written -/
theorem ofString_inj {a b : String} : Str.ofString a = Str.ofString b ↔ a = b := by
  constructor
  · intro h
    rw [Str.ofString_eq_toList, Str.ofString_eq_toList] at h
    have h2 := congrArg (fun s : Str => s.cps.toList) h
    simp only [List.toList_toArray] at h2
    have h3 : a.toList = b.toList := by
      have inj : ∀ {l m : List Char}, l.map Char.toNat = m.map Char.toNat → l = m := by
        intro l
        induction l with
        | nil => intro m h; cases m <;> simp_all
        | cons c l ih =>
          intro m h
          cases m with
          | nil => simp at h
          | cons d m =>
            simp only [List.map_cons, List.cons.injEq] at h
            rw [ih h.2, Char.ext (UInt32.toNat_inj.mp h.1)]
      exact inj h2
    exact String.toList_inj.mp h3
  · rintro rfl; rfl
@[simp] theorem eq_lit {a b : String} {st : Sto} : opEq false (.str (Str.ofString a)) (.str (Str.ofString b)) st = some (.bl (decide (a = b)), st) := by
  simp [opEq, ofString_inj]
@[simp] theorem ne_lit {a b : String} {st : Sto} : opEq true (.str (Str.ofString a)) (.str (Str.ofString b)) st = some (.bl (!decide (a = b)), st) := by
  simp [opEq, ofString_inj]
/-! ### loops -/
/-- a for over a list, by place: P what holds ahead of the i-th item -/
theorem forL_idx {nx : Nx} {g : IG} {b : IS} {xs : List D} (P : Nat → Env → Sto → Prop) (hn : ∀ i st, nx i st = some xs[i]?)
    (step : ∀ i d, xs[i]? = some d → ∀ env st, P i env st → ∃ e1 s1, g d env st = .ok e1 s1 ∧ ∃ e2 s2, (b e1 s1 = .nx e2 s2 ∨ b e1 s1 = .ct e2 s2) ∧ P (i + 1) e2 s2) :
    ∀ (m i : Nat) (env : Env) (st : Sto), i ≤ xs.length → xs.length ≤ i + m → P i env st → ∃ e2 s2, forL nx g b m i env st = .nx e2 s2 ∧ P xs.length e2 s2
  | 0, i, env, st, h0, hl, h => ⟨env, st, by unfold forL; rw [hn, List.getElem?_eq_none (by omega)], by rw [show xs.length = i by omega]; exact h⟩
  | m + 1, i, env, st, h0, hl, h => by
    unfold forL
    rw [hn]
    cases q : xs[i]? with
    | none =>
      have := List.getElem?_eq_none_iff.mp q
      exact ⟨env, st, rfl, by rw [show xs.length = i by omega]; exact h⟩
    | some d =>
      obtain ⟨e1, s1, h1, e2, s2, h2, h3⟩ := step i d q env st h
      have hi := (List.getElem?_eq_some_iff.mp q).1
      obtain ⟨e3, s3, h4, h5⟩ := forL_idx P hn step m (i + 1) e2 s2 (by omega) (by omega) h3
      refine ⟨e3, s3, ?_, h5⟩
      show liftS (g d env st) env (fun env1 s1 => kWhile b (forL nx g b m (i + 1)) (b env1 s1)) = _
      rw [h1]
      show kWhile b (forL nx g b m (i + 1)) (b e1 s1) = _
      rcases h2 with h2 | h2
      · rw [h2]; exact h4
      · rw [h2]; exact h4
end M
/-! AG1: polynomials with whole factors (lists, lowest factor first) as operators on series; Gauss's lemma. No program in sight. -/
namespace M
abbrev Se : Type := Nat → Int
def sh (f : Se) : Se := fun n => match n with
  | 0 => 0
  | n + 1 => f n
def act : List Int → Se → Se
  | [], _ => fun _ => 0
  | a :: l, f => fun n => a * f n + sh (act l f) n
def de : Se := fun n => if n = 0 then 1 else 0
/-- the factors as a series -/
def co (l : List Int) : Se := act l de
theorem sh_add (f g : Se) (n : Nat) : sh (fun n => f n + g n) n = sh f n + sh g n := by cases n <;> simp [sh]
theorem sh_smul (c : Int) (f : Se) (n : Nat) : sh (fun n => c * f n) n = c * sh f n := by cases n <;> simp [sh]
theorem sh_zero (n : Nat) : sh (fun _ => 0) n = 0 := by cases n <;> rfl
theorem act_zero : ∀ (l : List Int) (n : Nat), act l (fun _ => 0) n = 0
  | [], _ => rfl
  | a :: l, n => by
    have e : act l (fun _ => 0) = fun _ => 0 := funext (act_zero l)
    simp only [act, e, sh_zero]
    omega
theorem act_add : ∀ (l : List Int) (f g : Se) (n : Nat), act l (fun n => f n + g n) n = act l f n + act l g n
  | [], _, _, _ => rfl
  | a :: l, f, g, n => by
    have e : act l (fun n => f n + g n) = fun n => act l f n + act l g n := funext (act_add l f g)
    simp only [act, e, sh_add, Int.mul_add]
    omega
theorem act_smul (c : Int) : ∀ (l : List Int) (f : Se) (n : Nat), act l (fun n => c * f n) n = c * act l f n
  | [], _, _ => by simp [act]
  | a :: l, f, n => by
    have e : act l (fun n => c * f n) = fun n => c * act l f n := funext (act_smul c l f)
    simp only [act, e, sh_smul, Int.mul_add]
    rw [Int.mul_left_comm]
theorem act_sh : ∀ (l : List Int) (f : Se) (n : Nat), act l (sh f) n = sh (act l f) n
  | [], _, n => by cases n <;> rfl
  | a :: l, f, n => by
    have e : act l (sh f) = sh (act l f) := funext (act_sh l f)
    simp only [act, e]
    cases n with
    | zero => simp [sh]
    | succ n => simp [sh]
/-- products can be taken in any order -/
theorem act_comm : ∀ (l m : List Int) (f : Se) (n : Nat), act l (act m f) n = act m (act l f) n
  | [], m, f, n => by
    show 0 = act m (fun _ => 0) n
    rw [act_zero]
  | a :: l, m, f, n => by
    have e : act l (act m f) = act m (act l f) := funext (act_comm l m f)
    show a * act m f n + sh (act l (act m f)) n = act m (fun n => a * f n + sh (act l f) n) n
    rw [e, act_add m (fun n => a * f n) (sh (act l f)) n, act_smul, act_sh]
/-- a multiple of the factors -/
theorem act_map (c : Int) : ∀ (l : List Int) (f : Se) (n : Nat), act (l.map (c * ·)) f n = c * act l f n
  | [], _, _ => by simp [act]
  | a :: l, f, n => by
    have e : act (l.map (c * ·)) f = fun n => c * act l f n := funext (act_map c l f)
    simp only [List.map_cons, act, e, sh_smul, Int.mul_add, Int.mul_assoc]
/-! ### primes -/
def Pr (p : Nat) : Prop := 1 < p ∧ ∀ d, d ∣ p → d = 1 ∨ d = p
theorem pr_ex : ∀ n : Nat, 1 < n → ∃ p, Pr p ∧ p ∣ n := fun n => by
  induction n using Nat.strongRecOn with
  | _ n ih =>
    intro h
    by_cases q : ∃ d, d ∣ n ∧ d ≠ 1 ∧ d ≠ n
    · obtain ⟨d, hd, d1, dn⟩ := q
      have d0 : d ≠ 0 := fun z => by rw [z] at hd; have := Nat.eq_zero_of_zero_dvd hd; omega
      have lt : d < n := Nat.lt_of_le_of_ne (Nat.le_of_dvd (by omega) hd) dn
      obtain ⟨p, hp, pd⟩ := ih d lt (by omega)
      exact ⟨p, hp, Nat.dvd_trans pd hd⟩
    · refine ⟨n, ⟨h, fun d hd => ?_⟩, Nat.dvd_refl n⟩
      by_cases d1 : d = 1
      · exact .inl d1
      · by_cases dn : d = n
        · exact .inr dn
        · exact absurd ⟨d, hd, d1, dn⟩ q
theorem pr_mul {p : Nat} (hp : Pr p) {a b : Int} (h : (p : Int) ∣ a * b) : (p : Int) ∣ a ∨ (p : Int) ∣ b := by
  have h' : p ∣ a.natAbs * b.natAbs := by
    have := Int.natAbs_dvd_natAbs.mpr h
    rwa [Int.natAbs_mul, Int.natAbs_natCast] at this
  have g := hp.2 (Nat.gcd p a.natAbs) (Nat.gcd_dvd_left _ _)
  rcases g with g | g
  · refine .inr (Int.ofNat_dvd_left.mpr ?_)
    exact Nat.Coprime.dvd_of_dvd_mul_left (show Nat.Coprime p a.natAbs from g) h'
  · refine .inl (Int.ofNat_dvd_left.mpr ?_)
    have := Nat.gcd_dvd_right p a.natAbs
    rwa [g] at this
/-! ### Gauss's lemma -/
theorem act_low {p : Int} {h : Se} {i0 : Nat} (hl : ∀ j, j < i0 → p ∣ h j) : ∀ (u : List Int) (k : Nat), k < i0 → p ∣ act u h k
  | [], _, _ => ⟨0, by simp [act]⟩
  | a :: u, k, hk => by
    refine Int.dvd_add (Int.dvd_trans (hl k hk) ⟨a, by rw [Int.mul_comm]⟩) ?_
    cases k with
    | zero => exact ⟨0, by simp [sh]⟩
    | succ k => exact act_low hl u k (by omega)
theorem gauss_p {p : Nat} (hp : Pr p) {h : Se} {i0 : Nat} (hi : ¬ (p : Int) ∣ h i0) (hl : ∀ j, j < i0 → (p : Int) ∣ h j) : ∀ u : List Int, (∀ n, (p : Int) ∣ act u h n) → ∀ a ∈ u, (p : Int) ∣ a
  | [], _, _, ha => by cases ha
  | a :: u, hd, x, hx => by
    have low : (p : Int) ∣ sh (act u h) i0 := by
      cases i0 with
      | zero => exact ⟨0, by simp [sh]⟩
      | succ k => exact act_low hl u k (by omega)
    have h0 : (p : Int) ∣ a * h i0 := by
      have := Int.dvd_sub (hd i0) low
      simp only [act, Int.add_sub_cancel] at this
      exact this
    have pa : (p : Int) ∣ a := (pr_mul hp h0).resolve_right hi
    rcases List.mem_cons.mp hx with rfl | hx
    · exact pa
    · refine gauss_p hp hi hl u (fun n => ?_) x hx
      have := Int.dvd_sub (hd (n + 1)) (Int.dvd_trans pa ⟨h (n + 1), rfl⟩)
      simp only [act, sh] at this
      rw [show a * h (n + 1) + act u h n - a * h (n + 1) = act u h n from by omega] at this
      exact this
/-- no prime divides all of it -/
def Prim (h : Se) : Prop := ∀ p, Pr p → ∃ i, ¬ (p : Int) ∣ h i
theorem least {P : Nat → Prop} (h : ∃ i, P i) : ∃ i, P i ∧ ∀ j, j < i → ¬ P j := by
  obtain ⟨i, hi⟩ := h
  induction i using Nat.strongRecOn with
  | _ i ih =>
    by_cases q : ∃ j, j < i ∧ P j
    · obtain ⟨j, lt, hj⟩ := q
      exact ih j lt hj
    · exact ⟨i, hi, fun j lt hj => q ⟨j, lt, hj⟩⟩
theorem gauss {p : Nat} (hp : Pr p) {h : Se} (hh : Prim h) {u : List Int} (hd : ∀ n, (p : Int) ∣ act u h n) : ∀ a ∈ u, (p : Int) ∣ a := by
  obtain ⟨i, hi, hl⟩ := least (hh p hp)
  exact gauss_p hp hi (fun j lt => Classical.byContradiction fun z => hl j lt z) u hd
theorem div_all {p : Int} (hp : p ≠ 0) : ∀ {u : List Int}, (∀ a ∈ u, p ∣ a) → ∃ v : List Int, u = v.map (p * ·)
  | [], _ => ⟨[], rfl⟩
  | a :: u, h => by
    obtain ⟨b, rfl⟩ := h a List.mem_cons_self
    obtain ⟨v, rfl⟩ := div_all hp fun x m => h x (List.mem_cons_of_mem _ m)
    exact ⟨b :: v, rfl⟩
/-- what a primitive polynomial divides but for a number it divides -/
theorem gauss_div {h : Se} (hh : Prim h) : ∀ (k : Nat) (c : Int) (u : List Int) (f : Se), c.natAbs = k → c ≠ 0 → (∀ n, c * f n = act u h n) → ∃ q : List Int, u = q.map (c * ·) ∧ ∀ n, f n = act q h n := fun k => by
  induction k using Nat.strongRecOn with
  | _ k ih =>
    intro c u f hk c0 hf
    by_cases h1 : c.natAbs = 1
    · have : c = 1 ∨ c = -1 := by omega
      refine ⟨u.map (c * ·), ?_, fun n => ?_⟩
      · rw [List.map_map]
        have e : ((fun x => c * x) ∘ fun x => c * x) = id := funext fun x => by
          show c * (c * x) = x
          rcases this with rfl | rfl <;> omega
        rw [e, List.map_id]
      · rw [act_map, ← hf n]
        rcases this with rfl | rfl <;> omega
    · obtain ⟨p, hp, pc⟩ := pr_ex c.natAbs (by omega)
      have pc' : (p : Int) ∣ c := Int.ofNat_dvd_left.mpr pc
      have p0 : (p : Int) ≠ 0 := by have := hp.1; omega
      obtain ⟨c', rfl⟩ := pc'
      have du := gauss hp hh (u := u) fun n => ⟨c' * f n, by rw [← hf n, Int.mul_assoc]⟩
      obtain ⟨v, rfl⟩ := div_all p0 du
      have c'0 : c' ≠ 0 := fun z => c0 (by rw [z]; simp)
      have lt : c'.natAbs < k := by
        rw [← hk, Int.natAbs_mul, Int.natAbs_natCast]
        have a1 := hp.1
        have a2 : 0 < c'.natAbs := by omega
        calc c'.natAbs = 1 * c'.natAbs := (Nat.one_mul _).symm
          _ < p * c'.natAbs := Nat.mul_lt_mul_of_pos_right a1 a2
      obtain ⟨q, e1, e2⟩ := ih c'.natAbs lt c' v f rfl c'0 fun n => by
        have := hf n
        rw [act_map, Int.mul_assoc] at this
        exact Int.eq_of_mul_eq_mul_left p0 this
      refine ⟨q, ?_, e2⟩
      rw [e1, List.map_map]
      congr 1
      funext x
      show (p : Int) * (c' * x) = _
      rw [Int.mul_assoc]
/-! ### degrees -/
theorem act_top {f : Se} {b : Nat} (hf : ∀ n, b < n → f n = 0) : ∀ (l : List Int) (n : Nat), b + l.length ≤ n → act l f n = 0
  | [], _, _ => rfl
  | a :: l, n, hn => by
    simp only [List.length_cons] at hn
    have e1 := hf n (by omega)
    cases n with
    | zero => omega
    | succ n =>
      have e2 := act_top hf l n (by omega)
      simp [act, sh, e1, e2]
theorem act_lead {f : Se} {b : Nat} (hf : ∀ n, b < n → f n = 0) (z : Int) : ∀ l : List Int, act (l ++ [z]) f (b + l.length) = z * f b
  | [] => by
    show z * f (b + 0) + sh (fun _ => 0) (b + 0) = z * f b
    rw [sh_zero, Nat.add_zero]
    omega
  | a :: l => by
    have ih := act_lead hf z l
    show a * f (b + (l.length + 1)) + act (l ++ [z]) f (b + l.length) = z * f b
    rw [ih, hf _ (by omega)]
    omega
/-- no product of what is not 0 is 0 -/
theorem act_inj {f : Se} {i : Nat} (hi : f i ≠ 0) : ∀ u : List Int, (∀ n, act u f n = 0) → ∀ a ∈ u, a = 0 := by
  obtain ⟨i0, h0, hl⟩ := least (P := fun i => f i ≠ 0) ⟨i, hi⟩
  have low : ∀ (u : List Int) (k : Nat), k < i0 → act u f k = 0 := fun u => by
    induction u with
    | nil => intro k _; rfl
    | cons a u ih =>
      intro k hk
      have e : f k = 0 := Classical.byContradiction fun z => hl k hk z
      cases k with
      | zero => simp [act, sh, e]
      | succ k => simp [act, sh, e, ih k (by omega)]
  intro u
  induction u with
  | nil => intro _ a ha; cases ha
  | cons x u ih =>
    intro hz a ha
    have e1 : sh (act u f) i0 = 0 := by
      cases i0 with
      | zero => rfl
      | succ k => exact low u k (by omega)
    have e2 : x * f i0 = 0 := by
      have := hz i0
      simp only [act, e1] at this
      omega
    have x0 : x = 0 := (Int.mul_eq_zero.mp e2).resolve_right h0
    rcases List.mem_cons.mp ha with rfl | ha
    · exact x0
    · refine ih (fun n => ?_) a ha
      have := hz (n + 1)
      simp only [act, sh, x0, Int.zero_mul, Int.zero_add] at this
      exact this
end M
/-! AG2: sums and products of factor lists; common divisors; lowest terms. -/
namespace M
/-! ### sums, products -/
def addL : List Int → List Int → List Int
  | [], m => m
  | l, [] => l
  | a :: l, b :: m => (a + b) :: addL l m
theorem act_addL : ∀ (l m : List Int) (f : Se) (n : Nat), act (addL l m) f n = act l f n + act m f n
  | [], m, f, n => by simp [addL, act]
  | a :: l, [], f, n => by simp [addL, act]
  | a :: l, b :: m, f, n => by
    have e : act (addL l m) f = fun n => act l f n + act m f n := funext (act_addL l m f)
    simp only [addL, act, e, sh_add, Int.add_mul]
    omega
def mulL : List Int → List Int → List Int
  | [], _ => []
  | a :: l, m => addL (m.map (a * ·)) (0 :: mulL l m)
theorem act_mulL : ∀ (l m : List Int) (f : Se) (n : Nat), act (mulL l m) f n = act l (act m f) n
  | [], _, _, _ => rfl
  | a :: l, m, f, n => by
    have e : act (mulL l m) f = act l (act m f) := funext (act_mulL l m f)
    show act (addL (m.map (a * ·)) (0 :: mulL l m)) f n = a * act m f n + sh (act l (act m f)) n
    rw [act_addL, act_map]
    simp only [act, e, Int.zero_mul, Int.zero_add]
theorem act_one (f : Se) (n : Nat) : act [1] f n = f n := by
  show 1 * f n + sh (fun _ => 0) n = f n
  rw [sh_zero]
  omega
theorem act_cst (c : Int) (f : Se) (n : Nat) : act [c] f n = c * f n := by
  show c * f n + sh (fun _ => 0) n = c * f n
  rw [sh_zero]
  omega
theorem act_congr {f g : Se} (h : ∀ n, f n = g n) (l : List Int) (n : Nat) : act l f n = act l g n := by rw [show f = g from funext h]
/-! ### common divisors -/
/-- h divides A and B but for numbers, and is put together of them but for a number -/
structure Com (A B h : Se) : Prop where
  a : ∃ (c : Int) (u : List Int), c ≠ 0 ∧ ∀ n, c * A n = act u h n
  b : ∃ (d : Int) (v : List Int), d ≠ 0 ∧ ∀ n, d * B n = act v h n
  e : ∃ (e : Int) (s t : List Int), e ≠ 0 ∧ ∀ n, e * h n = act s A n + act t B n
theorem Com.base (A : Se) : Com A (fun _ => 0) A := ⟨⟨1, [1], by decide, fun n => by rw [act_one]; omega⟩, ⟨1, [], by decide, fun n => rfl⟩, ⟨1, [1], [], by decide, fun n => by rw [act_one]; simp [act]⟩⟩
/-- one division -/
theorem Com.step {A B R h : Se} {k m : Int} {q : List Int} (hk : k ≠ 0) (hm : m ≠ 0) (hd : ∀ n, k * A n = act q B n + m * R n) (C : Com B R h) : Com A B h := by
  obtain ⟨c, u, c0, hu⟩ := C.a
  obtain ⟨d, v, d0, hv⟩ := C.b
  obtain ⟨e, s, t, e0, he⟩ := C.e
  refine ⟨⟨k * c * d, addL (mulL (q.map (d * ·)) u) (v.map (m * c * ·)), ?_, fun n => ?_⟩, ⟨c, u, c0, hu⟩, ⟨e * m, t.map (k * ·), addL (s.map (m * ·)) ((mulL t q).map (-1 * ·)), ?_, fun n => ?_⟩⟩
  · exact Int.mul_ne_zero (Int.mul_ne_zero hk c0) d0
  · rw [act_addL, act_mulL, act_map, act_map]
    have h1 : act q (act u h) n = c * act q B n := by rw [act_congr (fun n => (hu n).symm) q n, act_smul]
    rw [h1, ← hv n]
    have := hd n
    calc k * c * d * A n = c * d * (k * A n) := by rw [Int.mul_comm k c, Int.mul_assoc c k d, Int.mul_comm k d, ← Int.mul_assoc c d k, Int.mul_assoc]
      _ = c * d * (act q B n + m * R n) := by rw [this]
      _ = d * (c * act q B n) + m * c * (d * R n) := by
        rw [Int.mul_add]
        congr 1
        · rw [Int.mul_comm c d, Int.mul_assoc]
        · rw [← Int.mul_assoc, ← Int.mul_assoc, Int.mul_comm (c * d) m, Int.mul_assoc m c d]
  · exact Int.mul_ne_zero e0 hm
  · rw [act_map, act_addL, act_map, act_map, act_mulL]
    have h1 : m * act t R n = k * act t A n - act t (act q B) n := by
      have z : ∀ n, m * R n = k * A n + -1 * act q B n := fun n => by have := hd n; omega
      have := act_congr z t n
      rw [act_smul, act_add, act_smul, act_smul] at this
      omega
    have h2 := he n
    calc e * m * h n = m * (e * h n) := by rw [Int.mul_comm e m, Int.mul_assoc]
      _ = m * act s B n + m * act t R n := by rw [h2, Int.mul_add]
      _ = _ := by rw [h1]; omega
theorem Com.mul {A B h : Se} {x y : Int} (x0 : x ≠ 0) (y0 : y ≠ 0) (C : Com A B h) : Com (fun n => x * A n) (fun n => y * B n) h := by
  obtain ⟨c, u, c0, hu⟩ := C.a
  obtain ⟨d, v, d0, hv⟩ := C.b
  obtain ⟨e, s, t, e0, he⟩ := C.e
  refine ⟨⟨c, u.map (x * ·), c0, fun n => ?_⟩, ⟨d, v.map (y * ·), d0, fun n => ?_⟩, ⟨x * y * e, s.map (y * ·), t.map (x * ·), Int.mul_ne_zero (Int.mul_ne_zero x0 y0) e0, fun n => ?_⟩⟩
  · rw [act_map, ← hu n, Int.mul_left_comm]
  · rw [act_map, ← hv n, Int.mul_left_comm]
  · rw [act_map, act_map, act_smul, act_smul]
    have := he n
    calc x * y * e * h n = x * y * (e * h n) := by rw [Int.mul_assoc]
      _ = _ := by rw [this, Int.mul_add, ← Int.mul_assoc, ← Int.mul_assoc, Int.mul_comm y x]
/-! ### lowest terms -/
theorem revRec {P : List Int → Prop} (nil : P []) (append_singleton : ∀ (l : List Int) (z : Int), P l → P (l ++ [z])) (w : List Int) : P w := by
  have key : ∀ l : List Int, P l.reverse := fun l => by
    induction l with
    | nil => exact nil
    | cons a l ih => rw [List.reverse_cons]; exact append_singleton _ _ ih
  have := key w.reverse
  rwa [List.reverse_reverse] at this
/-- no prime divides both, and they have no common divisor but numbers -/
structure Low (A B : Se) : Prop where
  p : ∀ p, Pr p → ∃ i, ¬ (p : Int) ∣ A i ∨ ¬ (p : Int) ∣ B i
  e : ∃ (e : Int) (s t : List Int), e ≠ 0 ∧ ∀ n, e * de n = act s A n + act t B n
/-- a common divisor of what is in lowest terms is a number -/
theorem Low.com {A B h : Se} {d : Nat} (L : Low A B) (C : Com A B h) (h0 : h d ≠ 0) (hz : ∀ n, d < n → h n = 0) : d = 0 := by
  obtain ⟨c, u, c0, hu⟩ := C.a
  obtain ⟨x, v, x0, hv⟩ := C.b
  obtain ⟨e, s, t, e0, he⟩ := L.e
  have key : ∀ n, c * x * e * de n = act (addL (mulL (s.map (x * ·)) u) (mulL (t.map (c * ·)) v)) h n := fun n => by
    rw [act_addL, act_mulL, act_mulL, act_map, act_map]
    have h1 : act s (act u h) n = c * act s A n := by rw [act_congr (fun n => (hu n).symm) s n, act_smul]
    have h2 : act t (act v h) n = x * act t B n := by rw [act_congr (fun n => (hv n).symm) t n, act_smul]
    rw [h1, h2]
    calc c * x * e * de n = c * x * (e * de n) := by rw [Int.mul_assoc]
      _ = _ := by rw [he n, Int.mul_add, Int.mul_comm c x, Int.mul_assoc x c, Int.mul_assoc x c, Int.mul_left_comm x c (act t B n)]
  have cx : c * x * e ≠ 0 := Int.mul_ne_zero (Int.mul_ne_zero c0 x0) e0
  -- the list's last factor that is not 0
  have trimmed : ∀ w : List Int, (∃ n, act w h n ≠ 0) → ∃ (l : List Int) (z : Int), z ≠ 0 ∧ ∀ n, act w h n = act (l ++ [z]) h n := by
    intro w
    induction w using revRec with
    | nil => intro ⟨n, hn⟩; exact absurd rfl hn
    | append_singleton l z ih =>
      intro hn
      by_cases z0 : z = 0
      · have same : ∀ n, act (l ++ [z]) h n = act l h n := by
          subst z0
          clear ih hn
          induction l with
          | nil => intro n; show (0 : Int) * h n + sh (fun _ => 0) n = 0; rw [sh_zero]; omega
          | cons a l ih =>
            intro n
            have e : act (l ++ [0]) h = act l h := funext ih
            show a * h n + sh (act (l ++ [0]) h) n = a * h n + sh (act l h) n
            rw [e]
        obtain ⟨n, hn⟩ := hn
        obtain ⟨l2, z2, y0, hl⟩ := ih ⟨n, by rw [← same n]; exact hn⟩
        exact ⟨l2, z2, y0, fun n => by rw [same n]; exact hl n⟩
      · exact ⟨l, z, z0, fun n => rfl⟩
  obtain ⟨l, z, z0, hl⟩ := trimmed _ ⟨0, by rw [← key 0]; show c * x * e * 1 ≠ 0; omega⟩
  have lead := act_lead hz z l
  have kd := key (d + l.length)
  rw [hl, lead] at kd
  have nz : z * h d ≠ 0 := Int.mul_ne_zero z0 h0
  by_cases q : d + l.length = 0
  · omega
  · rw [show de (d + l.length) = 0 from if_neg q] at kd
    exact absurd (by omega) nz
/-- what a prime divides behind multiplication with both -/
theorem Low.gauss {A B : Se} (L : Low A B) {p : Nat} (hp : Pr p) {z : List Int} (h1 : ∀ n, (p : Int) ∣ act z A n) (h2 : ∀ n, (p : Int) ∣ act z B n) : ∀ a ∈ z, (p : Int) ∣ a := by
  obtain ⟨i, hi⟩ := L.p p hp
  rcases hi with hi | hi
  · obtain ⟨i0, h0, hl⟩ := least (P := fun i => ¬ (p : Int) ∣ A i) ⟨i, hi⟩
    exact gauss_p hp h0 (fun j lt => Classical.byContradiction fun z => hl j lt z) z h1
  · obtain ⟨i0, h0, hl⟩ := least (P := fun i => ¬ (p : Int) ∣ B i) ⟨i, hi⟩
    exact gauss_p hp h0 (fun j lt => Classical.byContradiction fun z => hl j lt z) z h2
theorem Low.div {A B : Se} (L : Low A B) : ∀ (k : Nat) (c : Int) (z : List Int) (f g : Se), c.natAbs = k → c ≠ 0 → (∀ n, c * f n = act z A n) → (∀ n, c * g n = act z B n) → ∃ q : List Int, (∀ n, f n = act q A n) ∧ ∀ n, g n = act q B n := fun k => by
  induction k using Nat.strongRecOn with
  | _ k ih =>
    intro c z f g hk c0 hf hg
    by_cases h1 : c.natAbs = 1
    · have : c = 1 ∨ c = -1 := by omega
      refine ⟨z.map (c * ·), fun n => ?_, fun n => ?_⟩
      · rw [act_map, ← hf n]
        rcases this with rfl | rfl <;> omega
      · rw [act_map, ← hg n]
        rcases this with rfl | rfl <;> omega
    · obtain ⟨p, hp, pc⟩ := pr_ex c.natAbs (by omega)
      have pc' : (p : Int) ∣ c := Int.ofNat_dvd_left.mpr pc
      have p0 : (p : Int) ≠ 0 := by have := hp.1; omega
      obtain ⟨c', rfl⟩ := pc'
      have du := L.gauss hp (z := z) (fun n => ⟨c' * f n, by rw [← hf n, Int.mul_assoc]⟩) (fun n => ⟨c' * g n, by rw [← hg n, Int.mul_assoc]⟩)
      obtain ⟨v, rfl⟩ := div_all p0 du
      have c'0 : c' ≠ 0 := fun z => c0 (by rw [z]; simp)
      have lt : c'.natAbs < k := by
        rw [← hk, Int.natAbs_mul, Int.natAbs_natCast]
        have a1 := hp.1
        have a2 : 0 < c'.natAbs := by omega
        calc c'.natAbs = 1 * c'.natAbs := (Nat.one_mul _).symm
          _ < p * c'.natAbs := Nat.mul_lt_mul_of_pos_right a1 a2
      refine ih c'.natAbs lt c' v f g rfl c'0 (fun n => ?_) (fun n => ?_)
      · have := hf n
        rw [act_map, Int.mul_assoc] at this
        exact Int.eq_of_mul_eq_mul_left p0 this
      · have := hg n
        rw [act_map, Int.mul_assoc] at this
        exact Int.eq_of_mul_eq_mul_left p0 this
end M
/-! AG3: lowest terms are one; a fraction brought to lowest terms. -/
namespace M
theorem co_act (l m : List Int) (n : Nat) : act l (co m) n = act m (co l) n := act_comm l m de n
/-- what is the same fraction as one in lowest terms is a multiple of it -/
theorem Low.mult {A B f g : List Int} (L : Low (co A) (co B)) (h : ∀ n, act A (co g) n = act B (co f) n) : ∃ q : List Int, (∀ n, co f n = act q (co A) n) ∧ ∀ n, co g n = act q (co B) n := by
  obtain ⟨e, s, t, e0, he⟩ := L.e
  -- e f = (s f + t g) A, e g = (s f + t g) B
  have hf : ∀ n, e * co f n = act (addL (mulL s f) (mulL t g)) (co A) n := fun n => by
    rw [act_addL, act_mulL, act_mulL]
    have h1 : e * co f n = act f (fun n => e * de n) n := by rw [act_smul]; rfl
    rw [h1, act_congr he f n, act_add]
    rw [act_comm f s, act_comm f t]
    congr 1
    -- t (f B) = t (g A)
    have z : ∀ n, act f (co B) n = act g (co A) n := fun n => by rw [co_act f B, ← h n, co_act]
    rw [act_congr z t n]
  have hg : ∀ n, e * co g n = act (addL (mulL s f) (mulL t g)) (co B) n := fun n => by
    rw [act_addL, act_mulL, act_mulL]
    have h1 : e * co g n = act g (fun n => e * de n) n := by rw [act_smul]; rfl
    rw [h1, act_congr he g n, act_add]
    rw [act_comm g s, act_comm g t]
    congr 1
    have z : ∀ n, act g (co A) n = act f (co B) n := fun n => by rw [co_act g A, h n, co_act]
    rw [act_congr z s n]
  obtain ⟨q, h1, h2⟩ := L.div e.natAbs e _ (co f) (co g) rfl e0 hf hg
  exact ⟨q, h1, h2⟩
/-- a fraction a / b, h what is common of both, by its quotients -/
theorem Com.low {a b : List Int} {h : Se} (C : Com (co a) (co b) h) (hp : Prim h) (h0 : ∃ i, h i ≠ 0) : ∃ qa qb : List Int, (∀ n, co a n = act qa h n) ∧ (∀ n, co b n = act qb h n) ∧ ∃ (e : Int) (s t : List Int), e ≠ 0 ∧ ∀ n, e * de n = act s (co qa) n + act t (co qb) n := by
  obtain ⟨c, u, c0, hu⟩ := C.a
  obtain ⟨d, v, d0, hv⟩ := C.b
  obtain ⟨e, s, t, e0, he⟩ := C.e
  obtain ⟨qa, _, ha⟩ := gauss_div hp c.natAbs c u (co a) rfl c0 hu
  obtain ⟨qb, _, hb⟩ := gauss_div hp d.natAbs d v (co b) rfl d0 hv
  refine ⟨qa, qb, ha, hb, e, s, t, e0, ?_⟩
  -- (e - s qa - t qb) h = 0
  obtain ⟨i, hi⟩ := h0
  have z : ∀ n, act (addL [e] (addL ((mulL s qa).map (-1 * ·)) ((mulL t qb).map (-1 * ·)))) h n = 0 := fun n => by
    rw [act_addL, act_addL, act_map, act_map, act_mulL, act_mulL, act_cst]
    have h1 : act s (act qa h) n = act s (co a) n := act_congr (fun n => (ha n).symm) s n
    have h2 : act t (act qb h) n = act t (co b) n := act_congr (fun n => (hb n).symm) t n
    rw [h1, h2]
    have := he n
    omega
  have all := act_inj hi _ z
  have zero : ∀ n, act (addL [e] (addL ((mulL s qa).map (-1 * ·)) ((mulL t qb).map (-1 * ·)))) de n = 0 := by
    generalize addL [e] (addL ((mulL s qa).map (-1 * ·)) ((mulL t qb).map (-1 * ·))) = w at all
    clear z
    induction w with
    | nil => intro n; rfl
    | cons x w ih =>
      intro n
      have x0 := all x List.mem_cons_self
      have ih' : act w de = fun _ => 0 := funext (ih fun a m => all a (List.mem_cons_of_mem _ m))
      show x * de n + sh (act w de) n = 0
      rw [ih', sh_zero, x0]
      omega
  intro n
  have := zero n
  rw [act_addL, act_addL, act_map, act_map, act_mulL, act_mulL, act_cst] at this
  show e * de n = act s (act qa de) n + act t (act qb de) n
  omega
end M
/-! AG4: factor lists without zeros behind; lowest terms are unique. -/
namespace M
theorem co_cons (a : Int) (l : List Int) : co (a :: l) 0 = a ∧ ∀ n, co (a :: l) (n + 1) = co l n := by
  refine ⟨?_, fun n => ?_⟩
  · show a * 1 + 0 = a
    omega
  · show a * 0 + co l n = co l n
    omega
theorem co_get : ∀ (l : List Int) (n : Nat), co l n = l.getD n 0
  | [], _ => rfl
  | a :: l, 0 => (co_cons a l).1
  | a :: l, n + 1 => by rw [(co_cons a l).2 n, co_get l n]; rfl
theorem co_out {l : List Int} {n : Nat} (h : l.length ≤ n) : co l n = 0 := by
  rw [co_get]
  simp [List.getD, List.getElem?_eq_none h]
/-- lists with the same factors, both without zeros behind -/
theorem co_ext : ∀ {l m : List Int}, (∀ n, co l n = co m n) → l.length = m.length → l = m
  | [], [], _, _ => rfl
  | a :: l, b :: m, h, hl => by
    have h0 := h 0
    rw [(co_cons a l).1, (co_cons b m).1] at h0
    have := co_ext (l := l) (m := m) (fun n => by have := h (n + 1); rwa [(co_cons a l).2, (co_cons b m).2] at this) (by simpa using hl)
    rw [h0, this]
  | [], _ :: _, _, hl => by simp at hl
  | _ :: _, [], _, hl => by simp at hl
/-- of degree d, its lead not 0 -/
def Deg (f : Se) (d : Nat) : Prop := f d ≠ 0 ∧ ∀ n, d < n → f n = 0
theorem Deg.uniq {f : Se} {d d' : Nat} (h : Deg f d) (h' : Deg f d') : d = d' := by
  rcases Nat.lt_trichotomy d d' with q | q | q
  · exact absurd (h.2 d' q) h'.1
  · exact q
  · exact absurd (h'.2 d q) h.1
/-- the list's factors behind the last that is not 0 go -/
theorem trim_ex : ∀ w : List Int, (∀ n, co w n = 0) ∨ ∃ (l : List Int) (z : Int), z ≠ 0 ∧ ∀ (f : Se) n, act w f n = act (l ++ [z]) f n := by
  intro w
  induction w using revRec with
  | nil => exact .inl fun n => rfl
  | append_singleton l z ih =>
    by_cases z0 : z = 0
    · have same : ∀ (f : Se) n, act (l ++ [z]) f n = act l f n := by
        subst z0
        clear ih
        intro f
        induction l with
        | nil => intro n; show (0 : Int) * f n + sh (fun _ => 0) n = 0; rw [sh_zero]; omega
        | cons a l ih =>
          intro n
          have e : act (l ++ [0]) f = act l f := funext ih
          show a * f n + sh (act (l ++ [0]) f) n = a * f n + sh (act l f) n
          rw [e]
      rcases ih with ih | ⟨l2, z2, y0, hl⟩
      · exact .inl fun n => by show act (l ++ [z]) de n = 0; rw [same]; exact ih n
      · exact .inr ⟨l2, z2, y0, fun f n => by rw [same]; exact hl f n⟩
    · exact .inr ⟨l, z, z0, fun f n => rfl⟩
theorem act_zero_co {q : List Int} (h : ∀ n, co q n = 0) (f : Se) : ∀ n, act q f n = 0 := by
  induction q with
  | nil => intro n; rfl
  | cons a q ih =>
    have a0 : a = 0 := by have := h 0; rwa [(co_cons a q).1] at this
    have e : act q f = fun _ => 0 := funext (ih fun n => by have := h (n + 1); rwa [(co_cons a q).2] at this)
    intro n
    show a * f n + sh (act q f) n = 0
    rw [e, sh_zero, a0]
    omega
/-- a multiple's degree -/
theorem deg_mul {f g : Se} {d e : Nat} {q : List Int} (hf : Deg f d) (hg : Deg g e) (h : ∀ n, g n = act q f n) : d ≤ e ∧ (e = d → ∃ c : Int, c ≠ 0 ∧ (∀ (k : Se) n, act q k n = c * k n)) := by
  rcases trim_ex q with z | ⟨l, z, z0, hl⟩
  · exact absurd (by rw [h, act_zero_co z]) hg.1
  · have lead := act_lead hf.2 z l
    have top : Deg g (d + l.length) := ⟨by rw [h, hl, lead]; exact Int.mul_ne_zero z0 hf.1, fun n hn => by
      rw [h, hl]
      exact act_top hf.2 _ n (by rw [List.length_append, List.length_singleton]; omega)⟩
    have e1 := hg.uniq top
    refine ⟨by omega, fun ed => ⟨z, z0, fun k n => ?_⟩⟩
    have l0 : l = [] := List.eq_nil_of_length_eq_zero (by omega)
    subst l0
    rw [hl, List.nil_append, act_cst]
/-- lowest terms, the lead below above 0, are one -/
theorem Low.uniq {A B A' B' : List Int} {d d' : Nat} (L : Low (co A) (co B)) (L' : Low (co A') (co B')) (h : ∀ n, act A (co B') n = act B (co A') n) (db : Deg (co B) d) (db' : Deg (co B') d') (p : 0 < co B d) (p' : 0 < co B' d') : (∀ n, co A n = co A' n) ∧ ∀ n, co B n = co B' n := by
  obtain ⟨q, q1, q2⟩ := L.mult (f := A') (g := B') h
  obtain ⟨r, r1, r2⟩ := L'.mult (f := A) (g := B) fun n => by rw [co_act A' B, co_act B' A]; exact (h n).symm
  obtain ⟨m1, m2⟩ := deg_mul db db' q2
  obtain ⟨m3, m4⟩ := deg_mul db' db r2
  have e : d' = d := by omega
  obtain ⟨c, c0, hc⟩ := m2 e
  obtain ⟨x, x0, hx⟩ := m4 e.symm
  subst e
  have e1 : co B' d' = c * co B d' := by rw [q2, hc]
  have e2 : co B d' = x * co B' d' := by rw [r2, hx]
  have cx : c * x = 1 := by
    have : co B d' * (c * x) = co B d' * 1 := by
      calc co B d' * (c * x) = x * (c * co B d') := by rw [Int.mul_comm, Int.mul_comm c x, Int.mul_assoc]
        _ = co B d' * 1 := by rw [← e1, ← e2, Int.mul_one]
    exact Int.eq_of_mul_eq_mul_left (by omega) this
  have cp : 0 < c := by
    rcases Int.lt_trichotomy c 0 with q | q | q
    · have := Int.mul_neg_of_neg_of_pos q p
      omega
    · exact absurd q c0
    · exact q
  have xp : 0 < x := by
    rcases Int.lt_trichotomy x 0 with q | q | q
    · have := Int.mul_neg_of_neg_of_pos q p'
      omega
    · exact absurd q x0
    · exact q
  have c1 : c = 1 := by
    have : c ∣ 1 := ⟨x, cx.symm⟩
    have := Int.le_of_dvd (by decide) this
    omega
  exact ⟨fun n => by rw [q1, hc, c1]; omega, fun n => by rw [q2, hc, c1]; omega⟩
end M
/-! AG5: the common divisor of a list's factors; primitive lists; a pair without common divisor. -/
namespace M
def cont : List Int → Nat
  | [] => 0
  | a :: l => Nat.gcd a.natAbs (cont l)
theorem cont_dvd : ∀ {l : List Int}, ∀ a ∈ l, (cont l : Int) ∣ a
  | x :: l, a, h => by
    rcases List.mem_cons.mp h with rfl | h
    · exact Int.ofNat_dvd_left.mpr (Nat.gcd_dvd_left _ _)
    · exact Int.dvd_trans (Int.ofNat_dvd.mpr (Nat.gcd_dvd_right _ _)) (cont_dvd a h)
theorem dvd_cont {p : Nat} : ∀ {l : List Int}, (∀ a ∈ l, (p : Int) ∣ a) → p ∣ cont l
  | [], _ => Nat.dvd_zero p
  | x :: l, h => Nat.dvd_gcd (Int.ofNat_dvd_left.mp (h x List.mem_cons_self)) (dvd_cont fun a m => h a (List.mem_cons_of_mem _ m))
theorem cont_append : ∀ l m : List Int, cont (l ++ m) = Nat.gcd (cont l) (cont m)
  | [], m => by simp [cont]
  | a :: l, m => by
    show Nat.gcd a.natAbs (cont (l ++ m)) = Nat.gcd (Nat.gcd a.natAbs (cont l)) (cont m)
    rw [cont_append l m, Nat.gcd_assoc]
theorem co_mem : ∀ {l : List Int} {a : Int}, a ∈ l → ∃ i, co l i = a
  | x :: l, a, h => by
    rcases List.mem_cons.mp h with rfl | h
    · exact ⟨0, (co_cons a l).1⟩
    · obtain ⟨i, hi⟩ := co_mem h
      exact ⟨i + 1, by rw [(co_cons x l).2]; exact hi⟩
/-- a prime that divides all of the series divides the common divisor -/
theorem dvd_cont_co {p : Nat} {l : List Int} (h : ∀ i, (p : Int) ∣ co l i) : p ∣ cont l := dvd_cont fun a m => by
  obtain ⟨i, rfl⟩ := co_mem m
  exact h i
theorem prim_of {l : List Int} (h : cont l = 1) : Prim (co l) := fun p hp => Classical.byContradiction fun z => by
  have := dvd_cont_co (p := p) (l := l) fun i => Classical.byContradiction fun w => z ⟨i, w⟩
  rw [h] at this
  have := Nat.le_of_dvd (by decide) this
  have := hp.1
  omega
theorem pair_of {l m : List Int} (h : cont (l ++ m) = 1) : ∀ p, Pr p → ∃ i, ¬ (p : Int) ∣ co l i ∨ ¬ (p : Int) ∣ co m i := fun p hp => Classical.byContradiction fun z => by
  have a := dvd_cont_co (p := p) (l := l) fun i => Classical.byContradiction fun w => z ⟨i, .inl w⟩
  have b := dvd_cont_co (p := p) (l := m) fun i => Classical.byContradiction fun w => z ⟨i, .inr w⟩
  have : p ∣ cont (l ++ m) := by rw [cont_append]; exact Nat.dvd_gcd a b
  rw [h] at this
  have := Nat.le_of_dvd (by decide) this
  have := hp.1
  omega
/-- divided by a number that divides them all -/
theorem act_div {c : Int} {l : List Int} (hd : ∀ a ∈ l, c ∣ a) (f : Se) (n : Nat) : c * act (l.map (· / c)) f n = act l f n := by
  rw [← act_map, List.map_map]
  have e : l.map ((fun x => c * x) ∘ fun x => x / c) = l := by
    have : ∀ a ∈ l, ((fun x => c * x) ∘ fun x => x / c) a = a := fun a m => Int.mul_ediv_cancel' (hd a m)
    rw [List.map_congr_left this]
    simp
  rw [e]
theorem cont_div {l : List Int} {c : Nat} (c0 : 0 < c) : (∀ a ∈ l, (c : Int) ∣ a) → cont (l.map (· / (c : Int))) * c = cont l := fun h => by
  induction l with
  | nil => simp [cont]
  | cons a l ih =>
    have ih := ih fun x m => h x (List.mem_cons_of_mem _ m)
    show Nat.gcd (a / (c : Int)).natAbs (cont (l.map (· / (c : Int)))) * c = Nat.gcd a.natAbs (cont l)
    obtain ⟨b, rfl⟩ := h a List.mem_cons_self
    rw [Int.mul_ediv_cancel_left _ (by omega : (c : Int) ≠ 0), Int.natAbs_mul, Int.natAbs_natCast, ← ih, Nat.mul_comm c, ← Nat.gcd_mul_right]
end M
/-! AG6: a fraction of polynomials brought to lowest terms. -/
namespace M
theorem cont_abs {f : Int → Int} (h : ∀ a, (f a).natAbs = a.natAbs) : ∀ l : List Int, cont (l.map f) = cont l
  | [] => rfl
  | a :: l => by
    show Nat.gcd (f a).natAbs (cont (l.map f)) = Nat.gcd a.natAbs (cont l)
    rw [h, cont_abs h l]
/-- divided by a number, above or below 0, that is but for its sign the common divisor of both -/
theorem cont_one {l m : List Int} {k : Int} (hk : k.natAbs = cont (l ++ m)) (k0 : k ≠ 0) : cont (l.map (· / k) ++ m.map (· / k)) = 1 := by
  rw [← List.map_append]
  have hd : ∀ a ∈ l ++ m, ((k.natAbs : Nat) : Int) ∣ a := fun a h => by rw [hk]; exact cont_dvd a h
  have c0 : 0 < k.natAbs := by omega
  have e := cont_div c0 hd
  have same : cont ((l ++ m).map (· / k)) = cont ((l ++ m).map (· / ((k.natAbs : Nat) : Int))) := by
    rcases Int.lt_or_gt_of_ne k0 with n | n
    · have kk : k = -((k.natAbs : Nat) : Int) := by omega
      have : ((l ++ m).map (· / k)) = ((l ++ m).map (· / ((k.natAbs : Nat) : Int))).map (fun x => -x) := by
        rw [List.map_map]
        refine List.map_congr_left fun a _ => ?_
        show a / k = -(a / ((k.natAbs : Nat) : Int))
        rw [show a / k = a / -((k.natAbs : Nat) : Int) from by rw [← kk], Int.ediv_neg]
      rw [this, cont_abs fun a => by rw [Int.natAbs_neg]]
    · rw [show ((k.natAbs : Nat) : Int) = k from by omega]
  rw [same]
  have : cont ((l ++ m).map (· / ((k.natAbs : Nat) : Int))) * k.natAbs = 1 * k.natAbs := by rw [e, ← hk, Nat.one_mul]
  exact Nat.eq_of_mul_eq_mul_right c0 this
/-- a / b in lowest terms: the quotients by what is common, divided by their common divisor -/
theorem low_of {a b qa qb : List Int} {h : Se} {k : Int} (ha : ∀ n, co a n = act qa h n) (hb : ∀ n, co b n = act qb h n) (he : ∃ (e : Int) (s t : List Int), e ≠ 0 ∧ ∀ n, e * de n = act s (co qa) n + act t (co qb) n) (hk : k.natAbs = cont (qa ++ qb)) (k0 : k ≠ 0) :
    Low (co (qa.map (· / k))) (co (qb.map (· / k))) ∧ ∀ n, act (qa.map (· / k)) (co b) n = act (qb.map (· / k)) (co a) n := by
  have hd : ∀ x ∈ qa ++ qb, k ∣ x := fun x m => by
    have : ((k.natAbs : Nat) : Int) ∣ x := by rw [hk]; exact cont_dvd x m
    exact Int.natAbs_dvd.mp this
  have da := fun f n => act_div (c := k) (l := qa) (fun x m => hd x (List.mem_append_left _ m)) f n
  have db := fun f n => act_div (c := k) (l := qb) (fun x m => hd x (List.mem_append_right _ m)) f n
  refine ⟨⟨pair_of (cont_one hk k0), ?_⟩, fun n => ?_⟩
  · obtain ⟨e, s, t, e0, h1⟩ := he
    refine ⟨e, s.map (k * ·), t.map (k * ·), e0, fun n => ?_⟩
    rw [act_map, act_map, h1 n]
    congr 1
    · rw [← act_smul]
      exact act_congr (fun n => (da de n).symm) s n
    · rw [← act_smul]
      exact act_congr (fun n => (db de n).symm) t n
  · have : k * act (qa.map (· / k)) (co b) n = k * act (qb.map (· / k)) (co a) n := by
      rw [da, db, act_congr hb qa n, act_congr ha qb n, act_comm]
    exact Int.eq_of_mul_eq_mul_left k0 this
end M
/-! AG7: one step of a division. -/
namespace M
/-- c times the k-th power -/
def mon (k : Nat) (c : Int) : List Int := List.replicate k 0 ++ [c]
theorem act_mon (c : Int) (f : Se) : ∀ (k n : Nat), act (mon k c) f n = if n < k then 0 else c * f (n - k)
  | 0, n => by
    show c * f n + sh (fun _ => 0) n = _
    rw [sh_zero, if_neg (Nat.not_lt_zero n)]
    simp
  | k + 1, 0 => by
    show 0 * f 0 + 0 = _
    rw [if_pos (Nat.succ_pos k)]
    omega
  | k + 1, n + 1 => by
    have ih := act_mon c f k n
    show 0 * f (n + 1) + act (mon k c) f n = _
    rw [ih]
    by_cases h : n < k
    · rw [if_pos h, if_pos (by omega)]
      omega
    · rw [if_neg h, if_neg (by omega), show n + 1 - (k + 1) = n - k from by omega]
      omega
/-- a multiple's lead: exactly divided by the divisor's lead; what is left is a multiple, too, and of a lower degree -/
theorem quot_step {r q : List Int} {h : Se} {d e : Nat} (hh : Deg h d) (hr : Deg (co r) e) (hq : ∀ n, co r n = act q h n) :
    d ≤ e ∧ ∃ c : Int, co r e = c * h d ∧ (∃ q' : List Int, ∀ n, co r n - act (mon (e - d) c) h n = act q' h n) ∧ ∀ n, e ≤ n → co r n - act (mon (e - d) c) h n = 0 := by
  rcases trim_ex q with z | ⟨l, c, c0, hl⟩
  · exact absurd (by rw [hq, act_zero_co z]) hr.1
  · have lead := act_lead hh.2 c l
    have top : Deg (co r) (d + l.length) := ⟨by rw [hq, hl, lead]; exact Int.mul_ne_zero c0 hh.1, fun n hn => by
      rw [hq, hl]
      exact act_top hh.2 _ n (by rw [List.length_append, List.length_singleton]; omega)⟩
    have e1 := hr.uniq top
    have ce : co r e = c * h d := by rw [e1, hq, hl, lead]
    refine ⟨by omega, c, ce, ⟨addL q ((mon (e - d) c).map (-1 * ·)), fun n => ?_⟩, fun n hn => ?_⟩
    · rw [act_addL, act_map, ← hq n]
      omega
    · rw [act_mon, if_neg (by omega)]
      by_cases q2 : n = e
      · subst q2
        rw [show n - (n - d) = d from by omega, ce]
        omega
      · rw [hr.2 n (by omega), hh.2 (n - (e - d)) (by omega)]
        omega
/-- one step of the division that leaves a rest: k a - c x^(e-d) b, the lead gone -/
theorem rest_step {r : List Int} {b : Se} {d e : Nat} (hb : Deg b d) (hr : Deg (co r) e) (hd : d ≤ e) : ∀ n, e ≤ n → b d * co r n - act (mon (e - d) (co r e)) b n = 0 := fun n hn => by
  rw [act_mon, if_neg (by omega)]
  by_cases q2 : n = e
  · subst q2
    rw [show n - (n - d) = d from by omega, Int.mul_comm]
    omega
  · rw [hr.2 n (by omega), hb.2 (n - (e - d)) (by omega)]
    omega
end M
/-! AG8: the program's functions on factor lists: trimmed, row_sum, row_product. -/
namespace M
/-- without zeros behind the highest factor, one factor at least -/
def trimR : List Int → List Int
  | [] => []
  | [a] => [a]
  | a :: b :: l => match trimR (b :: l) with
    | [0] => [a]
    | t => a :: t
/-- a row: one factor at least, none 0 behind but for the row of 0 -/
def Row (l : List Int) : Prop := l = [0] ∨ ∃ (i : List Int) (z : Int), z ≠ 0 ∧ l = i ++ [z]
theorem trimR_co : ∀ (l : List Int) (n : Nat), co (trimR l) n = co l n
  | [], _ => rfl
  | [_], _ => rfl
  | a :: b :: l, n => by
    have ih := trimR_co (b :: l)
    unfold trimR
    split
    · rename_i e
      rw [e] at ih
      cases n with
      | zero => rw [(co_cons a _).1, (co_cons a _).1]
      | succ n =>
        rw [(co_cons a _).2, (co_cons a _).2, ← ih n]
        show 0 = co [0] n
        cases n with
        | zero => rw [(co_cons 0 _).1]
        | succ n => rw [(co_cons 0 _).2]; rfl
    · cases n with
      | zero => rw [(co_cons a _).1, (co_cons a _).1]
      | succ n => rw [(co_cons a _).2, (co_cons a _).2, ih n]
theorem trimR_row : ∀ {l : List Int}, l ≠ [] → Row (trimR l)
  | [], h => absurd rfl h
  | [a], _ => by
    by_cases a0 : a = 0
    · subst a0; exact .inl rfl
    · exact .inr ⟨[], a, a0, rfl⟩
  | a :: b :: l, _ => by
    have ih := trimR_row (l := b :: l) (by simp)
    unfold trimR
    split
    · by_cases a0 : a = 0
      · subst a0; exact .inl rfl
      · exact .inr ⟨[], a, a0, rfl⟩
    · rename_i ne
      rcases ih with ih | ⟨i, z, z0, e⟩
      · exact absurd ih ne
      · exact .inr ⟨a :: i, z, z0, by rw [e]; rfl⟩
/-- two rows with the same factors are one -/
theorem Row.ext {l m : List Int} (hl : Row l) (hm : Row m) (h : ∀ n, co l n = co m n) : l = m := by
  have dg : ∀ {l : List Int} {i : List Int} {z : Int}, z ≠ 0 → l = i ++ [z] → Deg (co l) i.length := fun {l i z} z0 e => by
    subst e
    refine ⟨?_, fun n hn => co_out (by simp; omega)⟩
    rw [co_get]
    simp [List.getD, z0]
  have zero : ∀ {l : List Int} {i : List Int} {z : Int}, z ≠ 0 → l = i ++ [z] → (∀ n, co l n = co [0] n) → False := fun {l i z} z0 e w => by
    have := (dg z0 e).1
    rw [w, co_get] at this
    cases k : i.length with
    | zero => rw [k] at this; exact this rfl
    | succ k' => rw [k] at this; exact this rfl
  rcases hl with rfl | ⟨i, z, z0, e⟩
  · rcases hm with rfl | ⟨j, y, y0, e2⟩
    · rfl
    · exact (zero y0 e2 fun n => (h n).symm).elim
  · rcases hm with rfl | ⟨j, y, y0, e2⟩
    · exact (zero z0 e h).elim
    · refine co_ext h ?_
      have d1 := dg z0 e
      have d2 := dg y0 e2
      have : Deg (co m) i.length := ⟨by rw [← h]; exact d1.1, fun n hn => by rw [← h]; exact d1.2 n hn⟩
      have e3 := this.uniq d2
      rw [e, e2, List.length_append, List.length_append, e3]
      rfl
theorem Row.deg {l : List Int} (h : Row l) (n : l ≠ [0]) : Deg (co l) (l.length - 1) := by
  rcases h with h | ⟨i, z, z0, e⟩
  · exact absurd h n
  · subst e
    refine ⟨?_, fun n hn => co_out (by simp at hn ⊢; omega)⟩
    rw [co_get]
    simp [List.getD, z0]
end M
/-! AG9: the division that leaves a rest. -/
namespace M
def leadR (l : List Int) : Int := l.getD (l.length - 1) 0
theorem leadR_co (l : List Int) : leadR l = co l (l.length - 1) := (co_get _ _).symm
def shiftR (k : Nat) (b : List Int) : List Int := List.replicate k 0 ++ b
theorem shiftR_co (b : List Int) : ∀ (k n : Nat), co (shiftR k b) n = if n < k then 0 else co b (n - k)
  | 0, n => by
    rw [if_neg (Nat.not_lt_zero n)]
    rfl
  | k + 1, 0 => by
    rw [if_pos (Nat.succ_pos k)]
    exact (co_cons 0 (shiftR k b)).1
  | k + 1, n + 1 => by
    have e : co (shiftR (k + 1) b) (n + 1) = co (shiftR k b) n := (co_cons 0 (shiftR k b)).2 n
    rw [e, shiftR_co b k n]
    by_cases h : n < k
    · rw [if_pos h, if_pos (by omega)]
    · rw [if_neg h, if_neg (by omega), show n + 1 - (k + 1) = n - k from by omega]
theorem co_map (c : Int) (l : List Int) (n : Nat) : co (l.map (c * ·)) n = c * co l n := act_map c l de n
theorem co_addL (l m : List Int) (n : Nat) : co (addL l m) n = co l n + co m n := act_addL l m de n
def divStep (r b : List Int) : List Int := trimR (addL (r.map (leadR b * ·)) ((shiftR (r.length - b.length) b).map (-leadR r * ·)))
theorem divStep_co {r b : List Int} (h : b.length ≤ r.length) (hb : b ≠ []) (n : Nat) : co (divStep r b) n = co b (b.length - 1) * co r n - act (mon ((r.length - 1) - (b.length - 1)) (co r (r.length - 1))) (co b) n := by
  unfold divStep
  rw [trimR_co, co_addL, co_map, co_map, shiftR_co, act_mon, leadR_co, leadR_co]
  have bl : 0 < b.length := List.length_pos_iff.mpr hb
  rw [show r.length - 1 - (b.length - 1) = r.length - b.length from by omega]
  by_cases q : n < r.length - b.length
  · rw [if_pos q, if_pos q]; omega
  · rw [if_neg q, if_neg q, Int.neg_mul]; omega
theorem Row.ne {l : List Int} (h : Row l) : l ≠ [] := by
  rcases h with rfl | ⟨i, z, _, rfl⟩ <;> simp
theorem Row.len {l : List Int} (h : Row l) {e : Nat} (hz : ∀ n, e ≤ n → co l n = 0) : l = [0] ∨ l.length ≤ e := by
  by_cases q : l = [0]
  · exact .inl q
  · refine .inr ?_
    have d := (h.deg q).1
    have := List.length_pos_iff.mpr h.ne
    by_cases c : l.length ≤ e
    · exact c
    · exact absurd (hz (l.length - 1) (by omega)) d
def divR : Nat → List Int → List Int → List Int
  | 0, r, _ => r
  | k + 1, r, b => if b.length ≤ r.length ∧ r ≠ [0] then divR k (divStep r b) b else r
theorem divR_ok {b : List Int} (hb : Row b) (b0 : b ≠ [0]) : ∀ (k : Nat) (r : List Int), Row r → (r = [0] ∨ r.length < k + b.length) → Row (divR k r b) ∧ (divR k r b = [0] ∨ (divR k r b).length < b.length) ∧ ∃ (c : Int) (q : List Int), c ≠ 0 ∧ ∀ n, c * co r n = act q (co b) n + co (divR k r b) n
  | 0, r, hr, hl => ⟨hr, hl.imp id (fun h => by show r.length < b.length; omega), 1, [], by decide, fun n => by show 1 * co r n = 0 + co r n; omega⟩
  | k + 1, r, hr, hl => by
    unfold divR
    by_cases q : b.length ≤ r.length ∧ r ≠ [0]
    · rw [if_pos q]
      have db := hb.deg b0
      have dr := hr.deg q.2
      have st := rest_step db dr (by omega)
      have e := fun n => divStep_co (r := r) q.1 hb.ne n
      have ne : addL (r.map (leadR b * ·)) ((shiftR (r.length - b.length) b).map (-leadR r * ·)) ≠ [] := by
        have := hr.ne
        cases r with
        | nil => exact absurd rfl this
        | cons x r =>
          cases hs : (shiftR ((x :: r).length - b.length) b).map (-leadR (x :: r) * ·) with
          | nil => simp [addL]
          | cons y m => simp [addL]
      have hrow : Row (divStep r b) := trimR_row ne
      have len := hrow.len (e := r.length - 1) fun n hn => by rw [e]; exact st n hn
      have small : divStep r b = [0] ∨ (divStep r b).length < k + b.length := len.imp id fun z => by
        have := List.length_pos_iff.mpr hr.ne
        have := hl.resolve_left q.2
        omega
      obtain ⟨h1, h2, c, q', c0, h3⟩ := divR_ok hb b0 k (divStep r b) hrow small
      refine ⟨h1, h2, c * co b (b.length - 1), addL q' ((mon ((r.length - 1) - (b.length - 1)) (co r (r.length - 1))).map (c * ·)), Int.mul_ne_zero c0 db.1, fun n => ?_⟩
      rw [act_addL, act_map]
      have := h3 n
      rw [e n, Int.mul_sub, ← Int.mul_assoc] at this
      omega
    · rw [if_neg q]
      refine ⟨hr, ?_, 1, [], by decide, fun n => by show 1 * co r n = 0 + co r n; omega⟩
      by_cases z : r = [0]
      · exact .inl z
      · exact .inr (by have : ¬ b.length ≤ r.length := fun w => q ⟨w, z⟩; omega)
end M
/-! AG10: what two rows have in common. -/
namespace M
def plainR (l : List Int) : List Int := l.map (· / (cont l : Int))
theorem cont_zero : ∀ {l : List Int}, cont l = 0 → ∀ n, co l n = 0
  | [], _, _ => rfl
  | a :: l, h, n => by
    have h' : Nat.gcd a.natAbs (cont l) = 0 := h
    have h1 : a.natAbs = 0 := Nat.eq_zero_of_gcd_eq_zero_left h'
    have h2 : cont l = 0 := Nat.eq_zero_of_gcd_eq_zero_right h'
    cases n with
    | zero => rw [(co_cons a l).1]; omega
    | succ n => rw [(co_cons a l).2]; exact cont_zero h2 n
theorem plainR_ok {l : List Int} (h : Row l) (n0 : l ≠ [0]) : Row (plainR l) ∧ plainR l ≠ [0] ∧ cont (plainR l) = 1 ∧ (cont l : Int) ≠ 0 ∧ (plainR l).length = l.length ∧ ∀ n, (cont l : Int) * co (plainR l) n = co l n := by
  have c0 : cont l ≠ 0 := fun z => (h.deg n0).1 (cont_zero z _)
  have hd : ∀ a ∈ l, ((cont l : Nat) : Int) ∣ a := fun a m => cont_dvd a m
  have e := fun n => act_div (c := (cont l : Int)) hd de n
  have ci : (cont l : Int) ≠ 0 := by omega
  have co_e : ∀ n, (cont l : Int) * co (plainR l) n = co l n := e
  have len : (plainR l).length = l.length := List.length_map _
  have row : Row (plainR l) ∧ plainR l ≠ [0] := by
    rcases h with h | ⟨i, z, z0, hz⟩
    · exact absurd h n0
    · have zd : ((cont l : Nat) : Int) ∣ z := cont_dvd z (by rw [hz]; simp)
      have y0 : z / (cont l : Int) ≠ 0 := fun w => z0 (by have := Int.mul_ediv_cancel' zd; rw [w] at this; omega)
      have form : plainR l = i.map (· / (cont l : Int)) ++ [z / (cont l : Int)] := by
        unfold plainR
        generalize (cont l : Int) = c
        rw [hz, List.map_append]
        rfl
      refine ⟨.inr ⟨_, _, y0, form⟩, fun w => ?_⟩
      have d := (Row.deg (l := l) (.inr ⟨i, z, z0, hz⟩) n0).1
      have k := co_e (l.length - 1)
      rw [w] at k
      rw [w] at len
      have l1 : l.length = 1 := len.symm
      rw [l1] at k d
      have : co [0] (1 - 1) = 0 := (co_cons 0 []).1
      rw [this] at k
      omega
  refine ⟨row.1, row.2, ?_, ci, len, co_e⟩
  have k := cont_div (l := l) (c := cont l) (by omega) hd
  have : cont (plainR l) * cont l = 1 * cont l := by
    show cont (l.map (· / ((cont l : Nat) : Int))) * cont l = _
    rw [k, Nat.one_mul]
  exact Nat.eq_of_mul_eq_mul_right (by omega) this
/-- what is left of a behind division by b, but for a number -/
def restR (a b : List Int) : List Int := if divR (a.length + 1) a b = [0] then [0] else plainR (divR (a.length + 1) a b)
def commonR : Nat → List Int → List Int → List Int
  | 0, a, _ => a
  | k + 1, a, b => if b = [0] then a else commonR k b (restR a b)
theorem restR_ok {a b : List Int} (ha : Row a) (hb : Row b) (b0 : b ≠ [0]) : Row (restR a b) ∧ (restR a b = [0] ∨ cont (restR a b) = 1 ∧ restR a b ≠ [0] ∧ (restR a b).length < b.length) ∧ ∃ (k m : Int) (q : List Int), k ≠ 0 ∧ m ≠ 0 ∧ ∀ n, k * co a n = act q (co b) n + m * co (restR a b) n := by
  obtain ⟨h1, h2, c, q, c0, h3⟩ := divR_ok hb b0 (a.length + 1) a ha (.inr (by omega))
  unfold restR
  by_cases z : divR (a.length + 1) a b = [0]
  · rw [if_pos z]
    refine ⟨.inl rfl, .inl rfl, c, 1, q, c0, by decide, fun n => ?_⟩
    rw [h3 n, z]
    omega
  · rw [if_neg z]
    obtain ⟨p1, p2, p3, p4, p5, p6⟩ := plainR_ok h1 z
    refine ⟨p1, .inr ⟨p3, p2, ?_⟩, c, _, q, c0, p4, fun n => ?_⟩
    · rw [p5]; exact h2.resolve_left z
    · rw [p6, h3 n]
theorem commonR_ok : ∀ (k : Nat) (a b : List Int), Row a → a ≠ [0] → cont a = 1 → Row b → (b = [0] ∨ cont b = 1) → (b = [0] ∨ b.length < k) → 0 < k → Row (commonR k a b) ∧ commonR k a b ≠ [0] ∧ cont (commonR k a b) = 1 ∧ Com (co a) (co b) (co (commonR k a b))
  | 0, a, b, _, _, _, _, _, _, h => absurd h (Nat.lt_irrefl 0)
  | k + 1, a, b, ha, a0, ca, hb, cb, hk, _ => by
    unfold commonR
    by_cases b0 : b = [0]
    · rw [if_pos b0]
      refine ⟨ha, a0, ca, ?_⟩
      have e : co b = fun _ => 0 := funext fun n => by
        rw [b0]
        cases n with
        | zero => exact (co_cons 0 []).1
        | succ n => rw [(co_cons 0 []).2]; rfl
      rw [e]
      exact Com.base (co a)
    · rw [if_neg b0]
      obtain ⟨r1, r2, x, m, q, x0, m0, r3⟩ := restR_ok ha hb b0
      have bl := List.length_pos_iff.mpr hb.ne
      have bk := hk.resolve_left b0
      obtain ⟨g1, g2, g3, g4⟩ := commonR_ok k b (restR a b) hb b0 (cb.resolve_left b0) r1 (r2.imp id fun h => h.1) (r2.imp id fun h => by omega) (by omega)
      exact ⟨g1, g2, g3, g4.step x0 m0 r3⟩
end M
/-! AG11: exact division. -/
namespace M
def quotR : Nat → List Int → List Int → List Int → List Int
  | 0, f, _, _ => f
  | k + 1, f, r, b => if r = [0] then f else
    quotR k (trimR (addL f (mon (r.length - b.length) ((leadR r).fdiv (leadR b))))) (trimR (addL r ((shiftR (r.length - b.length) b).map (-(leadR r).fdiv (leadR b) * ·)))) b
theorem act_trimR : ∀ (l : List Int) (f : Se) (n : Nat), act (trimR l) f n = act l f n
  | [], _, _ => rfl
  | [_], _, _ => rfl
  | a :: b :: l, f, n => by
    have ih := funext (act_trimR (b :: l) f)
    unfold trimR
    split
    · rename_i e
      rw [e] at ih
      show a * f n + sh (fun _ => 0) n = a * f n + sh (act (b :: l) f) n
      rw [← ih]
      have z : act [0] f = fun _ => 0 := funext fun n => by rw [act_cst]; omega
      rw [z]
    · show a * f n + sh (act (trimR (b :: l)) f) n = a * f n + sh (act (b :: l) f) n
      rw [ih]
theorem addL_ne {l m : List Int} (h : l ≠ []) : addL l m ≠ [] := by
  cases l with
  | nil => exact absurd rfl h
  | cons a l => cases m <;> simp [addL]
theorem quotR_ok {b : List Int} (hb : Row b) (b0 : b ≠ [0]) : ∀ (k : Nat) (f r : List Int), Row f → Row r → (∃ q : List Int, ∀ n, co r n = act q (co b) n) → (r = [0] ∨ r.length < k + b.length) → Row (quotR k f r b) ∧ ∀ n, act (quotR k f r b) (co b) n = act f (co b) n + co r n
  | 0, f, r, hf, hr, hq, hl => by
    refine ⟨hf, fun n => ?_⟩
    have r0 : r = [0] := Classical.byContradiction fun z => by
      obtain ⟨q, hq⟩ := hq
      have := (quot_step (hb.deg b0) (hr.deg z) hq).1
      have := hl.resolve_left z
      have := List.length_pos_iff.mpr hr.ne
      have := List.length_pos_iff.mpr hb.ne
      omega
    rw [r0]
    show act f (co b) n = act f (co b) n + co [0] n
    have z : co [0] n = 0 := by
      cases n with
      | zero => exact (co_cons 0 []).1
      | succ n => rw [(co_cons 0 []).2]; rfl
    omega
  | k + 1, f, r, hf, hr, hq, hl => by
    unfold quotR
    by_cases r0 : r = [0]
    · rw [if_pos r0]
      refine ⟨hf, fun n => ?_⟩
      rw [r0]
      have z : co [0] n = 0 := by
        cases n with
        | zero => exact (co_cons 0 []).1
        | succ n => rw [(co_cons 0 []).2]; rfl
      omega
    · rw [if_neg r0]
      obtain ⟨q, hq⟩ := hq
      have db := hb.deg b0
      obtain ⟨le, c, ce, hq', hz⟩ := quot_step db (hr.deg r0) hq
      have rl := List.length_pos_iff.mpr hr.ne
      have bl := List.length_pos_iff.mpr hb.ne
      have ex : (leadR r).fdiv (leadR b) = c := by
        rw [leadR_co, leadR_co, ce]
        exact Int.mul_fdiv_cancel c db.1
      have at_ : r.length - 1 - (b.length - 1) = r.length - b.length := by omega
      rw [at_] at hq' hz
      rw [ex]
      have rc : ∀ n, co (trimR (addL r ((shiftR (r.length - b.length) b).map (-c * ·)))) n = co r n - act (mon (r.length - b.length) c) (co b) n := fun n => by
        rw [trimR_co, co_addL, co_map, shiftR_co, act_mon]
        by_cases q2 : n < r.length - b.length
        · rw [if_pos q2, if_pos q2]; omega
        · rw [if_neg q2, if_neg q2, Int.neg_mul]; omega
      have rr : Row (trimR (addL r ((shiftR (r.length - b.length) b).map (-c * ·)))) := trimR_row (addL_ne hr.ne)
      have len := rr.len (e := r.length - 1) fun n hn => by rw [rc]; exact hz n hn
      obtain ⟨h1, h2⟩ := quotR_ok hb b0 k (trimR (addL f (mon (r.length - b.length) c))) _ (trimR_row (addL_ne hf.ne)) rr (by
        obtain ⟨q', hq'⟩ := hq'
        exact ⟨q', fun n => by rw [rc]; exact hq' n⟩) (len.imp id fun z => by
        have := hl.resolve_left r0
        omega)
      refine ⟨h1, fun n => ?_⟩
      rw [h2 n, act_trimR, act_addL, rc]
      omega
end M
/-! AG12: lowest terms as the program makes them. -/
namespace M
theorem bez_of {a b qa qb : List Int} {h : Se} (C : Com (co a) (co b) h) (h0 : ∃ i, h i ≠ 0) (ha : ∀ n, co a n = act qa h n) (hb : ∀ n, co b n = act qb h n) : ∃ (e : Int) (s t : List Int), e ≠ 0 ∧ ∀ n, e * de n = act s (co qa) n + act t (co qb) n := by
  obtain ⟨e, s, t, e0, he⟩ := C.e
  refine ⟨e, s, t, e0, ?_⟩
  obtain ⟨i, hi⟩ := h0
  have z : ∀ n, act (addL [e] (addL ((mulL s qa).map (-1 * ·)) ((mulL t qb).map (-1 * ·)))) h n = 0 := fun n => by
    rw [act_addL, act_addL, act_map, act_map, act_mulL, act_mulL, act_cst]
    have h1 : act s (act qa h) n = act s (co a) n := act_congr (fun n => (ha n).symm) s n
    have h2 : act t (act qb h) n = act t (co b) n := act_congr (fun n => (hb n).symm) t n
    rw [h1, h2]
    have := he n
    omega
  have all := act_inj hi _ z
  have zero : ∀ n, co (addL [e] (addL ((mulL s qa).map (-1 * ·)) ((mulL t qb).map (-1 * ·)))) n = 0 := fun n => by
    rw [co_get]
    generalize addL [e] (addL ((mulL s qa).map (-1 * ·)) ((mulL t qb).map (-1 * ·))) = w at all
    by_cases k : n < w.length
    · have : w.getD n 0 = w[n] := by simp [List.getD, k]
      rw [this]
      exact all _ (List.getElem_mem k)
    · simp [List.getD, List.getElem?_eq_none (Nat.le_of_not_lt k)]
  intro n
  have := act_zero_co zero de n
  rw [act_addL, act_addL, act_map, act_map, act_mulL, act_mulL, act_cst] at this
  show e * de n = act s (act qa de) n + act t (act qb de) n
  omega
theorem co_z (n : Nat) : co [0] n = 0 := by
  cases n with
  | zero => exact (co_cons 0 []).1
  | succ n => rw [(co_cons 0 []).2]; rfl
/-- what the program's lowest has in common, and its quotients -/
theorem quots_ok {a b : List Int} (ha : Row a) (a0 : a ≠ [0]) (hb : Row b) (b0 : b ≠ [0]) {k ka kb : Nat} (hk : (plainR b).length < k) (hka : a.length < ka + 1) (hkb : b.length < kb + 1) :
    (∃ (e : Int) (s t : List Int), e ≠ 0 ∧ ∀ n, e * de n = act s (co (quotR ka [0] a (commonR k (plainR a) (plainR b)))) n + act t (co (quotR kb [0] b (commonR k (plainR a) (plainR b)))) n) ∧
    (∀ n, co a n = act (quotR ka [0] a (commonR k (plainR a) (plainR b))) (co (commonR k (plainR a) (plainR b))) n) ∧ (∀ n, co b n = act (quotR kb [0] b (commonR k (plainR a) (plainR b))) (co (commonR k (plainR a) (plainR b))) n) ∧
    Row (quotR ka [0] a (commonR k (plainR a) (plainR b))) ∧ Row (quotR kb [0] b (commonR k (plainR a) (plainR b))) := by
  obtain ⟨a1, a2, a3, a4, a5, a6⟩ := plainR_ok ha a0
  obtain ⟨b1, b2, b3, b4, b5, b6⟩ := plainR_ok hb b0
  obtain ⟨h1, h2, h3, C⟩ := commonR_ok k (plainR a) (plainR b) a1 a2 a3 b1 (.inr b3) (.inr hk) (by omega)
  generalize commonR k (plainR a) (plainR b) = h at h1 h2 h3 C
  have C2 : Com (co a) (co b) (co h) := by
    have := C.mul a4 b4
    rwa [show (fun n => (cont a : Int) * co (plainR a) n) = co a from funext a6, show (fun n => (cont b : Int) * co (plainR b) n) = co b from funext b6] at this
  have hd := h1.deg h2
  obtain ⟨qa, qb, q1, q2, _⟩ := C2.low (prim_of h3) ⟨_, hd.1⟩
  have hl := List.length_pos_iff.mpr h1.ne
  obtain ⟨x1, x2⟩ := quotR_ok h1 h2 ka [0] a (.inl rfl) ha ⟨qa, q1⟩ (.inr (by omega))
  obtain ⟨y1, y2⟩ := quotR_ok h1 h2 kb [0] b (.inl rfl) hb ⟨qb, q2⟩ (.inr (by omega))
  have z : ∀ n, act [0] (co h) n = 0 := fun n => act_zero_co co_z (co h) n
  have x3 : ∀ n, co a n = act (quotR ka [0] a h) (co h) n := fun n => by rw [x2, z]; omega
  have y3 : ∀ n, co b n = act (quotR kb [0] b h) (co h) n := fun n => by rw [y2, z]; omega
  exact ⟨bez_of C2 ⟨_, hd.1⟩ x3 y3, x3, y3, x1, y1⟩
end M
/-! AG13: lowest terms, the lead below above 0. -/
namespace M
theorem row_div {l : List Int} {k : Int} (h : Row l) (k0 : k ≠ 0) (hd : ∀ a ∈ l, k ∣ a) : Row (l.map (· / k)) := by
  rcases h with rfl | ⟨i, z, z0, rfl⟩
  · left
    show [0 / k] = [0]
    rw [Int.zero_ediv]
  · right
    refine ⟨i.map (· / k), z / k, fun w => z0 ?_, by rw [List.map_append]; rfl⟩
    have := Int.mul_ediv_cancel' (hd z (by simp))
    rw [w] at this
    omega
theorem co_div {l : List Int} {k : Int} (hd : ∀ a ∈ l, k ∣ a) (n : Nat) : k * co (l.map (· / k)) n = co l n := act_div hd de n
/-- a fraction in lowest terms, its lead below above 0 -/
theorem lowest_ok {a b : List Int} (ha : Row a) (a0 : a ≠ [0]) (hb : Row b) (b0 : b ≠ [0]) {k ka kb : Nat} (hk : (plainR b).length < k) (hka : a.length < ka + 1) (hkb : b.length < kb + 1) {qa qb : List Int} (ea : qa = quotR ka [0] a (commonR k (plainR a) (plainR b))) (eb : qb = quotR kb [0] b (commonR k (plainR a) (plainR b)))
    {g : Int} (hg : g = if leadR qb < 0 then -(cont (qa ++ qb) : Int) else (cont (qa ++ qb) : Int)) :
    Low (co (qa.map (· / g))) (co (qb.map (· / g))) ∧ (∀ n, act (qa.map (· / g)) (co b) n = act (qb.map (· / g)) (co a) n) ∧ Row (qa.map (· / g)) ∧ Row (qb.map (· / g)) ∧ 0 < leadR (qb.map (· / g)) := by
  obtain ⟨be, h1, h2, r1, r2⟩ := quots_ok ha a0 hb b0 hk hka hkb
  rw [← ea] at be h1 r1
  rw [← eb] at be h2 r2
  have qb0 : qb ≠ [0] := fun z => by
    have d := (hb.deg b0).1
    rw [h2, z, act_zero_co co_z] at d
    exact d rfl
  have dq := (r2.deg qb0).1
  have c0 : cont (qa ++ qb) ≠ 0 := fun z => by
    rw [cont_append] at z
    exact dq (cont_zero (Nat.eq_zero_of_gcd_eq_zero_right z) _)
  have gn : g.natAbs = cont (qa ++ qb) := by
    rw [hg]
    split
    · rw [Int.natAbs_neg, Int.natAbs_natCast]
    · rw [Int.natAbs_natCast]
  have g0 : g ≠ 0 := by omega
  have hd : ∀ x ∈ qa ++ qb, g ∣ x := fun x m => by
    have : ((g.natAbs : Nat) : Int) ∣ x := by rw [gn]; exact cont_dvd x m
    exact Int.natAbs_dvd.mp this
  have da := fun x (m : x ∈ qa) => hd x (List.mem_append_left _ m)
  have db := fun x (m : x ∈ qb) => hd x (List.mem_append_right _ m)
  obtain ⟨L, cr⟩ := low_of h1 h2 be gn g0
  refine ⟨L, cr, row_div r1 g0 da, row_div r2 g0 db, ?_⟩
  have e := co_div db (qb.length - 1)
  rw [leadR_co, List.length_map]
  rw [leadR_co] at hg
  generalize co (qb.map (· / g)) (qb.length - 1) = x at e
  generalize co qb (qb.length - 1) = y at e dq hg
  have cp : 0 < (cont (qa ++ qb) : Int) := by omega
  generalize (cont (qa ++ qb) : Int) = c at hg cp
  rcases Int.lt_trichotomy x 0 with q | q | q
  · exfalso
    by_cases n : y < 0
    · rw [if_pos n] at hg
      have := Int.mul_pos_of_neg_of_neg (a := g) (b := x) (by omega) q
      omega
    · rw [if_neg n] at hg
      have := Int.mul_neg_of_pos_of_neg (a := g) (b := x) (by omega) q
      omega
  · rw [q] at e
    simp at e
    exact absurd e.symm dq
  · exact q
end M
/-! RB0: stores that grow; lists; loops (taken from the texts for joins). -/
namespace M
open PySem PySem.W Builtin Builtin.Str
theorem lst_lt {st : Sto} {q : Nat} {xs : List D} (h : lstAt st q = some xs) : q < st.length := by
  cases hq : st[q]? with
  | none => simp [lstAt, hq] at h
  | some o => exact (List.getElem?_eq_some_iff.mp hq).1
theorem lst_set {st : Sto} {q : Nat} {xs : List D} (h : lstAt st q = some xs) (ys : List D) : lstAt (st.set q (.lst ys)) q = some ys := by
  simp [lstAt, List.getElem?_set_self (lst_lt h)]
theorem len_lst (xs : List D) (st : Sto) : opLen [.lst xs] st = some (.int xs.length, st) := rfl
theorem forL_map {α : Type} {g : IG} {b : IS} {l : List α} {F : α → D} (P : List α → Env → Sto → Prop)
    (step : ∀ a r env st, a ∈ l → P (a :: r) env st → ∃ e1 s1, g (F a) env st = .ok e1 s1 ∧ ∃ e2 s2, (b e1 s1 = .nx e2 s2 ∨ b e1 s1 = .ct e2 s2) ∧ P r e2 s2) :
    ∀ (m i : Nat) (env : Env) (st : Sto), l.length ≤ i + m → i ≤ l.length → P (l.drop i) env st → ∃ e2 s2, forL (nxL (l.map F)) g b m i env st = .nx e2 s2 ∧ P [] e2 s2
  | 0, i, env, st, h1, h2, h => by
    have e : l.drop i = [] := List.drop_of_length_le (by omega)
    rw [e] at h
    exact ⟨env, st, by unfold forL nxL; rw [List.getElem?_eq_none (by simp; omega)], h⟩
  | m + 1, i, env, st, h1, h2, h => by
    unfold forL nxL
    by_cases hi : i < l.length
    · rw [List.getElem?_map, List.getElem?_eq_getElem hi]
      rw [List.drop_eq_getElem_cons hi] at h
      obtain ⟨e1, s1, q1, e2, s2, q2, q3⟩ := step _ _ env st (List.getElem_mem hi) h
      obtain ⟨e3, s3, q4, q5⟩ := forL_map P step m (i + 1) e2 s2 (by omega) (by omega) q3
      refine ⟨e3, s3, ?_, q5⟩
      show liftS (g (F l[i]) env st) env (fun env1 s1 => kWhile b (forL (nxL (l.map F)) g b m (i + 1)) (b env1 s1)) = _
      rw [q1]
      show kWhile b (forL (nxL (l.map F)) g b m (i + 1)) (b e1 s1) = _
      rcases q2 with q2 | q2
      · rw [q2]; exact q4
      · rw [q2]; exact q4
    · have e : l.drop i = [] := List.drop_of_length_le (by omega)
      rw [e] at h
      rw [List.getElem?_eq_none (by simp; omega)]
      exact ⟨env, st, rfl, h⟩
theorem opMax_nat (a b : Nat) (st : Sto) : opMax [.int a, .int b] st = some (.int ((max a b : Nat) : Int), st) := by
  simp [opMax]
  omega
/-- what is not in l keeps -/
def Kp (st st' : Sto) (l : List Nat) : Prop := st.length ≤ st'.length ∧ ∀ i : Nat, i ∉ l → i < st.length → st'[i]? = st[i]?
theorem Kp.refl (st : Sto) (l : List Nat) : Kp st st l := ⟨Nat.le_refl _, fun _ _ _ => rfl⟩
theorem Kp.trans {a b c : Sto} {l : List Nat} (h1 : Kp a b l) (h2 : Kp b c l) : Kp a c l := ⟨Nat.le_trans h1.1 h2.1, fun i hi hl => (h2.2 i hi (Nat.lt_of_lt_of_le hl h1.1)).trans (h1.2 i hi hl)⟩
theorem Kp.mono {a b : Sto} {l l' : List Nat} (h1 : Kp a b l) (h : ∀ q ∈ l, q ∈ l') : Kp a b l' := ⟨h1.1, fun i hi hl => h1.2 i (fun m => hi (h i m)) hl⟩
theorem Kp.set {st : Sto} {q : Nat} {o : O} : Kp st (st.set q o) [q] := ⟨Nat.le_of_eq (List.length_set).symm, fun i hi _ => List.getElem?_set_ne fun e => hi (by rw [e]; exact List.mem_cons_self)⟩
theorem Kp.push {st : Sto} {o : O} : Kp st (st ++ [o]) [] := ⟨by simp, fun i _ hl => List.getElem?_append_left hl⟩
theorem Kp.lst {st st' : Sto} {l : List Nat} (k : Kp st st' l) (q : Nat) (xs : List D) (hq : q ∉ l) (h : lstAt st q = some xs) : lstAt st' q = some xs := by
  unfold lstAt at h ⊢
  rw [k.2 q hq (lst_lt h)]
  exact h
theorem ixr {st : Sto} {q : Nat} {xs : List D} {d : D} (h : lstAt st q = some xs) (i : Int) (hi : 0 ≤ i) (e : xs[i.toNat]? = some d) : opIx (.ref q) (.int i) st = some (d, st) := by
  have lt : i < xs.length := by have := (List.getElem?_eq_some_iff.mp e).1; omega
  have g := (List.getElem?_eq_some_iff.mp e).2
  simp [opIx, aseq, h, L2.atI, L2.ixN, hi, lt, g]
theorem ixl {xs : List D} {d : D} (i : Int) (hi : 0 ≤ i) (e : xs[i.toNat]? = some d) (st : Sto) : opIx (.lst xs) (.int i) st = some (d, st) := by
  have lt : i < xs.length := by have := (List.getElem?_eq_some_iff.mp e).1; omega
  have g := (List.getElem?_eq_some_iff.mp e).2
  simp [opIx, aseq, L2.atI, L2.ixN, hi, lt, g]
theorem kset {st : Sto} {q : Nat} {xs : List D} (h : lstAt st q = some xs) (i : Int) (hi : 0 ≤ i) (lt : i.toNat < xs.length) (d : D) (env : Env) : kSet d (.ref q) (.int i) env st = .ok env (st.set q (.lst (xs.set i.toNat d))) := by
  have lt : i < xs.length := by omega
  simp [kSet, h, L2.ixN, hi, lt]
theorem mul_small {i j : Int} (h : smallI i ∨ smallI j) (st : Sto) : opMul (.int i) (.int j) st = some (.int (i * j), st) := by
  show (if smallI i ∨ smallI j then some (D.int (i * j), st) else _) = _
  rw [if_pos h]
theorem mod_pos {i j : Int} (h : 0 < j) (st : Sto) : opMod (.int i) (.int j) st = some (.int (i % j), st) := by
  show (if 0 < j then some (D.int (i % j), st) else _) = _
  rw [if_pos h]
theorem rng_at (n : Nat) (i : Nat) (st : Sto) : nxR 0 n i st = some ((List.range n).map fun k : Nat => D.int k)[i]? := by
  unfold nxR
  rw [List.getElem?_map]
  by_cases h : i < n
  · rw [if_pos h, List.getElem?_range h]
    simp
  · rw [if_neg h, List.getElem?_eq_none (by simp; omega)]
    rfl
theorem rng1 {e : IE} {env : Env} {st st' : Sto} {n : Nat} (he : e env st = .ok (.int n) st') (hn : n ≤ 1000000) : wRng1 (aCons e aNil) env st = .ok (nxR 0 n, n) st' := by
  have h62 : -(2 ^ 62 : Int) ≤ (n : Int) ∧ (n : Int) < 2 ^ 62 := by omega
  have k : kRng1 [.int n] st' = .ok (nxR 0 n, n) st' := by
    unfold kRng1
    simp only [if_pos h62, Int.toNat_natCast]
  unfold wRng1
  rw [aCons_d, he, R_ok, aNil_d, R_ok, R_ok, k]
/-- a for over range(n) whose store moves -/
theorem forL_rng {g : IG} {b : IS} {n : Nat} (P : Nat → Env → Sto → Prop)
    (step : ∀ i, i < n → ∀ env st, P i env st → ∃ e1 s1, g (.int i) env st = .ok e1 s1 ∧ ∃ e2 s2, (b e1 s1 = .nx e2 s2 ∨ b e1 s1 = .ct e2 s2) ∧ P (i + 1) e2 s2) {env : Env} {st : Sto} (h : P 0 env st) : ∃ e2 s2, forL (nxR 0 n) g b n 0 env st = .nx e2 s2 ∧ P n e2 s2 := by
  have := forL_idx (nx := nxR 0 n) (g := g) (b := b) (xs := (List.range n).map fun k : Nat => D.int k) P (rng_at n) (fun i d hd env st hp => by
    obtain ⟨hi, e⟩ := List.getElem?_eq_some_iff.mp hd
    simp at hi e
    subst e
    exact step i hi env st hp) n 0 env st (Nat.zero_le _) (by simp) h
  rw [List.length_map, List.length_range] at this
  exact this
/-- a comprehension over range(n) whose store moves -/
theorem compF_rng {e : IE} {env0 : Env} {v : Nat} {n : Nat} (hn : n ≤ 1000000) (Q : List D → Sto → Prop) (step : ∀ i, i < n → ∀ acc st, acc.length = i → Q acc st → ∃ d st', e (env0.set v (some (.int i))) st = .ok d st' ∧ Q (acc ++ [d]) st') :
    ∀ (m i : Nat) (acc : List D) (st : Sto), i + m = n → acc.length = i → Q acc st → ∃ acc' st', compF (nxR 0 n) (.one v) tYes' e env0 m i acc st = .ok acc' st' ∧ acc'.length = n ∧ Q acc' st'
  | 0, i, acc, st, hm, ha, h => by
    have : i = n := by omega
    subst this
    refine ⟨acc, st, ?_, ha, h⟩
    unfold compF nxR
    rw [if_neg (Nat.lt_irrefl _)]
  | m + 1, i, acc, st, hm, ha, h => by
    obtain ⟨d, st', h1, h2⟩ := step i (by omega) acc st ha h
    obtain ⟨acc', st'', h3, h4, h5⟩ := compF_rng hn Q step m (i + 1) (acc ++ [d]) st' (by omega) (by simp [ha]) h2
    refine ⟨acc', st'', ?_, h4, h5⟩
    unfold compF
    have e0 : nxR 0 n i st = some (some (.int i)) := by
      unfold nxR
      rw [if_pos (by omega)]
      simp
    rw [e0]
    show (((tYes' (env0.set v (some (.int i)))) st).nox).bind (fun k s1 => if k = true then ((e (env0.set v (some (.int i))) s1).nox).bind fun v' s2 => if acc.length < sizeLine then compF (nxR 0 n) (.one v) tYes' e env0 m (i + 1) (acc ++ [v']) s2 else .bad else compF (nxR 0 n) (.one v) tYes' e env0 m (i + 1) acc s1) = _
    rw [tYes_d]
    show ((e (env0.set v (some (.int i))) st).nox).bind (fun v' s2 => if acc.length < sizeLine then compF (nxR 0 n) (.one v) tYes' e env0 m (i + 1) (acc ++ [v']) s2 else .bad) = _
    rw [h1]
    show (if acc.length < sizeLine then compF (nxR 0 n) (.one v) tYes' e env0 m (i + 1) (acc ++ [d]) st' else .bad) = _
    have big := sizeLine_big
    rw [if_pos (by omega), h3]
end M
/-! RC1: rows of whole numbers: equal, compared, divisors, comprehensions. -/
namespace M
open PySem PySem.W Builtin Builtin.Str
/-- a row's factors as data -/
abbrev I_ (l : List Int) : List D := l.map D.int
theorem sWhileN_d {c : IT} {b : IS} {n : Nat} {env : Env} {st : Sto} : sWhileN c b (n + 1) env st = liftS (c env st) env fun k s => if k = true then kWhile b (sWhileN c b n) (b env s) else .nx env s := rfl
theorem allP_ints (st : Sto) (n : Nat) : ∀ l : List Int, allP (toP st (n + 1)) (I_ l) = some (l.map PyData.int)
  | [] => rfl
  | a :: l => by
    show allP (toP st (n + 1)) (.int a :: I_ l) = _
    unfold allP
    rw [allP_ints st n l]
    rfl
theorem eqvAll_ints : ∀ l m : List Int, PyData.eqvAll (l.map PyData.int) (m.map PyData.int) = decide (l = m)
  | [], [] => by simp [PyData.eqvAll]
  | [], _ :: _ => by simp [PyData.eqvAll]
  | _ :: _, [] => by simp [PyData.eqvAll]
  | a :: l, b :: m => by
    simp only [List.map_cons, PyData.eqvAll, PyData.eqv, eqvAll_ints l m, List.cons.injEq, Bool.decide_and]
    congr 1
theorem eq_tt (neg : Bool) (l m : List Int) (st : Sto) : opEq neg (.tup (I_ l)) (.tup (I_ m)) st = some (.bl (if neg then !decide (l = m) else decide (l = m)), st) := by
  have h1 : toP st 64 (.tup (I_ l)) = some (.tuple (l.map PyData.int)) := by
    show (allP (toP st 63) (I_ l)).map PyData.tuple = _
    rw [allP_ints]; rfl
  have h2 : toP st 64 (.tup (I_ m)) = some (.tuple (m.map PyData.int)) := by
    show (allP (toP st 63) (I_ m)).map PyData.tuple = _
    rw [allP_ints]; rfl
  simp only [opEq, h1, h2, PyData.eqv, eqvAll_ints]
theorem toP_alst {st : Sto} {d : D} {l : List Int} (h : alst st d = some (I_ l)) : toP st 64 d = some (.list (l.map PyData.int)) := by
  cases d with
  | lst xs =>
    have e : xs = I_ l := by simpa [alst] using h
    subst e
    show (allP (toP st 63) (I_ l)).map PyData.list = _
    rw [allP_ints]; rfl
  | ref n =>
    have e : lstAt st n = some (I_ l) := h
    show (match lstAt st n with
      | some xs => (allP (toP st 63) xs).map PyData.list
      | none => none) = _
    rw [e]
    show (allP (toP st 63) (I_ l)).map PyData.list = _
    rw [allP_ints]; rfl
  | _ => simp [alst] at h
theorem eq_ll {st : Sto} {d e : D} {l m : List Int} (neg : Bool) (h1 : alst st d = some (I_ l)) (h2 : alst st e = some (I_ m)) : opEq neg d e st = some (.bl (if neg then !decide (l = m) else decide (l = m)), st) := by
  have p1 := toP_alst h1
  have p2 := toP_alst h2
  have nd : ∀ x, d ≠ .str x := fun x z => by subst z; simp [alst] at h1
  unfold opEq
  split
  · rename_i x y; exact absurd rfl (nd x)
  · rw [p1, p2]
    simp only [PyData.eqv, eqvAll_ints]
theorem eq_int (neg : Bool) (i j : Int) (st : Sto) : opEq neg (.int i) (.int j) st = some (.bl (if neg then !decide (i = j) else decide (i = j)), st) := by
  show some (D.bl (if neg = true then !(i == j) else (i == j)), st) = _
  rfl
/-! ### divisors -/
theorem gcd_run {c : IT} {b : IS} : ∀ (k x y : Nat) (env : Nat → Nat → Env) (st : Sto), y < k →
    (∀ x y : Nat, c (env x y) st = .ok (decide (y ≠ 0)) st) → (∀ x y : Nat, y ≠ 0 → b (env x y) st = .nx (env y (x % y)) st) → sWhileN c b k (env x y) st = .nx (env (Nat.gcd x y) 0) st
  | 0, x, y, env, st, h, _, _ => by omega
  | k + 1, x, y, env, st, h, hc, hb => by
    rw [sWhileN_d, hc]
    by_cases z : y = 0
    · subst z
      simp
    · have ih := gcd_run k y (x % y) env st (by have := Nat.mod_lt x (Nat.pos_of_ne_zero z); omega) hc hb
      simp only [z, ne_eq, not_false_eq_true, decide_true, liftS_ok, if_true]
      rw [hb x y z]
      show sWhileN c b k (env y (x % y)) st = _
      rw [ih, Nat.gcd_comm x y, Nat.gcd_rec y x, Nat.gcd_comm]
theorem abs_is (i : Int) : (if i < 0 then -i else i) = (i.natAbs : Int) := by split <;> omega
theorem divisor_int (a b : Int) (st : Sto) : p_divisor_of [.int a, .int b] st = .ok (.int (Nat.gcd a.natAbs b.natAbs : Nat)) st := by
  have loop := gcd_run (c := (tBl (iBin (opEq true) (iVar 1) (iC (.int 0))))) (b := (sPar 0 1 (aCons (iVar 1) (aCons (iBin opMod (iVar 0) (iVar 1)) aNil)))) (b.natAbs + 1) a.natAbs b.natAbs (fun x y => [some (.int x), some (.int y)]) st (by omega)
    (fun x y => by simp [eq_int])
    (fun x y hy => by
      have : 0 < y := by omega
      simp [opMod, this])
  simp only [p_divisor_of, B_p_divisor_of, runB_d, List.length_cons, List.length_nil, if_true, List.map_cons, List.map_nil, List.replicate, Nat.sub_self, List.append_nil, sSeq_d, sPar_d, aCons_d, iN_d, iVar_d, List.getElem?_cons_zero, List.getElem?_cons_succ, R_ok, aNil_d, opAbs, ofO_s, liftS_ok, abs_is, List.set_cons_zero, List.set_cons_succ, kSeq_nx, sWhile_d, mInt, Int.toNat_natCast]
  rw [loop]
  simp
theorem common_int (a b : Int) (st : Sto) : k02__law_common [.int a, .int b] st = .ok (.int (Nat.gcd a.natAbs b.natAbs : Nat)) st := divisor_int a b st
/-! ### comprehensions over whole numbers -/
theorem comp_ints {e : IE} {env0 : Env} {v : Nat} {r : List Int} {st : Sto} (f : Int → Int) (hl : r.length ≤ 1000000) (h : ∀ a ∈ r, e (env0.set v (some (.int a))) st = .ok (.int (f a)) st) : compF (nxL (I_ r)) (.one v) tYes' e env0 (I_ r).length 0 [] st = .ok (I_ (r.map f)) st := by
  have key := compF_map (p := .one v) (e := e) (env0 := env0) (st := st) (fun d => match d with | .int a => .int (f a) | d => d) (nxL_at (I_ r)) (fun d hd => by
    obtain ⟨a, ha, rfl⟩ := List.mem_map.mp hd
    exact ⟨_, rfl, h a ha⟩) (I_ r).length 0 [] (by simp) (by have := sizeLine_big; simp; omega)
  rw [key]
  simp
/-- a loop that gathers what all factors have in common -/
theorem fold_gcd {f : Fn} (hf : ∀ (a b : Int) (st : Sto), f [.int a, .int b] st = .ok (.int (Nat.gcd a.natAbs b.natAbs : Nat)) st) {v u : Nat} (huv : v ≠ u) {l : List Int} {env : Env} {st : Sto} (hv : v < env.length) (hu : u < env.length) (h0 : env[v]? = some (some (.int 0))) :
    ∃ env', forL (nxL (I_ l)) (gVar u) (sSet v (iCall f [] (aCons (iVar v) (aCons (iVar u) aNil)))) (I_ l).length 0 env st = .nx env' st ∧ env'.length = env.length ∧ env'[v]? = some (some (.int (cont l : Int))) ∧ ∀ j, j ≠ v → j ≠ u → env'[j]? = env[j]? := by
  have key := forL_map (F := D.int) (l := l) (g := gVar u) (b := sSet v (iCall f [] (aCons (iVar v) (aCons (iVar u) aNil)))) (fun r e s => s = st ∧ e.length = env.length ∧ (∃ c : Nat, e[v]? = some (some (.int c)) ∧ Nat.gcd c (cont r) = cont l) ∧ ∀ j, j ≠ v → j ≠ u → e[j]? = env[j]?)
    (fun a r e s _ ⟨hs, hl, ⟨c, hc, hg⟩, hj⟩ => by
      subst hs
      refine ⟨_, _, rfl, (e.set u (some (.int a))).set v (some (.int (Nat.gcd c a.natAbs : Nat))), s, .inl ?_, rfl, by simp [hl], ⟨_, List.getElem?_set_self (by simp; omega), ?_⟩, fun j j1 j2 => ?_⟩
      · have g1 : (e.set u (some (.int a)))[v]? = some (some (.int c)) := by rw [List.getElem?_set_ne (fun z => huv z.symm), hc]
        have g2 : (e.set u (some (D.int a)))[u]? = some (some (.int a)) := List.getElem?_set_self (by omega)
        simp [g1, g2, hf]
      · rw [Nat.gcd_assoc]
        exact hg
      · rw [List.getElem?_set_ne (fun z => j1 z.symm), List.getElem?_set_ne (fun z => j2 z.symm)]
        exact hj j j1 j2) (I_ l).length 0 env st (by simp) (by simp) ⟨rfl, rfl, ⟨0, h0, by rw [List.drop_zero]; simp⟩, fun _ _ _ => rfl⟩
  obtain ⟨e2, s2, h1, rfl, h2, ⟨c, h3, h4⟩, h5⟩ := key
  refine ⟨e2, h1, h2, ?_, h5⟩
  have : c = cont l := by simpa [cont] using h4
  rw [h3, this]
end M
/-! RC2: places of rows; rows without zeros behind (trimmed, the law's _law_row); sums of rows; rows without a common divisor. -/
namespace M
open PySem PySem.W Builtin Builtin.Str
theorem ix_any {st : Sto} {d x : D} {xs : List D} (h : aseq st d = some xs) (i : Int) (hi : 0 ≤ i) (e : xs[i.toNat]? = some x) : opIx d (.int i) st = some (x, st) := by
  have lt : i < xs.length := by have := (List.getElem?_eq_some_iff.mp e).1; omega
  have g := (List.getElem?_eq_some_iff.mp e).2
  cases d with
  | str z => simp [aseq] at h
  | _ => simp [opIx, h, L2.atI, L2.ixN, hi, lt, g]
theorem ix_last {st : Sto} {d : D} {l : List Int} (h : aseq st d = some (I_ l)) (h0 : l ≠ []) : opIx d (.int (-1)) st = some (.int (leadR l), st) := by
  have lp : 0 < l.length := List.length_pos_iff.mpr h0
  have e : (I_ l)[l.length - 1]? = some (.int (leadR l)) := by
    rw [List.getElem?_map, List.getElem?_eq_getElem (by omega)]
    unfold leadR
    rw [List.getD_eq_getElem?_getD, List.getElem?_eq_getElem (by omega)]
    rfl
  have g := (List.getElem?_eq_some_iff.mp e).2
  have c1 : ¬ ((l.length : Int) = 0) := by omega
  have c2 : (0 : Int) ≤ (l.length : Int) + -1 := by omega
  have c3 : ((l.length : Int) + -1) < (l.length : Int) := by omega
  have c4 : ((l.length : Int) + -1).toNat = l.length - 1 := by omega
  have c5 : (-1 : Int) + (l.length : Int) = (l.length : Int) + -1 := by omega
  have key : L2.atI (I_ l) (-1) = some (.int (leadR l)) := by
    have e1 : L2.ixN (I_ l).length (-1) = some (l.length - 1) := by
      have e2 : (I_ l).length = l.length := List.length_map _
      have c : -((l.length : Nat) : Int) ≤ -1 := by omega
      have e3 : ((-1 : Int) + ((l.length : Nat) : Int)).toNat = l.length - 1 := by omega
      unfold L2.ixN
      rw [e2, if_neg (by decide), if_pos c, e3]
    unfold L2.atI
    rw [e1]
    exact e
  cases d with
  | str z => simp [aseq] at h
  | _ => simp [opIx, h, key]
theorem len_any {st : Sto} {d : D} {xs : List D} (h : aseq st d = some xs) : opLen [d] st = some (.int xs.length, st) := by
  cases d with
  | str z => simp [aseq] at h
  | _ => simp [opLen, lenD, h]
/-! ### rows without zeros behind -/
theorem trimR_take : ∀ {l : List Int}, l ≠ [] → ∃ e, 1 ≤ e ∧ e ≤ l.length ∧ trimR l = l.take e ∧ (∀ j, e ≤ j → j < l.length → l[j]? = some 0) ∧ (e = 1 ∨ ∃ z, z ≠ 0 ∧ l[e - 1]? = some z)
  | [], h => absurd rfl h
  | [a], _ => ⟨1, Nat.le_refl _, by simp, rfl, fun j h1 h2 => by simp at h2; omega, .inl rfl⟩
  | a :: b :: l, _ => by
    obtain ⟨e, h1, h2, h3, h4, h5⟩ := trimR_take (l := b :: l) (by simp)
    by_cases z : trimR (b :: l) = [0]
    · have he : e = 1 := by
        have := congrArg List.length (h3.symm.trans z)
        rw [List.length_take] at this
        simp at this h2
        omega
      subst he
      have hb : b = 0 := by
        have := h3.symm.trans z
        simpa using this
      refine ⟨1, Nat.le_refl _, by simp, ?_, fun j j1 j2 => ?_, .inl rfl⟩
      · show (match trimR (b :: l) with
          | [0] => [a]
          | t => a :: t) = _
        rw [z]
        rfl
      · cases j with
        | zero => omega
        | succ j =>
          cases j with
          | zero => simp [hb]
          | succ j =>
            have := h4 (j + 1) (by omega) (by simpa using j2)
            simpa using this
    · refine ⟨e + 1, by omega, by simpa using h2, ?_, fun j j1 j2 => ?_, .inr ?_⟩
      · show (match trimR (b :: l) with
          | [0] => [a]
          | t => a :: t) = _
        split
        · rename_i q; exact absurd q z
        · rw [h3]; rfl
      · cases j with
        | zero => omega
        | succ j => exact (by simpa using h4 j (by omega) (by simpa using j2))
      · rcases h5 with rfl | ⟨z2, n2, e2⟩
        · by_cases hb : b = 0
          · exfalso
            apply z
            rw [h3, hb]
            rfl
          · exact ⟨b, hb, rfl⟩
        · refine ⟨z2, n2, ?_⟩
          cases e with
          | zero => omega
          | succ e => exact e2
theorem trim_run {d : D} {st : Sto} {l : List Int} {e : Nat} (h : aseq st d = some (I_ l)) (h1 : 1 ≤ e) (h4 : ∀ j, e ≤ j → j < l.length → l[j]? = some 0) (h5 : e = 1 ∨ ∃ z, z ≠ 0 ∧ l[e - 1]? = some z) (h2 : e ≤ l.length) :
    ∀ (k j : Nat), e ≤ j → j ≤ l.length → j - e < k → sWhileN (tAnd' (tBl (iBin opGt (iVar 1) (iC (.int 1)))) (tBl (iBin (opEq false) (iBin opIx (iVar 0) (iBin opSub (iVar 1) (iC (.int 1)))) (iC (.int 0))))) (sSet 1 (iBin opSub (iVar 1) (iC (.int 1)))) k [some d, some (.int j)] st = .nx [some d, some (.int e)] st
  | 0, j, a1, a2, a3 => by omega
  | k + 1, j, a1, a2, a3 => by
    rw [sWhileN_d]
    by_cases q : j = e
    · subst q
      by_cases q1 : j = 1
      · subst q1
        simp [opCmp]
      · rcases h5 with rfl | ⟨z, n, ez⟩
        · exact absurd rfl q1
        · have g : opIx d (.int ((j : Int) - 1)) st = some (.int z, st) := ix_any h _ (by omega) (by rw [show ((j : Int) - 1).toNat = j - 1 by omega, List.getElem?_map, ez]; rfl)
          have c : (1 : Int) < j := by omega
          simp [opCmp, c, opSub, g, eq_int, n]
    · have g : opIx d (.int ((j : Int) - 1)) st = some (.int 0, st) := ix_any h _ (by omega) (by rw [show ((j : Int) - 1).toNat = j - 1 by omega, List.getElem?_map, h4 (j - 1) (by omega) (by omega)]; rfl)
      have c : (1 : Int) < j := by omega
      have ih := trim_run h h1 h4 h5 h2 k (j - 1) (by omega) (by omega) (by omega)
      have ej : ((j : Int) - 1) = ((j - 1 : Nat) : Int) := by omega
      rw [← ej] at ih
      simp [opCmp, c, opSub, g, eq_int, kWhile, ih]
theorem cut_to {α : Type} (xs : List α) (e : Nat) (h : e ≤ xs.length) : cutL xs none (some (e : Int)) = xs.take e := by
  unfold cutL
  rw [HT.sIx_none, HT.sIx_nat, List.drop_zero, Nat.sub_zero, Nat.min_eq_left h]
theorem trimmed_t {l : List Int} (h0 : l ≠ []) (hl : l.length ≤ 1000000) (st : Sto) : p_trimmed [.tup (I_ l)] st = .ok (.tup (I_ (trimR l))) st := by
  obtain ⟨e, h1, h2, h3, h4, h5⟩ := trimR_take h0
  have hs : aseq st (.tup (I_ l)) = some (I_ l) := rfl
  have run := trim_run hs h1 h4 h5 h2 (l.length + 1) l.length h2 (Nat.le_refl _) (by omega)
  have ln : opLen [.tup (I_ l)] st = some (.int l.length, st) := by rw [len_any hs, List.length_map]
  have ct := cut_to (I_ l) e (by simpa using h2)
  have mp : (I_ l).take e = I_ (trimR l) := by rw [h3]; exact List.map_take.symm
  simp only [p_trimmed, B_p_trimmed, runB_d, List.length_cons, List.length_nil, if_true, List.map_cons, List.map_nil, List.replicate, List.cons_append, List.nil_append, sSeq_d, sSet_d, iN_d, aCons_d, iVar_d, List.getElem?_cons_zero, List.getElem?_cons_succ, R_ok, aNil_d, ln, ofO_s, liftS_ok, List.set_cons_zero, List.set_cons_succ, kSeq_nx, sWhile_d, mLen, hs, List.length_map]
  rw [run]
  simp [iSlA, opSlA, ct, mp, opTuple]
theorem trimmed_l {l : List Int} (h0 : l ≠ []) (hl : l.length ≤ 1000000) (st : Sto) : p_trimmed [.lst (I_ l)] st = .ok (.tup (I_ (trimR l))) st := by
  obtain ⟨e, h1, h2, h3, h4, h5⟩ := trimR_take h0
  have hs : aseq st (.lst (I_ l)) = some (I_ l) := rfl
  have run := trim_run hs h1 h4 h5 h2 (l.length + 1) l.length h2 (Nat.le_refl _) (by omega)
  have ln : opLen [.lst (I_ l)] st = some (.int l.length, st) := by rw [len_any hs, List.length_map]
  have ct := cut_to (I_ l) e (by simpa using h2)
  have mp : (I_ l).take e = I_ (trimR l) := by rw [h3]; exact List.map_take.symm
  simp only [p_trimmed, B_p_trimmed, runB_d, List.length_cons, List.length_nil, if_true, List.map_cons, List.map_nil, List.replicate, List.cons_append, List.nil_append, sSeq_d, sSet_d, iN_d, aCons_d, iVar_d, List.getElem?_cons_zero, List.getElem?_cons_succ, R_ok, aNil_d, ln, ofO_s, liftS_ok, List.set_cons_zero, List.set_cons_succ, kSeq_nx, sWhile_d, mLen, hs, List.length_map]
  rw [run]
  simp [iSlA, opSlA, opSl, alst, ct, mp, opTuple]
/-- the law's _law_row: of a list, of a list in the store -/
theorem row_any {d : D} {l : List Int} {st : Sto} (hd : alst st d = some (I_ l)) (h0 : l ≠ []) (hl : l.length ≤ 1000000) : k02__law_row [d] st = .ok (.lst (I_ (trimR l))) st := by
  obtain ⟨e, h1, h2, h3, h4, h5⟩ := trimR_take h0
  have hs : aseq st d = some (I_ l) := by
    cases d with
    | lst xs => exact hd
    | ref n => exact hd
    | _ => simp [alst] at hd
  have run := trim_run hs h1 h4 h5 h2 (l.length + 1) l.length h2 (Nat.le_refl _) (by omega)
  have ln : opLen [d] st = some (.int l.length, st) := by rw [len_any hs, List.length_map]
  have ct := cut_to (I_ l) e (by simpa using h2)
  have mp : (I_ l).take e = I_ (trimR l) := by rw [h3]; exact List.map_take.symm
  have sl : opSlA d none (some (e : Int)) st = some (.lst (I_ (trimR l)), st) := by
    cases d with
    | lst xs => simp [alst] at hd; subst hd; simp [opSlA, opSl, alst, ct, mp]
    | ref n => have : lstAt st n = some (I_ l) := hd; simp [opSlA, opSl, alst, this, ct, mp]
    | _ => simp [alst] at hd
  simp only [k02__law_row, B_k02__law_row, runB_d, List.length_cons, List.length_nil, if_true, List.map_cons, List.map_nil, List.replicate, List.cons_append, List.nil_append, sSeq_d, sSet_d, iN_d, aCons_d, iVar_d, List.getElem?_cons_zero, List.getElem?_cons_succ, R_ok, aNil_d, ln, ofO_s, liftS_ok, List.set_cons_zero, List.set_cons_succ, kSeq_nx, sWhile_d, mLen, hs, List.length_map]
  rw [run]
  simp [iSlA, sl, opListF, aseq]
end M
/-! RC3: sums of rows (row_sum), rows without a common divisor (plain). -/
namespace M
open PySem PySem.W Builtin Builtin.Str
/-- all factors have less than B bits -/
def Bd (B : Nat) (l : List Int) : Prop := ∀ x ∈ l, x.natAbs < 2 ^ B
theorem log_le {n B : Nat} (h : n < 2 ^ B) : n.log2 ≤ B := by
  by_cases z : n = 0
  · subst z; simp
  · exact Nat.le_of_lt ((Nat.log2_lt z).mpr h)
theorem mulA_ok {i j : Int} {A B : Nat} (hi : i.natAbs < 2 ^ A) (hj : j.natAbs < 2 ^ B) (h : A + B ≤ 134217600) (st : Sto) : opMulA (.int i) (.int j) st = some (.int (i * j), st) := by
  have h1 := log_le hi
  have h2 := log_le hj
  show (if i.natAbs.log2 + j.natAbs.log2 < 134217700 then some (D.int (i * j), st) else none) = _
  rw [if_pos (by omega)]
theorem zip_addL (t : Int) : ∀ (a b : List Int) (m : Nat), a.length ≤ m → b.length ≤ m → (a.length = m ∨ b.length = m) →
    List.zipWith (fun x y => x + t * y) (a ++ List.replicate (m - a.length) 0) (b ++ List.replicate (m - b.length) 0) = addL a (b.map (t * ·))
  | [], [], m, h1, h2, h3 => by
    have : m = 0 := by rcases h3 with h | h <;> simpa using h.symm
    subst this
    rfl
  | [], y :: b, m, h1, h2, h3 => by
    cases m with
    | zero => simp at h2
    | succ m =>
      have ih := zip_addL t [] b m (Nat.zero_le _) (by simpa using h2) (h3.imp (fun z => by simp at z) (fun z => by simpa using z))
      have e : addL [] (List.map (t * ·) b) = List.map (t * ·) b := by cases b <;> rfl
      rw [e] at ih
      simp only [List.nil_append, List.length_nil, Nat.sub_zero] at ih ⊢
      have e2 : m + 1 - (y :: b).length = m - b.length := by simp
      have e3 : addL [] (List.map (t * ·) (y :: b)) = List.map (t * ·) (y :: b) := rfl
      rw [e2, e3, List.replicate_succ, List.cons_append, List.zipWith_cons_cons, ih, List.map_cons, Int.zero_add]
  | x :: a, [], m, h1, h2, h3 => by
    cases m with
    | zero => simp at h1
    | succ m =>
      have ih := zip_addL t a [] m (by simpa using h1) (Nat.zero_le _) (h3.imp (fun z => by simpa using z) (fun z => by simp at z))
      have e : addL a (List.map (t * ·) []) = a := by cases a <;> rfl
      rw [e] at ih
      simp only [List.nil_append, List.length_nil, Nat.sub_zero] at ih ⊢
      have e2 : m + 1 - (x :: a).length = m - a.length := by simp
      have e3 : addL (x :: a) (List.map (t * ·) []) = x :: a := rfl
      rw [e2, e3, List.replicate_succ, List.cons_append, List.zipWith_cons_cons, ih, Int.mul_zero, Int.add_zero]
  | x :: a, y :: b, m, h1, h2, h3 => by
    cases m with
    | zero => simp at h1
    | succ m =>
      have ih := zip_addL t a b m (by simpa using h1) (by simpa using h2) (h3.imp (fun z => by simpa using z) (fun z => by simpa using z))
      have e2 : m + 1 - (y :: b).length = m - b.length := by simp
      have e3 : m + 1 - (x :: a).length = m - a.length := by simp
      rw [e2, e3, List.cons_append, List.cons_append, List.zipWith_cons_cons, ih]
      rfl
theorem nxZ_at (xs ys : List D) (h : xs.length = ys.length) (i : Nat) (st : Sto) : nxZ xs ys i st = some (List.zipWith (fun x y => D.tup [x, y]) xs ys)[i]? := by
  unfold nxZ
  rw [List.getElem?_zipWith]
  cases hx : xs[i]? with
  | none => rfl
  | some x =>
    cases hy : ys[i]? with
    | none => rfl
    | some y => rfl
theorem comp_zip {e : IE} {env0 : Env} {v u : Nat} {a b : List Int} {st : Sto} (f : Int → Int → Int) (hl : a.length ≤ 1000000) (hab : a.length = b.length) (h : ∀ x ∈ a, ∀ y ∈ b, e ((env0.set v (some (.int x))).set u (some (.int y))) st = .ok (.int (f x y)) st) :
    compF (nxZ (I_ a) (I_ b)) (.tup [v, u]) tYes' e env0 (I_ a).length 0 [] st = .ok (I_ (List.zipWith f a b)) st := by
  have key := compF_map (p := .tup [v, u]) (e := e) (env0 := env0) (st := st) (xs := List.zipWith (fun x y => D.tup [x, y]) (I_ a) (I_ b)) (fun d => match d with | .tup [.int x, .int y] => .int (f x y) | d => d) (nxZ_at (I_ a) (I_ b) (by simpa using hab)) (fun d hd => by
    rw [List.zipWith_map] at hd
    obtain ⟨i, hi, e1⟩ := List.getElem_of_mem hd
    rw [List.getElem_zipWith] at e1
    subst e1
    exact ⟨_, rfl, h _ (List.getElem_mem _) _ (List.getElem_mem _)⟩) (I_ a).length 0 [] (by simp; omega) (by have := sizeLine_big; simp; omega)
  rw [key, List.zipWith_map, List.drop_zero, List.nil_append, List.map_zipWith]
  show R.ok (List.zipWith (fun x y => D.int (f x y)) a b) st = _
  rw [I_, List.map_zipWith]
theorem flat_rep (x : D) : ∀ k : Nat, (List.replicate k [x]).flatten = List.replicate k x
  | 0 => rfl
  | k + 1 => by rw [List.replicate_succ, List.flatten_cons, flat_rep x k]; rfl
theorem pad_ok {l : List Int} {m : Nat} (h : l.length ≤ m) (hm : m ≤ 10000) (st : Sto) : opMul (.lst [.int 0]) (.int ((m : Int) - (l.length : Int))) st = some (.lst (I_ (List.replicate (m - l.length) 0)), st) := by
  have c : -(2 ^ 63 : Int) ≤ (m : Int) - (l.length : Int) ∧ (m : Int) - (l.length : Int) < 2 ^ 63 ∧ [D.int 0].length * ((m : Int) - (l.length : Int)).toNat ≤ sizeLine := by
    have := sizeLine_big
    simp only [List.length_cons, List.length_nil]
    omega
  show (if -(2 ^ 63 : Int) ≤ (m : Int) - (l.length : Int) ∧ (m : Int) - (l.length : Int) < 2 ^ 63 ∧ [D.int 0].length * ((m : Int) - (l.length : Int)).toNat ≤ sizeLine then some (D.lst (List.replicate ((m : Int) - (l.length : Int)).toNat [D.int 0]).flatten, st) else none) = _
  rw [if_pos c, flat_rep, show ((m : Int) - (l.length : Int)).toNat = m - l.length by omega, I_, List.map_replicate]
theorem addl_ok {a b : List Int} (h : a.length + b.length ≤ 1000000) (st : Sto) : opAdd (.lst (I_ a)) (.lst (I_ b)) st = some (.lst (I_ (a ++ b)), st) := by
  have := sizeLine_big
  show (if (I_ a).length + (I_ b).length ≤ sizeLine then some (D.lst (I_ a ++ I_ b), st) else none) = _
  rw [if_pos (by simp; omega), I_, I_, I_, List.map_append]
theorem addt_ok {a b : List Int} (h : a.length + b.length ≤ 1000000) (st : Sto) : opAdd (.tup (I_ a)) (.tup (I_ b)) st = some (.tup (I_ (a ++ b)), st) := by
  have := sizeLine_big
  show (if (I_ a).length + (I_ b).length ≤ sizeLine then some (D.tup (I_ a ++ I_ b), st) else none) = _
  rw [if_pos (by simp; omega), I_, I_, I_, List.map_append]
theorem addL_len : ∀ l m : List Int, (addL l m).length = max l.length m.length
  | [], m => by cases m <;> simp [addL]
  | a :: l, [] => by simp [addL]
  | a :: l, b :: m => by simp only [addL, List.length_cons, addL_len l m]; omega
theorem sum_ok {a b : List Int} {t : Int} {T B : Nat} (ha : a ≠ []) (hla : a.length ≤ 1000) (hlb : b.length ≤ 1000) (ht : t.natAbs < 2 ^ T) (hb : Bd B b) (hTB : T + B ≤ 134217600) (st : Sto) :
    p_row_sum [.tup (I_ a), .tup (I_ b), .int t] st = .ok (.tup (I_ (trimR (addL a (b.map (t * ·)))))) st := by
  obtain ⟨m, hm⟩ : ∃ m, m = max a.length b.length := ⟨_, rfl⟩
  have m1 : a.length ≤ m := by omega
  have m2 : b.length ≤ m := by omega
  have m3 : m ≤ 1000 := by omega
  have la := len_any (st := st) (d := .tup (I_ a)) (xs := I_ a) rfl
  have lb := len_any (st := st) (d := .tup (I_ b)) (xs := I_ b) rfl
  rw [List.length_map] at la lb
  have mx : opMax [.int (a.length : Int), .int (b.length : Int)] st = some (.int (m : Int), st) := by rw [opMax_nat, hm]
  have e1 : (opListF [.tup (I_ a)] st) = some (.lst (I_ a), st) := rfl
  have e2 : (opListF [.tup (I_ b)] st) = some (.lst (I_ b), st) := rfl
  have p1 := pad_ok m1 (by omega) st
  have p2 := pad_ok m2 (by omega) st
  have a1 := addl_ok (a := a) (b := List.replicate (m - a.length) 0) (by simp; omega) st
  have a2 := addl_ok (a := b) (b := List.replicate (m - b.length) 0) (by simp; omega) st
  have z := zip_addL t a b m m1 m2 (by omega)
  have mem0 : ∀ y ∈ b ++ List.replicate (m - b.length) (0 : Int), y.natAbs < 2 ^ B := fun y hy => by
    rcases List.mem_append.mp hy with h | h
    · exact hb y h
    · rw [(List.mem_replicate.mp h).2]; exact Nat.two_pow_pos B
  have cp := comp_zip (e := iBin opAdd (iVar 6) (iBin opMulA (iVar 2) (iVar 7))) (env0 := [some (.tup (I_ a)), some (.tup (I_ b)), some (.int t), some (.int (m : Int)), some (.lst (I_ (a ++ List.replicate (m - a.length) 0))), some (.lst (I_ (b ++ List.replicate (m - b.length) 0))), none, none]) (v := 6) (u := 7) (st := st) (a := a ++ List.replicate (m - a.length) 0) (b := b ++ List.replicate (m - b.length) 0) (fun x y => x + t * y) (by simp; omega) (by simp; omega) (fun x hx y hy => by
    have := mulA_ok ht (mem0 y hy) hTB st
    simp [this, opAdd])
  have tr := trimmed_l (l := addL a (b.map (t * ·))) (addL_ne ha) (by rw [addL_len]; simp; omega) st
  rw [z] at cp
  simp only [p_row_sum, B_p_row_sum, runB_d, List.length_cons, List.length_nil, if_true, List.map_cons, List.map_nil, List.replicate, List.cons_append, List.nil_append, sSeq_d, sSet_d, iN_d, aCons_d, iVar_d, List.getElem?_cons_zero, List.getElem?_cons_succ, R_ok, aNil_d, la, lb, mx, ofO_s, liftS_ok, List.set_cons_zero, List.set_cons_succ, kSeq_nx, sPar_d, iBin_d, e1, e2, opLstF_d, iC_d, opSub, p1, p2, a1, a2, le_size, Nat.reduceLeDiff, sRet_d, iCall_d, iCompF_d, wZipL, kZipL, wipeE, Pat.slots]
  have big := sizeLine_big
  rw [List.length_map] at cp
  clear mem0
  generalize a ++ List.replicate (m - a.length) (0 : Int) = A2 at a1 cp z
  generalize b ++ List.replicate (m - b.length) (0 : Int) = B2 at a2 cp z
  simp [opSub, p1, p2, a1, a2, iCompF_d, wZipL, kZipL, Pat.slots, wipeE]
  rw [cp]
  simp [tr]
end M
/-! RC4: rows without a common divisor (plain); the rest of a division (rest_of), the sizes of its factors. -/
namespace M
open PySem PySem.W Builtin Builtin.Str
theorem fdivA_ok {i j : Int} (h : j ≠ 0) (st : Sto) : opFdivA (.int i) (.int j) st = some (.int (i.fdiv j), st) := by
  show (if j ≠ 0 then some (D.int (i.fdiv j), st) else none) = _
  rw [if_pos h]
theorem env_three {e : Env} (h : e.length = 3) : e = [e[0]?.join, e[1]?.join, e[2]?.join] := by
  match e, h with
  | [a, b, c], _ => rfl
theorem plain_run {r : List Int} (hl : r.length ≤ 1000) (hc : cont r ≠ 0) (st : Sto) : p_plain [.tup (I_ r)] st = .ok (.tup (I_ (plainR r))) st := by
  obtain ⟨e, h1, h2, h3, h4⟩ := fold_gcd (f := p_divisor_of) divisor_int (v := 1) (u := 2) (by decide) (l := r) (env := [some (.tup (I_ r)), some (.int 0), none]) (st := st) (by simp) (by simp) rfl
  have h5 := h4 0 (by decide) (by decide)
  have ee := env_three h2
  obtain ⟨x, hx⟩ : ∃ x, x = e[2]?.join := ⟨_, rfl⟩
  rw [h5, h3, ← hx] at ee
  have ee : e = [some (.tup (I_ r)), some (.int (cont r : Int)), x] := ee
  subst ee
  have ci : (cont r : Int) ≠ 0 := by omega
  have cp := comp_ints (e := iBin opFdivA (iVar 2) (iVar 1)) (env0 := [some (.tup (I_ r)), some (.int (cont r : Int)), none]) (v := 2) (r := r) (st := st) (fun a => a / (cont r : Int)) (by omega) (fun a ha => by
    have := fdivA_ok (i := a) ci st
    rw [Int.fdiv_eq_ediv_of_nonneg a (by omega)] at this
    simp [this])
  rw [List.length_map] at cp h1
  simp only [p_plain, B_p_plain, runB_d, List.length_cons, List.length_nil, if_true, List.map_cons, List.map_nil, List.replicate, List.cons_append, List.nil_append, sSeq_d, sSet_d, iC_d, liftS_ok, List.set_cons_zero, List.set_cons_succ, kSeq_nx, sFor_d, wAny_d, iVar_d, List.getElem?_cons_zero, List.getElem?_cons_succ, R_ok, kAny_tup, List.length_map]
  rw [h1]
  simp [iCompF_d, Pat.slots, wipeE]
  rw [cp]
  simp [opTuple, alst, plainR]
/-! ### sizes -/
theorem Bd.mono {B C : Nat} {l : List Int} (h : Bd B l) (hBC : B ≤ C) : Bd C l := fun x hx => Nat.lt_of_lt_of_le (h x hx) (Nat.pow_le_pow_right (by decide) hBC)
theorem Bd.addL {N : Nat} : ∀ {l m : List Int}, Bd N l → Bd N m → Bd (N + 1) (addL l m)
  | [], m, _, h => by
    have e : M.addL [] m = m := by cases m <;> rfl
    rw [e]
    exact h.mono (by omega)
  | a :: l, [], h, _ => h.mono (by omega)
  | a :: l, b :: m, h, g => fun x hx => by
    have p := Nat.pow_succ (n := 2) (m := N)
    rcases List.mem_cons.mp (show x ∈ (a + b) :: M.addL l m from hx) with rfl | hx
    · have h1 := h a List.mem_cons_self
      have h2 := g b List.mem_cons_self
      rw [p]
      omega
    · exact Bd.addL (fun y hy => h y (List.mem_cons_of_mem _ hy)) (fun y hy => g y (List.mem_cons_of_mem _ hy)) x hx
theorem Bd.mul {X Y : Nat} {l : List Int} {t : Int} (h : Bd X l) (ht : t.natAbs < 2 ^ Y) : Bd (X + Y) (l.map (t * ·)) := fun x hx => by
  obtain ⟨y, hy, rfl⟩ := List.mem_map.mp hx
  rw [Int.natAbs_mul, Nat.pow_add, Nat.mul_comm]
  exact Nat.mul_lt_mul'' (h y hy) ht
theorem trimR_mem {l : List Int} {x : Int} (h0 : l ≠ []) (h : x ∈ trimR l) : x ∈ l := by
  obtain ⟨e, _, _, h3, _⟩ := trimR_take h0
  rw [h3] at h
  exact List.mem_of_mem_take h
theorem leadR_mem {l : List Int} (h0 : l ≠ []) : leadR l ∈ l := by
  have lp := List.length_pos_iff.mpr h0
  unfold leadR
  rw [List.getD_eq_getElem?_getD, List.getElem?_eq_getElem (by omega)]
  exact List.getElem_mem _
theorem Bd.shift {B k : Nat} {l : List Int} (h : Bd B l) : Bd B (shiftR k l) := fun x hx => by
  rcases List.mem_append.mp hx with h1 | h1
  · rw [(List.mem_replicate.mp h1).2]; exact Nat.two_pow_pos B
  · exact h x h1
theorem step_ne {r b : List Int} (hr : r ≠ []) : addL (r.map (leadR b * ·)) ((shiftR (r.length - b.length) b).map (-leadR r * ·)) ≠ [] := addL_ne (by simpa using hr)
theorem divStep_bd {r b : List Int} {X Y : Nat} (hr : r ≠ []) (hb : b ≠ []) (h1 : Bd X r) (h2 : Bd Y b) : Bd (X + Y + 1) (divStep r b) := fun x hx => by
  refine Bd.addL (h1.mul (h2 _ (leadR_mem hb))) ?_ x (trimR_mem (step_ne hr) hx)
  have := (h2.shift (k := r.length - b.length)).mul (t := -leadR r) (Y := X) (by rw [Int.natAbs_neg]; exact h1 _ (leadR_mem hr))
  rw [Nat.add_comm X Y]
  exact this
theorem plainR_bd {l : List Int} {X : Nat} (h : Bd X l) : Bd X (plainR l) := fun x hx => by
  obtain ⟨y, hy, rfl⟩ := List.mem_map.mp hx
  refine Nat.lt_of_le_of_lt ?_ (h y hy)
  rw [Int.natAbs_ediv_of_dvd (cont_dvd y hy)]
  exact Nat.div_le_self _ _
theorem divStep_row {r b : List Int} (hb : Row b) (b0 : b ≠ [0]) (hr : Row r) (q : b.length ≤ r.length ∧ r ≠ [0]) : Row (divStep r b) ∧ (divStep r b = [0] ∨ (divStep r b).length < r.length) := by
  have st := rest_step (hb.deg b0) (hr.deg q.2) (by omega)
  have e := fun n => divStep_co (r := r) q.1 hb.ne n
  have hrow : Row (divStep r b) := trimR_row (step_ne hr.ne)
  refine ⟨hrow, (hrow.len (e := r.length - 1) fun n hn => by rw [e]; exact st n hn).imp id fun z => ?_⟩
  have := List.length_pos_iff.mpr hr.ne
  omega
/-! ### the rest of a division -/
theorem zeros_ok {m n : Nat} (h : n ≤ m) (hm : m ≤ 900) (st : Sto) : opMulZ (.tup [.int 0]) (.int ((m : Int) - (n : Int))) st = some (.tup (I_ (List.replicate (m - n) 0)), st) := by
  by_cases z : m - n = 0
  · have e : (m : Int) - (n : Int) = 0 := by omega
    rw [e, z]
    rfl
  · obtain ⟨j, hj⟩ : ∃ j : Nat, m - n = j + 1 := ⟨m - n - 1, by omega⟩
    have e : (m : Int) - (n : Int) = ((j + 1 : Nat) : Int) := by omega
    rw [e, hj]
    have c : ((j + 1 : Nat) : Int) = 1 ∨ ([D.int 0] ≠ [] ∧ 2 ≤ ((j + 1 : Nat) : Int) ∧ ((j + 1 : Nat) : Int) ≤ 1000 ∧ [D.int 0].length ≤ 1000) := by
      by_cases q : j = 0
      · left; omega
      · right; exact ⟨by simp, by omega, by omega, by simp⟩
    have : opMulU (.tup [.int 0]) (.int ((j + 1 : Nat) : Int)) st = some (.tup (I_ (List.replicate (j + 1) 0)), st) := by
      show (if ((j + 1 : Nat) : Int) = 1 ∨ ([D.int 0] ≠ [] ∧ 2 ≤ ((j + 1 : Nat) : Int) ∧ ((j + 1 : Nat) : Int) ≤ 1000 ∧ [D.int 0].length ≤ 1000) then some (D.tup (List.replicate ((j + 1 : Nat) : Int).toNat [D.int 0]).flatten, st) else none) = _
      rw [if_pos c, flat_rep, Int.toNat_natCast, I_, List.map_replicate]
    unfold opMulZ
    split
    · rename_i e2
      exfalso
      injection e2 with e2
      omega
    · exact this
abbrev rCond : IT := tAnd' (tBl (iBin opGe (iN opLen (aCons (iVar 2) aNil)) (iN opLen (aCons (iVar 1) aNil)))) (tBl (iBin (opEq true) (iVar 2) (iN opTup (aCons (iC (.int 0)) aNil))))
abbrev rBody : IS := sSeq (sSet 3 (iBin opMulZ (iN opTup (aCons (iC (.int 0)) aNil)) (iBin opSub (iN opLen (aCons (iVar 2) aNil)) (iN opLen (aCons (iVar 1) aNil)))))
  (sSeq (sSet 4 (iN opTuple (aCons (iCompF (wAny (iVar 2)) (.one 5) tYes' (iBin opMulA (iVar 5) (iBin opIx (iVar 1) (iUn opNeg (iC (.int 1)))))) aNil)))
  (sSet 2 (iCall p_row_sum [] (aCons (iVar 4) (aCons (iBin opAdd (iVar 3) (iVar 1)) (aCons (iBin opSub (iC (.int 0)) (iBin opIx (iVar 2) (iUn opNeg (iC (.int 1))))) aNil))))))
theorem cmpGe (i j : Int) (st : Sto) : opGe (.int i) (.int j) st = some (.bl (decide (i ≥ j)), st) := rfl
theorem rCond_ok {a0 x3 x4 x5 : Option D} {r b : List Int} {st : Sto} : rCond [a0, some (.tup (I_ b)), some (.tup (I_ r)), x3, x4, x5] st = .ok (decide (b.length ≤ r.length ∧ r ≠ [0])) st := by
  have la := len_any (st := st) (d := .tup (I_ r)) (xs := I_ r) rfl
  have lb := len_any (st := st) (d := .tup (I_ b)) (xs := I_ b) rfl
  have eq : opEq true (.tup (I_ r)) (.tup [.int 0]) st = some (.bl (!decide (r = [0])), st) := eq_tt true r [0] st
  rw [List.length_map] at la lb
  by_cases q : b.length ≤ r.length
  · have q' : (b.length : Int) ≤ (r.length : Int) := by omega
    simp [rCond, la, lb, cmpGe, q', q, eq]
  · have q' : ¬ (b.length : Int) ≤ (r.length : Int) := by omega
    simp [rCond, la, lb, cmpGe, q', q]
theorem rBody_ok {a0 x3 x4 x5 : Option D} {r b : List Int} {st : Sto} {X Y : Nat} (hr : r ≠ []) (hb : b ≠ []) (q : b.length ≤ r.length) (hl : r.length ≤ 400) (h1 : Bd X r) (h2 : Bd Y b) (hXY : X + Y ≤ 134217600) :
    ∃ y3 y4 y5, rBody [a0, some (.tup (I_ b)), some (.tup (I_ r)), x3, x4, x5] st = .nx [a0, some (.tup (I_ b)), some (.tup (I_ (divStep r b))), y3, y4, y5] st := by
  have la := len_any (st := st) (d := .tup (I_ r)) (xs := I_ r) rfl
  have lb := len_any (st := st) (d := .tup (I_ b)) (xs := I_ b) rfl
  rw [List.length_map] at la lb
  have z := zeros_ok q (by omega) st
  have xb := ix_last (st := st) (d := .tup (I_ b)) (l := b) rfl hb
  have xr := ix_last (st := st) (d := .tup (I_ r)) (l := r) rfl hr
  have sh := addt_ok (a := List.replicate (r.length - b.length) 0) (b := b) (by simp; omega) st
  have cp := comp_ints (e := iBin opMulA (iVar 5) (iBin opIx (iVar 1) (iUn opNeg (iC (.int 1))))) (env0 := [a0, some (.tup (I_ b)), some (.tup (I_ r)), some (.tup (I_ (List.replicate (r.length - b.length) 0))), x4, none]) (v := 5) (r := r) (st := st) (fun x => leadR b * x) (by omega) (fun x hx => by
    have m := mulA_ok (h1 x hx) (h2 _ (leadR_mem hb)) hXY st
    rw [Int.mul_comm] at m
    simp [opNeg, xb, m])
  rw [List.length_map] at cp
  have sm := sum_ok (a := r.map (leadR b * ·)) (b := shiftR (r.length - b.length) b) (t := 0 - leadR r) (T := X) (B := Y) (by simpa using hr) (by simp; omega) (by simp [shiftR]; omega) (by rw [Int.zero_sub, Int.natAbs_neg]; exact h1 _ (leadR_mem hr)) h2.shift hXY st
  have e : trimR (addL (r.map (leadR b * ·)) ((shiftR (r.length - b.length) b).map ((0 - leadR r) * ·))) = divStep r b := by rw [Int.zero_sub]; rfl
  rw [e] at sm
  have sh' : opAdd (.tup (I_ (List.replicate (r.length - b.length) 0))) (.tup (I_ b)) st = some (.tup (I_ (shiftR (r.length - b.length) b)), st) := sh
  generalize hz : I_ (List.replicate (r.length - b.length) (0 : Int)) = Z at z cp sh'
  generalize hs : I_ (shiftR (r.length - b.length) b) = S at sm sh'
  rw [Int.zero_sub] at sm
  generalize hv : I_ (r.map (leadR b * ·)) = V at cp sm
  refine ⟨some (.tup Z), some (.tup V), x5, ?_⟩
  simp only [rBody, sSeq_d, sSet_d, iBin_d, iN_d, aCons_d, iC_d, R_ok, aNil_d, opTup_d, List.length_cons, List.length_nil, le_size, Nat.reduceAdd, Nat.reduceLeDiff, if_true, ofO_s, iVar_d, List.getElem?_cons_zero, List.getElem?_cons_succ, la, lb, opSub, z, liftS_ok, List.set_cons_zero, List.set_cons_succ, kSeq_nx, iCompF_d, wAny_d, kAny_tup, Pat.slots, wipeE, List.length_map]
  rw [cp]
  simp [opTuple, alst, opNeg, xr, opSub, sh', sm]
end M
/-! RC5: rest_of and common_row are restR and commonR; the sizes of their factors. -/
namespace M
open PySem PySem.W Builtin Builtin.Str
theorem divR_zero : ∀ (k : Nat) (b : List Int), divR k [0] b = [0]
  | 0, _ => rfl
  | k + 1, b => by rw [divR, if_neg (fun h => h.2 rfl)]
theorem Bd.zero (B : Nat) : Bd B [0] := fun x hx => by
  rw [List.mem_singleton.mp hx]
  exact Nat.two_pow_pos B
theorem div_run {a0 : Option D} {b : List Int} (hb : Row b) (b0 : b ≠ [0]) {Y : Nat} (hY : Bd Y b) (st : Sto) : ∀ (k f : Nat) (r : List Int) (X : Nat) (x3 x4 x5 : Option D), Row r → (r = [0] ∨ r.length + 1 - b.length ≤ k) → (r = [0] ∧ 1 ≤ f ∨ r.length + 2 - b.length ≤ f ∧ 1 ≤ f) → r.length ≤ 400 → Bd X r → X + Y + (r.length + 1 - b.length) * (Y + 1) ≤ 134217600 →
    ∃ y3 y4 y5, sWhileN rCond rBody f [a0, some (.tup (I_ b)), some (.tup (I_ r)), x3, x4, x5] st = .nx [a0, some (.tup (I_ b)), some (.tup (I_ (divR k r b))), y3, y4, y5] st ∧ Bd (X + (r.length + 1 - b.length) * (Y + 1)) (divR k r b)
  | 0, f, r, X, x3, x4, x5, hr, hk, hf, hl, hX, hs => by
    have nq : ¬ (b.length ≤ r.length ∧ r ≠ [0]) := fun ⟨z1, z2⟩ => by
      have := hk.resolve_left z2
      omega
    cases f with
    | zero => omega
    | succ f =>
      refine ⟨x3, x4, x5, ?_, hX.mono (Nat.le_add_right _ _)⟩
      rw [sWhileN_d, rCond_ok]
      simp only [liftS_ok, decide_eq_false nq]
      simp [divR]
  | k + 1, f, r, X, x3, x4, x5, hr, hk, hf, hl, hX, hs => by
    cases f with
    | zero => omega
    | succ f =>
      rw [sWhileN_d, rCond_ok]
      by_cases q : b.length ≤ r.length ∧ r ≠ [0]
      · obtain ⟨hrow, hlen⟩ := divStep_row hb b0 hr q
        have bl := List.length_pos_iff.mpr hb.ne
        have hk' := hk.resolve_left q.2
        obtain ⟨y3, y4, y5, e⟩ := rBody_ok (a0 := a0) (x3 := x3) (x4 := x4) (x5 := x5) (st := st) hr.ne hb.ne q.1 hl hX hY (by omega)
        obtain ⟨m, hm⟩ : ∃ m, r.length + 1 - b.length = m + 1 := ⟨r.length - b.length, by omega⟩
        have hf' : r.length + 2 - b.length ≤ f + 1 := by
          rcases hf with h | h
          · exact absurd h.1 q.2
          · exact h.1
        have sz : ∀ n, n ≤ m → X + Y + 1 + n * (Y + 1) ≤ X + (m + 1) * (Y + 1) := fun n hn => by
          have := Nat.mul_le_mul_right (Y + 1) hn
          rw [Nat.add_mul]
          omega
        rw [hm] at hs
        have go : ∀ w : RS, kWhile rBody (sWhileN rCond rBody f) (rBody [a0, some (.tup (I_ b)), some (.tup (I_ r)), x3, x4, x5] st) = w → liftS (R.ok (decide (b.length ≤ r.length ∧ r ≠ [0])) st) [a0, some (.tup (I_ b)), some (.tup (I_ r)), x3, x4, x5] (fun k s => if k = true then kWhile rBody (sWhileN rCond rBody f) (rBody [a0, some (.tup (I_ b)), some (.tup (I_ r)), x3, x4, x5] s) else .nx [a0, some (.tup (I_ b)), some (.tup (I_ r)), x3, x4, x5] s) = w := fun w h => by
          rw [liftS_ok, decide_eq_true q, if_pos rfl]
          exact h
        have nb : Bd (X + Y + 1) (divStep r b) := divStep_bd hr.ne hb.ne hX hY
        rcases hlen with h | h
        · cases f with
          | zero => omega
          | succ f =>
            have z0 : divR (k + 1) r b = [0] := by
              rw [divR, if_pos q, h]
              exact divR_zero k b
            refine ⟨y3, y4, y5, go _ ?_, ?_⟩
            · rw [e, h, z0]
              show sWhileN rCond rBody (f + 1) [a0, some (.tup (I_ b)), some (.tup (I_ [0])), y3, y4, y5] st = _
              rw [sWhileN_d, rCond_ok]
              simp
            · rw [z0]
              exact Bd.zero _
        · have s1 := sz ((divStep r b).length + 1 - b.length) (by omega)
          obtain ⟨z3, z4, z5, g1, g2⟩ := div_run hb b0 hY st k f (divStep r b) (X + Y + 1) y3 y4 y5 hrow (.inr (by omega)) (.inr (by omega)) (by omega) nb (by omega)
          refine ⟨z3, z4, z5, go _ ?_, ?_⟩
          · rw [e]
            show sWhileN rCond rBody f [a0, some (.tup (I_ b)), some (.tup (I_ (divStep r b))), y3, y4, y5] st = _
            rw [g1, divR, if_pos q]
          · rw [divR, if_pos q, hm]
            exact g2.mono (by omega)
      · refine ⟨x3, x4, x5, ?_, ?_⟩
        · simp only [liftS_ok, decide_eq_false q]
          simp [divR, q]
        · rw [divR, if_neg q]
          exact hX.mono (Nat.le_add_right _ _)
theorem cont_row {l : List Int} (h : Row l) (n0 : l ≠ [0]) : cont l ≠ 0 := fun z => (h.deg n0).1 (cont_zero z _)
theorem rest_run {a b : List Int} {X Y : Nat} (ha : Row a) (hb : Row b) (b0 : b ≠ [0]) (hl : a.length ≤ 400) (hX : Bd X a) (hY : Bd Y b) (hs : X + Y + (a.length + 1 - b.length) * (Y + 1) ≤ 134217600) (st : Sto) :
    p_rest_of [.tup (I_ a), .tup (I_ b)] st = .ok (.tup (I_ (restR a b))) st ∧ Bd (X + (a.length + 1 - b.length) * (Y + 1)) (restR a b) := by
  have bl := List.length_pos_iff.mpr hb.ne
  obtain ⟨y3, y4, y5, h1, h2⟩ := div_run (a0 := some (.tup (I_ a))) hb b0 hY st (a.length + 1) (a.length + 1) a X none none none ha (.inr (by omega)) (.inr ⟨by omega, by omega⟩) hl hX hs
  obtain ⟨r1, r2, _⟩ := divR_ok hb b0 (a.length + 1) a ha (.inr (by omega))
  obtain ⟨r, hr⟩ : ∃ r, r = divR (a.length + 1) a b := ⟨_, rfl⟩
  unfold restR
  rw [← hr] at h1 h2 r1 r2 ⊢
  have eq : opEq false (.tup (I_ r)) (.tup [.int 0]) st = some (.bl (decide (r = [0])), st) := eq_tt false r [0] st
  have w : sWhile (mLen 2) rCond rBody [some (.tup (I_ a)), some (.tup (I_ b)), some (.tup (I_ a)), none, none, none] st = .nx [some (.tup (I_ a)), some (.tup (I_ b)), some (.tup (I_ r)), y3, y4, y5] st := by
    show sWhileN rCond rBody ((I_ a).length + 1) _ _ = _
    rw [List.length_map]
    exact h1
  have run : p_rest_of [.tup (I_ a), .tup (I_ b)] st = endB (kSeq (sRet (iIf (tBl (iBin (opEq false) (iVar 2) (iN opTup (aCons (iC (.int 0)) aNil)))) (iVar 2) (iCall p_plain [] (aCons (iVar 2) aNil)))) (sWhile (mLen 2) rCond rBody [some (.tup (I_ a)), some (.tup (I_ b)), some (.tup (I_ a)), none, none, none] st)) := rfl
  rw [run, w]
  by_cases z : r = [0]
  · rw [if_pos z]
    refine ⟨?_, Bd.zero _⟩
    have eq1 : opEq false (.tup [.int 0]) (.tup [.int 0]) st = some (.bl true, st) := eq_tt false [0] [0] st
    simp [z, eq1]
  · rw [if_neg z]
    have pl := plain_run (r := r) (by
      rcases r2 with h | h
      · exact absurd h z
      · have : r.length ≤ a.length + b.length + 1 := by omega
        have : b.length ≤ 1000 ∨ 1000 < b.length := by omega
        by_cases q : b.length ≤ 500
        · omega
        · have e : r = a := by
            rw [hr, divR, if_neg (fun w => by omega)]
          rw [e]; omega) (cont_row r1 z) st
    refine ⟨?_, plainR_bd h2⟩
    simp [eq, z, pl]
/-! ### what two rows have in common -/
/-- that the factors' sizes do not grow too much: H what is told, L what a product may have; la, lb: lengths; x, y: sizes -/
def sf (H L : Nat) : Nat → Nat → Nat → Nat → Nat → Bool
  | 0, _, _, _, _ => false
  | f + 1, la, lb, x, y => decide (y ≤ H) && decide (x + y + (la + 1 - lb) * (y + 1) ≤ L) && (List.range lb).all fun lr => decide (lr = 0) || sf H L f lb lr y (if lr = 1 then 1 else x + (la + 1 - lb) * (y + 1))
abbrev cCond : IT := tBl (iBin (opEq true) (iVar 3) (iN opTup (aCons (iC (.int 0)) aNil)))
abbrev cBody : IS := sPar 2 3 (aCons (iVar 3) (aCons (iCall p_rest_of [] (aCons (iVar 2) (aCons (iVar 3) aNil))) aNil))
theorem restR_len {a b : List Int} (ha : Row a) (hb : Row b) (b0 : b ≠ [0]) : Row (restR a b) ∧ (restR a b = [0] ∨ cont (restR a b) = 1 ∧ restR a b ≠ [0] ∧ (restR a b).length < b.length) := ⟨(restR_ok ha hb b0).1, (restR_ok ha hb b0).2.1⟩
theorem one_bd {l : List Int} (h : l.length = 1) (hc : l = [0] ∨ cont l = 1) : Bd 1 l := by
  match l, h with
  | [a], _ =>
    rcases hc with h | h
    · rw [h]; exact Bd.zero _
    · have : a.natAbs = 1 := by simpa [cont] using h
      intro x hx
      rw [List.mem_singleton.mp hx, this]
      decide
theorem com_run {a0 b0 : Option D} {H : Nat} (st : Sto) : ∀ (k f g : Nat) (x y : List Int) (X Y : Nat), Row x → Row y → (y = [0] ∨ y.length < k) → (y = [0] ∧ 1 ≤ f ∨ y.length + 1 ≤ f) → x.length ≤ 400 → y.length ≤ 400 → Bd X x → Bd Y y → X ≤ H → (y = [0] ∨ sf H 134217600 g x.length y.length X Y = true) →
    ∃ z, sWhileN cCond cBody f [a0, b0, some (.tup (I_ x)), some (.tup (I_ y))] st = .nx [a0, b0, some (.tup (I_ (commonR k x y))), z] st ∧ Bd H (commonR k x y)
  | k, 0, g, x, y, X, Y, hx, hy, hk, hf, _, _, _, _, _, _ => by omega
  | k, f + 1, g, x, y, X, Y, hx, hy, hk, hf, lx, ly, hX, hY, hH, hs => by
    have eq : opEq true (.tup (I_ y)) (.tup [.int 0]) st = some (.bl (!decide (y = [0])), st) := eq_tt true y [0] st
    have cc : cCond [a0, b0, some (.tup (I_ x)), some (.tup (I_ y))] st = .ok (decide (y ≠ [0])) st := by simp [cCond, eq]
    rw [sWhileN_d, cc]
    by_cases z : y = [0]
    · have e : commonR k x y = x := by
        cases k with
        | zero => rfl
        | succ k => rw [commonR, if_pos z]
      refine ⟨some (.tup (I_ y)), ?_, ?_⟩
      · rw [e]
        simp [z]
      · rw [e]; exact hX.mono hH
    · cases k with
      | zero => exact absurd (hk.resolve_left z) (Nat.not_lt_zero _)
      | succ k =>
        cases g with
        | zero => exact absurd (hs.resolve_left z) (by simp [sf])
        | succ g =>
          have hs' := hs.resolve_left z
          simp only [sf, Bool.and_eq_true, decide_eq_true_eq, List.all_eq_true, List.mem_range, Bool.or_eq_true] at hs'
          obtain ⟨⟨s1, s2⟩, s3⟩ := hs'
          obtain ⟨r1, r2⟩ := rest_run hx hy z lx hX hY s2 st
          obtain ⟨w1, w2⟩ := restR_len hx hy z
          have yl := List.length_pos_iff.mpr hy.ne
          have wl := List.length_pos_iff.mpr w1.ne
          have fl : y.length + 1 ≤ f + 1 := by
            rcases hf with h | h
            · exact absurd h.1 z
            · exact h
          have r3 : Bd (if (restR x y).length = 1 then 1 else X + (x.length + 1 - y.length) * (Y + 1)) (restR x y) := by
            split
            · rename_i q; exact one_bd q (w2.imp id fun h => h.1)
            · exact r2
          obtain ⟨q, h1, h2⟩ := com_run st k f g y (restR x y) Y (if (restR x y).length = 1 then 1 else X + (x.length + 1 - y.length) * (Y + 1)) hy w1 (w2.imp id fun h => by have := hk.resolve_left z; omega) (by
            rcases w2 with h | h
            · exact .inl ⟨h, by omega⟩
            · exact .inr (by omega)) ly (by
            rcases w2 with h | h
            · rw [h]; simp
            · omega) hY r3 s1 (w2.imp id fun h => (s3 _ h.2.2).resolve_left (by omega))
          refine ⟨q, ?_, ?_⟩
          · have cb : cBody [a0, b0, some (.tup (I_ x)), some (.tup (I_ y))] st = .nx [a0, b0, some (.tup (I_ y)), some (.tup (I_ (restR x y)))] st := by simp [cBody, r1]
            rw [liftS_ok, decide_eq_true z, if_pos rfl, cb, commonR, if_neg z]
            exact h1
          · rw [commonR, if_neg z]
            exact h2
/-- common_row of two rows -/
theorem common_run {a b : List Int} {X Y H g : Nat} (ha : Row a) (a0 : a ≠ [0]) (hb : Row b) (b0 : b ≠ [0]) (la : a.length ≤ 400) (lb : b.length ≤ 400) (hX : Bd X a) (hY : Bd Y b) (hH : X ≤ H) (hs : sf H 134217600 g a.length b.length X Y = true) (st : Sto) :
    p_common_row [.tup (I_ a), .tup (I_ b)] st = .ok (.tup (I_ (commonR (b.length + 1) (plainR a) (plainR b)))) st ∧ Bd H (commonR (b.length + 1) (plainR a) (plainR b)) := by
  obtain ⟨a1, a2, _, _, a5, _⟩ := plainR_ok ha a0
  obtain ⟨b1, b2, _, _, b5, _⟩ := plainR_ok hb b0
  have p1 := plain_run (r := a) (by omega) (cont_row ha a0) st
  have p2 := plain_run (r := b) (by omega) (cont_row hb b0) st
  obtain ⟨z, h1, h2⟩ := com_run (a0 := some (.tup (I_ a))) (b0 := some (.tup (I_ b))) (H := H) st (b.length + 1) (b.length + 1) g (plainR a) (plainR b) X Y a1 b1 (.inr (by omega)) (.inr (by omega)) (by omega) (by omega) (plainR_bd hX) (plainR_bd hY) hH (.inr (by rw [a5, b5]; exact hs))
  refine ⟨?_, h2⟩
  have w : sWhile (mLen 3) cCond cBody [some (.tup (I_ a)), some (.tup (I_ b)), some (.tup (I_ (plainR a))), some (.tup (I_ (plainR b)))] st = .nx [some (.tup (I_ a)), some (.tup (I_ b)), some (.tup (I_ (commonR (b.length + 1) (plainR a) (plainR b)))), z] st := by
    show sWhileN cCond cBody ((I_ (plainR b)).length + 1) _ _ = _
    rw [List.length_map, b5]
    exact h1
  simp only [p_common_row, B_p_common_row, runB_d, List.length_cons, List.length_nil, if_true, List.map_cons, List.map_nil, List.replicate, List.cons_append, List.nil_append, sSeq_d, sPar_d, aCons_d, iCall_d, iVar_d, List.getElem?_cons_zero, List.getElem?_cons_succ, R_ok, aNil_d, p1, p2, liftS_ok, List.set_cons_zero, List.set_cons_succ, kSeq_nx]
  rw [w]
  simp
end M
/-! RC6: quotient is quotR; the sizes. -/
namespace M
open PySem PySem.W Builtin Builtin.Str
abbrev qR (r b : List Int) : List Int := trimR (addL r ((shiftR (r.length - b.length) b).map (-(leadR r).fdiv (leadR b) * ·)))
abbrev qF (f r b : List Int) : List Int := trimR (addL f (mon (r.length - b.length) ((leadR r).fdiv (leadR b))))
theorem quot_row {r b : List Int} (hb : Row b) (b0 : b ≠ [0]) (hr : Row r) (r0 : r ≠ [0]) (hq : ∃ q : List Int, ∀ n, co r n = act q (co b) n) :
    b.length ≤ r.length ∧ Row (qR r b) ∧ (qR r b = [0] ∨ (qR r b).length < r.length) ∧ (∃ q : List Int, ∀ n, co (qR r b) n = act q (co b) n) ∧ ((leadR r).fdiv (leadR b)).natAbs ≤ (leadR r).natAbs ∧ leadR b ≠ 0 := by
  obtain ⟨q, hq⟩ := hq
  have db := hb.deg b0
  obtain ⟨le, c, ce, hq', hz⟩ := quot_step db (hr.deg r0) hq
  have rl := List.length_pos_iff.mpr hr.ne
  have bl := List.length_pos_iff.mpr hb.ne
  have ex : (leadR r).fdiv (leadR b) = c := by
    rw [leadR_co, leadR_co, ce]
    exact Int.mul_fdiv_cancel c db.1
  have at_ : r.length - 1 - (b.length - 1) = r.length - b.length := by omega
  rw [at_] at hq' hz
  unfold qR
  rw [ex]
  have rc : ∀ n, co (trimR (addL r ((shiftR (r.length - b.length) b).map (-c * ·)))) n = co r n - act (mon (r.length - b.length) c) (co b) n := fun n => by
    rw [trimR_co, co_addL, co_map, shiftR_co, act_mon]
    by_cases q2 : n < r.length - b.length
    · rw [if_pos q2, if_pos q2]; omega
    · rw [if_neg q2, if_neg q2, Int.neg_mul]; omega
  have rr : Row (trimR (addL r ((shiftR (r.length - b.length) b).map (-c * ·)))) := trimR_row (addL_ne hr.ne)
  have len := rr.len (e := r.length - 1) fun n hn => by rw [rc]; exact hz n hn
  have lb0 : leadR b ≠ 0 := by rw [leadR_co]; exact db.1
  refine ⟨by omega, rr, len.imp id fun z => by omega, ?_, ?_, lb0⟩
  · obtain ⟨q', hq'⟩ := hq'
    exact ⟨q', fun n => by rw [rc]; exact hq' n⟩
  · have : leadR r = c * leadR b := by rw [leadR_co, leadR_co]; exact ce
    rw [this, Int.natAbs_mul]
    exact Nat.le_mul_of_pos_right _ (by omega)
abbrev qCond : IT := tBl (iBin (opEq true) (iVar 3) (iN opTup (aCons (iC (.int 0)) aNil)))
abbrev qBody : IS := sSeq (sPar 4 5 (aCons (iBin opSub (iN opLen (aCons (iVar 3) aNil)) (iN opLen (aCons (iVar 1) aNil))) (aCons (iBin opFdivA (iBin opIx (iVar 3) (iUn opNeg (iC (.int 1)))) (iBin opIx (iVar 1) (iUn opNeg (iC (.int 1))))) aNil)))
  (sSeq (sSet 2 (iCall p_row_sum [] (aCons (iVar 2) (aCons (iBin opAdd (iBin opMulZ (iN opTup (aCons (iC (.int 0)) aNil)) (iVar 4)) (iN opTup (aCons (iVar 5) aNil))) (aCons (iC (.int 1)) aNil)))))
  (sSet 3 (iCall p_row_sum [] (aCons (iVar 3) (aCons (iBin opAdd (iBin opMulZ (iN opTup (aCons (iC (.int 0)) aNil)) (iVar 4)) (iVar 1)) (aCons (iBin opSub (iC (.int 0)) (iVar 5)) aNil))))))
theorem Bd.mon {B k : Nat} {c : Int} (h : c.natAbs < 2 ^ B) : Bd B (mon k c) := fun x hx => by
  rcases List.mem_append.mp hx with h1 | h1
  · rw [(List.mem_replicate.mp h1).2]; exact Nat.two_pow_pos B
  · rw [List.mem_singleton.mp h1]; exact h
theorem qBody_ok {a0 x4 x5 : Option D} {f r b : List Int} {st : Sto} {X H : Nat} (hf : f ≠ []) (hr : r ≠ []) (hb : b ≠ []) (q : b.length ≤ r.length) (hl : r.length ≤ 400) (hlf : f.length ≤ 400) (lb0 : leadR b ≠ 0) (hc : ((leadR r).fdiv (leadR b)).natAbs < 2 ^ X) (h2 : Bd H b) (hs : X + H + 1 ≤ 134217600) :
    ∃ y4 y5, qBody [a0, some (.tup (I_ b)), some (.tup (I_ f)), some (.tup (I_ r)), x4, x5] st = .nx [a0, some (.tup (I_ b)), some (.tup (I_ (qF f r b))), some (.tup (I_ (qR r b))), y4, y5] st := by
  have la := len_any (st := st) (d := .tup (I_ r)) (xs := I_ r) rfl
  have lb := len_any (st := st) (d := .tup (I_ b)) (xs := I_ b) rfl
  rw [List.length_map] at la lb
  have z := zeros_ok q (by omega) st
  have xb := ix_last (st := st) (d := .tup (I_ b)) (l := b) rfl hb
  have xr := ix_last (st := st) (d := .tup (I_ r)) (l := r) rfl hr
  have fd := fdivA_ok (i := leadR r) lb0 st
  obtain ⟨c, hcd⟩ : ∃ c, c = (leadR r).fdiv (leadR b) := ⟨_, rfl⟩
  rw [← hcd] at fd hc
  have sh := addt_ok (a := List.replicate (r.length - b.length) 0) (b := b) (by simp; omega) st
  have sm := addt_ok (a := List.replicate (r.length - b.length) 0) (b := [c]) (by simp; omega) st
  have s1 := sum_ok (a := f) (b := mon (r.length - b.length) c) (t := 1) (T := 1) (B := X) hf (by omega) (by simp [mon]; omega) (by decide) (Bd.mon hc) (by omega) st
  have s2 := sum_ok (a := r) (b := shiftR (r.length - b.length) b) (t := 0 - c) (T := X) (B := H) hr (by omega) (by simp [shiftR]; omega) (by rw [Int.zero_sub, Int.natAbs_neg]; exact hc) h2.shift (by omega) st
  have e1 : (mon (r.length - b.length) c).map ((1 : Int) * ·) = mon (r.length - b.length) c := by
    rw [show ((1 : Int) * ·) = (id : Int → Int) from funext fun x => Int.one_mul x, List.map_id]
  rw [e1, hcd] at s1
  rw [Int.zero_sub, hcd] at s2
  rw [← hcd] at s1 s2
  have e2 : trimR (addL f (mon (r.length - b.length) c)) = qF f r b := by rw [hcd]
  have e3 : trimR (addL r ((shiftR (r.length - b.length) b).map (-c * ·))) = qR r b := by rw [hcd]
  rw [e2] at s1
  rw [e3] at s2
  have sh' : opAdd (.tup (I_ (List.replicate (r.length - b.length) 0))) (.tup (I_ b)) st = some (.tup (I_ (shiftR (r.length - b.length) b)), st) := sh
  have sm' : opAdd (.tup (I_ (List.replicate (r.length - b.length) 0))) (.tup [.int c]) st = some (.tup (I_ (mon (r.length - b.length) c)), st) := sm
  generalize hz : I_ (List.replicate (r.length - b.length) (0 : Int)) = Z at z sh' sm'
  generalize hS : I_ (shiftR (r.length - b.length) b) = S at s2 sh'
  generalize hM : I_ (mon (r.length - b.length) c) = Mn at s1 sm'
  generalize hF : I_ (qF f r b) = F' at s1
  generalize hR : I_ (qR r b) = R' at s2
  refine ⟨some (.int ((r.length : Int) - (b.length : Int))), some (.int c), ?_⟩
  simp [qBody, la, lb, opSub, opNeg, xb, xr, fd, z, sh', sm', s1, s2]
theorem trimR_len {l : List Int} (h : l ≠ []) : (trimR l).length ≤ l.length := by
  obtain ⟨e, _, _, h3, _⟩ := trimR_take h
  rw [h3, List.length_take]
  exact Nat.min_le_right _ _
theorem qR_bd {r b : List Int} {X H : Nat} (hr : r ≠ []) (hc : ((leadR r).fdiv (leadR b)).natAbs < 2 ^ X) (h1 : Bd X r) (h2 : Bd H b) : Bd (X + H + 1) (qR r b) := fun x hx => by
  refine Bd.addL (h1.mono (Nat.le_add_right X H)) ?_ x (trimR_mem (addL_ne hr) hx)
  have := (h2.shift (k := r.length - b.length)).mul (t := -(leadR r).fdiv (leadR b)) (Y := X) (by rw [Int.natAbs_neg]; exact hc)
  rw [Nat.add_comm X H]
  exact this
theorem qF_bd {f r b : List Int} {F X : Nat} (hf : f ≠ []) (hc : ((leadR r).fdiv (leadR b)).natAbs < 2 ^ X) (h1 : Bd F f) (hF : X ≤ F) : Bd (F + 1) (qF f r b) := fun x hx =>
  Bd.addL h1 (Bd.mon (Nat.lt_of_lt_of_le hc (Nat.pow_le_pow_right (by decide) hF))) x (trimR_mem (addL_ne hf) hx)
theorem quot_len {r b : List Int} (hb : Row b) (b0 : b ≠ [0]) (hr : Row r) (hq : ∃ q : List Int, ∀ n, co r n = act q (co b) n) : r = [0] ∨ b.length ≤ r.length := by
  by_cases z : r = [0]
  · exact .inl z
  · exact .inr (quot_row hb b0 hr z hq).1
theorem quo_run {a0 : Option D} {b : List Int} (hb : Row b) (b0 : b ≠ [0]) {H : Nat} (hH : Bd H b) (st : Sto) : ∀ (k fl : Nat) (f r : List Int) (X Z j : Nat) (x4 x5 : Option D), Row f → Row r → (∃ q : List Int, ∀ n, co r n = act q (co b) n) → (r = [0] ∨ r.length + 1 - b.length ≤ k) → (r = [0] ∧ 1 ≤ fl ∨ r.length + 2 - b.length ≤ fl ∧ 1 ≤ fl) → r.length ≤ 400 → f.length ≤ 400 → Bd X r → Bd (Z + j) f → (r = [0] ∨ X + (r.length - b.length) * (H + 1) ≤ Z) → Z + H + 1 ≤ 134217600 →
    ∃ y4 y5, sWhileN qCond qBody fl [a0, some (.tup (I_ b)), some (.tup (I_ f)), some (.tup (I_ r)), x4, x5] st = .nx [a0, some (.tup (I_ b)), some (.tup (I_ (quotR k f r b))), some (.tup (I_ [0])), y4, y5] st ∧ Bd (Z + j + (r.length + 1 - b.length)) (quotR k f r b)
  | k, 0, f, r, X, Z, j, x4, x5, _, _, _, _, hf, _, _, _, _, _, _ => by omega
  | k, fl + 1, f, r, X, Z, j, x4, x5, hf, hr, hq, hk, hfl, hl, hlf, hX, hF, hs, hZ => by
    have eq : opEq true (.tup (I_ r)) (.tup [.int 0]) st = some (.bl (!decide (r = [0])), st) := eq_tt true r [0] st
    have cc : qCond [a0, some (.tup (I_ b)), some (.tup (I_ f)), some (.tup (I_ r)), x4, x5] st = .ok (decide (r ≠ [0])) st := by simp [qCond, eq]
    rw [sWhileN_d, cc]
    by_cases z : r = [0]
    · have e : quotR k f r b = f := by
        cases k with
        | zero => rfl
        | succ k => rw [quotR, if_pos z]
      refine ⟨x4, x5, ?_, ?_⟩
      · rw [e, z]; simp
      · rw [e]; exact hF.mono (by omega)
    · obtain ⟨q1, q2, q3, q4, q5, q6⟩ := quot_row hb b0 hr z hq
      have bl := List.length_pos_iff.mpr hb.ne
      have hk' := hk.resolve_left z
      cases k with
      | zero => omega
      | succ k =>
        obtain ⟨m, hm⟩ : ∃ m, r.length + 1 - b.length = m + 1 := ⟨r.length - b.length, by omega⟩
        have hfl' : r.length + 2 - b.length ≤ fl + 1 := by
          rcases hfl with h | h
          · exact absurd h.1 z
          · exact h.1
        have hs := hs.resolve_left z
        have em : r.length - b.length = m := by omega
        rw [em] at hs
        have sz : ∀ n, n + 1 ≤ m → X + H + 1 + n * (H + 1) ≤ X + m * (H + 1) := fun n hn => by
          have := Nat.mul_le_mul_right (H + 1) hn
          rw [Nat.add_mul] at this
          omega
        have hc : ((leadR r).fdiv (leadR b)).natAbs < 2 ^ X := Nat.lt_of_le_of_lt q5 (hX _ (leadR_mem hr.ne))
        obtain ⟨y4, y5, e⟩ := qBody_ok (a0 := a0) (x4 := x4) (x5 := x5) (st := st) hf.ne hr.ne hb.ne q1 hl hlf q6 hc hH (by omega)
        have f1 : Row (qF f r b) := trimR_row (addL_ne hf.ne)
        have f2 : Bd (Z + (j + 1)) (qF f r b) := qF_bd (F := Z + j) hf.ne hc hF (by omega)
        have f3 : (qF f r b).length ≤ 400 := Nat.le_trans (trimR_len (addL_ne hf.ne)) (by rw [addL_len]; simp [mon]; omega)
        have nb : Bd (X + H + 1) (qR r b) := qR_bd hr.ne hc hX hH
        have un : quotR (k + 1) f r b = quotR k (qF f r b) (qR r b) b := by rw [quotR, if_neg z]
        rw [un]
        rcases q3 with h | h
        · -- nothing is left
          cases fl with
          | zero => omega
          | succ fl =>
            have e2 : quotR k (qF f r b) (qR r b) b = qF f r b := by
              cases k with
              | zero => rfl
              | succ k => rw [quotR, if_pos h]
            have eq0 : opEq true (.tup [.int 0]) (.tup [.int 0]) st = some (.bl false, st) := eq_tt true [0] [0] st
            refine ⟨y4, y5, ?_, ?_⟩
            · rw [liftS_ok, decide_eq_true z, if_pos rfl, e, e2, h]
              show sWhileN qCond qBody (fl + 1) [a0, some (.tup (I_ b)), some (.tup (I_ (qF f r b))), some (.tup (I_ [0])), y4, y5] st = _
              rw [sWhileN_d]
              simp [qCond, eq0]
            · rw [e2]; exact f2.mono (by omega)
        · have lq := (quot_len hb b0 q2 q4).resolve_left
          have s1 : qR r b = [0] ∨ X + H + 1 + ((qR r b).length - b.length) * (H + 1) ≤ Z := by
            by_cases w : qR r b = [0]
            · exact .inl w
            · have := lq w
              have := sz ((qR r b).length - b.length) (by omega)
              exact .inr (by omega)
          obtain ⟨z4, z5, g1, g2⟩ := quo_run hb b0 hH st k fl (qF f r b) (qR r b) (X + H + 1) Z (j + 1) y4 y5 f1 q2 q4 (.inr (by omega)) (.inr (by omega)) (by omega) f3 nb f2 s1 hZ
          refine ⟨z4, z5, ?_, g2.mono (by omega)⟩
          rw [liftS_ok, decide_eq_true z, if_pos rfl, e]
          exact g1
theorem quotient_run {a b : List Int} {X H Z : Nat} (ha : Row a) (hb : Row b) (b0 : b ≠ [0]) (hq : ∃ q : List Int, ∀ n, co a n = act q (co b) n) (la : a.length ≤ 400) (hX : Bd X a) (hH : Bd H b) (hs : X + (a.length - b.length) * (H + 1) ≤ Z) (hZ : Z + H + 1 ≤ 134217600) (st : Sto) :
    p_quotient [.tup (I_ a), .tup (I_ b)] st = .ok (.tup (I_ (quotR a.length [0] a b))) st ∧ Bd (Z + a.length) (quotR a.length [0] a b) := by
  have bl := List.length_pos_iff.mpr hb.ne
  obtain ⟨y4, y5, h1, h2⟩ := quo_run (a0 := some (.tup (I_ a))) hb b0 hH st a.length (a.length + 1) [0] a X Z 0 none none (.inl rfl) ha hq (.inr (by omega)) (.inr (by omega)) la (by simp) hX (Bd.zero _) (.inr hs) hZ
  refine ⟨?_, h2.mono (by omega)⟩
  have w : sWhile (mLen 3) qCond qBody [some (.tup (I_ a)), some (.tup (I_ b)), some (.tup (I_ [0])), some (.tup (I_ a)), none, none] st = .nx [some (.tup (I_ a)), some (.tup (I_ b)), some (.tup (I_ (quotR a.length [0] a b))), some (.tup (I_ [0])), y4, y5] st := by
    show sWhileN qCond qBody ((I_ a).length + 1) _ _ = _
    rw [List.length_map]
    exact h1
  have run : p_quotient [.tup (I_ a), .tup (I_ b)] st = endB (kSeq (sRet (iVar 2)) (sWhile (mLen 3) qCond qBody [some (.tup (I_ a)), some (.tup (I_ b)), some (.tup (I_ [0])), some (.tup (I_ a)), none, none] st)) := by
    have big := sizeLine_big
    have t0 : opTup [.int 0] st = some (.tup [.int 0], st) := by simp
    simp only [p_quotient, B_p_quotient, runB_d, List.length_cons, List.length_nil, if_true, List.map_cons, List.map_nil, List.replicate, List.cons_append, List.nil_append, sSeq_d, sPar_d, aCons_d, iN_d, iC_d, iVar_d, List.getElem?_cons_zero, List.getElem?_cons_succ, R_ok, aNil_d, t0, ofO_s, liftS_ok, List.set_cons_zero, List.set_cons_succ, kSeq_nx]
  rw [run, w]
  simp
end M
/-! RC7: lowest. -/
namespace M
open PySem PySem.W Builtin Builtin.Str
def hR (a b : List Int) : List Int := commonR (b.length + 1) (plainR a) (plainR b)
def qaR (a b : List Int) : List Int := quotR a.length [0] a (hR a b)
def qbR (a b : List Int) : List Int := quotR b.length [0] b (hR a b)
def gR (a b : List Int) : Int := if leadR (qbR a b) < 0 then -(cont (qaR a b ++ qbR a b) : Int) else (cont (qaR a b ++ qbR a b) : Int)
/-- what lowest tells -/
def lowR (a b : List Int) : List Int × List Int := if a = [0] then ([0], [1]) else ((qaR a b).map (· / gR a b), (qbR a b).map (· / gR a b))
/-- the sizes suffice: X, Y of the factors, H of what is common, Z of the quotients -/
structure Fit (a b : List Int) (X Y H g Z : Nat) : Prop where
  la : a.length ≤ 100
  lb : b.length ≤ 100
  xa : Bd X a
  yb : Bd Y b
  xh : X ≤ H
  sf : sf H 134217600 g a.length b.length X Y = true
  za : X + (a.length - 2) * (H + 1) ≤ Z
  zb : Y + (b.length - 2) * (H + 1) ≤ Z
  za1 : X + (a.length - 1) * 2 ≤ Z
  zb1 : Y + (b.length - 1) * 2 ≤ Z
  h1 : 1 ≤ H
  zl : Z + H + 1 ≤ 134217600
theorem g_ne {a b : List Int} (ha : Row a) (a0 : a ≠ [0]) (hb : Row b) (b0 : b ≠ [0]) : cont (qaR a b ++ qbR a b) ≠ 0 := by
  obtain ⟨_, b1, _, _, b5, _⟩ := plainR_ok hb b0
  obtain ⟨be, h1, h2, r1, r2⟩ := quots_ok ha a0 hb b0 (k := b.length + 1) (ka := a.length) (kb := b.length) (by omega) (by omega) (by omega)
  have qb0 : qbR a b ≠ [0] := fun z => by
    have d := (hb.deg b0).1
    rw [h2, show quotR b.length [0] b (commonR (b.length + 1) (plainR a) (plainR b)) = [0] from z, act_zero_co co_z] at d
    exact d rfl
  have c := cont_row (show Row (qbR a b) from r2) qb0
  rw [cont_append]
  intro z
  exact c (Nat.eq_zero_of_gcd_eq_zero_right z)
theorem env_five {e : Env} (h : e.length = 5) : e = [e[0]?.join, e[1]?.join, e[2]?.join, e[3]?.join, e[4]?.join] := by
  match e, h with
  | [a, b, c, d, f], _ => rfl
theorem abs_div {x g : Int} (h : g ∣ x) : (x / g).natAbs ≤ x.natAbs := by
  rw [Int.natAbs_ediv_of_dvd h]
  exact Nat.div_le_self _ _
/-- a row's quotient is not longer -/
theorem quo_len {a q h : List Int} (ha : Row a) (a0 : a ≠ [0]) (hq : Row q) (e : ∀ n, co a n = act q (co h) n) : q ≠ [0] ∧ q.length ≤ a.length := by
  have q0 : q ≠ [0] := fun z => by
    have d := (ha.deg a0).1
    rw [e, z, act_zero_co co_z] at d
    exact d rfl
  have := (deg_mul (q := h) (hq.deg q0) (ha.deg a0) (fun n => by rw [e, co_act])).1
  have l1 := List.length_pos_iff.mpr ha.ne
  exact ⟨q0, by omega⟩
theorem lowest_run {a b : List Int} {X Y H g Z : Nat} (ha : Row a) (hb : Row b) (b0 : b ≠ [0]) (F : Fit a b X Y H g Z) (st : Sto) :
    p_lowest [.tup (I_ a), .tup (I_ b)] st = .ok (.tup [.tup (I_ (lowR a b).1), .tup (I_ (lowR a b).2)]) st ∧ Bd (Z + 100) (lowR a b).1 ∧ Bd (Z + 100) (lowR a b).2 := by
  have eqa : opEq false (.tup (I_ a)) (.tup [.int 0]) st = some (.bl (decide (a = [0])), st) := eq_tt false a [0] st
  by_cases a0 : a = [0]
  · have e : lowR a b = ([0], [1]) := if_pos a0
    rw [e]
    refine ⟨?_, Bd.zero _, fun x hx => ?_⟩
    · simp [p_lowest, B_p_lowest, eqa, a0]
      have eq0 : opEq false (.tup [.int 0]) (.tup [.int 0]) st = some (.bl true, st) := eq_tt false [0] [0] st
      simp [eq0]
    · rw [List.mem_singleton.mp hx]
      exact Nat.one_lt_two_pow (by omega)
  · have fa := F.la
    have fb := F.lb
    obtain ⟨p1, p2, p3, _, p5, _⟩ := plainR_ok ha a0
    obtain ⟨b1, b2, b3, _, b5, _⟩ := plainR_ok hb b0
    obtain ⟨c1, c2, c3, _⟩ := commonR_ok (b.length + 1) (plainR a) (plainR b) p1 p2 p3 b1 (.inr b3) (.inr (by omega)) (by omega)
    obtain ⟨_, q1, q2, q3, q4⟩ := quots_ok ha a0 hb b0 (k := b.length + 1) (ka := a.length) (kb := b.length) (by omega) (by omega) (by omega)
    obtain ⟨r1, r2⟩ := common_run ha a0 hb b0 (by omega) (by omega) F.xa F.yb F.xh F.sf st
    have hl := List.length_pos_iff.mpr c1.ne
    have key : ∃ H', Bd H' (hR a b) ∧ X + (a.length - (hR a b).length) * (H' + 1) ≤ Z ∧ Y + (b.length - (hR a b).length) * (H' + 1) ≤ Z ∧ Z + H' + 1 ≤ 134217600 := by
      by_cases z : (hR a b).length = 1
      · refine ⟨1, one_bd z (.inr c3), ?_, ?_, ?_⟩
        · rw [z]; exact F.za1
        · rw [z]; exact F.zb1
        · have := F.zl; have := F.h1; omega
      · have hl' : 0 < (hR a b).length := hl
        refine ⟨H, r2, ?_, ?_, F.zl⟩
        · have := Nat.mul_le_mul_right (H + 1) (show a.length - (hR a b).length ≤ a.length - 2 by omega)
          have := F.za
          omega
        · have := Nat.mul_le_mul_right (H + 1) (show b.length - (hR a b).length ≤ b.length - 2 by omega)
          have := F.zb
          omega
    obtain ⟨H', r2', ma, mb, zl'⟩ := key
    obtain ⟨u1, u2⟩ := quotient_run ha c1 c2 ⟨_, q1⟩ (by omega) F.xa r2' ma zl' st
    obtain ⟨v1, v2⟩ := quotient_run hb c1 c2 ⟨_, q2⟩ (by omega) F.yb r2' mb zl' st
    have gne := g_ne ha a0 hb b0
    have lqb : qbR a b ≠ [] := q4.ne
    have e : lowR a b = ((qaR a b).map (· / gR a b), (qbR a b).map (· / gR a b)) := if_neg a0
    rw [e]
    have u1' : p_quotient [.tup (I_ a), .tup (I_ (hR a b))] st = .ok (.tup (I_ (qaR a b))) st := u1
    have v1' : p_quotient [.tup (I_ b), .tup (I_ (hR a b))] st = .ok (.tup (I_ (qbR a b))) st := v1
    have r1' : p_common_row [.tup (I_ a), .tup (I_ b)] st = .ok (.tup (I_ (hR a b))) st := r1
    have u2' : Bd (Z + 100) (qaR a b) := Bd.mono u2 (by omega)
    have v2' : Bd (Z + 100) (qbR a b) := Bd.mono v2 (by omega)
    have la : (qaR a b).length ≤ 100 := Nat.le_trans (quo_len ha a0 q3 q1).2 fa
    have lb : (qbR a b).length ≤ 100 := Nat.le_trans (quo_len hb b0 q4 q2).2 fb
    have dv : ∀ x ∈ qaR a b ++ qbR a b, gR a b ∣ x := fun x hx => by
      have := cont_dvd (l := qaR a b ++ qbR a b) x hx
      unfold gR
      split
      · exact Int.neg_dvd.mpr this
      · exact this
    have gi : gR a b ≠ 0 := by
      unfold gR
      split <;> omega
    refine ⟨?_, fun x hx => ?_, fun x hx => ?_⟩
    · generalize hqa : qaR a b = qa at *
      generalize hqb : qbR a b = qb at *
      generalize hh : hR a b = h at *
      have ad := addt_ok (a := qa) (b := qb) (by omega) st
      obtain ⟨en, h1, h2, h3, h4⟩ := fold_gcd (f := p_divisor_of) divisor_int (v := 3) (u := 4) (by decide) (l := qa ++ qb) (env := [some (.tup (I_ qa)), some (.tup (I_ qb)), some (.tup (I_ h)), some (.int 0), none]) (st := st) (by simp) (by simp) rfl
      have z0 := h4 0 (by decide) (by decide)
      have z1 := h4 1 (by decide) (by decide)
      have z2 := h4 2 (by decide) (by decide)
      have ee := env_five h2
      obtain ⟨x, hx⟩ : ∃ x, x = en[4]?.join := ⟨_, rfl⟩
      rw [z0, z1, z2, h3, ← hx] at ee
      have ee : en = [some (.tup (I_ qa)), some (.tup (I_ qb)), some (.tup (I_ h)), some (.int (cont (qa ++ qb) : Int)), x] := ee
      subst ee
      have xl := ix_last (st := st) (d := .tup (I_ qb)) (l := qb) rfl lqb
      have cp : ∀ (l : List Int) (c : Int), c ≠ 0 → (∀ y ∈ l, c ∣ y) → l.length ≤ 1000 → compF (nxL (I_ l)) (.one 4) tYes' (iBin opFdivA (iVar 4) (iVar 3)) [some (.tup (I_ qa)), some (.tup (I_ qb)), some (.tup (I_ h)), some (.int c), none] (I_ l).length 0 [] st = .ok (I_ (l.map (· / c))) st := fun l c c0 hd hl => comp_ints (fun y => y / c) (by omega) (fun y hy => by
        have := fdivA_ok (i := y) c0 st
        rw [Int.fdiv_eq_ediv_of_dvd (hd y hy)] at this
        simp [this])
      have ca := cp qa (gR a b) gi (fun y hy => dv y (List.mem_append_left _ hy)) (by omega)
      have cb := cp qb (gR a b) gi (fun y hy => dv y (List.mem_append_right _ hy)) (by omega)
      have lt : opLt (.int (leadR qb)) (.int 0) st = some (.bl (decide (leadR qb < 0)), st) := rfl
      have gv : gR a b = if leadR qb < 0 then -(cont (qa ++ qb) : Int) else (cont (qa ++ qb) : Int) := by unfold gR; rw [hqa, hqb]
      rw [show I_ (qa ++ qb) = List.map D.int qa ++ List.map D.int qb from List.map_append, List.length_append, List.length_map, List.length_map] at h1
      rw [List.length_map] at ca cb
      clear h2 h3 h4 z0 z1 z2
      have tl : ∀ c, c = gR a b → endB (kSeq (sRet (iN opTup (aCons (iN opTuple (aCons (iCompF (wAny (iVar 0)) (.one 4) tYes' (iBin opFdivA (iVar 4) (iVar 3))) aNil)) (aCons (iN opTuple (aCons (iCompF (wAny (iVar 1)) (.one 4) tYes' (iBin opFdivA (iVar 4) (iVar 3))) aNil)) aNil)))) (.nx [some (.tup (I_ qa)), some (.tup (I_ qb)), some (.tup (I_ h)), some (.int c), x] st)) = .ok (.tup [.tup (I_ (qa.map (· / gR a b))), .tup (I_ (qb.map (· / gR a b)))]) st := fun c ec => by
        subst ec
        generalize hva : I_ (qa.map (· / gR a b)) = VA at ca
        generalize hvb : I_ (qb.map (· / gR a b)) = VB at cb
        simp [iCompF_d, Pat.slots, wipeE, ca, cb, opTuple, alst]
      simp [p_lowest, B_p_lowest, eqa, a0, r1', u1', v1', ad]
      rw [h1]
      by_cases q : leadR qb < 0
      · rw [if_pos q] at gv
        have := tl (-(cont (qa ++ qb) : Int)) gv.symm
        simp [opNeg, xl, lt, q, opSub]
        simp at this
        exact this
      · rw [if_neg q] at gv
        have := tl (cont (qa ++ qb) : Int) gv.symm
        simp [opNeg, xl, lt, q]
        simp at this
        exact this
    · obtain ⟨y, hy, rfl⟩ := List.mem_map.mp hx
      exact Nat.lt_of_le_of_lt (abs_div (dv y (List.mem_append_left _ hy))) (u2' y hy)
    · obtain ⟨y, hy, rfl⟩ := List.mem_map.mp hx
      exact Nat.lt_of_le_of_lt (abs_div (dv y (List.mem_append_right _ hy))) (v2' y hy)
end M
/-! RC8: rows known as rows; ratios made. -/
namespace M
open PySem PySem.W Builtin Builtin.Str
theorem whole_ok (i : Int) (s : Sto) : p_is_whole [.int i] s = .ok (.bl true) s := by kernel_rfl
theorem isi_tup (xs : List D) (s : Sto) : opIsiI ["Ratio"] [] (isaT tl_tuple) [.tup xs, .ty "tuple"] s = some (.bl true, s) := by kernel_rfl
theorem asB_all : ∀ xs : List D, allP asB (xs.map fun _ => D.bl true) = some (xs.map fun _ => true)
  | [] => rfl
  | x :: xs => by
    rw [List.map_cons, allP, asB_all xs]
    rfl
theorem all_true (xs : List D) (s : Sto) : opAll [.lst (xs.map fun _ => D.bl true)] s = some (.bl true, s) := by
  have e := asB_all xs
  simp only [opAll, alst, e, Option.map_some]
  congr 3
  simp
theorem isrow_ok {l : List Int} (h : l ≠ []) (hl : l.length ≤ 1000) (s : Sto) : p_is_row [.tup (I_ l)] s = .ok (.bl true) s := by
  have n : opEq true (.tup (I_ l)) (.tup []) s = some (.bl true, s) := by
    have := eq_tt true l [] s
    simpa [h] using this
  have cp := compF_map (p := .one 1) (e := iCall p_is_whole [] (aCons (iVar 1) aNil)) (env0 := [some (.tup (I_ l)), none]) (st := s) (fun _ => D.bl true) (nxL_at (I_ l)) (fun d hd => by
    obtain ⟨a, ha, rfl⟩ := List.mem_map.mp hd
    exact ⟨_, rfl, by simp [whole_ok]⟩) (I_ l).length 0 [] (by simp) (by have := sizeLine_big; simp; omega)
  have al := all_true (I_ l) s
  rw [List.drop_zero, List.nil_append, List.length_map] at cp
  generalize (List.map (fun _ => D.bl true) (I_ l)) = W at cp al
  simp [p_is_row, B_p_is_row, isi_tup, n, Pat.slots, wipeE]
  rw [cp]
  simp [al]
/-! ### ratios made -/
abbrev z0 : D := .tup [.int 0]
abbrev fsR (a b : D) : List (Str × D) := [("top", a), ("bottom", b)]
/-- what makes a ratio -/
structure Mkr (top bot t' b' A B : D) : Prop where
  rt : ∀ s, p_is_row [top] s = .ok (.bl true) s
  rb : ∀ s, p_is_row [bot] s = .ok (.bl true) s
  tt : ∀ s, p_trimmed [top] s = .ok t' s
  tb : ∀ s, p_trimmed [bot] s = .ok b' s
  nz : ∀ s, opEq false b' z0 s = some (.bl false, s)
  lo : ∀ s, p_lowest [t', b'] s = .ok (.tup [A, B]) s
theorem init_ok {top bot t' b' A B : D} (h : Mkr top bot t' b' A B) (s : Sto) : p_Ratio___init__ [.ref s.length, top, bot] (s ++ [.ins "Ratio" []]) = .ok .non (s ++ [.ins "Ratio" (fsR A B)]) := by
  simp [p_Ratio___init__, B_p_Ratio___init__, h.rt, h.rb, h.tt, h.tb, h.nz, h.lo, gFld, gsCons, kFld, putD]
  decide
/-- a ratio's fields -/
abbrev insR (A B : List Int) : O := .ins "Ratio" (fsR (.tup (I_ A)) (.tup (I_ B)))
theorem mkr_of {t b : List Int} {X Y H g Z : Nat} (ht : t ≠ []) (hb : b ≠ []) (lt : t.length ≤ 1000) (lb : b.length ≤ 1000) (b0 : trimR b ≠ [0]) (F : Fit (trimR t) (trimR b) X Y H g Z) :
    Mkr (.tup (I_ t)) (.tup (I_ b)) (.tup (I_ (trimR t))) (.tup (I_ (trimR b))) (.tup (I_ (lowR (trimR t) (trimR b)).1)) (.tup (I_ (lowR (trimR t) (trimR b)).2)) where
  rt := fun s => isrow_ok ht lt s
  rb := fun s => isrow_ok hb lb s
  tt := fun s => trimmed_t ht (by omega) s
  tb := fun s => trimmed_t hb (by omega) s
  nz := fun s => by
    have := eq_tt false (trimR b) [0] s
    simpa [b0] using this
  lo := fun s => (lowest_run (trimR_row ht) (trimR_row hb) b0 F s).1
theorem new_ok {top bot t' b' A B : D} (h : Mkr top bot t' b' A B) (s : Sto) : opNew "Ratio" (fun l s => p_Ratio___init__ (gPick [0, 1, 2] l) s) [top, bot] s = .ok (.ref s.length) (s ++ [.ins "Ratio" (fsR A B)]) := by
  have := init_ok h s
  simp only [opNew]
  rw [show gPick [0, 1, 2] [D.ref s.length, top, bot] = [.ref s.length, top, bot] from rfl, this]
  rfl
theorem newP_ok {top bot t' b' A B : D} (h : Mkr top bot t' b' A B) (s : Sto) : opNewP "Ratio" p_Ratio___init__ 2 0 [0, 1, 2] [top, bot] [] s = .ok (.ref s.length) (s ++ [.ins "Ratio" (fsR A B)]) := by
  have := new_ok h s
  simpa [opNewP] using this
theorem newPK_ok {top bot t' b' A B : D} (h : Mkr top bot t' b' A B) (s : Sto) : opNewP "Ratio" p_Ratio___init__ 0 2 [0, 2, 1] [] [bot, top] s = .ok (.ref s.length) (s ++ [.ins "Ratio" (fsR A B)]) := by
  have := init_ok h s
  simp only [opNewP, List.length_nil, List.length_cons, true_and, if_true, List.nil_append, opNew]
  rw [show gPick [0, 2, 1] [D.ref s.length, bot, top] = [.ref s.length, top, bot] from rfl, this]
  rfl
/-! ### the fields, the same ratio -/
theorem ins_top (A B : D) : List.lookup ("top" : Str) (fsR A B) = some A := by kernel_rfl
theorem ins_bot (A B : D) : List.lookup ("bottom" : Str) (fsR A B) = some B := by kernel_rfl
theorem get_top {s : Sto} {n : Nat} {A B : D} (h : s[n]? = some (.ins "Ratio" (fsR A B))) : opGet ["Ratio"] "top" (.ref n) s = some (A, s) := by
  have e : insD s (.ref n) = some (("Ratio" : Str), fsR A B) := by simp only [insD, h]
  simp only [opGet, e, ins_top]
  simp
theorem get_bot {s : Sto} {n : Nat} {A B : D} (h : s[n]? = some (.ins "Ratio" (fsR A B))) : opGet ["Ratio"] "bottom" (.ref n) s = some (B, s) := by
  have e : insD s (.ref n) = some (("Ratio" : Str), fsR A B) := by simp only [insD, h]
  simp only [opGet, e, ins_bot]
  simp
theorem isi_ratio {s : Sto} {n : Nat} {fs : List (Str × D)} (h : s[n]? = some (.ins "Ratio" fs)) : opIsiI ["Ratio"] [] (isaT tl_Ratio) [.ref n, .glo "Ratio"] s = some (.bl true, s) := by
  have e : insD s (.ref n) = some (("Ratio" : Str), fs) := by simp only [insD, h]
  simp only [opIsiI, e]
  kernel_rfl
/-- == of two ratios -/
theorem same_ok {s : Sto} {n m : Nat} {A B A' B' : List Int} (h : s[n]? = some (insR A B)) (h' : s[m]? = some (insR A' B')) : p_Ratio___eq__ [.ref n, .ref m] s = .ok (.bl (decide (A = A' ∧ B = B'))) s := by
  have i := isi_ratio h'
  have t1 := get_top h
  have t2 := get_top h'
  have b1 := get_bot h
  have b2 := get_bot h'
  have e1 := eq_tt false A A' s
  have e2 := eq_tt false B B' s
  simp only [Bool.false_eq_true, if_false] at e1 e2
  by_cases q : A = A'
  · subst q
    simp only [decide_true] at e1
    simp [p_Ratio___eq__, B_p_Ratio___eq__, i, t1, t2, b1, b2, e1, e2]
  · simp [p_Ratio___eq__, B_p_Ratio___eq__, i, t1, t2, b1, b2, e1, e2, q]
theorem bool_ok {s : Sto} {n : Nat} {A B : List Int} (h : s[n]? = some (insR A B)) : p_Ratio___bool__ [.ref n] s = .ok (.bl (decide (A ≠ [0]))) s := by
  have t1 := get_top h
  have e1 : opEq false (.tup (I_ A)) (.tup [.int 0]) s = some (.bl (decide (A = [0])), s) := eq_tt false A [0] s
  simp [p_Ratio___bool__, B_p_Ratio___bool__, t1, e1, kNot]
end M
/-! RC9: lists in the store; comprehensions that make one; one turn of the law's division. -/
namespace M
open PySem PySem.W Builtin Builtin.Str
theorem alst_keep {st st' : Sto} {L : List Nat} {d : D} {xs : List D} (k : Kp st st' L) (h : alst st d = some xs) (hd : ∀ q ∈ L, d ≠ .ref q) : alst st' d = some xs := by
  cases d with
  | lst ys => exact h
  | ref n => exact k.lst n xs (fun m => hd n m rfl) h
  | _ => simp [alst] at h
theorem aseq_of {st : Sto} {d : D} {xs : List D} (h : alst st d = some xs) : aseq st d = some xs := by
  cases d with
  | lst ys => exact h
  | ref n => exact h
  | _ => simp [alst] at h
theorem compL_ints {nx : Nx} {e : IE} {env0 : Env} {v : Nat} {r : List Int} {n : Nat} {st : Sto} (f : Int → Int) (hnx : ∀ i s, Kp st s [n] → nx i s = some (I_ r)[i]?) (hl : r.length ≤ 100000) (h : ∀ a ∈ r, ∀ s, Kp st s [n] → e (env0.set v (some (.int a))) s = .ok (.int (f a)) s) :
    ∀ (m i : Nat) (s : Sto), r.length ≤ i + m → i ≤ r.length → Kp st s [n] → lstAt s n = some (I_ ((r.take i).map f)) → ∃ s', compL nx (.one v) tYes' e env0 n m i s = .ok () s' ∧ Kp st s' [n] ∧ lstAt s' n = some (I_ (r.map f)) ∧ s'.length = s.length
  | 0, i, s, h1, h2, hk, hs => by
    refine ⟨s, ?_, hk, ?_, rfl⟩
    · unfold compL
      rw [hnx i s hk, List.getElem?_eq_none (by simp; omega)]
    · rw [hs, List.take_of_length_le (by omega)]
  | m + 1, i, s, h1, h2, hk, hs => by
    unfold compL
    by_cases hi : i < r.length
    · have e0 : nx i s = some (some (.int r[i])) := by
        rw [hnx i s hk, List.getElem?_map, List.getElem?_eq_getElem hi]
        rfl
      rw [e0]
      have he := h r[i] (List.getElem_mem hi) s hk
      have tk : (r.take (i + 1)).map f = (r.take i).map f ++ [f r[i]] := by
        rw [List.take_succ_eq_append_getElem hi, List.map_append]
        rfl
      have nl : lstAt (s.set n (.lst (I_ ((r.take i).map f) ++ [.int (f r[i])]))) n = some (I_ ((r.take (i + 1)).map f)) := by
        rw [lst_set hs, tk, I_, I_, List.map_append]
        rfl
      obtain ⟨s', g1, g2, g3, g4⟩ := compL_ints f hnx hl h m (i + 1) (s.set n (.lst (I_ ((r.take i).map f) ++ [.int (f r[i])]))) (by omega) (by omega) (hk.trans Kp.set) nl
      refine ⟨s', ?_, g2, g3, by rw [g4, List.length_set]⟩
      show (((tYes' (env0.set v (some (.int r[i])))) s).nox).bind (fun k s1 => if k = true then ((e (env0.set v (some (.int r[i]))) s1).nox).bind fun v' s2 => compApp n v' s2 (compL nx (.one v) tYes' e env0 n m (i + 1)) else compL nx (.one v) tYes' e env0 n m (i + 1) s1) = _
      rw [tYes_d]
      show ((e (env0.set v (some (.int r[i]))) s).nox).bind (fun v' s2 => compApp n v' s2 (compL nx (.one v) tYes' e env0 n m (i + 1))) = _
      rw [he]
      show compApp n (.int (f r[i])) s (compL nx (.one v) tYes' e env0 n m (i + 1)) = _
      have big := sizeLine_big
      simp only [compApp, hs]
      rw [if_pos (by simp; omega)]
      exact g1
    · refine ⟨s, ?_, hk, ?_, rfl⟩
      · have e0 : nx i s = some none := by
          rw [hnx i s hk, List.getElem?_eq_none (by simp; omega)]
        rw [e0]
      · rw [hs, List.take_of_length_le (by omega)]
/-- a comprehension over whole numbers that makes a list in the store -/
theorem comp_new {nx : Nx} {w : IW} {e : IE} {env : Env} {v : Nat} {r : List Int} {st : Sto} (f : Int → Int) (hl : r.length ≤ 100000) (hw : w env st = .ok (nx, r.length) st) (hnx : ∀ i s, Kp st s [] → nx i s = some (I_ r)[i]?) (h : ∀ a ∈ r, ∀ s, Kp st s [] → e ((env.set v none).set v (some (.int a))) s = .ok (.int (f a)) s) :
    ∃ s', iComp w (.one v) tYes' e env st = .ok (.ref st.length) s' ∧ Kp st s' [] ∧ lstAt s' st.length = some (I_ (r.map f)) := by
  have k0 : Kp st (st ++ [.lst []]) [] := Kp.push
  obtain ⟨s', h1, h2, h3, h4⟩ := compL_ints (n := st.length) (st := st ++ [.lst []]) (env0 := env.set v none) (v := v) (e := e) f (fun i s hk => hnx i s ⟨Nat.le_trans k0.1 hk.1, fun i hi il => by rw [hk.2 i (by simp; omega) (Nat.lt_of_lt_of_le il k0.1), k0.2 i hi il]⟩) hl (fun a ha s hk => h a ha s ⟨Nat.le_trans k0.1 hk.1, fun i hi il => by rw [hk.2 i (by simp; omega) (Nat.lt_of_lt_of_le il k0.1), k0.2 i hi il]⟩) r.length 0 (st ++ [.lst []]) (by omega) (Nat.zero_le _) (Kp.refl _ _) (by rw [lstAt_new]; rfl)
  refine ⟨s', ?_, ⟨Nat.le_trans k0.1 h2.1, fun i hi il => by rw [h2.2 i (by simp; omega) (Nat.lt_of_lt_of_le il k0.1), k0.2 i hi il]⟩, h3⟩
  show (w env st).bind (fun a s => (compL a.1 (.one v) tYes' e (env.set v none) s.length a.2 0 (s ++ [.lst []])).bind fun _ s2 => R.ok (D.ref s.length) s2) = _
  rw [hw, R_ok]
  show (compL nx (.one v) tYes' e (env.set v none) st.length r.length 0 (st ++ [.lst []])).bind (fun _ s2 => R.ok (D.ref st.length) s2) = _
  rw [h1, R_ok]
/-! ### in place: r * lead - lead * b, so far -/
/-- the list behind i turns -/
def pL (r b : List Int) (i : Nat) : List Int := (List.range r.length).map fun j => leadR b * co r j - if r.length - b.length ≤ j ∧ j < r.length - b.length + i then leadR r * co b (j - (r.length - b.length)) else 0
theorem pL_len (r b : List Int) (i : Nat) : (pL r b i).length = r.length := by simp [pL]
theorem pL_get {r b : List Int} {i j : Nat} (h : j < r.length) : (pL r b i)[j]? = some (leadR b * co r j - if r.length - b.length ≤ j ∧ j < r.length - b.length + i then leadR r * co b (j - (r.length - b.length)) else 0) := by
  unfold pL
  rw [List.getElem?_map, List.getElem?_range h]
  rfl
theorem pL_co (r b : List Int) (i n : Nat) : co (pL r b i) n = if n < r.length then leadR b * co r n - (if r.length - b.length ≤ n ∧ n < r.length - b.length + i then leadR r * co b (n - (r.length - b.length)) else 0) else 0 := by
  rw [co_get, List.getD_eq_getElem?_getD]
  by_cases h : n < r.length
  · rw [pL_get h, if_pos h]
    rfl
  · rw [if_neg h, List.getElem?_eq_none (by rw [pL_len]; omega)]
    rfl
theorem pL_zero (r b : List Int) : pL r b 0 = r.map (leadR b * ·) := co_ext (fun n => by
  rw [pL_co, co_map]
  by_cases h : n < r.length
  · rw [if_pos h, if_neg (by omega)]; omega
  · rw [if_neg h, co_out (by omega), Int.mul_zero]) (by rw [pL_len, List.length_map])
theorem pL_last {r b : List Int} (h : b.length ≤ r.length) : pL r b b.length = addL (r.map (leadR b * ·)) ((shiftR (r.length - b.length) b).map (-leadR r * ·)) := co_ext (fun n => by
  rw [pL_co, co_addL, co_map, co_map, shiftR_co]
  by_cases h1 : n < r.length
  · rw [if_pos h1]
    by_cases h2 : n < r.length - b.length
    · rw [if_pos h2, if_neg (by omega)]; omega
    · rw [if_neg h2, if_pos (by omega), Int.neg_mul]; omega
  · rw [if_neg h1, co_out (l := r) (by omega), Int.mul_zero]
    by_cases h2 : n < r.length - b.length
    · omega
    · rw [if_neg h2, co_out (l := b) (by omega)]; omega) (by rw [pL_len, addL_len]; simp [shiftR]; omega)
theorem pL_next {r b : List Int} {i : Nat} (h : b.length ≤ r.length) (hi : i < b.length) : (pL r b i).set (r.length - b.length + i) (leadR b * co r (r.length - b.length + i) - leadR r * co b i) = pL r b (i + 1) := by
  refine List.ext_getElem? fun j => ?_
  by_cases hj : j < r.length
  · by_cases e : r.length - b.length + i = j
    · subst e
      rw [List.getElem?_set_self (by rw [pL_len]; omega), pL_get hj, if_pos (by omega), show r.length - b.length + i - (r.length - b.length) = i by omega]
    · rw [List.getElem?_set_ne e, pL_get hj, pL_get hj]
      by_cases q : r.length - b.length ≤ j ∧ j < r.length - b.length + i
      · rw [if_pos q, if_pos (by omega)]
      · rw [if_neg q, if_neg (by omega)]
  · rw [List.getElem?_eq_none (by rw [List.length_set, pL_len]; omega), List.getElem?_eq_none (by rw [pL_len]; omega)]
end M
/-! RC10: one turn of the law's division. -/
namespace M
open PySem PySem.W Builtin Builtin.Str
/-- one turn: a step, divided by what its factors have in common -/
def lstepR (r b : List Int) : List Int := (divStep r b).map (· / (max 1 (cont (divStep r b)) : Nat))
theorem kAny_ref {n : Nat} {xs : List D} {st : Sto} (h : lstAt st n = some xs) : kAnyW (.ref n) st = .ok (nxM n, xs.length) st := by
  show (match lstAt st n with
    | some xs => R.ok (nxM n, xs.length) st
    | none => .bad) = _
  rw [h]
theorem opMax_one (c : Nat) (st : Sto) : opMax [.int 1, .int (c : Int)] st = some (.int ((max 1 c : Nat) : Int), st) := by
  have := opMax_nat 1 c st
  simpa using this
abbrev lSub : IS := sFor (wRng1 (aCons (iN opLen (aCons (iVar 1) aNil)) aNil)) (gVar 5) (sAsg (gIx (iVar 2) (iBin opAdd (iVar 5) (iVar 4))) (iBin opSub (iBin opIx (iVar 2) (iBin opAdd (iVar 5) (iVar 4))) (iBin opMulA (iVar 3) (iBin opIx (iVar 1) (iVar 5)))))
theorem getD_at {l : List Int} {i : Nat} (h : i < l.length) : l[i]? = some (co l i) := by
  rw [co_get, List.getD_eq_getElem?_getD, List.getElem?_eq_getElem h]
  rfl
/-- the inner loop -/
theorem lSub_ok {d1 d2 : D} {n : Nat} {r b : List Int} {st : Sto} {x5 x6 x7 : Option D} {X Y : Nat} (hb : alst st d2 = some (I_ b)) (hn : d2 ≠ .ref n) (hr : lstAt st n = some (I_ (pL r b 0))) (hlen : b.length ≤ r.length) (hl : r.length ≤ 400) (hlead : (leadR r).natAbs < 2 ^ X) (hY : Bd Y b) (hXY : X + Y ≤ 134217600) :
    ∃ st' y5, lSub [some d1, some d2, some (.ref n), some (.int (leadR r)), some (.int ((r.length : Int) - (b.length : Int))), x5, x6, x7] st = .nx [some d1, some d2, some (.ref n), some (.int (leadR r)), some (.int ((r.length : Int) - (b.length : Int))), y5, x6, x7] st' ∧ Kp st st' [n] ∧ lstAt st' n = some (I_ (pL r b b.length)) := by
  have ln : opLen [d2] st = some (.int b.length, st) := by rw [len_any (aseq_of hb), List.length_map]
  have w := rng1 (e := iN opLen (aCons (iVar 1) aNil)) (env := [some d1, some d2, some (.ref n), some (.int (leadR r)), some (.int ((r.length : Int) - (b.length : Int))), x5, x6, x7]) (st := st) (st' := st) (n := b.length) (by simp [ln]) (by omega)
  have run := forL_rng (g := gVar 5) (b := sAsg (gIx (iVar 2) (iBin opAdd (iVar 5) (iVar 4))) (iBin opSub (iBin opIx (iVar 2) (iBin opAdd (iVar 5) (iVar 4))) (iBin opMulA (iVar 3) (iBin opIx (iVar 1) (iVar 5))))) (n := b.length)
    (fun i env s => (∃ y5, env = [some d1, some d2, some (.ref n), some (.int (leadR r)), some (.int ((r.length : Int) - (b.length : Int))), y5, x6, x7]) ∧ Kp st s [n] ∧ lstAt s n = some (I_ (pL r b i)))
    (fun i hi env s ⟨⟨y5, he⟩, hk, hs⟩ => by
      subst he
      have hb' := alst_keep hk hb (fun q hq => by rw [List.mem_singleton.mp hq]; exact hn)
      have xb : opIx d2 (.int (i : Int)) s = some (.int (co b i), s) := ix_any (aseq_of hb') _ (by omega) (by rw [Int.toNat_natCast, List.getElem?_map, getD_at hi]; rfl)
      have at_ : ((i : Int) + ((r.length : Int) - (b.length : Int))).toNat = r.length - b.length + i := by omega
      have old : (pL r b i)[r.length - b.length + i]? = some (leadR b * co r (r.length - b.length + i)) := by
        rw [pL_get (by omega), if_neg (by omega), Int.sub_zero]
      have xr : opIx (.ref n) (.int ((i : Int) + ((r.length : Int) - (b.length : Int)))) s = some (.int (leadR b * co r (r.length - b.length + i)), s) := ix_any (st := s) (d := .ref n) (xs := I_ (pL r b i)) hs _ (by omega) (by rw [at_, List.getElem?_map, old]; rfl)
      have m := mulA_ok hlead (hY _ (List.mem_of_getElem? (getD_at hi))) hXY s
      have ks := kset hs ((i : Int) + ((r.length : Int) - (b.length : Int))) (by omega) (by rw [at_, List.length_map, pL_len]; omega) (.int (leadR b * co r (r.length - b.length + i) - leadR r * co b i)) [some d1, some d2, some (.ref n), some (.int (leadR r)), some (.int ((r.length : Int) - (b.length : Int))), some (.int (i : Int)), x6, x7]
      refine ⟨_, _, rfl, [some d1, some d2, some (.ref n), some (.int (leadR r)), some (.int ((r.length : Int) - (b.length : Int))), some (.int (i : Int)), x6, x7], s.set n (.lst ((I_ (pL r b i)).set (r.length - b.length + i) (.int (leadR b * co r (r.length - b.length + i) - leadR r * co b i)))), .inl ?_, ⟨some (.int (i : Int)), rfl⟩, hk.trans Kp.set, ?_⟩
      · rw [at_] at ks
        simp [opAdd, xr, xb, m, opSub, ks]
      · rw [lst_set hs, ← pL_next hlen hi, I_, I_, List.map_set]) (env := [some d1, some d2, some (.ref n), some (.int (leadR r)), some (.int ((r.length : Int) - (b.length : Int))), x5, x6, x7]) (st := st) ⟨⟨x5, rfl⟩, Kp.refl _ _, hr⟩
  obtain ⟨e2, s2, h1, ⟨y5, rfl⟩, h3, h4⟩ := run
  refine ⟨s2, y5, ?_, h3, h4⟩
  rw [lSub, sFor_d, w, liftS_ok]
  exact h1
end M
/-! RC11: the law's division: one turn, all turns. -/
namespace M
open PySem PySem.W Builtin Builtin.Str
theorem env_eight {e : Env} (h : e.length = 8) : e = [e[0]?.join, e[1]?.join, e[2]?.join, e[3]?.join, e[4]?.join, e[5]?.join, e[6]?.join, e[7]?.join] := by
  match e, h with
  | [a, b, c, d, f, g, i, j], _ => rfl
abbrev lBody : IS := sSeq (sPar 3 4 (aCons (iBin opIx (iVar 2) (iUn opNeg (iC (.int 1)))) (aCons (iBin opSub (iN opLen (aCons (iVar 2) aNil)) (iN opLen (aCons (iVar 1) aNil))) aNil)))
  (sSeq (sSet 2 (iComp (wAny (iVar 2)) (.one 7) tYes' (iBin opMulA (iVar 7) (iBin opIx (iVar 1) (iUn opNeg (iC (.int 1)))))))
  (sSeq lSub
  (sSeq (sSet 2 (iCall k02__law_row [] (aCons (iVar 2) aNil)))
  (sSeq (sSet 6 (iC (.int 0)))
  (sSeq (sFor (wAny (iVar 2)) (gVar 7) (sSet 6 (iCall k02__law_common [] (aCons (iVar 6) (aCons (iVar 7) aNil)))))
  (sSet 2 (iComp (wAny (iVar 2)) (.one 7) tYes' (iBin opFdivA (iVar 7) (iN opMax (aCons (iC (.int 1)) (aCons (iVar 6) aNil)))))))))))
theorem Kp.hide {a b c : Sto} (h1 : Kp a b []) (h2 : Kp b c [a.length]) : Kp a c [] := ⟨Nat.le_trans h1.1 h2.1, fun i hi il => by rw [h2.2 i (by simp; omega) (Nat.lt_of_lt_of_le il h1.1), h1.2 i hi il]⟩
theorem lTurn {d1 d2 : D} {n : Nat} {r b : List Int} {st : Sto} {x3 x4 x5 x6 x7 : Option D} {X Y : Nat} (hb : alst st d2 = some (I_ b)) (hr : lstAt st n = some (I_ r)) (hr0 : r ≠ []) (hb0 : b ≠ []) (hlen : b.length ≤ r.length) (hl : r.length ≤ 400) (hX : Bd X r) (hY : Bd Y b) (hXY : X + Y ≤ 134217600) :
    ∃ st' n' y3 y4 y5 y6 y7, lBody [some d1, some d2, some (.ref n), x3, x4, x5, x6, x7] st = .nx [some d1, some d2, some (.ref n'), y3, y4, y5, y6, y7] st' ∧ Kp st st' [] ∧ lstAt st' n' = some (I_ (lstepR r b)) := by
  have la := len_any (st := st) (d := .ref n) (xs := I_ r) hr
  have lb := len_any (st := st) (d := d2) (aseq_of hb)
  rw [List.length_map] at la lb
  have xr := ix_last (st := st) (d := .ref n) (l := r) hr hr0
  have hlead := hX _ (leadR_mem hr0)
  -- the new list
  obtain ⟨s1, c1, c2, c3⟩ := comp_new (w := wAny (iVar 2)) (e := iBin opMulA (iVar 7) (iBin opIx (iVar 1) (iUn opNeg (iC (.int 1))))) (env := [some d1, some d2, some (.ref n), some (.int (leadR r)), some (.int ((r.length : Int) - (b.length : Int))), x5, x6, x7]) (v := 7) (r := r) (st := st) (nx := nxM n) (fun x => leadR b * x) (by omega) (by
      have := kAny_ref hr
      rw [List.length_map] at this
      simp [this]) (fun i s k => by
      unfold nxM
      rw [k.lst n _ (by simp) hr]
      rfl) (fun a ha s k => by
      have xb := ix_last (st := s) (d := d2) (l := b) (aseq_of (alst_keep k hb (by simp))) hb0
      have m := mulA_ok (hX a ha) (hY _ (leadR_mem hb0)) hXY s
      rw [Int.mul_comm] at m
      simp [opNeg, xb, m])
  rw [← pL_zero] at c3
  have hn : d2 ≠ .ref st.length := fun e => by
    rw [e] at hb
    exact Nat.lt_irrefl _ (lst_lt (show lstAt st st.length = some (I_ b) from hb))
  obtain ⟨s2, y5, e1, e2, e3⟩ := lSub_ok (d1 := d1) (x5 := x5) (x6 := x6) (x7 := x7) (alst_keep c2 hb (by simp)) hn c3 hlen hl hlead hY hXY
  rw [pL_last hlen] at e3
  have ne := step_ne (b := b) hr0
  have ra := row_any (d := .ref st.length) e3 ne (by rw [addL_len]; simp [shiftR]; omega)
  have ra' : k02__law_row [.ref st.length] s2 = .ok (.lst (I_ (divStep r b))) s2 := ra
  have dl : (divStep r b).length ≤ r.length := Nat.le_trans (trimR_len ne) (by rw [addL_len]; simp [shiftR]; omega)
  obtain ⟨D1, hD1⟩ : ∃ D1, D1 = divStep r b := ⟨_, rfl⟩
  rw [← hD1] at ra' dl
  obtain ⟨en, h1, h2, h3, h4⟩ := fold_gcd (f := k02__law_common) common_int (v := 6) (u := 7) (by decide) (l := D1) (env := [some d1, some d2, some (.lst (I_ D1)), some (.int (leadR r)), some (.int ((r.length : Int) - (b.length : Int))), y5, some (.int 0), x7]) (st := s2) (by simp) (by simp) rfl
  have z0 := h4 0 (by decide) (by decide)
  have z1 := h4 1 (by decide) (by decide)
  have z2 := h4 2 (by decide) (by decide)
  have z3 := h4 3 (by decide) (by decide)
  have z4 := h4 4 (by decide) (by decide)
  have z5 := h4 5 (by decide) (by decide)
  have ee := env_eight h2
  obtain ⟨x, hx⟩ : ∃ x, x = en[7]?.join := ⟨_, rfl⟩
  rw [z0, z1, z2, z3, z4, z5, h3, ← hx] at ee
  have ee : en = [some d1, some d2, some (.lst (I_ D1)), some (.int (leadR r)), some (.int ((r.length : Int) - (b.length : Int))), y5, some (.int (cont D1 : Int)), x] := ee
  subst ee
  have mp : ((max 1 (cont D1) : Nat) : Int) ≠ 0 := by omega
  obtain ⟨s3, f1, f2, f3⟩ := comp_new (w := wAny (iVar 2)) (e := iBin opFdivA (iVar 7) (iN opMax (aCons (iC (.int 1)) (aCons (iVar 6) aNil)))) (env := [some d1, some d2, some (.lst (I_ D1)), some (.int (leadR r)), some (.int ((r.length : Int) - (b.length : Int))), y5, some (.int (cont D1 : Int)), x]) (v := 7) (r := D1) (st := s2) (nx := nxL (I_ D1)) (fun x => x / ((max 1 (cont D1) : Nat) : Int)) (by omega) (by simp) (fun i s k => rfl) (fun a ha s k => by
      have m := fdivA_ok (i := a) mp s
      rw [Int.fdiv_eq_ediv_of_nonneg a (by omega)] at m
      have mx := opMax_one (cont D1) s
      generalize ((max 1 (cont D1) : Nat) : Int) = M1 at m mx
      simp [mx, m])
  have f3' : lstAt s3 s2.length = some (I_ (lstepR r b)) := by
    rw [f3, hD1]
    rfl
  refine ⟨s3, s2.length, some (.int (leadR r)), some (.int ((r.length : Int) - (b.length : Int))), y5, some (.int (cont D1 : Int)), x, ?_, (c2.hide e2).trans f2, f3'⟩
  rw [List.length_map] at h1
  clear h2 h3 h4 z0 z1 z2 z3 z4 z5 f3 f3' hx
  generalize hL : I_ D1 = L1 at ra' h1 f1
  have ll : L1.length = D1.length := by rw [← hL, List.length_map]
  simp only [lBody, sSeq_d, sPar_d, aCons_d, iBin_d, iVar_d, List.getElem?_cons_zero, List.getElem?_cons_succ, R_ok, iUn_d, iC_d, opNeg, ofO_s, xr, iN_d, aNil_d, la, lb, opSub, liftS_ok, List.set_cons_zero, List.set_cons_succ, kSeq_nx, sSet_d, c1]
  rw [e1]
  simp only [kSeq_nx, sSeq_d, sSet_d, iCall_d, aCons_d, iVar_d, List.getElem?_cons_zero, List.getElem?_cons_succ, R_ok, aNil_d, List.append_nil, ra', liftS_ok, List.set_cons_zero, List.set_cons_succ, iC_d, sFor_d, wAny_d, kAny_lst, ll]
  rw [h1]
  simp only [kSeq_nx, sSet_d, f1, liftS_ok, List.set_cons_zero, List.set_cons_succ]
end M
/-! RC12: the law's division is one; what two rows have in common, by it. -/
namespace M
open PySem PySem.W Builtin Builtin.Str
def ldivR : Nat → List Int → List Int → List Int
  | 0, r, _ => r
  | k + 1, r, b => if b.length ≤ r.length ∧ r ≠ [0] then ldivR k (lstepR r b) b else r
theorem lstep_dvd (r b : List Int) : ((max 1 (cont (divStep r b)) : Nat) : Int) ≠ 0 ∧ ∀ x ∈ divStep r b, ((max 1 (cont (divStep r b)) : Nat) : Int) ∣ x := by
  refine ⟨by omega, fun x hx => ?_⟩
  by_cases z : cont (divStep r b) = 0
  · rw [z]
    exact ⟨x, by simp⟩
  · rw [show max 1 (cont (divStep r b)) = cont (divStep r b) by omega]
    exact cont_dvd x hx
theorem lstep_co (r b : List Int) (n : Nat) : ((max 1 (cont (divStep r b)) : Nat) : Int) * co (lstepR r b) n = co (divStep r b) n := co_div (lstep_dvd r b).2 n
theorem lstep_row {r b : List Int} (hb : Row b) (b0 : b ≠ [0]) (hr : Row r) (q : b.length ≤ r.length ∧ r ≠ [0]) : Row (lstepR r b) ∧ (lstepR r b = [0] ∨ (lstepR r b).length < r.length) := by
  obtain ⟨h1, h2⟩ := divStep_row hb b0 hr q
  obtain ⟨d0, d1⟩ := lstep_dvd r b
  refine ⟨row_div h1 d0 d1, ?_⟩
  rcases h2 with h | h
  · left
    have : ∀ c : Int, ([0] : List Int).map (· / c) = [0] := fun c => by simp
    unfold lstepR
    generalize ((max 1 (cont (divStep r b)) : Nat) : Int) = c
    rw [h]
    exact this c
  · right
    unfold lstepR
    rw [List.length_map]
    exact h
theorem lstep_bd {r b : List Int} {X Y : Nat} (hr : r ≠ []) (hb : b ≠ []) (h1 : Bd X r) (h2 : Bd Y b) : Bd (X + Y + 1) (lstepR r b) := fun x hx => by
  obtain ⟨y, hy, rfl⟩ := List.mem_map.mp hx
  exact Nat.lt_of_le_of_lt (abs_div ((lstep_dvd r b).2 y hy)) (divStep_bd hr hb h1 h2 y hy)
theorem ldivR_ok {b : List Int} (hb : Row b) (b0 : b ≠ [0]) : ∀ (k : Nat) (r : List Int), Row r → (r = [0] ∨ r.length < k + b.length) → Row (ldivR k r b) ∧ (ldivR k r b = [0] ∨ (ldivR k r b).length < b.length) ∧ ∃ (c m : Int) (q : List Int), c ≠ 0 ∧ m ≠ 0 ∧ ∀ n, c * co r n = act q (co b) n + m * co (ldivR k r b) n
  | 0, r, hr, hl => ⟨hr, hl.imp id (fun h => by show r.length < b.length; omega), 1, 1, [], by decide, by decide, fun n => by show 1 * co r n = 0 + 1 * co r n; omega⟩
  | k + 1, r, hr, hl => by
    unfold ldivR
    by_cases q : b.length ≤ r.length ∧ r ≠ [0]
    · rw [if_pos q]
      obtain ⟨h1, h2⟩ := lstep_row hb b0 hr q
      obtain ⟨g1, g2, c, m, q', c0, m0, g3⟩ := ldivR_ok hb b0 k (lstepR r b) h1 (h2.imp id fun z => by have := hl.resolve_left q.2; omega)
      have db := hb.deg b0
      have e := fun n => divStep_co (r := r) q.1 hb.ne n
      obtain ⟨d0, _⟩ := lstep_dvd r b
      obtain ⟨D, hD⟩ : ∃ D : Int, D = ((max 1 (cont (divStep r b)) : Nat) : Int) := ⟨_, rfl⟩
      have lc := lstep_co r b
      rw [← hD] at d0 lc
      refine ⟨g1, g2, c * co b (b.length - 1), D * m, addL (q'.map (D * ·)) ((mon ((r.length - 1) - (b.length - 1)) (co r (r.length - 1))).map (c * ·)), Int.mul_ne_zero c0 db.1, Int.mul_ne_zero d0 m0, fun n => ?_⟩
      rw [act_addL, act_map, act_map]
      have k1 := g3 n
      have k2 := lc n
      have k3 := e n
      have k4 : c * co (divStep r b) n = D * act q' (co b) n + D * (m * co (ldivR k (lstepR r b) b) n) := by
        rw [← k2, ← Int.mul_add, ← k1, ← Int.mul_assoc, ← Int.mul_assoc, Int.mul_comm c D]
      rw [k3, Int.mul_sub, ← Int.mul_assoc] at k4
      rw [Int.mul_assoc D m]
      omega
    · rw [if_neg q]
      refine ⟨hr, ?_, 1, 1, [], by decide, by decide, fun n => by show 1 * co r n = 0 + 1 * co r n; omega⟩
      by_cases z : r = [0]
      · exact .inl z
      · exact .inr (by have : ¬ b.length ≤ r.length := fun w => q ⟨w, z⟩; omega)
theorem ldivR_zero : ∀ (k : Nat) (b : List Int), ldivR k [0] b = [0]
  | 0, _ => rfl
  | k + 1, b => by rw [ldivR, if_neg (fun h => h.2 rfl)]
/-! ### the loop -/
abbrev lCond : IT := tAnd' (tBl (iBin opGe (iN opLen (aCons (iVar 2) aNil)) (iN opLen (aCons (iVar 1) aNil)))) (tBl (iBin (opEq true) (iVar 2) (iN opLstF (aCons (iC (.int 0)) aNil))))
theorem lCond_ok {d1 d2 : D} {n : Nat} {x3 x4 x5 x6 x7 : Option D} {r b : List Int} {st : Sto} (hb : alst st d2 = some (I_ b)) (hr : lstAt st n = some (I_ r)) : lCond [some d1, some d2, some (.ref n), x3, x4, x5, x6, x7] st = .ok (decide (b.length ≤ r.length ∧ r ≠ [0])) st := by
  have la := len_any (st := st) (d := .ref n) (xs := I_ r) hr
  have lb := len_any (st := st) (d := d2) (aseq_of hb)
  have eq : opEq true (.ref n) (.lst [.int 0]) st = some (.bl (!decide (r = [0])), st) := eq_ll true (d := .ref n) (e := .lst [.int 0]) (l := r) (m := [0]) hr rfl
  rw [List.length_map] at la lb
  by_cases q : b.length ≤ r.length
  · have q' : (b.length : Int) ≤ (r.length : Int) := by omega
    simp [lCond, la, lb, cmpGe, q', q, eq]
  · have q' : ¬ (b.length : Int) ≤ (r.length : Int) := by omega
    simp [lCond, la, lb, cmpGe, q', q]
theorem lrun {d1 d2 : D} {b : List Int} (hb : Row b) (b0 : b ≠ [0]) {Y : Nat} (hY : Bd Y b) : ∀ (k f : Nat) (r : List Int) (X n : Nat) (st : Sto) (x3 x4 x5 x6 x7 : Option D), alst st d2 = some (I_ b) → lstAt st n = some (I_ r) → Row r → (r = [0] ∨ r.length + 1 - b.length ≤ k) → (r = [0] ∧ 1 ≤ f ∨ r.length + 2 - b.length ≤ f ∧ 1 ≤ f) → r.length ≤ 400 → Bd X r → X + Y + (r.length + 1 - b.length) * (Y + 1) ≤ 134217600 →
    ∃ st' n' y3 y4 y5 y6 y7, sWhileN lCond lBody f [some d1, some d2, some (.ref n), x3, x4, x5, x6, x7] st = .nx [some d1, some d2, some (.ref n'), y3, y4, y5, y6, y7] st' ∧ Kp st st' [] ∧ lstAt st' n' = some (I_ (ldivR k r b)) ∧ Bd (X + (r.length + 1 - b.length) * (Y + 1)) (ldivR k r b)
  | k, 0, r, X, n, st, x3, x4, x5, x6, x7, hd, hn, hr, hk, hf, hl, hX, hs => by omega
  | k, f + 1, r, X, n, st, x3, x4, x5, x6, x7, hd, hn, hr, hk, hf, hl, hX, hs => by
    rw [sWhileN_d, lCond_ok hd hn]
    by_cases q : b.length ≤ r.length ∧ r ≠ [0]
    · cases k with
      | zero => have := hk.resolve_left q.2; omega
      | succ k =>
        obtain ⟨hrow, hlen⟩ := lstep_row hb b0 hr q
        have bl := List.length_pos_iff.mpr hb.ne
        have hk' := hk.resolve_left q.2
        obtain ⟨s1, n1, y3, y4, y5, y6, y7, e, e2, e3⟩ := lTurn (d1 := d1) (x3 := x3) (x4 := x4) (x5 := x5) (x6 := x6) (x7 := x7) hd hn hr.ne hb.ne q.1 hl hX hY (by omega)
        obtain ⟨m, hm⟩ : ∃ m, r.length + 1 - b.length = m + 1 := ⟨r.length - b.length, by omega⟩
        have hf' : r.length + 2 - b.length ≤ f + 1 := by
          rcases hf with h | h
          · exact absurd h.1 q.2
          · exact h.1
        have sz : ∀ n, n ≤ m → X + Y + 1 + n * (Y + 1) ≤ X + (m + 1) * (Y + 1) := fun n hn => by
          have := Nat.mul_le_mul_right (Y + 1) hn
          rw [Nat.add_mul]
          omega
        rw [hm] at hs
        have nb := lstep_bd hr.ne hb.ne hX hY
        have un : ldivR (k + 1) r b = ldivR k (lstepR r b) b := by rw [ldivR, if_pos q]
        rw [un, hm]
        rcases hlen with h | h
        · cases f with
          | zero => omega
          | succ f =>
            have z0 : ldivR k (lstepR r b) b = [0] := by rw [h]; exact ldivR_zero k b
            refine ⟨s1, n1, y3, y4, y5, y6, y7, ?_, e2, by rw [e3, z0, h], by rw [z0]; exact Bd.zero _⟩
            rw [liftS_ok, decide_eq_true q, if_pos rfl, e]
            show sWhileN lCond lBody (f + 1) [some d1, some d2, some (.ref n1), y3, y4, y5, y6, y7] s1 = _
            rw [sWhileN_d, lCond_ok (alst_keep e2 hd (by simp)) e3, h]
            simp
        · have s1' := sz ((lstepR r b).length + 1 - b.length) (by omega)
          obtain ⟨s2, n2, z3, z4, z5, z6, z7, g1, g2, g3, g4⟩ := lrun hb b0 hY k f (lstepR r b) (X + Y + 1) n1 s1 y3 y4 y5 y6 y7 (alst_keep e2 hd (by simp)) e3 hrow (.inr (by omega)) (.inr (by omega)) (by omega) nb (by omega)
          refine ⟨s2, n2, z3, z4, z5, z6, z7, ?_, e2.trans g2, g3, g4.mono (by omega)⟩
          rw [liftS_ok, decide_eq_true q, if_pos rfl, e]
          exact g1
    · have e : ldivR k r b = r := by
        cases k with
        | zero => rfl
        | succ k => rw [ldivR, if_neg q]
      refine ⟨st, n, x3, x4, x5, x6, x7, ?_, Kp.refl _ _, by rw [e]; exact hn, by rw [e]; exact hX.mono (Nat.le_add_right _ _)⟩
      rw [liftS_ok, decide_eq_false q]
      simp
theorem lrest_run {d1 d2 : D} {a b : List Int} {X Y : Nat} {st : Sto} (h1 : alst st d1 = some (I_ a)) (h2 : alst st d2 = some (I_ b)) (ha : Row a) (hb : Row b) (b0 : b ≠ [0]) (hl : a.length ≤ 400) (hX : Bd X a) (hY : Bd Y b) (hs : X + Y + (a.length + 1 - b.length) * (Y + 1) ≤ 134217600) :
    ∃ st' n', k02__law_rest [d1, d2] st = .ok (.ref n') st' ∧ Kp st st' [] ∧ lstAt st' n' = some (I_ (ldivR (a.length + 1) a b)) ∧ Bd (X + (a.length + 1 - b.length) * (Y + 1)) (ldivR (a.length + 1) a b) := by
  have bl := List.length_pos_iff.mpr hb.ne
  have k0 : Kp st (st ++ [.lst (I_ a)]) [] := Kp.push
  obtain ⟨s2, n2, y3, y4, y5, y6, y7, g1, g2, g3, g4⟩ := lrun (d1 := d1) (d2 := d2) hb b0 hY (a.length + 1) (a.length + 1) a X st.length (st ++ [.lst (I_ a)]) none none none none none (alst_keep k0 h2 (by simp)) (lstAt_new _ _) ha (.inr (by omega)) (.inr ⟨by omega, by omega⟩) hl hX hs
  refine ⟨s2, n2, ?_, k0.trans g2, g3, g4⟩
  have o : opList [d1] st = some (.ref st.length, st ++ [.lst (I_ a)]) := by
    simp [opList, aseq_of h1]
  have w : sWhile (mLen 2) lCond lBody [some d1, some d2, some (.ref st.length), none, none, none, none, none] (st ++ [.lst (I_ a)]) = .nx [some d1, some d2, some (.ref n2), y3, y4, y5, y6, y7] s2 := by
    have m : mLen 2 [some d1, some d2, some (.ref st.length), none, none, none, none, none] (st ++ [.lst (I_ a)]) = a.length + 1 := by
      have e : aseq (st ++ [.lst (I_ a)]) (.ref st.length) = some (I_ a) := lstAt_new _ _
      simp only [mLen, List.getElem?_cons_zero, List.getElem?_cons_succ, e, List.length_map]
    show sWhileN lCond lBody (mLen 2 _ _) _ _ = _
    rw [m]
    exact g1
  have run : k02__law_rest [d1, d2] st = endB (kSeq (sSeq (sWhile (mLen 2) lCond lBody) (sRet (iVar 2))) (liftS ((aCons (iVar 0) aNil [some d1, some d2, none, none, none, none, none, none] st).bind fun ds s => ofO (opList ds s)) [some d1, some d2, none, none, none, none, none, none] fun d s => .nx [some d1, some d2, some d, none, none, none, none, none] s)) := rfl
  rw [run]
  simp only [aCons_d, iVar_d, List.getElem?_cons_zero, R_ok, aNil_d, o, ofO_s, liftS_ok, kSeq_nx, sSeq_d, w]
  simp
end M
/-! RC13: the law's test of lowest terms. -/
namespace M
open PySem PySem.W Builtin Builtin.Str
def lcomR : Nat → List Int → List Int → List Int
  | 0, a, _ => a
  | k + 1, a, b => if b = [0] then a else lcomR k b (ldivR (a.length + 1) a b)
theorem co_zero : co [0] = fun _ => 0 := funext co_z
theorem lcomR_ok : ∀ (k : Nat) (a b : List Int), Row a → a ≠ [0] → Row b → (b = [0] ∨ b.length < k) → 0 < k → Row (lcomR k a b) ∧ lcomR k a b ≠ [0] ∧ Com (co a) (co b) (co (lcomR k a b))
  | 0, a, b, _, _, _, _, h => absurd h (Nat.lt_irrefl 0)
  | k + 1, a, b, ha, a0, hb, hk, _ => by
    unfold lcomR
    by_cases b0 : b = [0]
    · rw [if_pos b0]
      refine ⟨ha, a0, ?_⟩
      rw [b0, co_zero]
      exact Com.base (co a)
    · rw [if_neg b0]
      obtain ⟨r1, r2, c, m, q, c0, m0, r3⟩ := ldivR_ok hb b0 (a.length + 1) a ha (.inr (by omega))
      have bl := List.length_pos_iff.mpr hb.ne
      have bk := hk.resolve_left b0
      obtain ⟨g1, g2, g3⟩ := lcomR_ok k b _ hb b0 r1 (r2.imp id fun h => by omega) (by omega)
      exact ⟨g1, g2, g3.step c0 m0 r3⟩
/-- sizes, without what numbers give -/
def sg (L : Nat) : Nat → Nat → Nat → Nat → Nat → Bool
  | 0, _, _, _, _ => false
  | f + 1, la, lb, x, y => decide (x + y + (la + 1 - lb) * (y + 1) ≤ L) && (List.range lb).all fun lr => decide (lr = 0) || sg L f lb lr y (x + (la + 1 - lb) * (y + 1))
abbrev wCond : IT := tBl (iBin (opEq true) (iVar 5) (iN opLstF (aCons (iC (.int 0)) aNil)))
abbrev wBody : IS := sPar 4 5 (aCons (iVar 5) (aCons (iCall k02__law_rest [] (aCons (iVar 4) (aCons (iVar 5) aNil))) aNil))
theorem lcom_run {a0 b0 c0 e0 : Option D} : ∀ (k f g : Nat) (x y : List Int) (dx dy : D) (X Y : Nat) (st : Sto), alst st dx = some (I_ x) → alst st dy = some (I_ y) → Row x → Row y → (y = [0] ∨ y.length < k) → (y = [0] ∧ 1 ≤ f ∨ y.length + 1 ≤ f) → x.length ≤ 400 → y.length ≤ 400 → Bd X x → Bd Y y → (y = [0] ∨ sg 134217600 g x.length y.length X Y = true) →
    ∃ st' d z, sWhileN wCond wBody f [a0, b0, c0, e0, some dx, some dy] st = .nx [a0, b0, c0, e0, some d, z] st' ∧ Kp st st' [] ∧ alst st' d = some (I_ (lcomR k x y))
  | k, 0, g, x, y, dx, dy, X, Y, st, _, _, hx, hy, hk, hf, _, _, _, _, _ => by omega
  | k, f + 1, g, x, y, dx, dy, X, Y, st, h1, h2, hx, hy, hk, hf, lx, ly, hX, hY, hs => by
    have eq : opEq true dy (.lst [.int 0]) st = some (.bl (!decide (y = [0])), st) := eq_ll true (e := .lst [.int 0]) (m := [0]) h2 rfl
    have cc : wCond [a0, b0, c0, e0, some dx, some dy] st = .ok (decide (y ≠ [0])) st := by simp [wCond, eq]
    rw [sWhileN_d, cc]
    by_cases z : y = [0]
    · have e : lcomR k x y = x := by
        cases k with
        | zero => rfl
        | succ k => rw [lcomR, if_pos z]
      refine ⟨st, dx, some dy, ?_, Kp.refl _ _, by rw [e]; exact h1⟩
      simp [z]
    · cases k with
      | zero => exact absurd (hk.resolve_left z) (Nat.not_lt_zero _)
      | succ k =>
        cases g with
        | zero => exact absurd (hs.resolve_left z) (by simp [sg])
        | succ g =>
          have hs' := hs.resolve_left z
          simp only [sg, Bool.and_eq_true, decide_eq_true_eq, List.all_eq_true, List.mem_range, Bool.or_eq_true] at hs'
          obtain ⟨s2, s3⟩ := hs'
          obtain ⟨s1, n1, r1, r2, r3, r4⟩ := lrest_run h1 h2 hx hy z lx hX hY s2
          obtain ⟨w1, w2, _⟩ := ldivR_ok hy z (x.length + 1) x hx (.inr (by have := List.length_pos_iff.mpr hy.ne; omega))
          have yl := List.length_pos_iff.mpr hy.ne
          have wl := List.length_pos_iff.mpr w1.ne
          have fl : y.length + 1 ≤ f + 1 := by
            rcases hf with h | h
            · exact absurd h.1 z
            · exact h
          obtain ⟨s', d, q, g1, g2, g3⟩ := lcom_run (a0 := a0) (b0 := b0) (c0 := c0) (e0 := e0) k f g y (ldivR (x.length + 1) x y) dy (.ref n1) Y (X + (x.length + 1 - y.length) * (Y + 1)) s1 (alst_keep r2 h2 (by simp)) r3 hy w1 (w2.imp id fun h => by have := hk.resolve_left z; omega) (by
            rcases w2 with h | h
            · exact .inl ⟨h, by omega⟩
            · exact .inr (by omega)) ly (by
            rcases w2 with h | h
            · rw [h]; simp
            · omega) hY r4 (w2.imp id fun h => (s3 _ h).resolve_left (by omega))
          refine ⟨s', d, q, ?_, r2.trans g2, ?_⟩
          · have cb : wBody [a0, b0, c0, e0, some dx, some dy] st = .nx [a0, b0, c0, e0, some dy, some (.ref n1)] s1 := by simp [wBody, r1]
            rw [liftS_ok, decide_eq_true z, if_pos rfl, cb]
            exact g1
          · rw [lcomR, if_neg z]
            exact g3
theorem low_cont {A B : List Int} (L : Low (co A) (co B)) (h : cont (A ++ B) ≠ 0) : cont (A ++ B) = 1 := by
  by_cases q : cont (A ++ B) = 1
  · exact q
  · obtain ⟨p, hp, hd⟩ := pr_ex (cont (A ++ B)) (by omega)
    exfalso
    obtain ⟨i, hi⟩ := L.p p hp
    have all : ∀ a ∈ A ++ B, (p : Int) ∣ a := fun a ha => Int.dvd_trans (Int.natCast_dvd_natCast.mpr hd) (cont_dvd a ha)
    have get : ∀ (l : List Int), (∀ a ∈ l, (p : Int) ∣ a) → (p : Int) ∣ co l i := fun l hl => by
      by_cases w : i < l.length
      · exact hl _ (List.mem_of_getElem? (getD_at w))
      · rw [co_out (by omega)]; exact Int.dvd_zero _
    rcases hi with hi | hi
    · exact hi (get A fun a ha => all a (List.mem_append_left _ ha))
    · exact hi (get B fun a ha => all a (List.mem_append_right _ ha))
theorem islow_zero (st : Sto) : k02__law_is_low [.lst (I_ [0]), .lst (I_ [1])] st = .ok (.bl true) st := by
  have e1 : opEq false (.lst [.int 0]) (.lst [.int 0]) st = some (.bl true, st) := by
    have := eq_ll (st := st) (d := .lst [.int 0]) (e := .lst [.int 0]) (l := [0]) (m := [0]) false rfl rfl
    simpa using this
  have e2 : opEq false (.lst [.int 1]) (.lst [.int 1]) st = some (.bl true, st) := by
    have := eq_ll (st := st) (d := .lst [.int 1]) (e := .lst [.int 1]) (l := [1]) (m := [1]) false rfl rfl
    simpa using this
  simp [k02__law_is_low, B_k02__law_is_low, e1, e2]
theorem env_six {e : Env} (h : e.length = 6) : e = [e[0]?.join, e[1]?.join, e[2]?.join, e[3]?.join, e[4]?.join, e[5]?.join] := by
  match e, h with
  | [a, b, c, d, f, g], _ => rfl
theorem islow_ok {A B : List Int} {X Y g : Nat} (hA : Row A) (A0 : A ≠ [0]) (hB : Row B) (lB : 0 < leadR B) (L : Low (co A) (co B)) (la : A.length ≤ 50) (lb : B.length ≤ 50) (hX : Bd X A) (hY : Bd Y B) (hs : sg 134217600 g A.length B.length X Y = true) (st : Sto) :
    ∃ st', k02__law_is_low [.lst (I_ A), .lst (I_ B)] st = .ok (.bl true) st' ∧ Kp st st' [] := by
  have B0 : B ≠ [0] := fun z => by rw [z] at lB; exact absurd lB (by decide)
  have e1 : opEq false (.lst (I_ A)) (.lst [.int 0]) st = some (.bl false, st) := by
    have := eq_ll (st := st) (d := .lst (I_ A)) (e := .lst [.int 0]) (l := A) (m := [0]) false rfl rfl
    simpa [A0] using this
  have ad := addl_ok (a := A) (b := B) (by omega) st
  obtain ⟨en, h1, h2, h3, h4⟩ := fold_gcd (f := k02__law_common) common_int (v := 2) (u := 3) (by decide) (l := A ++ B) (env := [some (.lst (I_ A)), some (.lst (I_ B)), some (.int 0), none, none, none]) (st := st) (by simp) (by simp) rfl
  have z0 := h4 0 (by decide) (by decide)
  have z1 := h4 1 (by decide) (by decide)
  have z4 := h4 4 (by decide) (by decide)
  have z5 := h4 5 (by decide) (by decide)
  have ee := env_six h2
  obtain ⟨x, hx⟩ : ∃ x, x = en[3]?.join := ⟨_, rfl⟩
  have c1 : cont (A ++ B) = 1 := low_cont L (by
    rw [cont_append]
    intro z
    exact cont_row hB B0 (Nat.eq_zero_of_gcd_eq_zero_right z))
  rw [z0, z1, z4, z5, h3, ← hx, c1] at ee
  have ee : en = [some (.lst (I_ A)), some (.lst (I_ B)), some (.int 1), x, none, none] := ee
  subst ee
  obtain ⟨s1, d, z, g1, g2, g3⟩ := lcom_run (a0 := some (.lst (I_ A))) (b0 := some (.lst (I_ B))) (c0 := some (.int 1)) (e0 := x) 60 60 g A B (.lst (I_ A)) (.lst (I_ B)) X Y st rfl rfl hA hB (.inr (by omega)) (.inr (by omega)) (by omega) (by omega) hX hY (.inr hs)
  obtain ⟨m1, m2, m3⟩ := lcomR_ok 60 A B hA A0 hB (.inr (by omega)) (by omega)
  have dg := m1.deg m2
  have d0 := L.com m3 dg.1 dg.2
  have ml := List.length_pos_iff.mpr m1.ne
  have len : opLen [d] s1 = some (.int 1, s1) := by
    have := len_any (aseq_of g3)
    rw [List.length_map, show (lcomR 60 A B).length = 1 by omega] at this
    exact this
  have xl := ix_last (st := s1) (d := .lst (I_ B)) (l := B) rfl hB.ne
  have gt : opGt (.int (leadR B)) (.int 0) s1 = some (.bl true, s1) := by
    show some (D.bl (decide (leadR B > 0)), s1) = _
    rw [decide_eq_true lB]
  have q1 : opEq false (.int 1) (.int 1) s1 = some (.bl true, s1) := by rw [eq_int]; rfl
  refine ⟨s1, ?_, g2⟩
  rw [show I_ (A ++ B) = List.map D.int A ++ List.map D.int B from List.map_append, List.length_append, List.length_map, List.length_map] at h1
  clear h2 h3 h4 z0 z1 z4 z5
  simp [k02__law_is_low, B_k02__law_is_low, e1, ad]
  rw [h1]
  simp
  rw [g1]
  simp [q1, opNeg, xl, gt, len]
end M
/-! RC14: the law's product of two rows. -/
namespace M
open PySem PySem.W Builtin Builtin.Str
theorem act_snoc (z : Int) (f : Se) : ∀ (l : List Int) (n : Nat), act (l ++ [z]) f n = act l f n + if n < l.length then 0 else z * f (n - l.length)
  | [], n => by
    show z * f n + sh (fun _ => 0) n = 0 + _
    rw [sh_zero, if_neg (by simp)]
    simp
  | a :: l, n => by
    show a * f n + sh (act (l ++ [z]) f) n = (a * f n + sh (act l f) n) + _
    cases n with
    | zero => simp [sh]
    | succ n =>
      show a * f (n + 1) + act (l ++ [z]) f n = (a * f (n + 1) + act l f n) + _
      rw [act_snoc z f l n]
      simp only [List.length_cons]
      by_cases h : n < l.length
      · rw [if_pos h, if_pos (by omega)]; omega
      · rw [if_neg h, if_neg (by omega), show n + 1 - (l.length + 1) = n - l.length by omega]; omega
theorem co_set {l : List Int} {p : Nat} {v : Int} (h : p < l.length) (n : Nat) : co (l.set p v) n = if n = p then v else co l n := by
  rw [co_get, co_get, List.getD_eq_getElem?_getD, List.getD_eq_getElem?_getD]
  by_cases q : n = p
  · subst q
    rw [List.getElem?_set_self h, if_pos rfl]
    rfl
  · rw [List.getElem?_set_ne (fun e => q e.symm), if_neg q]
theorem co_take_succ {b : List Int} {j : Nat} (h : j < b.length) (n : Nat) : co (b.take (j + 1)) n = co (b.take j) n + if n = j then co b j else 0 := by
  rw [co_get, co_get, List.getD_eq_getElem?_getD, List.getD_eq_getElem?_getD, List.getElem?_take, List.getElem?_take]
  by_cases q : n = j
  · subst q
    rw [if_pos (by omega), if_neg (by omega), if_pos rfl, getD_at h]
    simp
  · rw [if_neg q]
    by_cases w : n < j
    · rw [if_pos (by omega), if_pos w]; omega
    · rw [if_neg (by omega), if_neg w]; omega
theorem act_bd {Y X : Nat} {f : Se} (hf : ∀ n, (f n).natAbs < 2 ^ Y) : ∀ (a : List Int), Bd X a → ∀ n, (act a f n).natAbs ≤ a.length * 2 ^ (X + Y)
  | [], _, n => by simp [act]
  | x :: a, h, n => by
    have ih := act_bd hf a (fun y hy => h y (List.mem_cons_of_mem _ hy))
    have h1 : (x * f n).natAbs ≤ 2 ^ (X + Y) := by
      rw [Int.natAbs_mul, Nat.pow_add]
      exact Nat.le_of_lt (Nat.mul_lt_mul'' (h x List.mem_cons_self) (hf n))
    have h2 : (sh (act a f) n).natAbs ≤ a.length * 2 ^ (X + Y) := by
      cases n with
      | zero => simp [sh]
      | succ n => exact ih n
    show (x * f n + sh (act a f) n).natAbs ≤ (a.length + 1) * 2 ^ (X + Y)
    rw [Nat.add_mul]
    omega
theorem co_bd {Y : Nat} {b : List Int} (h : Bd Y b) (n : Nat) : (co b n).natAbs < 2 ^ Y := by
  by_cases w : n < b.length
  · exact h _ (List.mem_of_getElem? (getD_at w))
  · rw [co_out (by omega)]
    exact Nat.two_pow_pos Y
theorem mul_ref {st : Sto} {n k : Nat} (h : lstAt st n = some [.int 0]) (hk : k ≤ 1000) : opMul (.ref n) (.int (k : Int)) st = some (.ref st.length, st ++ [.lst (I_ (List.replicate k 0))]) := by
  have c : -(2 ^ 63 : Int) ≤ (k : Int) ∧ (k : Int) < 2 ^ 63 ∧ [D.int 0].length * ((k : Int)).toNat ≤ sizeLine := by
    have := sizeLine_big
    simp only [List.length_cons, List.length_nil]
    omega
  simp only [opMul, h]
  rw [if_pos c, flat_rep, Int.toNat_natCast, I_, List.map_replicate]
abbrev mIn : IS := sAsg (gIx (iVar 2) (iBin opAdd (iVar 3) (iVar 4))) (iBin opAdd (iBin opIx (iVar 2) (iBin opAdd (iVar 3) (iVar 4))) (iBin opMulA (iBin opIx (iVar 0) (iVar 3)) (iBin opIx (iVar 1) (iVar 4))))
abbrev mOut : IS := sFor (wRng1 (aCons (iN opLen (aCons (iVar 1) aNil)) aNil)) (gVar 4) mIn
/-- what is in the list -/
def Got (st s : Sto) (m N : Nat) (f : Se) : Prop := Kp st s [m] ∧ ∃ F : List Int, lstAt s m = some (I_ F) ∧ F.length = N ∧ ∀ n, co F n = f n
theorem mult_in {a b : List Int} {X Y m i : Nat} {st s0 : Sto} {x4 : Option D} (hi : i < a.length) (la : a.length ≤ 200) (lb : b.length ≤ 200) (hX : Bd X a) (hY : Bd Y b) (hXY : X + Y ≤ 134217600) (h : Got st s0 m (a.length + b.length - 1) (act (a.take i) (co b))) :
    ∃ s1 y4, mOut [some (.lst (I_ a)), some (.lst (I_ b)), some (.ref m), some (.int (i : Int)), x4] s0 = .nx [some (.lst (I_ a)), some (.lst (I_ b)), some (.ref m), some (.int (i : Int)), y4] s1 ∧ Got st s1 m (a.length + b.length - 1) (act (a.take (i + 1)) (co b)) := by
  have ln : opLen [.lst (I_ b)] s0 = some (.int b.length, s0) := by
    have := len_any (st := s0) (d := .lst (I_ b)) (xs := I_ b) rfl
    rw [List.length_map] at this
    exact this
  have w := rng1 (e := iN opLen (aCons (iVar 1) aNil)) (env := [some (.lst (I_ a)), some (.lst (I_ b)), some (.ref m), some (.int (i : Int)), x4]) (st := s0) (st' := s0) (n := b.length) (by simp [ln]) (by omega)
  have run := forL_rng (g := gVar 4) (b := mIn) (n := b.length)
    (fun j env s => (∃ y4, env = [some (.lst (I_ a)), some (.lst (I_ b)), some (.ref m), some (.int (i : Int)), y4]) ∧ Got st s m (a.length + b.length - 1) (fun n => act (a.take i) (co b) n + if n < i then 0 else co a i * co (b.take j) (n - i)))
    (fun j hj env s ⟨⟨y4, he⟩, hk, F, hF, hN, hc⟩ => by
      subst he
      have xa := ixl (xs := I_ a) (d := .int (co a i)) (i : Int) (by omega) (by rw [Int.toNat_natCast, List.getElem?_map, getD_at hi]; rfl) s
      have xb := ixl (xs := I_ b) (d := .int (co b j)) (j : Int) (by omega) (by rw [Int.toNat_natCast, List.getElem?_map, getD_at hj]; rfl) s
      have at_ : ((i : Int) + (j : Int)).toNat = i + j := by omega
      have pl : i + j < F.length := by omega
      have xr : opIx (.ref m) (.int ((i : Int) + (j : Int))) s = some (.int (co F (i + j)), s) := ixr hF _ (by omega) (by rw [at_, List.getElem?_map, getD_at pl]; rfl)
      have mu := mulA_ok (hX _ (List.mem_of_getElem? (getD_at hi))) (hY _ (List.mem_of_getElem? (getD_at hj))) hXY s
      have ks := kset hF ((i : Int) + (j : Int)) (by omega) (by rw [at_, List.length_map]; exact pl) (.int (co F (i + j) + co a i * co b j)) [some (.lst (I_ a)), some (.lst (I_ b)), some (.ref m), some (.int (i : Int)), some (.int (j : Int))]
      rw [at_] at ks
      refine ⟨_, _, rfl, [some (.lst (I_ a)), some (.lst (I_ b)), some (.ref m), some (.int (i : Int)), some (.int (j : Int))], s.set m (.lst ((I_ F).set (i + j) (.int (co F (i + j) + co a i * co b j)))), .inl ?_, ⟨some (.int (j : Int)), rfl⟩, hk.trans Kp.set, F.set (i + j) (co F (i + j) + co a i * co b j), ?_, ?_, fun n => ?_⟩
      · simp [mIn, opAdd, xa, xb, xr, mu, ks]
      · rw [lst_set hF, I_, I_, List.map_set]
      · rw [List.length_set, hN]
      · have hc' : ∀ n, co F n = act (a.take i) (co b) n + if n < i then 0 else co a i * co (b.take j) (n - i) := hc
        show co (F.set (i + j) (co F (i + j) + co a i * co b j)) n = act (a.take i) (co b) n + if n < i then 0 else co a i * co (b.take (j + 1)) (n - i)
        rw [co_set pl]
        by_cases q : n = i + j
        · subst q
          rw [if_pos rfl, hc', if_neg (by omega), if_neg (by omega), show i + j - i = j by omega, co_take_succ hj, if_pos rfl, Int.mul_add]
          omega
        · rw [if_neg q, hc']
          by_cases w : n < i
          · rw [if_pos w, if_pos w]
          · rw [if_neg w, if_neg w, co_take_succ hj, if_neg (by omega), Int.add_zero]) (env := [some (.lst (I_ a)), some (.lst (I_ b)), some (.ref m), some (.int (i : Int)), x4]) (st := s0) ⟨⟨x4, rfl⟩, h.1, by
      obtain ⟨F, h1, h2, h3⟩ := h.2
      refine ⟨F, h1, h2, fun n => ?_⟩
      show co F n = act (a.take i) (co b) n + if n < i then 0 else co a i * co (b.take 0) (n - i)
      rw [h3]
      split
      · omega
      · rw [show b.take 0 = [] from rfl]
        show act (a.take i) (co b) n = act (a.take i) (co b) n + co a i * 0
        omega⟩
  obtain ⟨e2, s2, g1, ⟨y4, rfl⟩, g3⟩ := run
  refine ⟨s2, y4, ?_, g3.1, ?_⟩
  · rw [mOut, sFor_d, w, liftS_ok]
    exact g1
  · obtain ⟨F, h1, h2, h3⟩ := g3.2
    refine ⟨F, h1, h2, fun n => ?_⟩
    have h3' : co F n = act (a.take i) (co b) n + if n < i then 0 else co a i * co (b.take b.length) (n - i) := h3 n
    rw [h3', List.take_length]
    have tk : a.take (i + 1) = a.take i ++ [co a i] := by
      rw [List.take_succ, getD_at hi]
      rfl
    rw [tk, act_snoc, List.length_take, Nat.min_eq_left (by omega)]
theorem mult_run {a b : List Int} {X Y : Nat} (ha : a ≠ []) (hb : b ≠ []) (la : a.length ≤ 200) (lb : b.length ≤ 200) (hX : Bd X a) (hY : Bd Y b) (hXY : X + Y ≤ 134217600) (st : Sto) :
    ∃ st' l, k02__law_multiplied [.lst (I_ a), .lst (I_ b)] st = .ok (.lst (I_ l)) st' ∧ Kp st st' [] ∧ Row l ∧ l.length ≤ a.length + b.length - 1 ∧ ∀ n, co l n = act a (co b) n := by
  have pa := List.length_pos_iff.mpr ha
  have pb := List.length_pos_iff.mpr hb
  obtain ⟨N, hN⟩ : ∃ N, N = a.length + b.length - 1 := ⟨_, rfl⟩
  have l1 : ∀ s, opLen [.lst (I_ a)] s = some (.int a.length, s) := fun s => by
    have := len_any (st := s) (d := .lst (I_ a)) (xs := I_ a) rfl
    rw [List.length_map] at this
    exact this
  have l2 : ∀ s, opLen [.lst (I_ b)] s = some (.int b.length, s) := fun s => by
    have := len_any (st := s) (d := .lst (I_ b)) (xs := I_ b) rfl
    rw [List.length_map] at this
    exact this
  have e1 : opLst [.int 0] st = some (.ref st.length, st ++ [.lst [.int 0]]) := by simp
  have e2 := mul_ref (st := st ++ [.lst [.int 0]]) (n := st.length) (k := N) (lstAt_new _ _) (by omega)
  obtain ⟨s1, hs1⟩ : ∃ s1, s1 = st ++ [.lst [.int 0]] ++ [O.lst (I_ (List.replicate N 0))] := ⟨_, rfl⟩
  obtain ⟨m, hm⟩ : ∃ m, m = (st ++ [O.lst [.int 0]]).length := ⟨_, rfl⟩
  rw [← hs1, ← hm] at e2
  have k1 : Kp st s1 [] := by rw [hs1]; exact Kp.push.trans Kp.push
  have ml : m = st.length + 1 := by rw [hm]; simp
  have w := rng1 (e := iN opLen (aCons (iVar 0) aNil)) (env := [some (.lst (I_ a)), some (.lst (I_ b)), some (.ref m), none, none]) (st := s1) (st' := s1) (n := a.length) (by simp [l1]) (by omega)
  have run := forL_rng (g := gVar 3) (b := mOut) (n := a.length)
    (fun i env s => (∃ y3 y4, env = [some (.lst (I_ a)), some (.lst (I_ b)), some (.ref m), y3, y4]) ∧ Got s1 s m N (act (a.take i) (co b)))
    (fun i hi env s ⟨⟨y3, y4, he⟩, hg⟩ => by
      subst he
      rw [hN] at hg
      obtain ⟨s2, z4, g1, g2⟩ := mult_in (x4 := y4) hi la lb hX hY hXY hg
      rw [← hN] at g2
      exact ⟨_, _, rfl, _, _, .inl g1, ⟨_, _, rfl⟩, g2⟩) (env := [some (.lst (I_ a)), some (.lst (I_ b)), some (.ref m), none, none]) (st := s1) ⟨⟨none, none, rfl⟩, Kp.refl _ _, List.replicate N 0, by rw [hs1, hm]; exact lstAt_new _ _, by simp, fun n => by
      rw [co_get, List.getD_eq_getElem?_getD, List.getElem?_replicate]
      split <;> rfl⟩
  obtain ⟨e3, s2, g1, ⟨y3, y4, rfl⟩, g2, F, g3, g4, g5⟩ := run
  rw [List.take_length] at g5
  have F0 : F ≠ [] := fun z => by rw [z] at g4; simp at g4; omega
  have ra := row_any (d := .ref m) (st := s2) g3 F0 (by omega)
  refine ⟨s2, trimR F, ?_, ⟨Nat.le_trans k1.1 g2.1, fun i hi il => by rw [g2.2 i (by simp; omega) (Nat.lt_of_lt_of_le il k1.1), k1.2 i hi il]⟩, trimR_row F0, Nat.le_trans (trimR_len F0) (by omega), fun n => by rw [trimR_co, g5]⟩
  have nn : (a.length : Int) + (b.length : Int) - 1 = (N : Int) := by omega
  have run : k02__law_multiplied [.lst (I_ a), .lst (I_ b)] st = endB (kSeq (sSeq (sFor (wRng1 (aCons (iN opLen (aCons (iVar 0) aNil)) aNil)) (gVar 3) mOut) (sRet (iCall k02__law_row [] (aCons (iVar 2) aNil)))) ((sSet 2 (iBin opMul (iN opLst (aCons (iC (.int 0)) aNil)) (iBin opSub (iBin opAdd (iN opLen (aCons (iVar 0) aNil)) (iN opLen (aCons (iVar 1) aNil))) (iC (.int 1))))) [some (.lst (I_ a)), some (.lst (I_ b)), none, none, none] st)) := rfl
  have fst_ : (sSet 2 (iBin opMul (iN opLst (aCons (iC (.int 0)) aNil)) (iBin opSub (iBin opAdd (iN opLen (aCons (iVar 0) aNil)) (iN opLen (aCons (iVar 1) aNil))) (iC (.int 1))))) [some (.lst (I_ a)), some (.lst (I_ b)), none, none, none] st = .nx [some (.lst (I_ a)), some (.lst (I_ b)), some (.ref m), none, none] s1 := by
    have big := sizeLine_big
    simp [l1, l2, opAdd, opSub, nn, e2]
  rw [run, fst_]
  simp only [kSeq_nx, sSeq_d, sFor_d, w, liftS_ok, g1]
  simp [ra]
end M
/-! RC15: texts as lists of signs: numbers, powers, parts. -/
namespace M
open PySem PySem.W Builtin Builtin.Str
/-- the text with these signs -/
abbrev T_ (l : List Nat) : Str := ⟨l.toArray⟩
theorem T_app (l m : List Nat) : T_ l ++ T_ m = T_ (l ++ m) := toL_inj (by rw [toL_app, toL_mk, toL_mk, toL_mk])
theorem T_len (l : List Nat) : (T_ l).length = l.length := by rw [len_toL, toL_mk]
theorem T_inj {l m : List Nat} : T_ l = T_ m ↔ l = m := ⟨fun h => (toL_mk l).symm.trans ((congrArg toL h).trans (toL_mk m)), fun h => by rw [h]⟩
/-- a number's digits -/
def numL (m : Nat) : List Nat := (Nat.toDigits 10 m).map Char.toNat
theorem num_str {i : Int} (h : 0 ≤ i) : Str.ofString (toString i) = T_ (numL i.toNat) := by
  obtain ⟨m, rfl⟩ := Int.eq_ofNat_of_zero_le h
  refine toL_inj ?_
  rw [toL_mk]
  exact KIN.signs_num m
theorem num_digits (m : Nat) : NumText.AllDigits (numL m) := fun c hc => by
  obtain ⟨ch, hch, e⟩ := List.mem_map.mp hc
  have r := PyProof.Rows.digit_range (Nat.isDigit_of_mem_toDigits (by decide) (by decide) hch)
  rw [← e]
  exact r
theorem num_ne (m : Nat) : numL m ≠ [] := fun z => by
  have := Nat.length_toDigits_pos (b := 10) (n := m)
  rw [List.map_eq_nil_iff.mp z] at this
  exact absurd this (by decide)
theorem num_len {m k : Nat} (hk : 0 < k) (h : m < 10 ^ k) : (numL m).length ≤ k := by
  unfold numL
  rw [List.length_map]
  exact (Nat.length_toDigits_le_iff (by decide) hk).mpr h
theorem num_read {m : Nat} (h : (numL m).length ≤ 4300) : PySem.intText? (T_ (numL m)) = some (m : Int) := by
  have e : toL (T_ (numL m)) = numL m := toL_mk _
  have := intText_digits (x := T_ (numL m)) (by rw [show (T_ (numL m)).cps.toList = numL m from e]; exact num_digits m) (by rw [show (T_ (numL m)).cps.toList = numL m from e]; exact num_ne m) (by rw [T_len]; exact h)
  rw [this, show (T_ (numL m)).cps.toList = numL m from e, show NumText.digitsVal (numL m) = m from KIN.val_back m]
/-- a power of n -/
def powL (p : Nat) : List Nat := if p = 1 then [110] else [110, 94] ++ numL p
/-- a part without its sign -/
def wordL (p m : Nat) : List Nat := if p = 0 then numL m else if m = 1 then powL p else numL m ++ [42] ++ powL p
theorem fmt_num {i : Int} (h0 : 0 ≤ i) (h : i.natAbs.log2 < 1920) (st : Sto) : opFmt (.int i) st = some (.str (T_ (numL i.toNat)), st) := by
  have : opFmt (.int i) st = some (.str (Str.ofString (toString i)), st) := by
    show (if i.natAbs.log2 < 1920 then some (D.str (toString i), st) else none) = _
    rw [if_pos h]
  rw [this, num_str h0]
theorem str_num {i : Int} (h0 : 0 ≤ i) (h : i.natAbs.log2 < 1920) (st : Sto) : opStrS [.int i] st = some (.str (T_ (numL i.toNat)), st) := by
  have : opStrS [.int i] st = some (.str (Str.ofString (toString i)), st) := by
    show (if i.natAbs.log2 < 1920 then some (D.str (toString i), st) else none) = _
    rw [if_pos h]
  rw [this, num_str h0]
theorem fmt_txt {l : List Nat} (h : l.length ≤ 1000000) (st : Sto) : opFmt (.str (T_ l)) st = some (.str (T_ l), st) := by
  have := sizeLine_big
  show (if (T_ l).length ≤ sizeLine then some (D.str (T_ l), st) else none) = _
  rw [if_pos (by rw [T_len]; omega)]
theorem add_txt {l m : List Nat} (h : l.length + m.length ≤ 1000000) (st : Sto) : opAdd (.str (T_ l)) (.str (T_ m)) st = some (.str (T_ (l ++ m)), st) := by
  have := sizeLine_big
  show (if (T_ l).length + (T_ m).length ≤ sizeLine then some (D.str (T_ l ++ T_ m), st) else none) = _
  rw [if_pos (by rw [T_len, T_len]; omega), T_app]
theorem kJs_txt {l m : List Nat} {k : Str → Env → Sto → R D} {env : Env} {st : Sto} (h : l.length + m.length ≤ 1000000) : kJs (T_ l) k (.str (T_ m)) env st = k (T_ (l ++ m)) env st := by
  have := sizeLine_big
  show (if (T_ l ++ T_ m).length ≤ sizeLine then k (T_ l ++ T_ m) env st else .bad) = _
  rw [T_app, if_pos (by rw [T_len, List.length_append]; omega)]
theorem eq_txt (neg : Bool) (l m : List Nat) (st : Sto) : opEq neg (.str (T_ l)) (.str (T_ m)) st = some (.bl (if neg then !decide (l = m) else decide (l = m)), st) := by
  have e : decide (T_ l = T_ m) = decide (l = m) := by
    by_cases h : l = m
    · simp [h]
    · rw [decide_eq_false h, decide_eq_false (fun z => h (T_inj.mp z))]
  show some (D.bl (if neg then !decide (T_ l = T_ m) else decide (T_ l = T_ m)), st) = _
  rw [e]
theorem lit_n : (Str.ofString "n") = T_ [110] := toL_inj (by decide)
theorem lit_np : (Str.ofString "n^") = T_ [110, 94] := toL_inj (by decide)
theorem lit_star : (Str.ofString "*") = T_ [42] := toL_inj (by decide)
theorem lit_nil : (Str.ofString "") = T_ [] := toL_inj (by decide)
theorem lit_empty : Str.empty = T_ [] := rfl
theorem lit_m : (Str.ofString "-") = T_ [45] := toL_inj (by decide)
theorem lit_sm : (Str.ofString " - ") = T_ [32, 45, 32] := toL_inj (by decide)
theorem lit_sp : (Str.ofString " + ") = T_ [32, 43, 32] := toL_inj (by decide)
theorem lit_0 : (Str.ofString "0") = T_ [48] := toL_inj (by decide)
theorem lit_o : (Str.ofString "(") = T_ [40] := toL_inj (by decide)
theorem lit_c : (Str.ofString ")") = T_ [41] := toL_inj (by decide)
theorem lit_oc : (Str.ofString ")/(") = T_ [41, 47, 40] := toL_inj (by decide)
theorem lit_1 : (Str.ofString "1") = T_ [49] := toL_inj (by decide)
theorem lit_R : (Str.ofString "Ratio(") = T_ [82, 97, 116, 105, 111, 40] := toL_inj (by decide)
theorem pow_txt {p : Nat} (h : p ≤ 1000) (st : Sto) : p_power_text [.int (p : Int)] st = .ok (.str (T_ (powL p))) st := by
  have f := fmt_num (i := (p : Int)) (by omega) (by have := Nat.log2_le_self p; rw [Int.natAbs_natCast]; omega) st
  rw [Int.toNat_natCast] at f
  have nl : (numL p).length ≤ 4 := num_len (by decide) (by omega)
  unfold powL
  by_cases q : p = 1
  · subst q
    simp [p_power_text, B_p_power_text, eq_int, lit_n]
  · have q' : ¬ ((p : Int) = 1) := by omega
    have k1 := fun (k : Str → Env → Sto → R D) (env : Env) (s : Sto) => kJs_txt (l := []) (m := [110, 94]) (k := k) (env := env) (st := s) (by simp)
    have k2 := fun (k : Str → Env → Sto → R D) (env : Env) (s : Sto) => kJs_txt (l := [110, 94]) (m := numL p) (k := k) (env := env) (st := s) (by simp; omega)
    rw [if_neg q]
    simp [p_power_text, B_p_power_text, eq_int, q', lit_np, lit_empty, f]
    rw [k1]
    simp [f]
    rw [k2]
    simp
end M
/-! RC16: the text of a row, by the program and by the law. -/
namespace M
open PySem PySem.W Builtin Builtin.Str
abbrev Tm := Nat × Int
/-- the parts behind the first one -/
def restL (ts : List Tm) : List Nat := ts.flatMap fun t => (if t.2 < 0 then [32, 45, 32] else [32, 43, 32]) ++ wordL t.1 t.2.natAbs
def accL : List Tm → List Nat
  | [] => []
  | t :: ts => (if t.2 < 0 then [45] else []) ++ wordL t.1 t.2.natAbs ++ restL ts
/-- the parts of the first i powers, from the highest one -/
def tmK (r : List Int) : Nat → List Tm
  | 0 => []
  | i + 1 => tmK r i ++ if co r (r.length - 1 - i) = 0 then [] else [(r.length - 1 - i, co r (r.length - 1 - i))]
def tms (r : List Int) : List Tm := tmK r r.length
/-- a row's text -/
def polyL (r : List Int) : List Nat := if tms r = [] then [48] else accL (tms r)
theorem word_ne (p m : Nat) : wordL p m ≠ [] := by
  unfold wordL powL
  split
  · exact num_ne m
  · split
    · split <;> simp
    · simp
theorem acc_snoc (ts : List Tm) (t : Tm) : accL (ts ++ [t]) = if ts = [] then (if t.2 < 0 then [45] else []) ++ wordL t.1 t.2.natAbs else accL ts ++ (if t.2 < 0 then [32, 45, 32] else [32, 43, 32]) ++ wordL t.1 t.2.natAbs := by
  cases ts with
  | nil => simp [accL, restL]
  | cons a ts => simp [accL, restL, List.flatMap_append]
theorem acc_nil {ts : List Tm} : accL ts = [] ↔ ts = [] := by
  cases ts with
  | nil => simp [accL]
  | cons a ts => simp [accL, word_ne]
/-- a part that can be written -/
def TmOk (t : Tm) : Prop := t.1 ≤ 1000 ∧ (numL t.2.natAbs).length ≤ 640 ∧ t.2.natAbs.log2 < 1920 ∧ t.2 ≠ 0
theorem pow_len {p : Nat} (h : p ≤ 1000) : (powL p).length ≤ 6 := by
  have : (numL p).length ≤ 4 := num_len (by decide) (by omega)
  unfold powL
  split
  · simp
  · simp; omega
theorem word_len {t : Tm} (h : TmOk t) : (wordL t.1 t.2.natAbs).length ≤ 647 := by
  have := pow_len h.1
  have := h.2.1
  unfold wordL
  split
  · omega
  · split
    · omega
    · simp; omega
theorem rest_len : ∀ {ts : List Tm}, (∀ t ∈ ts, TmOk t) → (restL ts).length ≤ 650 * ts.length
  | [], _ => by simp [restL]
  | t :: ts, h => by
    have ih := rest_len fun x hx => h x (List.mem_cons_of_mem t hx)
    have w := word_len (h t List.mem_cons_self)
    have e : restL (t :: ts) = ((if t.2 < 0 then [32, 45, 32] else [32, 43, 32]) ++ wordL t.1 t.2.natAbs) ++ restL ts := by simp [restL]
    rw [e, List.length_append, List.length_append, List.length_cons]
    have : (if t.2 < 0 then [32, 45, 32] else [32, 43, 32] : List Nat).length = 3 := by split <;> rfl
    omega
theorem acc_len {ts : List Tm} (h : ∀ t ∈ ts, TmOk t) : (accL ts).length ≤ 650 * ts.length := by
  cases ts with
  | nil => simp [accL]
  | cons t ts =>
    have ih := rest_len fun x hx => h x (List.mem_cons_of_mem t hx)
    have w := word_len (h t List.mem_cons_self)
    simp only [accL, List.length_append, List.length_cons]
    have : (if t.2 < 0 then [45] else [] : List Nat).length ≤ 1 := by split <;> simp
    omega
theorem tm_ok {r : List Int} (hl : r.length ≤ 1000) (hb : Bd 1900 r) {p : Nat} (hp : p < r.length) (h0 : co r p ≠ 0) : TmOk (p, co r p) := by
  have m := hb _ (List.mem_of_getElem? (getD_at hp))
  refine ⟨by show p ≤ 1000; omega, num_len (by decide) (Nat.lt_of_lt_of_le m (by decide +kernel)), ?_, h0⟩
  have := log_le m
  show (co r p).natAbs.log2 < 1920
  omega
theorem tmK_ok {r : List Int} (hl : r.length ≤ 1000) (hb : Bd 1900 r) : ∀ i, i ≤ r.length → (∀ t ∈ tmK r i, TmOk t) ∧ (tmK r i).length ≤ i
  | 0, _ => ⟨fun t ht => by simp [tmK] at ht, by simp [tmK]⟩
  | i + 1, hi => by
    obtain ⟨h1, h2⟩ := tmK_ok hl hb i (by omega)
    refine ⟨fun t ht => ?_, ?_⟩
    · rcases List.mem_append.mp ht with h | h
      · exact h1 t h
      · by_cases z : co r (r.length - 1 - i) = 0
        · rw [if_pos z] at h; simp at h
        · rw [if_neg z] at h
          rw [List.mem_singleton.mp h]
          exact tm_ok hl hb (by omega) z
    · show (tmK r i ++ _).length ≤ i + 1
      rw [List.length_append]
      split
      · simp; omega
      · simp; omega
/-! ### the program's text -/
theorem nxD_at (n : Nat) (i : Nat) (st : Sto) : nxD ((n : Int) - 1) n i st = some ((List.range n).map fun k : Nat => D.int ((n : Int) - 1 - k))[i]? := by
  unfold nxD
  rw [List.getElem?_map]
  by_cases h : i < n
  · rw [if_pos h, List.getElem?_range h]
    simp
    omega
  · rw [if_neg h, List.getElem?_eq_none (by simp; omega)]
    rfl
theorem rng_down {e : IE} {env : Env} {st : Sto} {n : Nat} (hn : n ≤ 1000000) (he : e env st = .ok (.int (n : Int)) st) : wRng3 (aCons (iBin opSub e (iC (.int 1))) (aCons (iUn opNeg (iC (.int 1))) (aCons (iUn opNeg (iC (.int 1))) aNil))) env st = .ok (nxD ((n : Int) - 1) n, n) st := by
  have c : -(2 ^ 62 : Int) ≤ (n : Int) - 1 ∧ (n : Int) - 1 < 2 ^ 62 ∧ -(2 ^ 62 : Int) ≤ -1 ∧ (-1 : Int) < 2 ^ 62 := by omega
  have k : kRng3 [.int ((n : Int) - 1), .int (-1), .int (-1)] st = .ok (nxD ((n : Int) - 1) n, n) st := by
    show (if -(2 ^ 62 : Int) ≤ (n : Int) - 1 ∧ (n : Int) - 1 < 2 ^ 62 ∧ -(2 ^ 62 : Int) ≤ -1 ∧ (-1 : Int) < 2 ^ 62 then R.ok (nxD ((n : Int) - 1) ((n : Int) - 1 - -1).toNat, ((n : Int) - 1 - -1).toNat) st else .bad) = _
    rw [if_pos c, show ((n : Int) - 1 - -1).toNat = n by omega]
  simp [wRng3, he, opSub, opNeg, k]
abbrev tBody : IS := sSeq (sSet 3 (iBin opIx (iVar 0) (iVar 2)))
  (sIf (tBl (iBin (opEq true) (iVar 3) (iC (.int 0)))) (sSeq (sSet 4 (iN opAbs (aCons (iVar 3) aNil)))
  (sSeq (sSet 5 (iIf (tBl (iBin (opEq false) (iVar 2) (iC (.int 0)))) (iUn opFmt (iVar 4)) (iIf (tBl (iBin (opEq false) (iVar 4) (iC (.int 1)))) (iCall p_power_text [] (aCons (iVar 2) aNil)) (iJs [(iUn opFmt (iVar 4)), (iC (.str "*")), (iUn opFmt (iCall p_power_text [] (aCons (iVar 2) aNil)))] Str.empty))))
  (sIf (tBl (iBin (opEq false) (iVar 1) (iC (.str "")))) (sSet 1 (iIf (tBl (iBin opLt (iVar 3) (iC (.int 0)))) (iBin opAdd (iC (.str "-")) (iVar 5)) (iVar 5))) (sSet 1 (iBin opAdd (iBin opAdd (iVar 1) (iIf (tBl (iBin opLt (iVar 3) (iC (.int 0)))) (iC (.str " - ")) (iC (.str " + ")))) (iVar 5)))))) sNil)
theorem word_txt {x0 x1 x3 x5 : Option D} {t : Tm} (h : TmOk t) (st : Sto) : iIf (tBl (iBin (opEq false) (iVar 2) (iC (.int 0)))) (iUn opFmt (iVar 4)) (iIf (tBl (iBin (opEq false) (iVar 4) (iC (.int 1)))) (iCall p_power_text [] (aCons (iVar 2) aNil)) (iJs [(iUn opFmt (iVar 4)), (iC (.str "*")), (iUn opFmt (iCall p_power_text [] (aCons (iVar 2) aNil)))] Str.empty)) [x0, x1, some (.int (t.1 : Int)), x3, some (.int (t.2.natAbs : Int)), x5] st = .ok (.str (T_ (wordL t.1 t.2.natAbs))) st := by
  obtain ⟨p, c⟩ := t
  obtain ⟨h1, h2, h3, h4⟩ := h
  simp only at h1 h2 h3 h4 ⊢
  have f := fmt_num (i := (c.natAbs : Int)) (by omega) (by rw [Int.natAbs_natCast]; exact h3) st
  rw [Int.toNat_natCast] at f
  have pt := pow_txt h1 st
  have pl := pow_len h1
  have fp := fmt_txt (l := powL p) (by omega) st
  unfold wordL
  by_cases q : p = 0
  · subst q
    simp [eq_int, f]
  · have q' : ¬ ((p : Int) = 0) := by omega
    rw [if_neg q]
    by_cases w : c.natAbs = 1
    · have w' : (c.natAbs : Int) = 1 := by omega
      rw [if_pos w]
      simp only [iIf_d, tBl_d, iBin_d, iVar_d, List.getElem?_cons_zero, List.getElem?_cons_succ, R_ok, iC_d, eq_int, q', ofO_s, kBl_b, w', decide_true, decide_false, Bool.false_eq_true, if_false, if_true, iCall_d, aCons_d, aNil_d, List.append_nil, pt]
    · have w' : ¬ ((c.natAbs : Int) = 1) := by omega
      have k1 := fun (k : Str → Env → Sto → R D) (env : Env) (s : Sto) => kJs_txt (l := []) (m := numL c.natAbs) (k := k) (env := env) (st := s) (by simp; omega)
      have k2 := fun (k : Str → Env → Sto → R D) (env : Env) (s : Sto) => kJs_txt (l := numL c.natAbs) (m := [42]) (k := k) (env := env) (st := s) (by simp; omega)
      have k3 := fun (k : Str → Env → Sto → R D) (env : Env) (s : Sto) => kJs_txt (l := numL c.natAbs ++ [42]) (m := powL p) (k := k) (env := env) (st := s) (by simp; omega)
      rw [if_neg w]
      simp only [iIf_d, tBl_d, iBin_d, iVar_d, List.getElem?_cons_zero, List.getElem?_cons_succ, R_ok, iC_d, eq_int, q', ofO_s, kBl_b, w', decide_false, Bool.false_eq_true, if_false, iJs_c, iUn_d, f, lit_empty, lit_star, iCall_d, aCons_d, aNil_d, List.append_nil, pt, fp]
      rw [k1, List.nil_append]
      simp only [iJs_c, iC_d, R_ok]
      rw [k2]
      simp only [iJs_c, iUn_d, iCall_d, aCons_d, iVar_d, List.getElem?_cons_zero, List.getElem?_cons_succ, R_ok, aNil_d, List.append_nil, pt, fp, ofO_s]
      rw [k3]
      simp only [iJs_n]
end M
/-! RC17: row_text and the law's _law_poly_text tell polyL. -/
namespace M
open PySem PySem.W Builtin Builtin.Str
theorem cmpLt (i j : Int) (st : Sto) : opLt (.int i) (.int j) st = some (.bl (decide (i < j)), st) := rfl
theorem cmpGt (i j : Int) (st : Sto) : opGt (.int i) (.int j) st = some (.bl (decide (i > j)), st) := rfl
theorem abs_ok (i : Int) (st : Sto) : opAbs [.int i] st = some (.int (i.natAbs : Int), st) := by
  show some (D.int (if i < 0 then -i else i), st) = _
  rw [abs_is]
/-- a step: what a turn makes of the text so far -/
def TStep (r : List Int) (d : D) (b : IS) : Prop := ∀ (st : Sto) (ts : List Tm) (p : Nat) (x3 x4 x5 : Option D), aseq st d = some (I_ r) → p < r.length → r.length ≤ 100 → Bd 1900 r → (∀ t ∈ ts, TmOk t) → ts.length ≤ 100 →
  ∃ y3 y4 y5, b [some d, some (.str (T_ (accL ts))), some (.int (p : Int)), x3, x4, x5] st = .nx [some d, some (.str (T_ (accL (ts ++ if co r p = 0 then [] else [(p, co r p)])))), some (.int (p : Int)), y3, y4, y5] st
theorem tBody_ok (r : List Int) (d : D) : TStep r d tBody := fun st ts p x3 x4 x5 hd hp hl hb hts hn => by
  have ix : opIx d (.int (p : Int)) st = some (.int (co r p), st) := ix_any hd _ (by omega) (by rw [Int.toNat_natCast, List.getElem?_map, getD_at hp]; rfl)
  by_cases z : co r p = 0
  · refine ⟨some (.int 0), x4, x5, ?_⟩
    rw [if_pos z, List.append_nil]
    rw [z] at ix
    simp [tBody, ix, eq_int]
  · have tk := tm_ok (by omega) hb hp z
    have al := acc_len hts
    have wl := word_len tk
    have am := Nat.mul_le_mul_left 650 hn
    rw [if_neg z]
    obtain ⟨c, hc⟩ : ∃ c, c = co r p := ⟨_, rfl⟩
    rw [← hc] at z ix tk wl ⊢
    have wt := word_txt (x0 := some d) (x1 := some (.str (T_ (accL ts)))) (x3 := some (.int c)) (x5 := x5) tk st
    obtain ⟨w, hw⟩ : ∃ w, w = wordL p c.natAbs := ⟨_, rfl⟩
    have wt : iIf (tBl (iBin (opEq false) (iVar 2) (iC (.int 0)))) (iUn opFmt (iVar 4)) (iIf (tBl (iBin (opEq false) (iVar 4) (iC (.int 1)))) (iCall p_power_text [] (aCons (iVar 2) aNil)) (iJs [(iUn opFmt (iVar 4)), (iC (.str "*")), (iUn opFmt (iCall p_power_text [] (aCons (iVar 2) aNil)))] Str.empty)) [some d, some (.str (T_ (accL ts))), some (.int (p : Int)), some (.int c), some (.int (c.natAbs : Int)), x5] st = .ok (.str (T_ w)) st := by rw [hw]; exact wt
    have wl : w.length ≤ 647 := by rw [hw]; exact wl
    refine ⟨some (.int c), some (.int (c.natAbs : Int)), some (.str (T_ w)), ?_⟩
    rw [acc_snoc]
    have e0 := eq_txt false (accL ts) [] st
    have m1 := add_txt (l := [45]) (m := w) (by simp; omega) st
    have m2 := add_txt (l := accL ts) (m := [32, 45, 32]) (by simp; omega) st
    have m3 := add_txt (l := accL ts) (m := [32, 43, 32]) (by simp; omega) st
    have m4 := add_txt (l := accL ts ++ [32, 45, 32]) (m := w) (by simp; omega) st
    have m5 := add_txt (l := accL ts ++ [32, 43, 32]) (m := w) (by simp; omega) st
    show tBody _ _ = RS.nx [_, some (.str (T_ (if ts = [] then (if c < 0 then [45] else []) ++ wordL p c.natAbs else accL ts ++ (if c < 0 then [32, 45, 32] else [32, 43, 32]) ++ wordL p c.natAbs))), _, _, _, _] st
    rw [← hw]
    have hA := acc_nil (ts := ts)
    generalize accL ts = A at e0 m2 m3 m4 m5 wt hA ⊢
    simp only [tBody, sSeq_d, sSet_d, iBin_d, iVar_d, List.getElem?_cons_zero, List.getElem?_cons_succ, R_ok, ix, ofO_s, liftS_ok, List.set_cons_zero, List.set_cons_succ, kSeq_nx, sIf_d, tBl_d, iC_d, eq_int, z, decide_false, Bool.not_false, if_true, kBl_b, iN_d, aCons_d, aNil_d, abs_ok]
    rw [wt]
    simp only [liftS_ok, List.set_cons_zero, List.set_cons_succ, kSeq_nx, sIf_d, tBl_d, iBin_d, iVar_d, List.getElem?_cons_zero, List.getElem?_cons_succ, R_ok, iC_d, lit_nil, e0, ofO_s, kBl_b, Bool.false_eq_true, if_false, decide_eq_true_eq]
    by_cases n : c < 0
    · by_cases t : ts = []
      · have t' := hA.mpr t
        simp [t, t', n, cmpLt, lit_m, m1]
      · have t' : ¬ A = [] := fun q => t (hA.mp q)
        simp [t, t', n, cmpLt, lit_sm, m2, m4]
    · by_cases t : ts = []
      · have t' := hA.mpr t
        simp [t, t', n, cmpLt]
      · have t' : ¬ A = [] := fun q => t (hA.mp q)
        simp [t, t', n, cmpLt, lit_sp, m3, m5]
abbrev pBody : IS := sSeq (sSet 3 (iBin opIx (iVar 0) (iVar 2)))
  (sIf (tBl (iBin (opEq true) (iVar 3) (iC (.int 0)))) (sSeq (sSet 4 (iIf (tBl (iBin (opEq false) (iVar 2) (iC (.int 0)))) (iC (.str "")) (iIf (tBl (iBin (opEq false) (iVar 2) (iC (.int 1)))) (iC (.str "n")) (iBin opAdd (iC (.str "n^")) (iN opStrS (aCons (iVar 2) aNil))))))
  (sSeq (sIf (tOr' (tBl (iBin (opEq false) (iVar 2) (iC (.int 0)))) (tBl (iBin (opEq true) (iN opAbs (aCons (iVar 3) aNil)) (iC (.int 1))))) (sSet 4 (iBin opAdd (iBin opAdd (iN opStrS (aCons (iN opAbs (aCons (iVar 3) aNil)) aNil)) (iIf (tBl (iBin opGt (iVar 2) (iC (.int 0)))) (iC (.str "*")) (iC (.str "")))) (iVar 4))) sNil)
  (sSeq (sSet 5 (iIf (tBl (iBin opLt (iVar 3) (iC (.int 0)))) (iC (.str "-")) (iC (.str ""))))
  (sSeq (sIf (tBl (iBin (opEq true) (iVar 1) (iC (.str "")))) (sSet 5 (iIf (tBl (iBin opLt (iVar 3) (iC (.int 0)))) (iC (.str " - ")) (iC (.str " + ")))) sNil)
  (sSet 1 (iBin opAdd (iBin opAdd (iVar 1) (iVar 5)) (iVar 4))))))) sNil)
/-- the law's word -/
theorem pWord {d : D} {x1 x4 x5 : Option D} {p : Nat} {c : Int} {st : Sto} {rest : IS} {w : List Nat} (h : TmOk (p, c)) (hw : w = wordL p c.natAbs) : kSeq (sSeq (sIf (tOr' (tBl (iBin (opEq false) (iVar 2) (iC (.int 0)))) (tBl (iBin (opEq true) (iN opAbs (aCons (iVar 3) aNil)) (iC (.int 1))))) (sSet 4 (iBin opAdd (iBin opAdd (iN opStrS (aCons (iN opAbs (aCons (iVar 3) aNil)) aNil)) (iIf (tBl (iBin opGt (iVar 2) (iC (.int 0)))) (iC (.str "*")) (iC (.str "")))) (iVar 4))) sNil) rest)
    (sSet 4 (iIf (tBl (iBin (opEq false) (iVar 2) (iC (.int 0)))) (iC (.str "")) (iIf (tBl (iBin (opEq false) (iVar 2) (iC (.int 1)))) (iC (.str "n")) (iBin opAdd (iC (.str "n^")) (iN opStrS (aCons (iVar 2) aNil))))) [some d, x1, some (.int (p : Int)), some (.int c), x4, x5] st) = rest [some d, x1, some (.int (p : Int)), some (.int c), some (.str (T_ w)), x5] st := by
  obtain ⟨h1, h2, h3, h4⟩ := h
  simp only at h1 h2 h3 h4
  have f := str_num (i := (c.natAbs : Int)) (by omega) (by rw [Int.natAbs_natCast]; exact h3) st
  rw [Int.toNat_natCast] at f
  have g := str_num (i := (p : Int)) (by omega) (by have := Nat.log2_le_self p; rw [Int.natAbs_natCast]; omega) st
  rw [Int.toNat_natCast] at g
  have nl : (numL p).length ≤ 4 := num_len (by decide) (by omega)
  have pl := pow_len h1
  subst hw
  unfold wordL
  by_cases q : p = 0
  · subst q
    have m1 := add_txt (l := numL c.natAbs) (m := []) (by simp; omega) st
    rw [List.append_nil] at m1
    simp [eq_int, abs_ok, f, cmpGt, lit_nil, m1]
  · have q' : ¬ ((p : Int) = 0) := by omega
    have q2 : (p : Int) > 0 := by omega
    rw [if_neg q]
    unfold powL
    by_cases o : p = 1
    · have o' : (p : Int) = 1 := by omega
      rw [if_pos o]
      by_cases w : c.natAbs = 1
      · have w' : (c.natAbs : Int) = 1 := by omega
        simp [eq_int, q', o', abs_ok, w, w', lit_n]
      · have w' : ¬ (c.natAbs : Int) = 1 := by omega
        have m1 := add_txt (l := numL c.natAbs) (m := [42]) (by simp; omega) st
        have m2 := add_txt (l := numL c.natAbs ++ [42]) (m := [110]) (by simp; omega) st
        simp [eq_int, q', o', abs_ok, w, w', lit_n, f, cmpGt, lit_star, m1, m2]
    · have o' : ¬ (p : Int) = 1 := by omega
      rw [if_neg o]
      have m0 := add_txt (l := [110, 94]) (m := numL p) (by simp; omega) st
      by_cases w : c.natAbs = 1
      · have w' : (c.natAbs : Int) = 1 := by omega
        simp [eq_int, q, q', o, o', abs_ok, w, w', lit_np, g, m0]
      · have w' : ¬ (c.natAbs : Int) = 1 := by omega
        have m1 := add_txt (l := numL c.natAbs) (m := [42]) (by simp; omega) st
        have m2 := add_txt (l := numL c.natAbs ++ [42]) (m := [110, 94] ++ numL p) (by simp; omega) st
        simp only [List.cons_append, List.nil_append] at m2 m0
        have q3 : 0 < p := by omega
        simp [eq_int, q, q', q2, q3, o, o', abs_ok, w, w', lit_np, f, g, m0, cmpGt, lit_star, m1, m2]
end M
/-! RC18: the whole texts of rows and ratios. -/
namespace M
open PySem PySem.W Builtin Builtin.Str
theorem pBody_ok (r : List Int) (d : D) : TStep r d pBody := fun st ts p x3 x4 x5 hd hp hl hb hts hn => by
  have ix : opIx d (.int (p : Int)) st = some (.int (co r p), st) := ix_any hd _ (by omega) (by rw [Int.toNat_natCast, List.getElem?_map, getD_at hp]; rfl)
  by_cases z : co r p = 0
  · refine ⟨some (.int 0), x4, x5, ?_⟩
    rw [if_pos z, List.append_nil]
    rw [z] at ix
    simp [pBody, ix, eq_int]
  · have tk := tm_ok (by omega) hb hp z
    have al := acc_len hts
    have wl := word_len tk
    have am := Nat.mul_le_mul_left 650 hn
    rw [if_neg z]
    obtain ⟨c, hc⟩ : ∃ c, c = co r p := ⟨_, rfl⟩
    rw [← hc] at z ix tk wl ⊢
    obtain ⟨w, hw⟩ : ∃ w, w = wordL p c.natAbs := ⟨_, rfl⟩
    have wl : w.length ≤ 647 := by rw [hw]; exact wl
    rw [acc_snoc]
    show ∃ y3 y4 y5, pBody _ _ = RS.nx [_, some (.str (T_ (if ts = [] then (if c < 0 then [45] else []) ++ wordL p c.natAbs else accL ts ++ (if c < 0 then [32, 45, 32] else [32, 43, 32]) ++ wordL p c.natAbs))), _, y3, y4, y5] st
    rw [← hw]
    have e0 := eq_txt true (accL ts) [] st
    have m0 := add_txt (l := accL ts) (m := []) (by simp; omega) st
    have m1 := add_txt (l := accL ts) (m := [45]) (by simp; omega) st
    have m2 := add_txt (l := accL ts) (m := [32, 45, 32]) (by simp; omega) st
    have m3 := add_txt (l := accL ts) (m := [32, 43, 32]) (by simp; omega) st
    have m4 := add_txt (l := accL ts ++ [32, 45, 32]) (m := w) (by simp; omega) st
    have m5 := add_txt (l := accL ts ++ [32, 43, 32]) (m := w) (by simp; omega) st
    have m6 := add_txt (l := accL ts ++ [45]) (m := w) (by simp; omega) st
    have m7 := add_txt (l := accL ts) (m := w) (by omega) st
    have hA := acc_nil (ts := ts)
    have pw := fun rest => pWord (d := d) (x1 := some (.str (T_ (accL ts)))) (x4 := x4) (x5 := x5) (st := st) (rest := rest) tk hw
    generalize accL ts = A at *
    have fin : ∀ s : List Nat, (s = if ts = [] then (if c < 0 then [45] else []) ++ w else A ++ (if c < 0 then [32, 45, 32] else [32, 43, 32]) ++ w) → (sSeq (sSet 5 (iIf (tBl (iBin opLt (iVar 3) (iC (.int 0)))) (iC (.str "-")) (iC (.str ""))))
  (sSeq (sIf (tBl (iBin (opEq true) (iVar 1) (iC (.str "")))) (sSet 5 (iIf (tBl (iBin opLt (iVar 3) (iC (.int 0)))) (iC (.str " - ")) (iC (.str " + ")))) sNil)
  (sSet 1 (iBin opAdd (iBin opAdd (iVar 1) (iVar 5)) (iVar 4))))) [some d, some (.str (T_ A)), some (.int (p : Int)), some (.int c), some (.str (T_ w)), x5] st = .nx [some d, some (.str (T_ s)), some (.int (p : Int)), some (.int c), some (.str (T_ w)), some (.str (T_ (if ts = [] then (if c < 0 then [45] else []) else (if c < 0 then [32, 45, 32] else [32, 43, 32]))))] st := fun s hs => by
      subst hs
      by_cases n : c < 0
      · by_cases t : ts = []
        · have t' := hA.mpr t
          subst t'
          simp only [List.nil_append] at m1 m6
          simp [t, n, cmpLt, lit_m, lit_nil, e0, m1, m6]
        · have t' : ¬ A = [] := fun q => t (hA.mp q)
          simp [t, t', n, cmpLt, lit_m, lit_nil, lit_sm, e0, m2, m4]
      · by_cases t : ts = []
        · have t' := hA.mpr t
          subst t'
          simp only [List.nil_append] at m0 m7
          simp [t, n, cmpLt, lit_nil, e0, m0, m7]
        · have t' : ¬ A = [] := fun q => t (hA.mp q)
          simp [t, t', n, cmpLt, lit_nil, lit_sp, e0, m3, m5]
    refine ⟨some (.int c), some (.str (T_ w)), some (.str (T_ (if ts = [] then (if c < 0 then [45] else []) else (if c < 0 then [32, 45, 32] else [32, 43, 32])))), ?_⟩
    have s1 : sSet 3 (iBin opIx (iVar 0) (iVar 2)) [some d, some (.str (T_ A)), some (.int (p : Int)), x3, x4, x5] st = .nx [some d, some (.str (T_ A)), some (.int (p : Int)), some (.int c), x4, x5] st := by simp [ix]
    have c1 : tBl (iBin (opEq true) (iVar 3) (iC (.int 0))) [some d, some (.str (T_ A)), some (.int (p : Int)), some (.int c), x4, x5] st = .ok true st := by simp [eq_int, z]
    rw [pBody, sSeq_d, s1, kSeq_nx, sIf_d, c1, liftS_ok, if_pos rfl, sSeq_d, pw]
    exact fin _ rfl
/-- the loop -/
theorem text_loop {r : List Int} {d : D} {b : IS} {st : Sto} (S : TStep r d b) (hd : aseq st d = some (I_ r)) (hl : r.length ≤ 100) (hb : Bd 1900 r) :
    ∃ y2 y3 y4 y5, forL (nxD ((r.length : Int) - 1) r.length) (gVar 2) b r.length 0 [some d, some (.str (T_ [])), none, none, none, none] st = .nx [some d, some (.str (T_ (accL (tms r)))), y2, y3, y4, y5] st := by
  have run := forL_idx (nx := nxD ((r.length : Int) - 1) r.length) (g := gVar 2) (b := b) (xs := (List.range r.length).map fun k : Nat => D.int ((r.length : Int) - 1 - k))
    (fun i env s => s = st ∧ ∃ y2 y3 y4 y5, env = [some d, some (.str (T_ (accL (tmK r i)))), y2, y3, y4, y5]) (nxD_at r.length)
    (fun i x hx env s ⟨hs, y2, y3, y4, y5, he⟩ => by
      subst hs he
      obtain ⟨hi, e⟩ := List.getElem?_eq_some_iff.mp hx
      simp at hi e
      subst e
      obtain ⟨k1, k2⟩ := tmK_ok (by omega) hb i (by omega)
      obtain ⟨z3, z4, z5, h⟩ := S s (tmK r i) (r.length - 1 - i) y3 y4 y5 hd (by omega) hl hb k1 (by omega)
      rw [show ((r.length - 1 - i : Nat) : Int) = (r.length : Int) - 1 - (i : Int) by omega] at h
      exact ⟨_, _, rfl, _, _, .inl h, rfl, _, z3, z4, z5, rfl⟩) r.length 0 [some d, some (.str (T_ [])), none, none, none, none] st (Nat.zero_le _) (by simp) ⟨rfl, none, none, none, none, rfl⟩
  obtain ⟨e2, s2, h1, rfl, y2, y3, y4, y5, rfl⟩ := run
  rw [List.length_map, List.length_range] at h1
  exact ⟨y2, y3, y4, y5, h1⟩
theorem rowText_ok {r : List Int} (hl : r.length ≤ 100) (hb : Bd 1900 r) (st : Sto) : p_row_text [.tup (I_ r)] st = .ok (.str (T_ (polyL r))) st := by
  have ln : opLen [.tup (I_ r)] st = some (.int r.length, st) := by
    have := len_any (st := st) (d := .tup (I_ r)) (xs := I_ r) rfl
    rw [List.length_map] at this
    exact this
  obtain ⟨y2, y3, y4, y5, h⟩ := text_loop (d := .tup (I_ r)) (st := st) (tBody_ok r _) rfl hl hb
  have w := rng_down (e := iN opLen (aCons (iVar 0) aNil)) (env := [some (.tup (I_ r)), some (.str (T_ [])), none, none, none, none]) (st := st) (n := r.length) (by omega) (by simp [ln])
  have e0 := eq_txt true (accL (tms r)) [] st
  have run : p_row_text [.tup (I_ r)] st = endB (kSeq (sSeq (sFor (wRng3 (aCons (iBin opSub (iN opLen (aCons (iVar 0) aNil)) (iC (.int 1))) (aCons (iUn opNeg (iC (.int 1))) (aCons (iUn opNeg (iC (.int 1))) aNil)))) (gVar 2) tBody) (sRet (iIf (tBl (iBin (opEq true) (iVar 1) (iC (.str "")))) (iVar 1) (iC (.str "0"))))) (.nx [some (.tup (I_ r)), some (.str (Str.ofString "")), none, none, none, none] st)) := rfl
  rw [run, lit_nil, kSeq_nx, sSeq_d, sFor_d, w, liftS_ok]
  simp only [h, kSeq_nx]
  unfold polyL
  by_cases z : tms r = []
  · have z' := acc_nil.mpr z
    rw [z'] at e0 ⊢
    simp [lit_nil, lit_0, e0, z]
  · have z' : ¬ accL (tms r) = [] := fun q => z (acc_nil.mp q)
    simp [lit_nil, lit_0, e0, z, z']
theorem lawText_ok {r : List Int} (hl : r.length ≤ 100) (hb : Bd 1900 r) (st : Sto) : k02__law_poly_text [.lst (I_ r)] st = .ok (.str (T_ (polyL r))) st := by
  have ln : opLen [.lst (I_ r)] st = some (.int r.length, st) := by
    have := len_any (st := st) (d := .lst (I_ r)) (xs := I_ r) rfl
    rw [List.length_map] at this
    exact this
  obtain ⟨y2, y3, y4, y5, h⟩ := text_loop (d := .lst (I_ r)) (st := st) (pBody_ok r _) rfl hl hb
  have w := rng_down (e := iN opLen (aCons (iVar 0) aNil)) (env := [some (.lst (I_ r)), some (.str (T_ [])), none, none, none, none]) (st := st) (n := r.length) (by omega) (by simp [ln])
  have e0 := eq_txt true (accL (tms r)) [] st
  have run : k02__law_poly_text [.lst (I_ r)] st = endB (kSeq (sSeq (sFor (wRng3 (aCons (iBin opSub (iN opLen (aCons (iVar 0) aNil)) (iC (.int 1))) (aCons (iUn opNeg (iC (.int 1))) (aCons (iUn opNeg (iC (.int 1))) aNil)))) (gVar 2) pBody) (sRet (iIf (tBl (iBin (opEq true) (iVar 1) (iC (.str "")))) (iVar 1) (iC (.str "0"))))) (.nx [some (.lst (I_ r)), some (.str (Str.ofString "")), none, none, none, none] st)) := rfl
  rw [run, lit_nil, kSeq_nx, sSeq_d, sFor_d, w, liftS_ok]
  simp only [h, kSeq_nx]
  unfold polyL
  by_cases z : tms r = []
  · have z' := acc_nil.mpr z
    rw [z'] at e0 ⊢
    simp [lit_nil, lit_0, e0, z]
  · have z' : ¬ accL (tms r) = [] := fun q => z (acc_nil.mp q)
    simp [lit_nil, lit_0, e0, z, z']
/-! ### ratios -/
def ratioL (A B : List Int) : List Nat := if B = [1] then polyL A else [40] ++ polyL A ++ [41, 47, 40] ++ polyL B ++ [41]
theorem poly_len {r : List Int} (hl : r.length ≤ 100) (hb : Bd 1900 r) : (polyL r).length ≤ 65001 := by
  obtain ⟨k1, k2⟩ := tmK_ok (by omega) hb r.length (Nat.le_refl _)
  have := acc_len k1
  unfold polyL tms
  split
  · simp
  · omega
theorem str_ok {s : Sto} {n : Nat} {A B : List Int} (h : s[n]? = some (insR A B)) (la : A.length ≤ 100) (lb : B.length ≤ 100) (ha : Bd 1900 A) (hb : Bd 1900 B) : p_Ratio___str__ [.ref n] s = .ok (.str (T_ (ratioL A B))) s := by
  have t1 := get_top h
  have b1 := get_bot h
  have r1 := rowText_ok la ha s
  have r2 := rowText_ok lb hb s
  have l1 := poly_len la ha
  have l2 := poly_len lb hb
  have f1 := fmt_txt (l := polyL A) (by omega) s
  have f2 := fmt_txt (l := polyL B) (by omega) s
  have e1 : opEq false (.tup (I_ B)) (.tup [.int 1]) s = some (.bl (decide (B = [1])), s) := eq_tt false B [1] s
  unfold ratioL
  by_cases q : B = [1]
  · rw [if_pos q]
    rw [q] at b1 e1
    have e2 : opEq false (.tup [.int 1]) (.tup [.int 1]) s = some (.bl true, s) := e1
    simp [p_Ratio___str__, B_p_Ratio___str__, t1, b1, e2, r1, f1]
  · rw [if_neg q]
    rw [decide_eq_false q] at e1
    generalize polyL A = PA at *
    generalize polyL B = PB at *
    have k1 := fun (k : Str → Env → Sto → R D) (env : Env) (s : Sto) => kJs_txt (l := []) (m := [40]) (k := k) (env := env) (st := s) (by simp)
    have k2 := fun (k : Str → Env → Sto → R D) (env : Env) (s : Sto) => kJs_txt (l := [40]) (m := PA) (k := k) (env := env) (st := s) (by simp; omega)
    have k3 := fun (k : Str → Env → Sto → R D) (env : Env) (s : Sto) => kJs_txt (l := [40] ++ PA) (m := [41, 47, 40]) (k := k) (env := env) (st := s) (by simp; omega)
    have k4 := fun (k : Str → Env → Sto → R D) (env : Env) (s : Sto) => kJs_txt (l := [40] ++ PA ++ [41, 47, 40]) (m := PB) (k := k) (env := env) (st := s) (by simp; omega)
    have k5 := fun (k : Str → Env → Sto → R D) (env : Env) (s : Sto) => kJs_txt (l := [40] ++ PA ++ [41, 47, 40] ++ PB) (m := [41]) (k := k) (env := env) (st := s) (by simp; omega)
    have js : iJs [(iC (.str "(")), (iUn opFmt (iCall p_row_text [] (aCons (iUn (opGet ["Ratio"] "top") (iVar 0)) aNil))), (iC (.str ")/(")), (iUn opFmt (iCall p_row_text [] (aCons (iUn (opGet ["Ratio"] "bottom") (iVar 0)) aNil))), (iC (.str ")"))] Str.empty [some (.ref n)] s = .ok (.str (T_ ([40] ++ PA ++ [41, 47, 40] ++ PB ++ [41]))) s := by
      rw [iJs_c, lit_o, lit_c, lit_oc, lit_empty]
      simp only [iC_d, R_ok]
      rw [k1, List.nil_append, iJs_c]
      simp only [iUn_d, iCall_d, aCons_d, iVar_d, List.getElem?_cons_zero, R_ok, t1, ofO_s, aNil_d, List.append_nil, r1, f1]
      rw [k2, iJs_c]
      simp only [iC_d, R_ok]
      rw [k3, iJs_c]
      simp only [iUn_d, iCall_d, aCons_d, iVar_d, List.getElem?_cons_zero, R_ok, b1, ofO_s, aNil_d, List.append_nil, r2, f2]
      rw [k4, iJs_c]
      simp only [iC_d, R_ok]
      rw [k5, iJs_n]
    have c1 : sIf (tBl (iBin (opEq false) (iUn (opGet ["Ratio"] "bottom") (iVar 0)) (iN opTup (aCons (iC (.int 1)) aNil)))) (sRet (iUn opFmt (iCall p_row_text [] (aCons (iUn (opGet ["Ratio"] "top") (iVar 0)) aNil)))) sNil [some (.ref n)] s = .nx [some (.ref n)] s := by simp [b1, e1]
    have run : p_Ratio___str__ [.ref n] s = endB (kSeq (sRet (iJs [(iC (.str "(")), (iUn opFmt (iCall p_row_text [] (aCons (iUn (opGet ["Ratio"] "top") (iVar 0)) aNil))), (iC (.str ")/(")), (iUn opFmt (iCall p_row_text [] (aCons (iUn (opGet ["Ratio"] "bottom") (iVar 0)) aNil))), (iC (.str ")"))] Str.empty)) (sIf (tBl (iBin (opEq false) (iUn (opGet ["Ratio"] "bottom") (iVar 0)) (iN opTup (aCons (iC (.int 1)) aNil)))) (sRet (iUn opFmt (iCall p_row_text [] (aCons (iUn (opGet ["Ratio"] "top") (iVar 0)) aNil)))) sNil [some (.ref n)] s)) := rfl
    rw [run, c1, kSeq_nx, sRet_d, js]
    simp
theorem repr_ok {s : Sto} {n : Nat} {A B : List Int} (h : s[n]? = some (insR A B)) (la : A.length ≤ 100) (lb : B.length ≤ 100) (ha : Bd 1900 A) (hb : Bd 1900 B) : p_Ratio___repr__ [.ref n] s = .ok (.str (T_ ([82, 97, 116, 105, 111, 40] ++ ratioL A B ++ [41]))) s := by
  have st := str_ok h la lb ha hb
  have l1 := poly_len la ha
  have l2 := poly_len lb hb
  have rl : (ratioL A B).length ≤ 140000 := by
    unfold ratioL
    split
    · omega
    · simp; omega
  generalize ratioL A B = RR at *
  have ff : opFmtI "Ratio" p_Ratio___str__ (.ref n) s = some (.str (T_ RR), s) := by
    have e : insD s (.ref n) = some (("Ratio" : Str), fsR (.tup (I_ A)) (.tup (I_ B))) := by simp only [insD, h]
    simp only [opFmtI, e, st, optR, strR, if_true]
  have k1 := fun (k : Str → Env → Sto → R D) (env : Env) (s : Sto) => kJs_txt (l := []) (m := [82, 97, 116, 105, 111, 40]) (k := k) (env := env) (st := s) (by simp)
  have k2 := fun (k : Str → Env → Sto → R D) (env : Env) (s : Sto) => kJs_txt (l := [82, 97, 116, 105, 111, 40]) (m := RR) (k := k) (env := env) (st := s) (by simp; omega)
  have k3 := fun (k : Str → Env → Sto → R D) (env : Env) (s : Sto) => kJs_txt (l := [82, 97, 116, 105, 111, 40] ++ RR) (m := [41]) (k := k) (env := env) (st := s) (by simp; omega)
  have js : iJs [(iC (.str "Ratio(")), (iUn (opFmtI "Ratio" p_Ratio___str__) (iVar 0)), (iC (.str ")"))] Str.empty [some (.ref n)] s = .ok (.str (T_ ([82, 97, 116, 105, 111, 40] ++ RR ++ [41]))) s := by
    rw [iJs_c, lit_R, lit_c, lit_empty]
    simp only [iC_d, R_ok]
    rw [k1, List.nil_append, iJs_c]
    simp only [iUn_d, iVar_d, List.getElem?_cons_zero, R_ok, ff, ofO_s]
    rw [k2, iJs_c]
    simp only [iC_d, R_ok]
    rw [k3, iJs_n]
  have run : p_Ratio___repr__ [.ref n] s = endB (sRet (iJs [(iC (.str "Ratio(")), (iUn (opFmtI "Ratio" p_Ratio___str__) (iVar 0)), (iC (.str ")"))] Str.empty) [some (.ref n)] s) := rfl
  rw [run, sRet_d, js]
  simp
theorem lawRatio_ok {A B : List Int} (la : A.length ≤ 100) (lb : B.length ≤ 100) (ha : Bd 1900 A) (hb : Bd 1900 B) (s : Sto) : k02__law_ratio_text [.lst (I_ A), .lst (I_ B)] s = .ok (.str (T_ (ratioL A B))) s := by
  have r1 := lawText_ok la ha s
  have r2 := lawText_ok lb hb s
  have l1 := poly_len la ha
  have l2 := poly_len lb hb
  have e1 : opEq false (.lst (I_ B)) (.lst [.int 1]) s = some (.bl (decide (B = [1])), s) := by
    have := eq_ll (st := s) (d := .lst (I_ B)) (e := .lst [.int 1]) (l := B) (m := [1]) false rfl rfl
    simpa using this
  unfold ratioL
  by_cases q : B = [1]
  · rw [if_pos q]
    rw [decide_eq_true q] at e1
    simp [k02__law_ratio_text, B_k02__law_ratio_text, e1, r1]
  · rw [if_neg q]
    rw [decide_eq_false q] at e1
    generalize polyL A = PA at *
    generalize polyL B = PB at *
    have m1 := add_txt (l := [40]) (m := PA) (by simp; omega) s
    have m2 := add_txt (l := [40] ++ PA) (m := [41, 47, 40]) (by simp; omega) s
    have m3 := add_txt (l := [40] ++ PA ++ [41, 47, 40]) (m := PB) (by simp; omega) s
    have m4 := add_txt (l := [40] ++ PA ++ [41, 47, 40] ++ PB) (m := [41]) (by simp; omega) s
    have c1 : sIf (tBl (iBin (opEq false) (iVar 1) (iN opLstF (aCons (iC (.int 1)) aNil)))) (sRet (iCall k02__law_poly_text [] (aCons (iVar 0) aNil))) sNil [some (.lst (I_ A)), some (.lst (I_ B))] s = .nx [some (.lst (I_ A)), some (.lst (I_ B))] s := by simp [e1]
    have run : k02__law_ratio_text [.lst (I_ A), .lst (I_ B)] s = endB (kSeq (sRet (iBin opAdd (iBin opAdd (iBin opAdd (iBin opAdd (iC (.str "(")) (iCall k02__law_poly_text [] (aCons (iVar 0) aNil))) (iC (.str ")/("))) (iCall k02__law_poly_text [] (aCons (iVar 1) aNil))) (iC (.str ")")))) (sIf (tBl (iBin (opEq false) (iVar 1) (iN opLstF (aCons (iC (.int 1)) aNil)))) (sRet (iCall k02__law_poly_text [] (aCons (iVar 0) aNil))) sNil [some (.lst (I_ A)), some (.lst (I_ B))] s)) := rfl
    rw [run, c1, kSeq_nx]
    simp only [sRet_d, iBin_d, iC_d, R_ok, iCall_d, aCons_d, iVar_d, List.getElem?_cons_zero, List.getElem?_cons_succ, aNil_d, List.append_nil, r1, r2, lit_o, lit_c, lit_oc, m1, m2, m3, m4, ofO_s, liftS_ok, endB_ret]
end M
/-! RC19: split, replace and count over lists of signs. -/
namespace M
open PySem PySem.W Builtin Builtin.Str
/-- what stands between the places of y -/
def spF (y : List Nat) : Nat → List Nat → List (List Nat)
  | 0, l => [l]
  | n + 1, l => match partL y l with
    | some p => p.1 :: spF y n p.2
    | none => [l]
theorem spF_some {y l a r : List Nat} {n : Nat} (h : partL y l = some (a, r)) : spF y (n + 1) l = a :: spF y n r := by
  rw [spF, h]
theorem spF_none {y l : List Nat} (n : Nat) (h : partL y l = none) : spF y n l = [l] := by
  cases n with
  | zero => rfl
  | succ n => rw [spF, h]
def joinL (z : List Nat) : List (List Nat) → List Nat
  | [] => []
  | [a] => a
  | a :: b :: r => a ++ z ++ joinL z (b :: r)
theorem at_iff (x y : Str) (i : Nat) : StrLaws.At x y x.length i ↔ i ≤ (toL x).length ∧ (toL y).isPrefixOf ((toL x).drop i) = true := by
  constructor
  · intro ⟨h1, h2⟩
    rw [sub_pre] at h2
    rw [len_toL, len_toL] at h1
    exact ⟨by omega, h2⟩
  · intro ⟨h1, h2⟩
    have := pre_len h2
    rw [List.length_drop] at this
    exact ⟨by rw [len_toL, len_toL]; omega, by rw [sub_pre]; exact h2⟩
theorem parts_spF (x y : Str) : ∀ (cuts : List Nat) (a f n : Nat), StrLaws.ChainG x y x.length a cuts f → (∀ k, f ≤ k → ¬ StrLaws.At x y x.length k) → a ≤ x.length → cuts.length ≤ n → (StrLaws.partsFrom x y.length a cuts).map toL = spF (toL y) n ((toL x).drop a)
  | [], a, f, n, h, hn, ha, hl => by
    have e : f = a := h
    subst e
    have no : partL (toL y) ((toL x).drop f) = none := partL_none fun i hi => by
      cases q : (toL y).isPrefixOf (((toL x).drop f).drop i) with
      | false => rfl
      | true =>
        rw [List.drop_drop] at q
        rw [List.length_drop] at hi
        rw [len_toL] at ha
        exact absurd ((at_iff x y (f + i)).mpr ⟨by omega, q⟩) (hn _ (Nat.le_add_right _ _))
    rw [spF_none n no]
    show [toL (strSub x f x.length)] = _
    have : toL (strSub x f x.length) = (toL x).drop f := by
      show (strSub x f x.length).cps.toList = _
      rw [StrLaws.strSub_toList]
      exact List.take_of_length_le (by rw [List.length_drop, len_toL]; exact Nat.le_refl _)
    rw [this]
  | c :: r, a, f, n, h, hn, ha, hl => by
    obtain ⟨h1, h2, h3, h4⟩ := h
    cases n with
    | zero => simp at hl
    | succ n =>
      obtain ⟨p1, p2⟩ := (at_iff x y c).mp h2
      have so : partL (toL y) ((toL x).drop a) = some (((toL x).drop a).take (c - a), ((toL x).drop a).drop (c - a + (toL y).length)) := partL_some (by rw [List.length_drop]; omega) (by rw [List.drop_drop, show a + (c - a) = c by omega]; exact p2) fun k hk => by
        cases q : (toL y).isPrefixOf (((toL x).drop a).drop k) with
        | false => rfl
        | true =>
          rw [List.drop_drop] at q
          exact absurd ((at_iff x y (a + k)).mpr ⟨by omega, q⟩) (h3 _ (Nat.le_add_right _ _) (by omega))
      rw [spF_some so]
      have le : c + y.length ≤ x.length := h2.1
      have ih := parts_spF x y r (c + y.length) f n h4 hn le (by simpa using hl)
      show toL (strSub x a c) :: (StrLaws.partsFrom x y.length (c + y.length) r).map toL = _
      rw [ih, List.drop_drop, show a + (c - a + (toL y).length) = c + y.length by rw [len_toL y]; omega]
      have : toL (strSub x a c) = ((toL x).drop a).take (c - a) := StrLaws.strSub_toList x a c
      rw [this]
theorem sub_all (x : Str) : toL (strSub x 0 x.length) = toL x := by
  show (strSub x 0 x.length).cps.toList = _
  rw [StrLaws.strSub_toList, List.drop_zero]
  exact List.take_of_length_le (by rw [len_toL]; exact Nat.le_refl _)
theorem parts_is (x y : Str) (hw : 1 ≤ y.length) : (partsBetween x (occurrences x y 0 x.length (x.length + 1)) y.length).map toL = spF (toL y) (x.length + 1) (toL x) := by
  obtain ⟨f, h1, h2⟩ := StrLaws.occ_tight x y hw
  rw [StrLaws.partsBetween_eq]
  have := parts_spF x y _ 0 f (x.length + 1) h1 h2 (Nat.zero_le _) (StrLaws.occ_length_le _ _ _ _ _)
  rw [List.drop_zero] at this
  exact this
theorem parts_nil (x y : Str) (hw : 1 ≤ y.length) (h : (occurrences x y 0 x.length (x.length + 1)).isEmpty = true) : spF (toL y) (x.length + 1) (toL x) = [toL x] := by
  have := parts_is x y hw
  rw [List.isEmpty_iff.mp h, StrLaws.partsBetween_eq] at this
  rw [← this]
  show [toL (strSub x 0 x.length)] = _
  rw [sub_all]
theorem partL_short {y l : List Nat} (h : l.length < y.length) : partL y l = none := partL_none fun i hi => by
  cases q : y.isPrefixOf (l.drop i) with
  | false => rfl
  | true =>
    have := pre_len q
    rw [List.length_drop] at this
    omega
theorem kind_pos (x : Str) : 1 ≤ Builtin.Str.strKind x := by
  unfold Builtin.Str.strKind
  split
  · omega
  · split <;> omega
theorem split_is (x y : Str) (hw : 1 ≤ y.length) (hk : Builtin.Str.strKind y = 1) : (Txt.split x y).map toL = spF (toL y) (x.length + 1) (toL x) := by
  have k := kind_pos x
  unfold Txt.split
  by_cases h1 : x.length < y.length
  · rw [if_pos (by simp [h1])]
    rw [spF_none _ (partL_short (by rw [← len_toL, ← len_toL]; exact h1))]
    rfl
  · rw [if_neg (by simp [h1, hk]; omega)]
    by_cases h2 : (occurrences x y 0 x.length (x.length + 1)).isEmpty = true
    · rw [if_pos h2, parts_nil x y hw h2]
      rfl
    · rw [if_neg h2]
      exact parts_is x y hw
theorem toL_join (z : Str) : ∀ xs : List Str, toL (Str.join z xs) = joinL (toL z) (xs.map toL)
  | [] => rfl
  | [a] => rfl
  | a :: b :: r => by
    show toL (a ++ z ++ Str.join z (b :: r)) = toL a ++ toL z ++ joinL (toL z) ((b :: r).map toL)
    rw [toL_app, toL_app, toL_join z (b :: r)]
theorem replace_is (x y z : Str) (hw : 1 ≤ y.length) : toL (Txt.replace x y z) = joinL (toL z) (spF (toL y) (x.length + 1) (toL x)) := by
  unfold Txt.replace
  have e : (y.length == 0) = false := by rw [beq_eq_false_iff_ne]; omega
  by_cases h2 : (occurrences x y 0 x.length (x.length + 1)).isEmpty = true
  · rw [if_pos (by rw [h2]; rfl), parts_nil x y hw h2]
    rfl
  · rw [if_neg (by rw [e]; simpa using h2), StrLaws.glued_eq_join, toL_join, parts_is x y hw]
theorem partsFrom_len (x : Str) (w : Nat) : ∀ (a : Nat) (cuts : List Nat), (StrLaws.partsFrom x w a cuts).length = cuts.length + 1
  | _, [] => rfl
  | a, c :: r => by
    show (StrLaws.partsFrom x w (c + w) r).length + 1 = _
    rw [partsFrom_len x w (c + w) r]
    rfl
theorem count_is (x y : Str) (hw : 1 ≤ y.length) : Txt.count x y = ((spF (toL y) (x.length + 1) (toL x)).length : Int) - 1 := by
  have h := congrArg List.length (parts_is x y hw)
  rw [List.length_map, StrLaws.partsBetween_eq, partsFrom_len] at h
  unfold Txt.count
  rw [← h]
  omega
end M
/-! RC20: a part read back. -/
namespace M
open PySem PySem.W Builtin Builtin.Str
theorem digit_in {c : Nat} (h : 48 ≤ c ∧ c ≤ 57) (st : Sto) : opIn false (.str (T_ [c])) (.str "0123456789") st = some (.bl true, st) := by
  have : c = 48 ∨ c = 49 ∨ c = 50 ∨ c = 51 ∨ c = 52 ∨ c = 53 ∨ c = 54 ∨ c = 55 ∨ c = 56 ∨ c = 57 := by omega
  rcases this with rfl | rfl | rfl | rfl | rfl | rfl | rfl | rfl | rfl | rfl <;> kernel_rfl
theorem nxS_at (l : List Nat) (i : Nat) (st : Sto) : nxS (T_ l) i st = some (l.map fun c => D.str (T_ [c]))[i]? := by
  unfold nxS
  rw [List.getElem?_map]
  have : (T_ l).cps[i]? = l[i]? := by simp
  rw [this]
  cases l[i]? with
  | none => rfl
  | some c => rfl
theorem len_txt {l : List Nat} (h : l.length ≤ 1000000) (st : Sto) : opLen [.str (T_ l)] st = some (.int l.length, st) := by
  have := sizeLine_big
  simp only [opLen, lenD]
  rw [if_pos (by rw [T_len]; omega), T_len]
  rfl
theorem digits_ok {l : List Nat} (h : NumText.AllDigits l) (h0 : l ≠ []) (hl : l.length ≤ 4000) (st : Sto) : p_is_digits [.str (T_ l)] st = .ok (.bl true) st := by
  have lp := List.length_pos_iff.mpr h0
  have ln := len_txt (l := l) (by omega) st
  have c1 : opLe (.int 1) (.int (l.length : Int)) st = some (.bl true, st) := by
    show some (D.bl (decide ((1 : Int) ≤ (l.length : Int))), st) = _
    rw [decide_eq_true (by omega)]
  have c2 : opLe (.int (l.length : Int)) (.int 4000) st = some (.bl true, st) := by
    show some (D.bl (decide ((l.length : Int) ≤ 4000)), st) = _
    rw [decide_eq_true (by omega)]
  have cp := compF_map (p := .one 1) (e := iBin (opIn false) (iVar 1) (iC (.str "0123456789"))) (env0 := [some (.str (T_ l)), none]) (st := st) (xs := l.map fun c => D.str (T_ [c])) (fun _ => D.bl true) (nxS_at l) (fun d hd => by
    obtain ⟨c, hc, rfl⟩ := List.mem_map.mp hd
    exact ⟨_, rfl, by simp [digit_in (h c hc)]⟩) l.length 0 [] (by simp) (by have := sizeLine_big; simp; omega)
  have al := all_true (l.map fun c => D.str (T_ [c])) st
  rw [List.drop_zero, List.nil_append] at cp
  generalize (List.map (fun _ => D.bl true) (l.map fun c => D.str (T_ [c]))) = W at cp al
  have sz : (T_ l).cps.size = l.length := by simp
  simp [p_is_digits, B_p_is_digits, ln, c1, c2, Pat.slots, wipeE, sz]
  rw [cp]
  simp [al]
theorem starts_txt (l m : List Nat) (st : Sto) : opStarts (.str (T_ l)) (.str (T_ m)) st = some (.bl (m.isPrefixOf l), st) := by
  show some (D.bl (Txt.startswith (T_ l) (T_ m)), st) = _
  rw [sw_eq, toL_mk, toL_mk]
theorem part_txt {l m : List Nat} (h : l.length ≤ 1000000) (hm : m ≠ []) (st : Sto) : opPart (.str (T_ l)) (.str (T_ m)) st = some ((match partL m l with
    | some p => .tup [.str (T_ p.1), .str (T_ m), .str (T_ p.2)]
    | none => .tup [.str (T_ l), .str (T_ []), .str (T_ [])]), st) := by
  have mp := List.length_pos_iff.mpr hm
  have := sizeLine_big
  have c : ((T_ m).length == 0) = false ∧ (T_ l).length ≤ sizeLine := ⟨by rw [T_len, beq_eq_false_iff_ne]; omega, by rw [T_len]; omega⟩
  show (if ((T_ m).length == 0) = false ∧ (T_ l).length ≤ sizeLine then some (D.tup [.str (Txt.partition (T_ l) (T_ m)).1, .str (Txt.partition (T_ l) (T_ m)).2.1, .str (Txt.partition (T_ l) (T_ m)).2.2], st) else none) = _
  rw [if_pos c, part_eq, toL_mk, toL_mk]
  cases partL m l with
  | none => rfl
  | some p => rfl
theorem from_txt {l : List Nat} (k : Nat) (h : l.length ≤ 1000000) (st : Sto) : opSl (.str (T_ l)) (some (k : Int)) none st = some (.str (T_ (l.drop k)), st) := by
  have := sizeLine_big
  have e : L2.cutS (T_ l) (some (k : Int)) none = T_ (l.drop k) := toL_inj (by rw [cut_from, toL_mk, toL_mk])
  show (if (T_ l).length ≤ sizeLine then some (D.str (L2.cutS (T_ l) (some (k : Int)) none), st) else none) = _
  rw [if_pos (by rw [T_len]; omega), e]
theorem int_txt {m : Nat} (h : (numL m).length ≤ 640) (st : Sto) : opIntS [.str (T_ (numL m))] st = some (.int (m : Int), st) := by
  show (if (T_ (numL m)).length ≤ 640 then (PySem.intText? (T_ (numL m))).map (fun n => (D.int n, st)) else none) = _
  rw [if_pos (by rw [T_len]; exact h), num_read (by omega)]
  rfl
theorem num_no {m c : Nat} (h : c < 48 ∨ 57 < c) : c ∉ numL m := fun hc => by
  have := num_digits m c hc
  omega
theorem pow_no {p c : Nat} (h : c < 48 ∨ 57 < c) (h2 : c ≠ 110) (h3 : c ≠ 94) : c ∉ powL p := fun hc => by
  unfold powL at hc
  split at hc
  · simp at hc; exact h2 hc
  · rcases List.mem_append.mp hc with q | q
    · simp at q; omega
    · exact num_no h q
theorem partL_none_of {c : Nat} {y l : List Nat} (h : c ∉ l) : partL (c :: y) l = none := by
  have := partL_skip (y := y) (r := []) h
  rw [List.append_nil] at this
  rw [this]
  have : partL (c :: y) [] = none := by
    unfold partL
    rfl
  rw [this]
  rfl
theorem zeros_n {p : Nat} (h : p ≤ 900) (st : Sto) : opMulZ (.tup [.int 0]) (.int (p : Int)) st = some (.tup (I_ (List.replicate p 0)), st) := by
  have := zeros_ok (m := p) (n := 0) (Nat.zero_le _) h st
  simpa using this
theorem num_first (m : Nat) : ∃ c r, numL m = c :: r ∧ 48 ≤ c ∧ c ≤ 57 := by
  cases h : numL m with
  | nil => exact absurd h (num_ne m)
  | cons c r =>
    have := num_digits m c (by rw [h]; exact List.mem_cons_self)
    exact ⟨c, r, rfl, this⟩
theorem num_one : numL 1 = [49] := by decide
end M
/-! RC21: term_in reads a part. -/
namespace M
open PySem PySem.W Builtin Builtin.Str
abbrev trC : IS := sIf (tNot' (tTru (iCall p_is_digits [] (aCons (iVar 1) aNil)))) (sRet (iC .non)) sNil
abbrev trD : IS := sIf (tAnd' (tBl (iBin (opEq false) (iVar 2) (iC (.str "")))) (tNot' (tTru (iM1 opStarts (iVar 0) (iC (.str "n")))))) (sRet (iN opTup (aCons (iN opIntS (aCons (iVar 1) aNil)) aNil))) sNil
abbrev trE : IS := sIf (tBl (iBin (opEq false) (iVar 3) (iC (.str "n")))) (sRet (iN opTup (aCons (iC (.int 0)) (aCons (iN opIntS (aCons (iVar 1) aNil)) aNil)))) sNil
abbrev trF : IS := sIf (tOr' (tNot' (tTru (iM1 opStarts (iVar 3) (iC (.str "n^"))))) (tOr' (tNot' (tTru (iCall p_is_digits [] (aCons (iSl (iVar 3) (oSome (iC (.int 2))) oNone) aNil)))) (tBl (iBin opGt (iN opIntS (aCons (iSl (iVar 3) (oSome (iC (.int 2))) oNone) aNil)) (iC (.int 99)))))) (sRet (iC .non)) sNil
abbrev trG : IS := sRet (iBin opAdd (iBin opMulZ (iN opTup (aCons (iC (.int 0)) aNil)) (iN opIntS (aCons (iSl (iVar 3) (oSome (iC (.int 2))) oNone) aNil))) (iN opTup (aCons (iN opIntS (aCons (iVar 1) aNil)) aNil)))
abbrev trT : IS := sSeq trC (sSeq trD (sSeq trE (sSeq trF trG)))
theorem tail_num {m : Nat} (hl : (numL m).length ≤ 640) (x3 : Option D) (st : Sto) : endB (trT [some (.str (T_ (numL m))), some (.str (T_ (numL m))), some (.str (T_ [])), x3] st) = .ok (.tup (I_ (mon 0 (m : Int)))) st := by
  have d := digits_ok (num_digits m) (num_ne m) (by omega) st
  have e := eq_txt false [] [] st
  have s := starts_txt (numL m) [110] st
  obtain ⟨c, r, h1, h2, h3⟩ := num_first m
  have pf : [110].isPrefixOf (numL m) = false := by
    rw [h1]
    have : (110 == c) = false := by rw [beq_eq_false_iff_ne]; omega
    simp [List.isPrefixOf, this]
  rw [pf] at s
  have i := int_txt hl st
  simp [trT, trC, trD, d, lit_nil, e, lit_n, s, i, mon]
theorem tail_pow {p m : Nat} {w s : List Nat} (hp : p ≤ 99) (p0 : p ≠ 0) (hl : (numL m).length ≤ 640) (hs : s ≠ [] ∨ [110].isPrefixOf w = true) (st : Sto) : endB (trT [some (.str (T_ w)), some (.str (T_ (numL m))), some (.str (T_ s)), some (.str (T_ (powL p)))] st) = .ok (.tup (I_ (mon p (m : Int)))) st := by
  have d := digits_ok (num_digits m) (num_ne m) (by omega) st
  have e := eq_txt false s [] st
  have sw := starts_txt w [110] st
  have i := int_txt hl st
  have e2 := eq_txt false (powL p) [110] st
  have cD : trD [some (.str (T_ w)), some (.str (T_ (numL m))), some (.str (T_ s)), some (.str (T_ (powL p)))] st = .nx [some (.str (T_ w)), some (.str (T_ (numL m))), some (.str (T_ s)), some (.str (T_ (powL p)))] st := by
    by_cases q : s = []
    · have h := hs.resolve_left (fun z => z q)
      rw [h] at sw
      subst q
      simp [trD, lit_nil, e, lit_n, sw]
    · simp [trD, lit_nil, e, q]
  have cC : trC [some (.str (T_ w)), some (.str (T_ (numL m))), some (.str (T_ s)), some (.str (T_ (powL p)))] st = .nx [some (.str (T_ w)), some (.str (T_ (numL m))), some (.str (T_ s)), some (.str (T_ (powL p)))] st := by simp [trC, d]
  rw [trT, sSeq_d, cC, kSeq_nx, sSeq_d, cD, kSeq_nx]
  by_cases o : p = 1
  · subst o
    have pe : powL 1 = [110] := rfl
    rw [pe] at e2 ⊢
    simp [trE, lit_n, e2, i, mon]
  · have pe : powL p = [110, 94] ++ numL p := if_neg o
    have nl : (numL p).length ≤ 2 := num_len (by decide) (by omega)
    have ne : ¬ [110, 94] ++ numL p = [110] := by simp
    have st2 := starts_txt ([110, 94] ++ numL p) [110, 94] st
    have pf : [110, 94].isPrefixOf ([110, 94] ++ numL p) = true := by simp [List.isPrefixOf]
    rw [pf] at st2
    have sl := from_txt (l := [110, 94] ++ numL p) 2 (by simp; omega) st
    have dr : List.drop 2 ([110, 94] ++ numL p) = numL p := rfl
    rw [dr] at sl
    have d2 := digits_ok (num_digits p) (num_ne p) (by omega) st
    have i2 := int_txt (m := p) (by omega) st
    have z := zeros_n (p := p) (by omega) st
    have ad := addt_ok (a := List.replicate p 0) (b := [(m : Int)]) (by simp; omega) st
    have gt : opGt (.int (p : Int)) (.int 99) st = some (.bl false, st) := by
      rw [cmpGt, decide_eq_false (by omega)]
    rw [pe] at e2 ⊢
    rw [decide_eq_false ne] at e2
    generalize hP : [110, 94] ++ numL p = P at *
    have sl' : opSl (.str (T_ P)) (some 2) none st = some (.str (T_ (numL p)), st) := sl
    have ad' : opAdd (.tup (I_ (List.replicate p 0))) (.tup [.int (m : Int)]) st = some (.tup (I_ (mon p (m : Int))), st) := ad
    generalize I_ (List.replicate p (0 : Int)) = Z at z ad'
    generalize I_ (mon p (m : Int)) = Mn at ad' ⊢
    simp [trE, trF, trG, lit_n, lit_np, e2, st2, sl', d2, i2, gt, z, i, ad']
theorem term_ok {p m : Nat} (hp : p ≤ 99) (hl : (numL m).length ≤ 640) (st : Sto) : p_term_in [.str (T_ (wordL p m))] st = .ok (.tup (I_ (mon p (m : Int)))) st := by
  have run : ∀ w, p_term_in [.str (T_ w)] st = endB (kSeq (sSeq (sIf (tAnd' (tBl (iBin (opEq false) (iVar 2) (iC (.str "")))) (tTru (iM1 opStarts (iVar 0) (iC (.str "n"))))) (sPar 1 3 (aCons (iC (.str "1")) (aCons (iVar 0) aNil))) sNil) trT) (sAsg (gTup' 3 (gsVar 1 (gsVar 2 (gsVar 3 gsNil)))) (iM1 opPart (iVar 0) (iC (.str "*"))) [some (.str (T_ w)), none, none, none] st)) := fun w => rfl
  rw [run]
  have pl := pow_len (p := p) (by omega)
  have e := eq_txt false [] [] st
  obtain ⟨c0, r0, g1, g2, g3⟩ := num_first m
  by_cases p0 : p = 0
  · subst p0
    have w0 : wordL 0 m = numL m := rfl
    rw [w0]
    have pt := part_txt (l := numL m) (m := [42]) (by omega) (by simp) st
    rw [partL_none_of (num_no (by omega))] at pt
    have s := starts_txt (numL m) [110] st
    have pf : [110].isPrefixOf (numL m) = false := by
      rw [g1]
      have : (110 == c0) = false := by rw [beq_eq_false_iff_ne]; omega
      simp [List.isPrefixOf, this]
    rw [pf] at s
    have a1 : sAsg (gTup' 3 (gsVar 1 (gsVar 2 (gsVar 3 gsNil)))) (iM1 opPart (iVar 0) (iC (.str "*"))) [some (.str (T_ (numL m))), none, none, none] st = .nx [some (.str (T_ (numL m))), some (.str (T_ (numL m))), some (.str (T_ [])), some (.str (T_ []))] st := by simp [lit_star, pt]
    have a2 : sIf (tAnd' (tBl (iBin (opEq false) (iVar 2) (iC (.str "")))) (tTru (iM1 opStarts (iVar 0) (iC (.str "n"))))) (sPar 1 3 (aCons (iC (.str "1")) (aCons (iVar 0) aNil))) sNil [some (.str (T_ (numL m))), some (.str (T_ (numL m))), some (.str (T_ [])), some (.str (T_ []))] st = .nx [some (.str (T_ (numL m))), some (.str (T_ (numL m))), some (.str (T_ [])), some (.str (T_ []))] st := by simp [lit_nil, lit_n, e, s]
    rw [a1, kSeq_nx, sSeq_d, a2, kSeq_nx]
    exact tail_num hl _ st
  · by_cases m1 : m = 1
    · subst m1
      have w0 : wordL p 1 = powL p := by
        unfold wordL
        rw [if_neg p0, if_pos rfl]
      rw [w0]
      have pt := part_txt (l := powL p) (m := [42]) (by omega) (by simp) st
      rw [partL_none_of (pow_no (by omega) (by omega) (by omega))] at pt
      have s := starts_txt (powL p) [110] st
      have pf : [110].isPrefixOf (powL p) = true := by
        unfold powL
        split <;> simp [List.isPrefixOf]
      rw [pf] at s
      have n1 : T_ [49] = T_ (numL 1) := by rw [num_one]
      have tp := tail_pow (p := p) (m := 1) (w := powL p) (s := []) hp p0 hl (.inr pf) st
      generalize powL p = P at *
      have a1 : sAsg (gTup' 3 (gsVar 1 (gsVar 2 (gsVar 3 gsNil)))) (iM1 opPart (iVar 0) (iC (.str "*"))) [some (.str (T_ P)), none, none, none] st = .nx [some (.str (T_ P)), some (.str (T_ P)), some (.str (T_ [])), some (.str (T_ []))] st := by simp [lit_star, pt]
      have a2 : sIf (tAnd' (tBl (iBin (opEq false) (iVar 2) (iC (.str "")))) (tTru (iM1 opStarts (iVar 0) (iC (.str "n"))))) (sPar 1 3 (aCons (iC (.str "1")) (aCons (iVar 0) aNil))) sNil [some (.str (T_ P)), some (.str (T_ P)), some (.str (T_ [])), some (.str (T_ []))] st = .nx [some (.str (T_ P)), some (.str (T_ (numL 1))), some (.str (T_ [])), some (.str (T_ P))] st := by
        rw [← n1]
        simp [lit_nil, lit_n, lit_1, e, s]
      rw [a1, kSeq_nx, sSeq_d, a2, kSeq_nx]
      exact tp
    · have w0 : wordL p m = numL m ++ [42] ++ powL p := by
        unfold wordL
        rw [if_neg p0, if_neg m1]
      rw [w0]
      have pt := part_txt (l := numL m ++ [42] ++ powL p) (m := [42]) (by simp; omega) (by simp) st
      have hp2 : partL [42] (numL m ++ [42] ++ powL p) = some (numL m, powL p) := by
        rw [List.append_assoc, partL_skip (num_no (by omega))]
        have : partL [42] ([42] ++ powL p) = some ([], powL p) := by
          show partL [42] (42 :: powL p) = _
          unfold partL
          simp [List.isPrefixOf]
        rw [this]
        simp
      rw [hp2] at pt
      have e2 := eq_txt false [42] [] st
      have tp := tail_pow (p := p) (m := m) (w := numL m ++ [42] ++ powL p) (s := [42]) hp p0 hl (.inl (by simp)) st
      generalize numL m ++ [42] ++ powL p = W at *
      generalize powL p = P at *
      have a1 : sAsg (gTup' 3 (gsVar 1 (gsVar 2 (gsVar 3 gsNil)))) (iM1 opPart (iVar 0) (iC (.str "*"))) [some (.str (T_ W)), none, none, none] st = .nx [some (.str (T_ W)), some (.str (T_ (numL m))), some (.str (T_ [42])), some (.str (T_ P))] st := by simp [lit_star, pt]
      have a2 : sIf (tAnd' (tBl (iBin (opEq false) (iVar 2) (iC (.str "")))) (tTru (iM1 opStarts (iVar 0) (iC (.str "n"))))) (sPar 1 3 (aCons (iC (.str "1")) (aCons (iVar 0) aNil))) sNil [some (.str (T_ W)), some (.str (T_ (numL m))), some (.str (T_ [42])), some (.str (T_ P))] st = .nx [some (.str (T_ W)), some (.str (T_ (numL m))), some (.str (T_ [42])), some (.str (T_ P))] st := by simp [lit_nil, e2]
      rw [a1, kSeq_nx, sSeq_d, a2, kSeq_nx]
      exact tp
end M
/-! RC22: a row's text taken apart. -/
namespace M
open PySem PySem.W Builtin Builtin.Str
abbrev tW (t : Tm) : List Nat := wordL t.1 t.2.natAbs
/-- a part with its sign, as it stands behind the replacing -/
abbrev sW (t : Tm) : List Nat := (if t.2 < 0 then [45] else []) ++ tW t
def rest2 (ts : List Tm) : List Nat := ts.flatMap fun t => [32, 43, 32] ++ sW t
theorem rest_cons (t : Tm) (ts : List Tm) : restL (t :: ts) = (if t.2 < 0 then [32, 45, 32] else [32, 43, 32]) ++ (tW t ++ restL ts) := by simp [restL]
theorem rest2_cons (t : Tm) (ts : List Tm) : rest2 (t :: ts) = [32, 43, 32] ++ (sW t ++ rest2 ts) := by simp [rest2]
theorem word_no (p m : Nat) : 32 ∉ wordL p m := fun h => by
  unfold wordL at h
  split at h
  · exact num_no (by omega) h
  · split at h
    · exact pow_no (by omega) (by omega) (by omega) h
    · rcases List.mem_append.mp h with h | h
      · rcases List.mem_append.mp h with h | h
        · exact num_no (by omega) h
        · simp at h
      · exact pow_no (by omega) (by omega) (by omega) h
theorem word_first (p m : Nat) : ∃ c r, wordL p m = c :: r ∧ c ≠ 45 ∧ c ≠ 32 ∧ c ≠ 40 := by
  obtain ⟨c, r, h1, h2, h3⟩ := num_first m
  unfold wordL powL
  split
  · exact ⟨c, r, h1, by omega, by omega, by omega⟩
  · split
    · split
      · exact ⟨110, [], rfl, by decide, by decide, by decide⟩
      · exact ⟨110, 94 :: numL p, rfl, by decide, by decide, by decide⟩
    · rw [h1]
      exact ⟨c, _, rfl, by omega, by omega, by omega⟩
theorem sW_no (t : Tm) : 32 ∉ sW t := fun h => by
  rcases List.mem_append.mp h with h | h
  · split at h <;> simp at h
  · exact word_no _ _ h
theorem partL_head {y : List Nat} {c : Nat} {l : List Nat} (h : y.isPrefixOf (c :: l) = false) : partL y (c :: l) = (partL y l).map fun p => (c :: p.1, p.2) := by
  rw [partL, h]
  rfl
theorem partL_at {y l : List Nat} : partL y (y ++ l) = some ([], l) := by
  have pf : y.isPrefixOf (y ++ l) = true := by
    rw [List.isPrefixOf_iff_prefix]
    exact List.prefix_append _ _
  cases h : y ++ l with
  | nil =>
    obtain ⟨h1, h2⟩ := List.append_eq_nil_iff.mp h
    subst h1 h2
    rfl
  | cons c r =>
    rw [h] at pf
    rw [partL, pf]
    have : (c :: r).drop y.length = l := by rw [← h]; simp
    simp [this]
/-- " + " and a part hold no " - " -/
theorem skip_plus {c : Nat} {r : List Nat} (hc : c ≠ 45) : partL [32, 45, 32] ([32, 43, 32] ++ (c :: r)) = (partL [32, 45, 32] (c :: r)).map fun p => ([32, 43, 32] ++ p.1, p.2) := by
  have e : (45 == c) = false := by rw [beq_eq_false_iff_ne]; omega
  show partL [32, 45, 32] (32 :: 43 :: 32 :: c :: r) = _
  rw [partL_head (by simp [List.isPrefixOf]), partL_head (by simp [List.isPrefixOf]), partL_head (by simp [List.isPrefixOf, e])]
  simp [Function.comp_def]
theorem spF_ne (y : List Nat) : ∀ (n : Nat) (l : List Nat), ∃ a r, spF y n l = a :: r
  | 0, l => ⟨l, [], rfl⟩
  | n + 1, l => by
    cases h : partL y l with
    | none => exact ⟨l, [], by rw [spF, h]⟩
    | some p => exact ⟨p.1, spF y n p.2, by rw [spF, h]⟩
theorem join_pre {y z pre l : List Nat} (h : partL y (pre ++ l) = (partL y l).map fun p => (pre ++ p.1, p.2)) (n : Nat) : joinL z (spF y n (pre ++ l)) = pre ++ joinL z (spF y n l) := by
  cases n with
  | zero => rfl
  | succ n =>
    cases q : partL y l with
    | none =>
      rw [q] at h
      rw [spF_none _ h, spF_none _ q]
      rfl
    | some p =>
      rw [q] at h
      rw [spF_some (show partL y (pre ++ l) = some (pre ++ p.1, p.2) from h), spF_some (show partL y l = some (p.1, p.2) from q)]
      obtain ⟨a, r, e⟩ := spF_ne y n p.2
      rw [e]
      simp [joinL]
theorem repl_is : ∀ (ts : List Tm) (w : List Nat) (n : Nat), 32 ∉ w → ts.length ≤ n → joinL [32, 43, 32, 45] (spF [32, 45, 32] n (w ++ restL ts)) = w ++ rest2 ts
  | [], w, n, hw, _ => by
    have e : w ++ restL [] = w := by simp [restL]
    rw [e, spF_none n (partL_none_of hw)]
    simp [joinL, rest2]
  | t :: ts, w, n, hw, hn => by
    obtain ⟨c, r, h1, h2, h3, _⟩ := word_first t.1 t.2.natAbs
    cases n with
    | zero => simp at hn
    | succ n =>
      rw [rest_cons, rest2_cons]
      by_cases q : t.2 < 0
      · have ih := repl_is ts (tW t) n (word_no _ _) (by simpa using hn)
        rw [if_pos q]
        have so : partL [32, 45, 32] (w ++ ([32, 45, 32] ++ (tW t ++ restL ts))) = some (w, tW t ++ restL ts) := by
          rw [partL_skip hw, partL_at]
          simp
        rw [spF_some so]
        obtain ⟨a, b, e⟩ := spF_ne [32, 45, 32] n (tW t ++ restL ts)
        rw [e] at ih ⊢
        show w ++ [32, 43, 32, 45] ++ joinL [32, 43, 32, 45] (a :: b) = _
        rw [ih]
        simp [sW, q]
      · have ih := repl_is ts (tW t) (n + 1) (word_no _ _) (by simp at hn; omega)
        rw [if_neg q]
        have so : partL [32, 45, 32] ((w ++ [32, 43, 32]) ++ (tW t ++ restL ts)) = (partL [32, 45, 32] (tW t ++ restL ts)).map fun p => ((w ++ [32, 43, 32]) ++ p.1, p.2) := by
          have e : tW t ++ restL ts = c :: (r ++ restL ts) := by rw [show tW t = c :: r from h1]; rfl
          rw [e, List.append_assoc, partL_skip hw, skip_plus h2]
          simp [Function.comp_def]
        rw [show w ++ ([32, 43, 32] ++ (tW t ++ restL ts)) = (w ++ [32, 43, 32]) ++ (tW t ++ restL ts) by simp, join_pre so, ih]
        simp [sW, q]
theorem split_ts : ∀ (ts : List Tm) (w : List Nat) (n : Nat), 32 ∉ w → ts.length ≤ n → spF [32, 43, 32] n (w ++ rest2 ts) = w :: ts.map sW
  | [], w, n, hw, _ => by
    have e : w ++ rest2 [] = w := by simp [rest2]
    rw [e, spF_none n (partL_none_of hw)]
    rfl
  | t :: ts, w, n, hw, hn => by
    cases n with
    | zero => simp at hn
    | succ n =>
      have ih := split_ts ts (sW t) n (sW_no t) (by simpa using hn)
      rw [rest2_cons]
      have so : partL [32, 43, 32] (w ++ ([32, 43, 32] ++ (sW t ++ rest2 ts))) = some (w, sW t ++ rest2 ts) := by
        rw [partL_skip hw, partL_at]
        simp
      rw [spF_some so, ih]
      rfl
theorem rest2_len : ∀ {ts : List Tm}, (∀ t ∈ ts, TmOk t) → (rest2 ts).length ≤ 652 * ts.length
  | [], _ => by simp [rest2]
  | t :: ts, h => by
    have ih := rest2_len fun x hx => h x (List.mem_cons_of_mem t hx)
    have w := word_len (h t List.mem_cons_self)
    rw [rest2_cons, List.length_append, List.length_append, List.length_cons]
    have : (sW t).length ≤ 648 := by
      show ((if t.2 < 0 then [45] else []) ++ tW t).length ≤ 648
      rw [List.length_append]
      have : (if t.2 < 0 then [45] else [] : List Nat).length ≤ 1 := by split <;> simp
      show _ + (wordL t.1 t.2.natAbs).length ≤ 648
      omega
    simp only [List.length_cons, List.length_nil]
    omega
/-- the words of a text -/
theorem words_ok {ts : List Tm} {w : List Nat} (hw : 32 ∉ w) (hwl : w.length ≤ 700) (hts : ∀ t ∈ ts, TmOk t) (hn : ts.length ≤ 100) (st : Sto) :
    ∃ X, opRepl " - " " + -" (.str (T_ (w ++ restL ts))) st = some (.str X, st) ∧ opSplit (.str X) (.str (T_ [32, 43, 32])) st = some (.lst ((w :: ts.map sW).map fun l => D.str (T_ l)), st) := by
  have r1 := rest_len hts
  have r2 := rest2_len hts
  have big := sizeLine_big
  have a1 := Nat.mul_le_mul_left 650 hn
  have a2 := Nat.mul_le_mul_left 652 hn
  have e1 : toL (" - " : Str) = [32, 45, 32] := by decide
  have e2 : toL (" + -" : Str) = [32, 43, 32, 45] := by decide
  have l1 : (" - " : Str).length = 3 := by decide
  have l2 : (" + -" : Str).length = 4 := by decide
  have tl : (T_ (w ++ restL ts)).length = w.length + (restL ts).length := by rw [T_len, List.length_append]
  have ri := replace_is (T_ (w ++ restL ts)) " - " " + -" (by rw [l1]; decide)
  rw [e1, e2, toL_mk, repl_is ts w _ hw (by
    rw [tl]
    have : ts.length ≤ (restL ts).length := by
      clear r1 r2 a1 a2 hn hts ri tl
      induction ts with
      | nil => simp
      | cons t ts ih =>
        rw [rest_cons, List.length_append, List.length_append, List.length_cons]
        have : (if t.2 < 0 then [32, 45, 32] else [32, 43, 32] : List Nat).length = 3 := by split <;> rfl
        omega
    omega)] at ri
  have Xe : Txt.replace (T_ (w ++ restL ts)) " - " " + -" = T_ (w ++ rest2 ts) := toL_inj (ri.trans (toL_mk _).symm)
  refine ⟨T_ (w ++ rest2 ts), ?_, ?_⟩
  · show (if (T_ (w ++ restL ts)).length + ((T_ (w ++ restL ts)).length + 1) * (" + -" : Str).length ≤ 16777216 then some (D.str (Txt.replace (T_ (w ++ restL ts)) " - " " + -"), st) else none) = _
    rw [if_pos (by rw [l2, tl]; omega), Xe]
  · have c : ((T_ [32, 43, 32]).length == 0) = false ∧ (T_ (w ++ rest2 ts)).length + 2 ≤ sizeLine := ⟨by rw [T_len]; rfl, by rw [T_len, List.length_append]; omega⟩
    show (if ((T_ [32, 43, 32]).length == 0) = false ∧ (T_ (w ++ rest2 ts)).length + 2 ≤ sizeLine then some (D.lst ((Txt.split (T_ (w ++ rest2 ts)) (T_ [32, 43, 32])).map D.str), st) else none) = _
    rw [if_pos c]
    have si := split_is (T_ (w ++ rest2 ts)) (T_ [32, 43, 32]) (by rw [T_len]; decide) (by kernel_rfl)
    rw [toL_mk, toL_mk, split_ts ts w _ hw (by
      rw [T_len, List.length_append]
      have : ts.length ≤ (rest2 ts).length := by
        clear r1 r2 a1 a2 hn hts ri tl Xe c si
        induction ts with
        | nil => simp
        | cons t ts ih =>
          rw [rest2_cons, List.length_append, List.length_append, List.length_cons]
          simp only [List.length_cons, List.length_nil]
          omega
      omega)] at si
    have : Txt.split (T_ (w ++ rest2 ts)) (T_ [32, 43, 32]) = (w :: ts.map sW).map T_ := by
      rw [← si, List.map_map]
      have : (T_ ∘ toL : Str → Str) = _root_.id := funext fun x => (str_mk (x := x) rfl).symm
      rw [this, List.map_id]
    rw [this, List.map_map]
    rfl
end M
/-! RC23: row_in reads a row's text. -/
namespace M
open PySem PySem.W Builtin Builtin.Str
def sumT : List Tm → Nat → Int
  | [], _ => 0
  | t :: ts, n => (if n = t.1 then t.2 else 0) + sumT ts n
theorem sumT_snoc (t : Tm) (n : Nat) : ∀ ts : List Tm, sumT (ts ++ [t]) n = sumT ts n + if n = t.1 then t.2 else 0
  | [] => by simp [sumT]
  | a :: ts => by
    show (if n = a.1 then a.2 else 0) + sumT (ts ++ [t]) n = (if n = a.1 then a.2 else 0) + sumT ts n + _
    rw [sumT_snoc t n ts]
    omega
theorem tmK_sum (r : List Int) (n : Nat) : ∀ i, i ≤ r.length → sumT (tmK r i) n = if r.length - i ≤ n ∧ n < r.length then co r n else 0
  | 0, _ => by
    rw [if_neg (by omega)]
    rfl
  | i + 1, hi => by
    have ih := tmK_sum r n i (by omega)
    unfold tmK
    by_cases z : co r (r.length - 1 - i) = 0
    · rw [if_pos z, List.append_nil, ih]
      by_cases q : n = r.length - 1 - i
      · subst q
        rw [z]
        split <;> split <;> rfl
      · by_cases w : r.length - i ≤ n ∧ n < r.length
        · rw [if_pos w, if_pos (by omega)]
        · rw [if_neg w, if_neg (by omega)]
    · rw [if_neg z, sumT_snoc, ih]
      by_cases q : n = r.length - 1 - i
      · rw [if_neg (by omega), if_pos q, if_pos (by omega), ← q]
        simp
      · rw [if_neg q]
        by_cases w : r.length - i ≤ n ∧ n < r.length
        · rw [if_pos w, if_pos (by omega), Int.add_zero]
        · rw [if_neg w, if_neg (by omega)]
          rfl
theorem tms_sum (r : List Int) (n : Nat) : sumT (tms r) n = co r n := by
  rw [tms, tmK_sum r n r.length (Nat.le_refl _)]
  by_cases h : n < r.length
  · rw [if_pos (by omega)]
  · rw [if_neg (by omega), co_out (by omega)]
theorem tmK_lt {r : List Int} : ∀ i, i ≤ r.length → ∀ t ∈ tmK r i, t.1 < r.length
  | 0, _, t, ht => by simp [tmK] at ht
  | i + 1, hi, t, ht => by
    rcases List.mem_append.mp ht with h | h
    · exact tmK_lt i (by omega) t h
    · split at h
      · simp at h
      · rw [List.mem_singleton.mp h]
        show r.length - 1 - i < r.length
        omega
/-- the parts that stand in the text -/
def lst (r : List Int) : List Tm := if tms r = [] then [(0, 0)] else tms r
theorem num_zero : numL 0 = [48] := by decide
theorem poly_lst (r : List Int) : polyL r = accL (lst r) := by
  unfold polyL lst
  split
  · show [48] = [] ++ numL 0 ++ []
    rw [num_zero]
    rfl
  · rfl
theorem lst_sum (r : List Int) (n : Nat) : sumT (lst r) n = co r n := by
  unfold lst
  split
  · rename_i h
    have := tms_sum r n
    rw [h] at this
    rw [← this]
    show (if n = 0 then (0 : Int) else 0) + 0 = 0
    split <;> rfl
  · exact tms_sum r n
/-- what reading a part asks -/
def RdOk (t : Tm) : Prop := t.1 ≤ 99 ∧ (numL t.2.natAbs).length ≤ 640
theorem lst_ok {r : List Int} (h0 : r ≠ []) (hl : r.length ≤ 100) (hb : Bd 1900 r) : (∀ t ∈ lst r, RdOk t) ∧ (lst r).length ≤ 100 ∧ ∃ t ts, lst r = t :: ts ∧ ∀ x ∈ ts, TmOk x := by
  obtain ⟨k1, k2⟩ := tmK_ok (by omega) hb r.length (Nat.le_refl _)
  have k3 := tmK_lt (r := r) r.length (Nat.le_refl _)
  unfold lst
  split
  · refine ⟨fun t ht => ?_, by simp, (0, 0), [], rfl, fun x hx => by simp at hx⟩
    rw [List.mem_singleton.mp ht]
    refine ⟨by decide, ?_⟩
    show (numL 0).length ≤ 640
    rw [num_zero]
    decide
  · rename_i h
    refine ⟨fun t ht => ⟨?_, (k1 t ht).2.1⟩, by show (tmK r r.length).length ≤ 100; omega, ?_⟩
    · have := k3 t ht
      omega
    · cases e : tms r with
      | nil => exact absurd e h
      | cons t ts => exact ⟨t, ts, rfl, fun x hx => k1 x (by rw [show tmK r r.length = t :: ts from e]; exact List.mem_cons_of_mem _ hx)⟩
/-! ### one word -/
abbrev wayT (t : Tm) : Int := if t.2 < 0 then -1 else 1
theorem way_mul (t : Tm) : wayT t * (t.2.natAbs : Int) = t.2 := by
  unfold wayT
  split <;> omega
abbrev rB : IS := sSeq (sSet 7 (iIf (tBl (iBin (opEq false) (iVar 5) (iC (.int 0)))) (iVar 3) (iIf (tTru (iM1 opStarts (iVar 6) (iC (.str "-")))) (iUn opNeg (iC (.int 1))) (iC (.int 1)))))
  (sSeq (sSet 8 (iCall p_term_in [] (aCons (iIf (tAnd' (tBl (iBin opGt (iVar 5) (iC (.int 0)))) (tTru (iM1 opStarts (iVar 6) (iC (.str "-"))))) (iSl (iVar 6) (oSome (iC (.int 1))) oNone) (iVar 6)) aNil)))
  (sSeq (sIf (tBl (iBin (opIs false) (iVar 8) (iC .non))) (sRet (iC .non)) sNil)
  (sSet 1 (iCall p_row_sum [] (aCons (iVar 1) (aCons (iVar 8) (aCons (iVar 7) aNil)))))))
theorem sum_way {F : List Int} {t : Tm} (hF : F ≠ []) (hl : F.length ≤ 200) (ht : RdOk t) (hb : t.2.natAbs < 2 ^ 1900) (st : Sto) : p_row_sum [.tup (I_ F), .tup (I_ (mon t.1 (t.2.natAbs : Int))), .int (wayT t)] st = .ok (.tup (I_ (trimR (addL F ((mon t.1 (t.2.natAbs : Int)).map (wayT t * ·)))))) st := by
  have l1 := ht.1
  refine sum_ok (T := 1) (B := 1900) hF (by omega) (by simp [mon]; omega) ?_ (Bd.mon (by rw [Int.natAbs_natCast]; exact hb)) (by decide) st
  unfold wayT
  split <;> decide
theorem way_co (F : List Int) (t : Tm) (n : Nat) : co (trimR (addL F ((mon t.1 (t.2.natAbs : Int)).map (wayT t * ·)))) n = co F n + if n = t.1 then t.2 else 0 := by
  rw [trimR_co, co_addL, co_map]
  have : co (mon t.1 (t.2.natAbs : Int)) n = if n = t.1 then (t.2.natAbs : Int) else 0 := by
    show act (mon t.1 (t.2.natAbs : Int)) de n = _
    rw [act_mon]
    unfold de
    by_cases q : n < t.1
    · rw [if_pos q, if_neg (by omega)]
    · rw [if_neg q]
      by_cases e : n = t.1
      · rw [if_pos (by omega), if_pos e, Int.mul_one]
      · rw [if_neg (by omega), if_neg e, Int.mul_zero]
  rw [this]
  split
  · rw [way_mul]
  · rw [Int.mul_zero]
theorem rB_ok {x0 x2 x4 x7 x8 : Option D} {F : List Int} {t : Tm} {i : Nat} {wd : List Nat} {sg : Int} (hF : F ≠ []) (hl : F.length ≤ 200) (ht : RdOk t) (hb : t.2.natAbs < 2 ^ 1900) (hw : i = 0 ∧ wd = tW t ∧ sg = wayT t ∨ i ≠ 0 ∧ wd = sW t) (st : Sto) :
    ∃ y7 y8, rB [x0, some (.tup (I_ F)), x2, some (.int sg), x4, some (.int (i : Int)), some (.str (T_ wd)), x7, x8] st = .nx [x0, some (.tup (I_ (trimR (addL F ((mon t.1 (t.2.natAbs : Int)).map (wayT t * ·)))))), x2, some (.int sg), x4, some (.int (i : Int)), some (.str (T_ wd)), y7, y8] st := by
  have tm := term_ok ht.1 ht.2 st
  have sm := sum_way hF hl ht hb st
  have wl : (tW t).length ≤ 700 := by
    have p1 := pow_len (p := t.1) (by have := ht.1; omega)
    have p2 := ht.2
    show (wordL t.1 t.2.natAbs).length ≤ 700
    unfold wordL
    split
    · omega
    · split
      · omega
      · simp; omega
  obtain ⟨c, r, h1, h2, _, _⟩ := word_first t.1 t.2.natAbs
  have nn : D.isNon (.tup (I_ (mon t.1 (t.2.natAbs : Int)))) = false := rfl
  refine ⟨some (.int (wayT t)), some (.tup (I_ (mon t.1 (t.2.natAbs : Int)))), ?_⟩
  generalize hM : I_ (mon t.1 (t.2.natAbs : Int)) = Mn at tm sm nn ⊢
  generalize hS : I_ (trimR (addL F ((mon t.1 (t.2.natAbs : Int)).map (wayT t * ·)))) = Sm at sm ⊢
  have tm' : p_term_in [.str (T_ (tW t))] st = .ok (.tup Mn) st := tm
  rcases hw with ⟨rfl, rfl, rfl⟩ | ⟨i0, rfl⟩
  · have g0 : opGt (.int 0) (.int 0) st = some (.bl false, st) := rfl
    simp [rB, eq_int, g0, tm', nn, sm]
  · have i1 : ¬ (i : Int) = 0 := by omega
    have g1 : opGt (.int (i : Int)) (.int 0) st = some (.bl true, st) := by
      rw [cmpGt, decide_eq_true (by omega)]
    by_cases q : t.2 < 0
    · have sw := starts_txt (sW t) [45] st
      have e : sW t = 45 :: tW t := by simp [sW, q]
      have pf : [45].isPrefixOf (sW t) = true := by rw [e]; simp [List.isPrefixOf]
      rw [pf] at sw
      have fr := from_txt (l := sW t) 1 (by rw [e, List.length_cons]; omega) st
      rw [show (sW t).drop 1 = tW t by rw [e]; rfl] at fr
      have fr' : opSl (.str (T_ (sW t))) (some 1) none st = some (.str (T_ (tW t)), st) := fr
      have wy : wayT t = -1 := if_pos q
      rw [wy] at sm ⊢
      generalize sW t = SW at *
      generalize tW t = TW at *
      simp [rB, eq_int, i1, i0, g1, lit_m, sw, opNeg, fr', tm', nn, sm]
    · have e : sW t = tW t := by simp [sW, q]
      have pf : [45].isPrefixOf (tW t) = false := by
        rw [show tW t = c :: r from h1]
        have : (45 == c) = false := by rw [beq_eq_false_iff_ne]; omega
        simp [List.isPrefixOf, this]
      have sw := starts_txt (tW t) [45] st
      rw [pf] at sw
      have wy : wayT t = 1 := if_neg q
      rw [wy] at sm ⊢
      rw [e]
      generalize tW t = TW at *
      simp [rB, eq_int, i1, i0, g1, lit_m, sw, tm', nn, sm]
end M
/-! RC24: row_in of a row's text is the row. -/
namespace M
open PySem PySem.W Builtin Builtin.Str
theorem nxE_at (xs : List D) (i : Nat) (st : Sto) : nxE xs i st = some (xs.mapIdx fun i d => D.tup [.int (i : Int), d])[i]? := by
  unfold nxE
  rw [List.getElem?_mapIdx]
  cases xs[i]? with
  | none => rfl
  | some d => rfl
theorem lst_bd {r : List Int} (hb : Bd 1900 r) : ∀ t ∈ lst r, t.2.natAbs < 2 ^ 1900 := by
  have z : ∀ i, ∀ t ∈ tmK r i, t.2.natAbs < 2 ^ 1900 := fun i => by
    induction i with
    | zero => intro t ht; simp [tmK] at ht
    | succ i ih =>
      intro t ht
      rcases List.mem_append.mp ht with h | h
      · exact ih t h
      · split at h
        · simp at h
        · rw [List.mem_singleton.mp h]
          exact co_bd hb _
  intro t ht
  unfold lst at ht
  split at ht
  · rw [List.mem_singleton.mp ht]
    exact Nat.two_pow_pos 1900
  · exact z _ t ht
theorem words_loop {t : Tm} {ts : List Tm} {x0 x2 x4 : Option D} {st : Sto} (hr : ∀ x ∈ t :: ts, RdOk x) (hb : ∀ x ∈ t :: ts, x.2.natAbs < 2 ^ 1900) (hl : (t :: ts).length ≤ 100) :
    ∃ F x5 x6 x7 x8, forL (nxE ((tW t :: ts.map sW).map fun l => D.str (T_ l))) (gTup' 2 (gsVar 5 (gsVar 6 gsNil))) rB (t :: ts).length 0 [x0, some (.tup (I_ [0])), x2, some (.int (wayT t)), x4, none, none, none, none] st = .nx [x0, some (.tup (I_ F)), x2, some (.int (wayT t)), x4, x5, x6, x7, x8] st ∧ Row F ∧ ∀ n, co F n = sumT (t :: ts) n := by
  have run := forL_idx (nx := nxE ((tW t :: ts.map sW).map fun l => D.str (T_ l))) (g := gTup' 2 (gsVar 5 (gsVar 6 gsNil))) (b := rB) (xs := ((tW t :: ts.map sW).map fun l => D.str (T_ l)).mapIdx fun i d => D.tup [.int (i : Int), d])
    (fun i env s => s = st ∧ ∃ F x5 x6 x7 x8, env = [x0, some (.tup (I_ F)), x2, some (.int (wayT t)), x4, x5, x6, x7, x8] ∧ Row F ∧ F.length ≤ 100 ∧ ∀ n, co F n = sumT ((t :: ts).take i) n) (nxE_at _)
    (fun i d hd env s ⟨hs, F, x5, x6, x7, x8, he, hF, hl2, hc⟩ => by
      subst hs he
      rw [List.getElem?_mapIdx] at hd
      have hi : i < (t :: ts).length := by
        cases q : ((tW t :: ts.map sW).map fun l => D.str (T_ l))[i]? with
        | none => rw [q] at hd; cases hd
        | some w =>
          have := (List.getElem?_eq_some_iff.mp q).1
          simpa using this
      obtain ⟨x, hx⟩ : ∃ x, (t :: ts)[i]? = some x := ⟨_, List.getElem?_eq_getElem hi⟩
      have mx := List.mem_of_getElem? hx
      obtain ⟨wd, hw, hwd⟩ : ∃ wd, (i = 0 ∧ wd = tW x ∧ wayT t = wayT x ∨ i ≠ 0 ∧ wd = sW x) ∧ d = .tup [.int (i : Int), .str (T_ wd)] := by
        cases i with
        | zero =>
          have : t = x := by simpa using hx
          subst this
          refine ⟨tW t, .inl ⟨rfl, rfl, rfl⟩, ?_⟩
          simpa using hd.symm
        | succ i =>
          refine ⟨sW x, .inr ⟨by omega, rfl⟩, ?_⟩
          have e : ts[i]? = some x := by simpa using hx
          simp [e] at hd
          exact hd.symm
      subst hwd
      obtain ⟨y7, y8, g⟩ := rB_ok (x0 := x0) (x2 := x2) (x4 := x4) (x7 := x7) (x8 := x8) (sg := wayT t) hF.ne (by omega) (hr x mx) (hb x mx) hw s
      refine ⟨[x0, some (.tup (I_ F)), x2, some (.int (wayT t)), x4, some (.int (i : Int)), some (.str (T_ wd)), x7, x8], s, ?_, _, _, .inl g, rfl, _, _, _, _, _, rfl, trimR_row (addL_ne hF.ne), ?_, fun n => ?_⟩
      · simp
      · refine Nat.le_trans (trimR_len (addL_ne hF.ne)) ?_
        rw [addL_len]
        have := (hr x mx).1
        simp [mon]
        omega
      · rw [way_co, hc]
        have tk : (t :: ts).take (i + 1) = (t :: ts).take i ++ [x] := by
          rw [List.take_succ, hx]
          rfl
        rw [tk, sumT_snoc]) (t :: ts).length 0 [x0, some (.tup (I_ [0])), x2, some (.int (wayT t)), x4, none, none, none, none] st (Nat.zero_le _) (by simp) ⟨rfl, [0], none, none, none, none, rfl, .inl rfl, by simp, fun n => by rw [co_z]; rfl⟩
  obtain ⟨e2, s2, h1, rfl, F, x5, x6, x7, x8, rfl, h2, _, h3⟩ := run
  refine ⟨F, x5, x6, x7, x8, h1, h2, fun n => ?_⟩
  rw [h3, List.take_of_length_le (by simp)]
theorem rowIn_ok {r : List Int} (hr : Row r) (hl : r.length ≤ 100) (hb : Bd 1900 r) (st : Sto) : p_row_in [.str (T_ (polyL r))] st = .ok (.tup (I_ r)) st := by
  obtain ⟨k1, k2, t, ts, ht, k3⟩ := lst_ok hr.ne hl hb
  have kb := lst_bd hb
  rw [ht] at k1 k2 kb
  have pe : polyL r = (if t.2 < 0 then [45] else []) ++ (tW t ++ restL ts) := by
    rw [poly_lst, ht]
    simp [accL]
  have pl := poly_len hl hb
  have k2' : ts.length ≤ 99 := by simpa using k2
  obtain ⟨c, q, h1, h2, _, _⟩ := word_first t.1 t.2.natAbs
  have wl : (tW t).length ≤ 700 := by
    have p1 := pow_len (p := t.1) (by have := (k1 t List.mem_cons_self).1; omega)
    have p2 := (k1 t List.mem_cons_self).2
    show (wordL t.1 t.2.natAbs).length ≤ 700
    unfold wordL
    split
    · omega
    · split
      · omega
      · simp; omega
  obtain ⟨X, w1, w2⟩ := words_ok (w := tW t) (word_no _ _) wl k3 (by omega) st
  obtain ⟨F, x5, x6, x7, x8, g1, g2, g3⟩ := words_loop (x0 := some (.str (T_ (polyL r)))) (x2 := some (.str (T_ (tW t ++ restL ts)))) (x4 := some (.lst ((tW t :: ts.map sW).map fun l => D.str (T_ l)))) (st := st) k1 kb k2
  have Fr : F = r := g2.ext hr fun n => by rw [g3, ← ht, lst_sum]
  subst Fr
  have sw := starts_txt (polyL F) [45] st
  have pf : [45].isPrefixOf (polyL F) = decide (t.2 < 0) := by
    rw [pe]
    by_cases n : t.2 < 0
    · simp [n, List.isPrefixOf]
    · rw [show tW t = c :: q from h1]
      have : (45 == c) = false := by rw [beq_eq_false_iff_ne]; omega
      simp [n, List.isPrefixOf, this]
  rw [pf] at sw
  have body : iIf (tTru (iM1 opStarts (iVar 0) (iC (.str "-")))) (iSl (iVar 0) (oSome (iC (.int 1))) oNone) (iVar 0) [some (.str (T_ (polyL F))), some (.tup (I_ [0])), none, none, none, none, none, none, none] st = .ok (.str (T_ (tW t ++ restL ts))) st := by
    by_cases n : t.2 < 0
    · have fr := from_txt (l := polyL F) 1 (by omega) st
      have e : (polyL F).drop 1 = tW t ++ restL ts := by rw [pe, if_pos n]; rfl
      rw [e] at fr
      have fr' : opSl (.str (T_ (polyL F))) (some 1) none st = some (.str (T_ (tW t ++ restL ts)), st) := fr
      rw [decide_eq_true n] at sw
      generalize polyL F = P at *
      simp [lit_m, sw, fr']
    · have e : polyL F = tW t ++ restL ts := by rw [pe, if_neg n]; rfl
      rw [decide_eq_false n] at sw
      rw [← e]
      generalize polyL F = P at *
      simp [lit_m, sw]
  have sign : iIf (tTru (iM1 opStarts (iVar 0) (iC (.str "-")))) (iUn opNeg (iC (.int 1))) (iC (.int 1)) [some (.str (T_ (polyL F))), some (.tup (I_ [0])), some (.str (T_ (tW t ++ restL ts))), none, none, none, none, none, none] st = .ok (.int (wayT t)) st := by
    unfold wayT
    by_cases n : t.2 < 0
    · rw [decide_eq_true n] at sw
      rw [if_pos n]
      generalize polyL F = P at *
      simp [lit_m, sw, opNeg]
    · rw [decide_eq_false n] at sw
      rw [if_neg n]
      generalize polyL F = P at *
      simp [lit_m, sw]
  have run : p_row_in [.str (T_ (polyL F))] st = endB (kSeq (sSeq (sSet 2 (iIf (tTru (iM1 opStarts (iVar 0) (iC (.str "-")))) (iSl (iVar 0) (oSome (iC (.int 1))) oNone) (iVar 0)))
    (sSeq (sSet 3 (iIf (tTru (iM1 opStarts (iVar 0) (iC (.str "-")))) (iUn opNeg (iC (.int 1))) (iC (.int 1))))
    (sSeq (sSet 4 (iM1 opSplit (iUn (opRepl " - " " + -") (iVar 2)) (iC (.str " + "))))
    (sSeq (sFor (wEnum (aCons (iVar 4) aNil)) (gTup' 2 (gsVar 5 (gsVar 6 gsNil))) rB) (sRet (iVar 1)))))) (.nx [some (.str (T_ (polyL F))), some (.tup (I_ [0])), none, none, none, none, none, none, none] st)) := by
    have big := sizeLine_big
    have t0 : opTup [.int 0] st = some (.tup [.int 0], st) := by simp
    simp only [p_row_in, B_p_row_in, runB_d, List.length_cons, List.length_nil, if_true, List.map_cons, List.map_nil, List.replicate, List.cons_append, List.nil_append, sSeq_d (p := sSet 1 _), sSet_d (n := 1), iN_d, aCons_d, iC_d, R_ok, aNil_d, t0, ofO_s, liftS_ok, List.set_cons_zero, List.set_cons_succ]
  have words : iM1 opSplit (iUn (opRepl " - " " + -") (iVar 2)) (iC (.str " + ")) [some (.str (T_ (polyL F))), some (.tup (I_ [0])), some (.str (T_ (tW t ++ restL ts))), some (.int (wayT t)), none, none, none, none, none] st = .ok (.lst ((tW t :: ts.map sW).map fun l => D.str (T_ l))) st := by
    simp only [iM1_d, iUn_d, iVar_d, List.getElem?_cons_zero, List.getElem?_cons_succ, R_ok, w1, ofO_s, isS_s, if_true, iC_d, lit_sp, w2]
  rw [run, kSeq_nx, sSeq_d, sSet_d, body, liftS_ok]
  simp only [List.set_cons_zero, List.set_cons_succ, kSeq_nx]
  rw [sSeq_d, sSet_d, sign, liftS_ok]
  simp only [List.set_cons_zero, List.set_cons_succ, kSeq_nx]
  rw [sSeq_d, sSet_d, words, liftS_ok]
  simp only [List.set_cons_zero, List.set_cons_succ, kSeq_nx]
  have en : wEnum (aCons (iVar 4) aNil) [some (.str (T_ (polyL F))), some (.tup (I_ [0])), some (.str (T_ (tW t ++ restL ts))), some (.int (wayT t)), some (.lst ((tW t :: ts.map sW).map fun l => D.str (T_ l))), none, none, none, none] st = .ok (nxE ((tW t :: ts.map sW).map fun l => D.str (T_ l)), (t :: ts).length) st := by
    simp only [wEnum, aCons_d, iVar_d, List.getElem?_cons_zero, List.getElem?_cons_succ, R_ok, aNil_d, kEnumW, List.length_map, List.length_cons]
  rw [sSeq_d, sFor_d, en, liftS_ok, g1]
  simp
end M
/-! RC25: a ratio's text read. -/
namespace M
open PySem PySem.W Builtin Builtin.Str
/-- a ratio in lowest terms that can be written and read -/
structure Nice (A B : List Int) : Prop where
  ra : Row A
  rb : Row B
  la : A.length ≤ 100
  lb : B.length ≤ 100
  ba : Bd 1900 A
  bb : Bd 1900 B
  b0 : B ≠ [0]
  low : lowR A B = (A, B)
  fit : ∃ X Y H g Z, Fit A B X Y H g Z
theorem trimR_id {l : List Int} (h : Row l) : trimR l = l := (trimR_row h.ne).ext h fun n => trimR_co l n
theorem Nice.mkr {A B : List Int} (N : Nice A B) : Mkr (.tup (I_ A)) (.tup (I_ B)) (.tup (I_ A)) (.tup (I_ B)) (.tup (I_ A)) (.tup (I_ B)) := by
  obtain ⟨X, Y, H, g, Z, F⟩ := N.fit
  have ta := trimR_id N.ra
  have tb := trimR_id N.rb
  have m := mkr_of (t := A) (b := B) (X := X) (Y := Y) (H := H) (g := g) (Z := Z) N.ra.ne N.rb.ne (by have := N.la; omega) (by have := N.lb; omega) (by rw [tb]; exact N.b0) (by rw [ta, tb]; exact F)
  rw [ta, tb, N.low] at m
  exact m
theorem poly_first (r : List Int) : ∃ c q, polyL r = c :: q ∧ c ≠ 40 := by
  rw [poly_lst]
  unfold lst
  have key : ∀ t ts, ∃ c q, accL (t :: ts) = c :: q ∧ c ≠ 40 := fun t ts => by
    obtain ⟨c, q, h1, _, _, h4⟩ := word_first t.1 t.2.natAbs
    simp only [accL]
    split
    · exact ⟨45, _, rfl, by decide⟩
    · rw [h1]
      exact ⟨c, _, rfl, h4⟩
  split
  · exact key _ _
  · rename_i h
    cases e : tms r with
    | nil => exact absurd e h
    | cons t ts => exact key t ts
theorem word_no41 (p m : Nat) : 41 ∉ wordL p m := fun h => by
  unfold wordL at h
  split at h
  · exact num_no (by omega) h
  · split at h
    · exact pow_no (by omega) (by omega) (by omega) h
    · rcases List.mem_append.mp h with h | h
      · rcases List.mem_append.mp h with h | h
        · exact num_no (by omega) h
        · simp at h
      · exact pow_no (by omega) (by omega) (by omega) h
theorem rest_no41 : ∀ ts : List Tm, 41 ∉ restL ts
  | [] => by simp [restL]
  | t :: ts => fun h => by
    rw [rest_cons] at h
    rcases List.mem_append.mp h with h | h
    · split at h <;> simp at h
    · rcases List.mem_append.mp h with h | h
      · exact word_no41 _ _ h
      · exact rest_no41 ts h
theorem poly_no41 (r : List Int) : 41 ∉ polyL r := fun h => by
  rw [poly_lst] at h
  have key : ∀ ts, 41 ∉ accL ts := fun ts h => by
    cases ts with
    | nil => simp [accL] at h
    | cons t ts =>
      rcases List.mem_append.mp h with h | h
      · rcases List.mem_append.mp h with h | h
        · split at h <;> simp at h
        · exact word_no41 _ _ h
      · exact rest_no41 ts h
  exact key _ h
theorem poly_one : polyL [1] = [49] := by decide
theorem ends_txt (l m : List Nat) (st : Sto) : opEnds (.str (T_ (l ++ m))) (.str (T_ m)) st = some (.bl true, st) := by
  show some (D.bl (Txt.endswith (T_ (l ++ m)) (T_ m)), st) = _
  have e : Txt.endswith (T_ (l ++ m)) (T_ m) = true := by
    unfold Txt.endswith
    rw [sub_pre, toL_mk, toL_mk, T_len, T_len, List.length_append, Nat.add_sub_cancel, List.drop_left, Bool.and_eq_true]
    refine ⟨decide_eq_true (by omega), ?_⟩
    rw [List.isPrefixOf_iff_prefix]
    exact List.prefix_refl _
  rw [e]
theorem inner_txt {l : List Nat} {a b : Nat} (h : l.length ≤ 900000) (st : Sto) : opSl (.str (T_ (a :: (l ++ [b])))) (some 1) (some (-1)) st = some (.str (T_ l), st) := by
  have := sizeLine_big
  have e : L2.cutS (T_ (a :: (l ++ [b]))) (some 1) (some (-1)) = T_ l := toL_inj (by
    show toL ⟨_⟩ = _
    rw [toL_mk, toL_mk]
    have h1 : HT.sIx (T_ (a :: (l ++ [b]))).length 0 (some 1) = 1 := by
      have := HT.sIx_nat (T_ (a :: (l ++ [b]))).length 0 1
      rw [show ((1 : Nat) : Int) = 1 from rfl] at this
      rw [this, T_len]
      simp
    have h2 : HT.sIx (T_ (a :: (l ++ [b]))).length (T_ (a :: (l ++ [b]))).length (some (-1)) = l.length + 1 := by
      have e : HT.sIx (T_ (a :: (l ++ [b]))).length (T_ (a :: (l ++ [b]))).length (some (-1)) = ((-1 : Int) + ((T_ (a :: (l ++ [b]))).length : Int)).toNat := rfl
      rw [e, T_len]
      simp
      omega
    rw [h1, h2, show (T_ (a :: (l ++ [b]))).cps.toList = a :: (l ++ [b]) from toL_mk _, List.drop_succ_cons, List.drop_zero, Nat.add_sub_cancel, List.take_left])
  show (if (T_ (a :: (l ++ [b]))).length ≤ sizeLine then some (D.str (L2.cutS (T_ (a :: (l ++ [b]))) (some 1) (some (-1))), st) else none) = _
  rw [if_pos (by rw [T_len]; simp; omega), e]
theorem count_txt {a b : List Nat} (ha : 41 ∉ a) (hb : 41 ∉ b) (st : Sto) : opCntT (.str (T_ ([40] ++ a ++ [41, 47, 40] ++ b ++ [41]))) (.str (T_ [41, 47, 40])) st = some (.int 1, st) := by
  show some (D.int (Txt.count (T_ ([40] ++ a ++ [41, 47, 40] ++ b ++ [41])) (T_ [41, 47, 40])), st) = _
  have e : Txt.count (T_ ([40] ++ a ++ [41, 47, 40] ++ b ++ [41])) (T_ [41, 47, 40]) = 1 := by
    rw [count_is _ _ (by rw [T_len]; decide), toL_mk, toL_mk]
    have p1 : partL [41, 47, 40] ([40] ++ a ++ [41, 47, 40] ++ b ++ [41]) = some ([40] ++ a, b ++ [41]) := by
      rw [show [40] ++ a ++ [41, 47, 40] ++ b ++ [41] = ([40] ++ a) ++ ([41, 47, 40] ++ (b ++ [41])) by simp, partL_skip (by simp [ha]), partL_at]
      simp
    have p2 : partL [41, 47, 40] (b ++ [41]) = none := by
      rw [partL_skip hb]
      have : partL [41, 47, 40] [41] = none := by
        unfold partL partL
        simp [List.isPrefixOf]
      rw [this]
      rfl
    obtain ⟨n, hn⟩ : ∃ n, (T_ ([40] ++ a ++ [41, 47, 40] ++ b ++ [41])).length + 1 = n + 1 := ⟨_, rfl⟩
    rw [hn, spF_some p1, spF_none n p2]
    rfl
  rw [e]
theorem ratioIn_ok {A B : List Int} (N : Nice A B) (st : Sto) : p_ratio_in [.str (T_ (ratioL A B))] st = .ok (.ref st.length) (st ++ [insR A B]) := by
  have ra := rowIn_ok N.ra N.la N.ba st
  have rb := rowIn_ok N.rb N.lb N.bb st
  have mk := newP_ok N.mkr st
  have l1 := poly_len N.la N.ba
  have l2 := poly_len N.lb N.bb
  have nz : opEq false (.tup (I_ B)) (.tup [.int 0]) st = some (.bl false, st) := by
    have := eq_tt false B [0] st
    simpa [N.b0] using this
  have n1 : D.isNon (.tup (I_ A)) = false := rfl
  have n2 : D.isNon (.tup (I_ B)) = false := rfl
  have tail : ∀ (x0 x3 : Option D) , endB ((sSeq (sPar 4 5 (aCons (iCall p_row_in [] (aCons (iVar 1) aNil)) (aCons (iCall p_row_in [] (aCons (iVar 2) aNil)) aNil)))
    (sSeq (sIf (tOr' (tBl (iBin (opIs false) (iVar 4) (iC .non))) (tOr' (tBl (iBin (opIs false) (iVar 5) (iC .non))) (tBl (iBin (opEq false) (iVar 5) (iN opTup (aCons (iC (.int 0)) aNil)))))) (sRet (iC .non)) sNil)
    (sRet (iNewP "Ratio" p_Ratio___init__ 2 0 [0, 1, 2] (aCons (iVar 4) (aCons (iVar 5) aNil)) aNil)))) [x0, some (.str (T_ (polyL A))), some (.str (T_ (polyL B))), x3, none, none] st) = .ok (.ref st.length) (st ++ [insR A B]) := fun x0 x3 => by
    generalize polyL A = PA at *
    generalize polyL B = PB at *
    generalize hIA : I_ A = IA at *
    generalize hIB : I_ B = IB at *
    simp [ra, rb, n1, n2, nz, iNewP, mk]
    exact ⟨hIA.symm, hIB.symm⟩
  have run : ∀ w, p_ratio_in [.str (T_ w)] st = endB (kSeq ((sSeq (sPar 4 5 (aCons (iCall p_row_in [] (aCons (iVar 1) aNil)) (aCons (iCall p_row_in [] (aCons (iVar 2) aNil)) aNil)))
    (sSeq (sIf (tOr' (tBl (iBin (opIs false) (iVar 4) (iC .non))) (tOr' (tBl (iBin (opIs false) (iVar 5) (iC .non))) (tBl (iBin (opEq false) (iVar 5) (iN opTup (aCons (iC (.int 0)) aNil)))))) (sRet (iC .non)) sNil)
    (sRet (iNewP "Ratio" p_Ratio___init__ 2 0 [0, 1, 2] (aCons (iVar 4) (aCons (iVar 5) aNil)) aNil))))) (sIf (tAnd' (tTru (iM1 opStarts (iVar 0) (iC (.str "(")))) (tAnd' (tTru (iM1 opEnds (iVar 0) (iC (.str ")")))) (tBl (iBin (opEq false) (iM1 opCntT (iVar 0) (iC (.str ")/("))) (iC (.int 1)))))) (sAsg (gTup' 3 (gsVar 1 (gsVar 3 (gsVar 2 gsNil)))) (iM1 opPart (iSl (iVar 0) (oSome (iC (.int 1))) (oSome (iUn opNeg (iC (.int 1))))) (iC (.str ")/(")))) sNil [some (.str (T_ w)), some (.str (T_ w)), some (.str (Str.ofString "1")), none, none, none] st)) := fun w => rfl
  rw [run]
  unfold ratioL
  by_cases q : B = [1]
  · rw [if_pos q]
    obtain ⟨c, r, h1, h2⟩ := poly_first A
    have sw := starts_txt (polyL A) [40] st
    have pf : [40].isPrefixOf (polyL A) = false := by
      rw [h1]
      have : (40 == c) = false := by rw [beq_eq_false_iff_ne]; omega
      simp [List.isPrefixOf, this]
    rw [pf] at sw
    have tl := tail (some (.str (T_ (polyL A)))) none
    have pb : polyL B = [49] := by rw [q]; exact poly_one
    rw [pb] at tl
    have a1 : sIf (tAnd' (tTru (iM1 opStarts (iVar 0) (iC (.str "(")))) (tAnd' (tTru (iM1 opEnds (iVar 0) (iC (.str ")")))) (tBl (iBin (opEq false) (iM1 opCntT (iVar 0) (iC (.str ")/("))) (iC (.int 1)))))) (sAsg (gTup' 3 (gsVar 1 (gsVar 3 (gsVar 2 gsNil)))) (iM1 opPart (iSl (iVar 0) (oSome (iC (.int 1))) (oSome (iUn opNeg (iC (.int 1))))) (iC (.str ")/(")))) sNil [some (.str (T_ (polyL A))), some (.str (T_ (polyL A))), some (.str (Str.ofString "1")), none, none, none] st = .nx [some (.str (T_ (polyL A))), some (.str (T_ (polyL A))), some (.str (T_ [49])), none, none, none] st := by
      rw [lit_1]
      generalize polyL A = PA at *
      simp [lit_o, sw]
    rw [a1, kSeq_nx]
    exact tl
  · rw [if_neg q]
    have tl := tail (some (.str (T_ ([40] ++ polyL A ++ [41, 47, 40] ++ polyL B ++ [41])))) (some (.str (T_ [41, 47, 40])))
    have na := poly_no41 A
    have nb := poly_no41 B
    have sw := starts_txt ([40] ++ polyL A ++ [41, 47, 40] ++ polyL B ++ [41]) [40] st
    have pf : [40].isPrefixOf ([40] ++ polyL A ++ [41, 47, 40] ++ polyL B ++ [41]) = true := by simp [List.isPrefixOf]
    rw [pf] at sw
    have en := ends_txt ([40] ++ polyL A ++ [41, 47, 40] ++ polyL B) [41] st
    have ct := count_txt na nb st
    have inn := inner_txt (l := polyL A ++ [41, 47, 40] ++ polyL B) (a := 40) (b := 41) (by simp; omega) st
    rw [show 40 :: (polyL A ++ [41, 47, 40] ++ polyL B ++ [41]) = [40] ++ polyL A ++ [41, 47, 40] ++ polyL B ++ [41] by simp] at inn
    have pt := part_txt (l := polyL A ++ [41, 47, 40] ++ polyL B) (m := [41, 47, 40]) (by simp; omega) (by simp) st
    have p1 : partL [41, 47, 40] (polyL A ++ [41, 47, 40] ++ polyL B) = some (polyL A, polyL B) := by
      rw [List.append_assoc, partL_skip na, partL_at]
      simp
    rw [p1] at pt
    have a1 : sIf (tAnd' (tTru (iM1 opStarts (iVar 0) (iC (.str "(")))) (tAnd' (tTru (iM1 opEnds (iVar 0) (iC (.str ")")))) (tBl (iBin (opEq false) (iM1 opCntT (iVar 0) (iC (.str ")/("))) (iC (.int 1)))))) (sAsg (gTup' 3 (gsVar 1 (gsVar 3 (gsVar 2 gsNil)))) (iM1 opPart (iSl (iVar 0) (oSome (iC (.int 1))) (oSome (iUn opNeg (iC (.int 1))))) (iC (.str ")/(")))) sNil [some (.str (T_ ([40] ++ polyL A ++ [41, 47, 40] ++ polyL B ++ [41]))), some (.str (T_ ([40] ++ polyL A ++ [41, 47, 40] ++ polyL B ++ [41]))), some (.str (Str.ofString "1")), none, none, none] st = .nx [some (.str (T_ ([40] ++ polyL A ++ [41, 47, 40] ++ polyL B ++ [41]))), some (.str (T_ (polyL A))), some (.str (T_ (polyL B))), some (.str (T_ [41, 47, 40])), none, none] st := by
      generalize [40] ++ polyL A ++ [41, 47, 40] ++ polyL B ++ [41] = W at *
      generalize polyL A ++ [41, 47, 40] ++ polyL B = V at *
      generalize polyL A = PA at *
      generalize polyL B = PB at *
      simp [lit_o, lit_c, lit_oc, sw, en, ct, eq_int, opNeg, inn, pt]
    rw [a1, kSeq_nx]
    exact tl
theorem isi_str (x : Str) (s : Sto) : opIsiI ["Ratio"] [] (isaT tl_str) [.str x, .ty "str"] s = some (.bl true, s) := by kernel_rfl
theorem strI_ok {s : Sto} {n : Nat} {A B : List Int} (h : s[n]? = some (insR A B)) (la : A.length ≤ 100) (lb : B.length ≤ 100) (ha : Bd 1900 A) (hb : Bd 1900 B) : opStrI "Ratio" p_Ratio___str__ [.ref n] s = some (.str (T_ (ratioL A B)), s) := by
  have st := str_ok h la lb ha hb
  have e : insD s (.ref n) = some (("Ratio" : Str), fsR (.tup (I_ A)) (.tup (I_ B))) := by simp only [insD, h]
  simp only [opStrI, e, st, optR, strR, if_true]
theorem read_ok {A B : List Int} (N : Nice A B) (st : Sto) : p_Ratio_read [.str (T_ (ratioL A B))] st = .ok (.ref st.length) (st ++ [insR A B]) := by
  have ri := ratioIn_ok N st
  have at_ : (st ++ [insR A B])[st.length]? = some (insR A B) := by simp
  have so := strI_ok at_ N.la N.lb N.ba N.bb
  have is_ := isi_str (T_ (ratioL A B)) st
  have ne := eq_txt true (ratioL A B) (ratioL A B) (st ++ [insR A B])
  generalize ratioL A B = W at *
  generalize insR A B = O1 at *
  simp only [decide_true, Bool.not_true, if_true] at ne
  simp [p_Ratio_read, B_p_Ratio_read, is_, ri, so, ne]
end M
/-! RC26: all that a ratio shows is right. -/
namespace M
open PySem PySem.W Builtin Builtin.Str
/-- a ratio in lowest terms, by the law's own test -/
structure Gd (A B : List Int) : Prop where
  n : Nice A B
  lead : 0 < leadR B
  low : A = [0] ∧ B = [1] ∨ A ≠ [0] ∧ Low (co A) (co B)
  la : A.length ≤ 50
  lb : B.length ≤ 50
  sg : ∃ X Y g, Bd X A ∧ Bd Y B ∧ sg 134217600 g A.length B.length X Y = true
theorem islow_good {A B : List Int} (G : Gd A B) (st : Sto) : ∃ st', k02__law_is_low [.lst (I_ A), .lst (I_ B)] st = .ok (.bl true) st' ∧ Kp st st' [] := by
  rcases G.low with ⟨rfl, rfl⟩ | ⟨a0, L⟩
  · exact ⟨st, islow_zero st, Kp.refl _ _⟩
  · obtain ⟨X, Y, g, h1, h2, h3⟩ := G.sg
    exact islow_ok G.n.ra a0 G.n.rb G.lead L G.la G.lb h1 h2 h3 st
theorem Kp.ins {st st' : Sto} {l : List Nat} {n : Nat} {o : O} (k : Kp st st' l) (hn : n ∉ l) (h : st[n]? = some o) : st'[n]? = some o := by
  rw [k.2 n hn (List.getElem?_eq_some_iff.mp h).1]
  exact h
theorem eq_rows {st : Sto} {A : List Int} (neg : Bool) (B : List Int) : opEq neg (.lst (I_ A)) (.lst (I_ B)) st = some (.bl (if neg then !decide (A = B) else decide (A = B)), st) := eq_ll neg rfl rfl
theorem strI_eq (l : List Nat) (h : PyData.strOk (T_ l) = true) (n : Nat) (st : Sto) : toP st (n + 1) (.str (T_ l)) = some (.str (T_ l)) := by
  show (if PyData.strOk (T_ l) then some (PyData.str (T_ l)) else none) = _
  rw [if_pos h]
theorem eq3 {a b : List Nat} {c : Bool} (ha : PyData.strOk (T_ a) = true) (hb : PyData.strOk (T_ b) = true) (st : Sto) : opEq false (.lst [.str (T_ a), .str (T_ b), .bl c]) (.lst [.str (T_ a), .str (T_ b), .bl c]) st = some (.bl true, st) := by
  have p : toP st 64 (.lst [.str (T_ a), .str (T_ b), .bl c]) = some (.list [.str (T_ a), .str (T_ b), .bool c]) := by
    show (allP (toP st 63) [.str (T_ a), .str (T_ b), .bl c]).map PyData.list = _
    simp only [allP, strI_eq a ha 62 st, strI_eq b hb 62 st]
    rfl
  unfold opEq
  split
  · rename_i e _; cases e
  · rw [p]
    simp [PyData.eqv, PyData.eqvAll]
/-- signs that can stand in a text -/
def SgOk (l : List Nat) : Prop := ∀ c ∈ l, c < 128
theorem SgOk.ok {l : List Nat} (h : SgOk l) : PyData.strOk (T_ l) = true := by
  unfold PyData.strOk
  simp only [List.all_toArray, List.all_eq_true]
  intro c hc
  exact decide_eq_true (Nat.lt_trans (h c hc) (by decide))
theorem SgOk.app {l m : List Nat} (h : SgOk l) (g : SgOk m) : SgOk (l ++ m) := fun c hc => (List.mem_append.mp hc).elim (h c) (g c)
theorem sg_num (m : Nat) : SgOk (numL m) := fun c hc => by have := num_digits m c hc; omega
theorem sg_pow (p : Nat) : SgOk (powL p) := by
  unfold powL
  split
  · intro c hc; simp at hc; omega
  · exact SgOk.app (fun c hc => by simp at hc; omega) (sg_num p)
theorem sg_word (p m : Nat) : SgOk (wordL p m) := by
  unfold wordL
  split
  · exact sg_num m
  · split
    · exact sg_pow p
    · exact SgOk.app (SgOk.app (sg_num m) (fun c hc => by simp at hc; omega)) (sg_pow p)
theorem sg_rest : ∀ ts : List Tm, SgOk (restL ts)
  | [] => fun c hc => by simp [restL] at hc
  | t :: ts => by
    rw [rest_cons]
    refine SgOk.app ?_ (SgOk.app (sg_word _ _) (sg_rest ts))
    split <;> (intro c hc; simp at hc; omega)
theorem sg_poly (r : List Int) : SgOk (polyL r) := by
  rw [poly_lst]
  cases lst r with
  | nil => exact fun c hc => by simp [accL] at hc
  | cons t ts =>
    refine SgOk.app (SgOk.app ?_ (sg_word _ _)) (sg_rest ts)
    split
    · intro c hc; simp at hc; omega
    · intro c hc; simp at hc
theorem sg_ratio (A B : List Int) : SgOk (ratioL A B) := by
  unfold ratioL
  split
  · exact sg_poly A
  · exact SgOk.app (SgOk.app (SgOk.app (SgOk.app (fun c hc => by simp at hc; omega) (sg_poly A)) (fun c hc => by simp at hc; omega)) (sg_poly B)) (fun c hc => by simp at hc; omega)
theorem ratio_len {A B : List Int} (N : Nice A B) : (ratioL A B).length ≤ 140000 := by
  have l1 := poly_len N.la N.ba
  have l2 := poly_len N.lb N.bb
  unfold ratioL
  split
  · omega
  · simp; omega
theorem reprI_ok {s : Sto} {n : Nat} {A B : List Int} (h : s[n]? = some (insR A B)) (la : A.length ≤ 100) (lb : B.length ≤ 100) (ha : Bd 1900 A) (hb : Bd 1900 B) : opReprI "Ratio" p_Ratio___repr__ [.ref n] s = some (.str (T_ ([82, 97, 116, 105, 111, 40] ++ ratioL A B ++ [41])), s) := by
  have st := repr_ok h la lb ha hb
  have e : insD s (.ref n) = some (("Ratio" : Str), fsR (.tup (I_ A)) (.tup (I_ B))) := by simp only [insD, h]
  simp only [opReprI, e, st, optR, strR, if_true]
theorem boolI_ok {s : Sto} {n : Nat} {A B : List Int} (h : s[n]? = some (insR A B)) : opBoolI "Ratio" p_Ratio___bool__ [.ref n] s = some (.bl (decide (A ≠ [0])), s) := by
  have st := bool_ok h
  have e : insD s (.ref n) = some (("Ratio" : Str), fsR (.tup (I_ A)) (.tup (I_ B))) := by simp only [insD, h]
  simp only [opBoolI, e, st, optR, boolR, if_true]
theorem seen_ok {A B U L : List Int} {n X : Nat} {st : Sto} (G : Gd A B) (h : st[n]? = some (insR A B)) (hU : Row U) (hL : Row L) (hz : U = [0] ↔ A = [0]) (hc : ∀ n, act A (co L) n = act B (co U) n) (lU : U.length ≤ 100) (lL : L.length ≤ 100) (bU : Bd X U) (bL : Bd X L) (hX : X ≤ 1000) :
    ∃ st', k02__law_seen_right [.ref n, .lst (I_ U), .lst (I_ L)] st = .ok (.bl true) st' ∧ Kp st st' [] := by
  have N := G.n
  have t1 := fun (s : Sto) (hs : s[n]? = some (insR A B)) => get_top hs
  have b1 := fun (s : Sto) (hs : s[n]? = some (insR A B)) => get_bot hs
  have i1 := isi_ratio h
  have i2 := isi_tup (I_ A) st
  have i3 := isi_tup (I_ B) st
  have rA := row_any (d := .lst (I_ A)) (st := st) (l := A) rfl N.ra.ne (by have := N.la; omega)
  have rB := row_any (d := .lst (I_ B)) (st := st) (l := B) rfl N.rb.ne (by have := N.lb; omega)
  rw [trimR_id N.ra] at rA
  rw [trimR_id N.rb] at rB
  have eA : opEq true (.lst (I_ A)) (.lst (I_ A)) st = some (.bl false, st) := by rw [eq_rows]; simp
  have eB : opEq true (.lst (I_ B)) (.lst (I_ B)) st = some (.bl false, st) := by rw [eq_rows]; simp
  obtain ⟨s1, g1, k1⟩ := islow_good G st
  obtain ⟨s2, l1, m1, k2, r1, _, c1⟩ := mult_run (a := A) (b := L) N.ra.ne hL.ne (by have := N.la; omega) (by omega) N.ba bL (by omega) s1
  obtain ⟨s3, l2, m2, k3, r2, _, c2⟩ := mult_run (a := B) (b := U) N.rb.ne hU.ne (by have := N.lb; omega) (by omega) N.bb bU (by omega) s2
  have le : l1 = l2 := r1.ext r2 fun n => by rw [c1, c2, hc]
  subst le
  have e12 : opEq true (.lst (I_ l1)) (.lst (I_ l1)) s3 = some (.bl false, s3) := by rw [eq_rows]; simp
  have h3 : s3[n]? = some (insR A B) := ((k1.trans k2).trans k3).ins (by simp) h
  have lt := lawRatio_ok N.la N.lb N.ba N.bb s3
  have so := strI_ok h3 N.la N.lb N.ba N.bb
  have re := reprI_ok h3 N.la N.lb N.ba N.bb
  have bo := boolI_ok h3
  have rl := ratio_len N
  have sg := sg_ratio A B
  have a1 := add_txt (l := [82, 97, 116, 105, 111, 40]) (m := ratioL A B) (by simp; omega) s3
  have a2 := add_txt (l := [82, 97, 116, 105, 111, 40] ++ ratioL A B) (m := [41]) (by simp; omega) s3
  have e3 := eq3 (a := ratioL A B) (b := [82, 97, 116, 105, 111, 40] ++ ratioL A B ++ [41]) (c := decide (A ≠ [0])) sg.ok (SgOk.ok (SgOk.app (SgOk.app (fun c hc => by simp at hc; omega) sg) (fun c hc => by simp at hc; omega))) s3
  have eU : opEq true (.lst (I_ U)) (.lst [.int 0]) s3 = some (.bl (decide (A ≠ [0])), s3) := by
    have := eq_rows (st := s3) (A := U) true [0]
    rw [show I_ [0] = [D.int 0] from rfl] at this
    rw [this]
    by_cases q : A = [0]
    · simp [q, hz.mpr q]
    · have : ¬ U = [0] := fun z => q (hz.mp z)
      simp [q, this]
  refine ⟨s3, ?_, (k1.trans k2).trans k3⟩
  have tt := t1 st h
  have bb := b1 st h
  clear t1 b1 hc hz h3 c1 c2
  generalize hIA : I_ A = IA at *
  generalize hIB : I_ B = IB at *
  generalize hIU : I_ U = IU at *
  generalize hIL : I_ L = IL at *
  generalize hI1 : I_ l1 = I1 at *
  generalize hRL : ratioL A B = RL at *
  generalize hRR : [82, 97, 116, 105, 111, 40] ++ RL ++ [41] = RR at *
  generalize hR2 : [82, 97, 116, 105, 111, 40] ++ RL = R2 at *
  generalize decide (A ≠ [0]) = dz at *
  have oA : ∀ s, opListF [.tup IA] s = some (.lst IA, s) := fun _ => rfl
  have oB : ∀ s, opListF [.tup IB] s = some (.lst IB, s) := fun _ => rfl
  simp [k02__law_seen_right, B_k02__law_seen_right, i1, tt, bb, i2, i3, oA, oB, rA, rB, eA, eB, g1, m1, m2, e12, lt, so, re, bo, lit_R, lit_c, a1, a2, eU, e3]
end M
/-! RC27: lowest terms are one; the sizes of what the law draws. -/
namespace M
open PySem PySem.W Builtin Builtin.Str
theorem act_cancel {u v : List Int} {f : Se} {i : Nat} (hi : f i ≠ 0) (h : ∀ n, act u f n = act v f n) (g : Se) (n : Nat) : act u g n = act v g n := by
  have z : ∀ a ∈ addL u (v.map ((-1 : Int) * ·)), a = 0 := act_inj hi _ fun n => by
    rw [act_addL, act_map, h]
    omega
  have w : ∀ (l : List Int), (∀ a ∈ l, a = 0) → ∀ (g : Se) n, act l g n = 0 := fun l => by
    induction l with
    | nil => intro _ g n; rfl
    | cons a l ih =>
      intro hl g n
      show a * g n + sh (act l g) n = 0
      rw [hl a List.mem_cons_self]
      have e : act l g = fun _ => 0 := funext fun n => ih (fun b hb => hl b (List.mem_cons_of_mem _ hb)) g n
      rw [e, sh_zero]
      omega
  have := w _ z g n
  rw [act_addL, act_map] at this
  omega
/-- a product of rows other than 0 is not 0 -/
theorem act_ne {a b : List Int} (ha : Row a) (a0 : a ≠ [0]) (hb : Row b) (b0 : b ≠ [0]) : ∃ n, act a (co b) n ≠ 0 := by
  rcases ha with h | ⟨i, z, z0, rfl⟩
  · exact absurd h a0
  · have d := hb.deg b0
    refine ⟨(b.length - 1) + i.length, ?_⟩
    rw [act_lead d.2]
    exact Int.mul_ne_zero z0 d.1
/-- two rows in lowest terms, as lowest tells them -/
structure Lo (A B : List Int) : Prop where
  ra : Row A
  rb : Row B
  lead : 0 < leadR B
  low : A = [0] ∧ B = [1] ∨ A ≠ [0] ∧ Low (co A) (co B)
theorem Lo.b0 {A B : List Int} (h : Lo A B) : B ≠ [0] := fun z => by
  have := h.lead
  rw [z] at this
  exact absurd this (by decide)
theorem lo_of {a b : List Int} (ha : Row a) (hb : Row b) (b0 : b ≠ [0]) : Lo (lowR a b).1 (lowR a b).2 ∧ (∀ n, act (lowR a b).1 (co b) n = act (lowR a b).2 (co a) n) ∧ (a = [0] ↔ (lowR a b).1 = [0]) ∧ (lowR a b).1.length ≤ a.length ∧ (lowR a b).2.length ≤ b.length := by
  have bl := List.length_pos_iff.mpr hb.ne
  by_cases a0 : a = [0]
  · have e : lowR a b = ([0], [1]) := if_pos a0
    rw [e]
    refine ⟨⟨.inl rfl, .inr ⟨[], 1, by decide, rfl⟩, by decide, .inl ⟨rfl, rfl⟩⟩, fun n => ?_, ⟨fun _ => rfl, fun _ => a0⟩, by rw [a0]; simp, bl⟩
    rw [a0, act_zero_co co_z, act_one, co_z]
  · have e : lowR a b = ((qaR a b).map (· / gR a b), (qbR a b).map (· / gR a b)) := if_neg a0
    rw [e]
    obtain ⟨p1, p2, p3, _, p5, _⟩ := plainR_ok ha a0
    obtain ⟨b1, b2, b3, _, b5, _⟩ := plainR_ok hb b0
    obtain ⟨L, cr, r1, r2, ld⟩ := lowest_ok ha a0 hb b0 (k := b.length + 1) (ka := a.length) (kb := b.length) (by omega) (by omega) (by omega) (qa := qaR a b) (qb := qbR a b) rfl rfl (g := gR a b) rfl
    obtain ⟨_, q1, q2, q3, q4⟩ := quots_ok ha a0 hb b0 (k := b.length + 1) (ka := a.length) (kb := b.length) (by omega) (by omega) (by omega)
    have B0 : (qbR a b).map (· / gR a b) ≠ [0] := fun z => by rw [z] at ld; exact absurd ld (by decide)
    have A0 : (qaR a b).map (· / gR a b) ≠ [0] := fun z => by
      obtain ⟨n, hn⟩ := act_ne r2 B0 ha a0
      rw [← cr, z, act_zero_co co_z] at hn
      exact hn rfl
    refine ⟨⟨r1, r2, ld, .inr ⟨A0, L⟩⟩, cr, ⟨fun z => absurd z a0, fun z => absurd z A0⟩, ?_, ?_⟩
    · rw [List.length_map]
      exact (quo_len ha a0 q3 q1).2
    · rw [List.length_map]
      exact (quo_len hb b0 q4 q2).2
/-- lowest terms are one -/
theorem low_eq {A B a b : List Int} (h : Lo A B) (ha : Row a) (hb : Row b) (b0 : b ≠ [0]) (hc : ∀ n, act A (co b) n = act B (co a) n) : lowR a b = (A, B) := by
  obtain ⟨h', hc', hz', _, _⟩ := lo_of ha hb b0
  obtain ⟨P, hP⟩ : ∃ P, P = lowR a b := ⟨_, rfl⟩
  rw [← hP] at h' hc' hz' ⊢
  obtain ⟨A', B'⟩ := P
  simp only at h' hc' hz' ⊢
  have B0 := h.b0
  by_cases a0 : a = [0]
  · have e : (A', B') = (([0] : List Int), ([1] : List Int)) := hP.trans (if_pos a0)
    rw [e]
    rcases h.low with ⟨rfl, rfl⟩ | ⟨A0, _⟩
    · rfl
    · exfalso
      obtain ⟨n, hn⟩ := act_ne h.ra A0 hb b0
      rw [hc, a0, co_act, act_zero_co co_z] at hn
      exact hn rfl
  · have A0 : A ≠ [0] := fun z => by
      obtain ⟨n, hn⟩ := act_ne h.rb B0 ha a0
      rw [← hc, z, act_zero_co co_z] at hn
      exact hn rfl
    have A0' : A' ≠ [0] := fun z => a0 (hz'.mpr z)
    have L := (h.low.resolve_left fun z => A0 z.1).2
    have L' := (h'.low.resolve_left fun z => A0' z.1).2
    have e1 : (act A (co b)) = act B (co a) := funext hc
    have e2 : (act A' (co b)) = act B' (co a) := funext hc'
    have cr : ∀ n, act (mulL A B') (co b) n = act (mulL B A') (co b) n := fun n => by
      rw [act_mulL, act_mulL, act_comm A B', e1, act_comm B' B, ← e2]
    have cd := act_cancel (hb.deg b0).1 cr de
    have u := Low.uniq L L' (fun n => by
      have := cd n
      rw [act_mulL, act_mulL] at this
      exact this) (h.rb.deg B0) (h'.rb.deg h'.b0) (by rw [← leadR_co]; exact h.lead) (by rw [← leadR_co]; exact h'.lead)
    have q1 : A = A' := h.ra.ext h'.ra u.1
    have q2 : B = B' := h.rb.ext h'.rb u.2
    rw [q1, q2]
/-! ### sizes -/
theorem sf5_all : ((List.range 6).all fun la => (List.range 6).all fun lb => sf 503 134217600 6 la lb 41 41) = true := by decide +kernel
theorem sf5_big : ((List.range 6).all fun la => (List.range 6).all fun lb => sf 19847 134217600 6 la lb 1653 1653) = true := by decide +kernel
theorem sg5_big : ((List.range 6).all fun la => (List.range 6).all fun lb => sg 134217600 6 la lb 1653 1653) = true := by decide +kernel
theorem sf9_all : ((List.range 10).all fun la => (List.range 10).all fun lb => sf 34679 134217600 10 la lb 84 84) = true := by decide +kernel
theorem all2 {n : Nat} {P : Nat → Nat → Bool} (h : ((List.range n).all fun a => (List.range n).all fun b => P a b) = true) {a b : Nat} (ha : a < n) (hb : b < n) : P a b = true :=
  List.all_eq_true.mp (List.all_eq_true.mp h a (List.mem_range.mpr ha)) b (List.mem_range.mpr hb)
theorem fit5 {a b : List Int} (la : a.length ≤ 5) (lb : b.length ≤ 5) (ha : Bd 41 a) (hb : Bd 41 b) : Fit a b 41 41 503 6 1553 where
  la := by omega
  lb := by omega
  xa := ha
  yb := hb
  xh := by decide
  sf := all2 sf5_all (by omega) (by omega)
  za := by have := Nat.mul_le_mul_right 504 (show a.length - 2 ≤ 3 by omega); omega
  zb := by have := Nat.mul_le_mul_right 504 (show b.length - 2 ≤ 3 by omega); omega
  za1 := by omega
  zb1 := by omega
  h1 := by decide
  zl := by decide
theorem fit5b {a b : List Int} (la : a.length ≤ 5) (lb : b.length ≤ 5) (ha : Bd 1653 a) (hb : Bd 1653 b) : Fit a b 1653 1653 19847 6 70000 where
  la := by omega
  lb := by omega
  xa := ha
  yb := hb
  xh := by decide
  sf := all2 sf5_big (by omega) (by omega)
  za := by have := Nat.mul_le_mul_right 19848 (show a.length - 2 ≤ 3 by omega); omega
  zb := by have := Nat.mul_le_mul_right 19848 (show b.length - 2 ≤ 3 by omega); omega
  za1 := by omega
  zb1 := by omega
  h1 := by decide
  zl := by decide
theorem fit9 {a b : List Int} (la : a.length ≤ 9) (lb : b.length ≤ 9) (ha : Bd 84 a) (hb : Bd 84 b) : Fit a b 84 84 34679 10 250000 where
  la := by omega
  lb := by omega
  xa := ha
  yb := hb
  xh := by decide
  sf := all2 sf9_all (by omega) (by omega)
  za := by have := Nat.mul_le_mul_right 34680 (show a.length - 2 ≤ 7 by omega); omega
  zb := by have := Nat.mul_le_mul_right 34680 (show b.length - 2 ≤ 7 by omega); omega
  za1 := by omega
  zb1 := by omega
  h1 := by decide
  zl := by decide
/-- the ratio of two small rows -/
theorem gd_of {a b : List Int} (ha : Row a) (hb : Row b) (b0 : b ≠ [0]) (la : a.length ≤ 5) (lb : b.length ≤ 5) (xa : Bd 41 a) (xb : Bd 41 b) : Gd (lowR a b).1 (lowR a b).2 := by
  obtain ⟨h, hc, hz, l1, l2⟩ := lo_of ha hb b0
  obtain ⟨_, w1, w2⟩ := lowest_run ha hb b0 (fit5 la lb xa xb) []
  refine ⟨⟨h.ra, h.rb, by omega, by omega, w1.mono (by decide), w2.mono (by decide), h.b0, low_eq h h.ra h.rb h.b0 fun n => co_act _ _ _, 1653, 1653, 19847, 6, 70000, fit5b (by omega) (by omega) w1 w2⟩, h.lead, h.low, by omega, by omega, 1653, 1653, 6, w1, w2, all2 sg5_big (by omega) (by omega)⟩
end M
/-! RC28: the law's well: a number drawn, one of some things, a row drawn. -/
namespace M
open PySem PySem.W Builtin Builtin.Str
def Pool (st : Sto) (g : Nat) : Prop := ∃ a b c : Int, lstAt st g = some [.int a, .int b, .int c] ∧ 0 ≤ a ∧ 0 ≤ b ∧ b < 998244353
theorem Pool.keep {st st' : Sto} {g : Nat} {l : List Nat} (h : Pool st g) (k : Kp st st' l) (hg : g ∉ l) : Pool st' g := by
  obtain ⟨a, b, n, h1, h2⟩ := h
  exact ⟨a, b, n, k.lst _ _ hg h1, h2⟩
theorem fdiv_pos {i j : Int} (h : 0 < j) (h2 : j ≤ 1000000000000) (st : Sto) : opFdiv (.int i) (.int j) st = some (.int (i / j), st) := by
  have b40 : (2 : Nat) ^ 40 = 1099511627776 := by decide
  have : j.natAbs.log2 ≤ 40 := log_le (by rw [b40]; omega)
  have h3 : 0 < j ∧ j.natAbs.log2 < 9000 := ⟨h, by omega⟩
  unfold opFdiv
  simp only [if_pos h3]
theorem dip_ok {st : Sto} {g : Nat} {many : Int} (h : Pool st g) (h1 : 0 < many) (h2 : many ≤ 1000000000000) :
    ∃ r st', k02__law_dip [.ref g, .int many] st = .ok (.int r) st' ∧ 0 ≤ r ∧ r < many ∧ Pool st' g ∧ Kp st st' [g] ∧ st'.length = st.length := by
  obtain ⟨a, b, c, hl, a0, b0, b1⟩ := h
  have e2 := ixr hl 2 (by decide) (d := .int c) rfl
  have k2 : ∀ env, kSet (.int (c + 1)) (.ref g) (.int 2) env st = .ok env (st.set g (.lst [.int a, .int b, .int (c + 1)])) := fun env => kset hl 2 (by decide) (by show (2 : Nat) < 3; decide) (.int (c + 1)) env
  have hl1 := lst_set hl [.int a, .int b, .int (c + 1)]
  have f0 := ixr hl1 0 (by decide) (d := .int a) rfl
  have f1 := ixr hl1 1 (by decide) (d := .int b) rfl
  have f2 := ixr hl1 2 (by decide) (d := .int (c + 1)) rfl
  have md := fun i st => mod_pos (i := i) h1 st
  have fd := fun i st => fdiv_pos (i := i) h1 h2 st
  by_cases ha : 0 < a
  · have k0 : ∀ env, kSet (.int (a / many)) (.ref g) (.int 0) env (st.set g (.lst [.int a, .int b, .int (c + 1)])) = .ok env ((st.set g (.lst [.int a, .int b, .int (c + 1)])).set g (.lst [.int (a / many), .int b, .int (c + 1)])) := fun env => kset hl1 0 (by decide) (by show (0 : Nat) < 3; decide) (.int (a / many)) env
    refine ⟨a % many, _, ?_, Int.emod_nonneg _ (by omega), Int.emod_lt_of_pos _ h1, ⟨a / many, b, c + 1, lst_set hl1 [.int (a / many), .int b, .int (c + 1)], Int.ediv_nonneg a0 (by omega), b0, b1⟩, ?_, by simp⟩
    · simp [k02__law_dip, B_k02__law_dip, e2, opAdd]
      rw [k2]
      simp [f0, opCmp, ha, opInt, md, fd]
      rw [k0]
      simp
    · rw [List.set_set]; exact Kp.set
  · have m1 := fun j st => mul_small (i := b) (j := j) (.inl (by unfold smallI; omega)) st
    have m2 := fun j st => mul_small (i := 6151) (j := j) (.inl (by unfold smallI; decide)) st
    have mb := fun st => mod_pos (i := b) (j := 48611) (by decide) st
    have mq := fun i st => mod_pos (i := i) (j := 998244353) (by decide) st
    have fq := fun i st => fdiv_pos (i := i) (j := 131) (by decide) (by decide) st
    obtain ⟨v, hv⟩ : ∃ v, v = (b * (b % 48611 + 8191) + 6151 * (c + 1) + 11) % 998244353 := ⟨_, rfl⟩
    have v0 : 0 ≤ v := by rw [hv]; exact Int.emod_nonneg _ (by decide)
    have v1 : v < 998244353 := by rw [hv]; exact Int.emod_lt_of_pos _ (by decide)
    have k1 : ∀ env, kSet (.int v) (.ref g) (.int 1) env (st.set g (.lst [.int a, .int b, .int (c + 1)])) = .ok env ((st.set g (.lst [.int a, .int b, .int (c + 1)])).set g (.lst [.int a, .int v, .int (c + 1)])) := fun env => kset hl1 1 (by decide) (by show (1 : Nat) < 3; decide) (.int v) env
    have hl2 := lst_set hl1 [.int a, .int v, .int (c + 1)]
    have g1 := ixr hl2 1 (by decide) (d := .int v) rfl
    simp only [List.set_set] at hl2 g1 k1
    refine ⟨v / 131 % many, _, ?_, Int.emod_nonneg _ (by omega), Int.emod_lt_of_pos _ h1, ⟨a, v, c + 1, hl2, a0, v0, v1⟩, ?_, by simp⟩
    · simp [k02__law_dip, B_k02__law_dip, e2, opAdd]
      rw [k2]
      simp [f0, f1, f2, opCmp, ha, opInt, opAdd, m1, m2, mb, mq, ← hv]
      rw [k1]
      simp [g1, fq, opInt, md]
    · exact Kp.set
theorem any_ok {st : Sto} {g : Nat} {xs : List D} (h : Pool st g) (h1 : 0 < xs.length) (h2 : xs.length ≤ 1000) :
    ∃ (i : Nat) (hi : i < xs.length) (st' : Sto), k02__law_any [.ref g, .lst xs] st = .ok xs[i] st' ∧ Pool st' g ∧ Kp st st' [g] ∧ st'.length = st.length := by
  obtain ⟨r, st', e, r0, r1, p, k, l⟩ := dip_ok (many := (xs.length : Int)) h (by omega) (by omega)
  have hi : r.toNat < xs.length := by omega
  have ix := ixl (xs := xs) (d := xs[r.toNat]) r r0 (List.getElem?_eq_getElem hi) st'
  exact ⟨r.toNat, hi, st', by simp [k02__law_any, B_k02__law_any, len_lst, e, ix], p, k, l⟩
/-- a row that is drawn -/
structure Dr (r : List Int) : Prop where
  row : Row r
  len : r.length ≤ 5
  bd : Bd 40 r
theorem drawn_list {st : Sto} {g n : Nat} {env0 : Env} {e : IE} (hn : n ≤ 5) (h0 : Pool st g) (he : ∀ i s, Pool s g → ∃ x s', e (env0.set 3 (some (.int (i : Int)))) s = .ok (.int x) s' ∧ x.natAbs < 2 ^ 40 ∧ Pool s' g ∧ Kp s s' [g] ∧ s'.length = s.length) :
    ∃ l st', compF (nxR 0 n) (.one 3) tYes' e env0 n 0 [] st = .ok (I_ l) st' ∧ l.length = n ∧ Bd 40 l ∧ Pool st' g ∧ Kp st st' [g] ∧ st'.length = st.length := by
  obtain ⟨acc, s', h1, h2, l, rfl, h4, h5, h6, h7⟩ := compF_rng (e := e) (env0 := env0) (v := 3) (n := n) (by omega) (fun acc s => ∃ l, acc = I_ l ∧ Bd 40 l ∧ Pool s g ∧ Kp st s [g] ∧ s.length = st.length)
    (fun i hi acc s ha ⟨l, hl, hb, hp, hk, hz⟩ => by
      obtain ⟨x, s', e1, e2, e3, e4, e5⟩ := he i s hp
      refine ⟨.int x, s', e1, l ++ [x], ?_, ?_, e3, hk.trans e4, by omega⟩
      · rw [hl, I_, I_, List.map_append]; rfl
      · intro y hy
        rcases List.mem_append.mp hy with h | h
        · exact hb y h
        · rw [List.mem_singleton.mp h]; exact e2) n 0 [] st (by omega) rfl ⟨[], rfl, fun x hx => by simp at hx, h0, Kp.refl _ _, rfl⟩
  exact ⟨l, s', h1, by simpa using h2, h4, h5, h6, h7⟩
theorem pow_12 (st : Sto) : opPow (.int 10) (.int 12) st = some (.int 1000000000000, st) := by kernel_rfl
theorem pow_11 (st : Sto) : opPow (.int 10) (.int 11) st = some (.int 100000000000, st) := by kernel_rfl
theorem drawn_ok {st : Sto} {g : Nat} (h : Pool st g) : ∃ r st', k02__law_drawn_row [.ref g, .int 5] st = .ok (.lst (I_ r)) st' ∧ Dr r ∧ Pool st' g ∧ Kp st st' [g] ∧ st'.length = st.length := by
  obtain ⟨z, s1, e1, z0, z1, p1, k1, l1⟩ := dip_ok (many := 5) h (by decide) (by decide)
  obtain ⟨w, s2, e2, w0, w1, p2, k2, l2⟩ := dip_ok (many := 8) p1 (by decide) (by decide)
  have b40 : (2 : Nat) ^ 40 = 1099511627776 := by decide
  obtain ⟨n, hn⟩ : ∃ n : Nat, 1 + z = (n : Int) := ⟨(1 + z).toNat, by omega⟩
  have n5 : n ≤ 5 := by omega
  have nr := rng1 (e := iVar 2) (env := [some (.ref g), some (.int 5), some (.int (n : Int)), none]) (st := s2) (st' := s2) (n := n) (by simp) (by omega)
  have fin : ∀ l s', l.length = n → Bd 40 l → Pool s' g → Kp s2 s' [g] → s'.length = s2.length → ∃ r st', k02__law_row [.lst (I_ l)] s' = .ok (.lst (I_ r)) st' ∧ Dr r ∧ Pool st' g ∧ Kp st st' [g] ∧ st'.length = st.length := fun l s' hl hb hp hk hz => by
    have l0 : l ≠ [] := fun q => by rw [q] at hl; simp at hl; omega
    have ra := row_any (d := .lst (I_ l)) (st := s') rfl l0 (by omega)
    exact ⟨trimR l, s', ra, ⟨trimR_row l0, by have := trimR_len l0; omega, fun x hx => hb x (trimR_mem l0 hx)⟩, hp, (k1.trans k2).trans hk, by omega⟩
  by_cases q : w = 0
  · obtain ⟨l, s3, c1, c2, c3, c4, c5, c6⟩ := drawn_list (n := n) (env0 := [some (.ref g), some (.int 5), some (.int (n : Int)), none]) (e := iBin opSub (iCall k02__law_dip [] (aCons (iVar 0) (aCons (iBin opPow (iC (.int 10)) (iC (.int 12))) aNil))) (iBin opPow (iC (.int 10)) (iC (.int 11)))) n5 p2 (fun i s hp => by
      obtain ⟨x, s', f1, f2, f3, f4, f5, f6⟩ := dip_ok (many := 1000000000000) hp (by decide) (by decide)
      exact ⟨x - 100000000000, s', by simp [pow_12, pow_11, f1, opSub], by omega, f4, f5, f6⟩)
    obtain ⟨r, s4, r1, r2, r3, r4, r5⟩ := fin l s3 c2 c3 c4 c5 c6
    refine ⟨r, s4, ?_, r2, r3, r4, r5⟩
    rw [q] at e2
    simp [k02__law_drawn_row, B_k02__law_drawn_row, e1, opAdd, hn, e2, eq_int, iCompF_d, nr, Pat.slots, wipeE]
    rw [c1]
    simp [r1]
  · obtain ⟨l, s3, c1, c2, c3, c4, c5, c6⟩ := drawn_list (n := n) (env0 := [some (.ref g), some (.int 5), some (.int (n : Int)), none]) (e := iBin opSub (iCall k02__law_dip [] (aCons (iVar 0) (aCons (iC (.int 9)) aNil))) (iC (.int 4))) n5 p2 (fun i s hp => by
      obtain ⟨x, s', f1, f2, f3, f4, f5, f6⟩ := dip_ok (many := 9) hp (by decide) (by decide)
      exact ⟨x - 4, s', by simp [f1, opSub], by omega, f4, f5, f6⟩)
    obtain ⟨r, s4, r1, r2, r3, r4, r5⟩ := fin l s3 c2 c3 c4 c5 c6
    refine ⟨r, s4, ?_, r2, r3, r4, r5⟩
    simp [k02__law_drawn_row, B_k02__law_drawn_row, e1, opAdd, hn, e2, eq_int, q, iCompF_d, nr, Pat.slots, wipeE]
    rw [c1]
    simp [r1]
end M
/-! RC29: what a turn of the law draws; the ratios that it makes. -/
namespace M
open PySem PySem.W Builtin Builtin.Str
theorem rows_drawn {st : Sto} {g : Nat} {x1 x2 x3 x4 x5 x6 x7 x8 x9 x10 x11 : Option D} (h : Pool st g) : ∃ U L M st', (sAsg (gTup' 3 (gsVar 1 (gsVar 2 (gsVar 3 gsNil)))) (iCompF (wRng1 (aCons (iC (.int 3)) aNil)) (.one 11) tYes' (iCall k02__law_drawn_row [] (aCons (iVar 0) (aCons (iC (.int 5)) aNil))))) [some (.ref g), x1, x2, x3, x4, x5, x6, x7, x8, x9, x10, x11] st = .nx [some (.ref g), some (.lst (I_ U)), some (.lst (I_ L)), some (.lst (I_ M)), x4, x5, x6, x7, x8, x9, x10, x11] st' ∧ Dr U ∧ Dr L ∧ Dr M ∧ Pool st' g ∧ Kp st st' [g] ∧ st'.length = st.length := by
  obtain ⟨acc, s', h1, h2, rows, rfl, h4, h5, h6, h7⟩ := compF_rng (e := iCall k02__law_drawn_row [] (aCons (iVar 0) (aCons (iC (.int 5)) aNil))) (env0 := [some (.ref g), x1, x2, x3, x4, x5, x6, x7, x8, x9, x10, none]) (v := 11) (n := 3) (by omega) (fun acc s => ∃ rows : List (List Int), acc = rows.map (fun r => D.lst (I_ r)) ∧ (∀ r ∈ rows, Dr r) ∧ Pool s g ∧ Kp st s [g] ∧ s.length = st.length)
    (fun i hi acc s ha ⟨rows, hl, hb, hp, hk, hz⟩ => by
      obtain ⟨r, s', e1, e2, e3, e4, e5⟩ := drawn_ok hp
      refine ⟨.lst (I_ r), s', by simp [e1], rows ++ [r], ?_, ?_, e3, hk.trans e4, by omega⟩
      · rw [hl, List.map_append]; rfl
      · intro y hy
        rcases List.mem_append.mp hy with h | h
        · exact hb y h
        · rw [List.mem_singleton.mp h]; exact e2) 3 0 [] st (by omega) rfl ⟨[], rfl, fun x hx => by simp at hx, h, Kp.refl _ _, rfl⟩
  have l3 : rows.length = 3 := by simpa using h2
  match rows, l3 with
  | [U, L, M], _ =>
    have nr := rng1 (e := iC (.int (3 : Nat))) (env := [some (.ref g), x1, x2, x3, x4, x5, x6, x7, x8, x9, x10, x11]) (st := st) (st' := st) (n := 3) (by rfl) (by omega)
    refine ⟨U, L, M, s', ?_, h4 U (by simp), h4 L (by simp), h4 M (by simp), h5, h6, h7⟩
    have nr' : wRng1 (aCons (iC (.int 3)) aNil) [some (.ref g), x1, x2, x3, x4, x5, x6, x7, x8, x9, x10, x11] st = .ok (nxR 0 3, 3) st := nr
    simp only [sAsg_d, iCompF_d, nr', R_ok, wipeE, Pat.slots, List.set_cons_zero, List.set_cons_succ, h1, liftS_ok]
    simp
theorem dr_one {x : Int} (h : x.natAbs < 2 ^ 40) : Dr [x] := ⟨by
  by_cases q : x = 0
  · left; rw [q]
  · right; exact ⟨[], x, q, rfl⟩, by simp, fun y hy => by rw [List.mem_singleton.mp hy]; exact h⟩
theorem eq_zero_row (neg : Bool) (A : List Int) (st : Sto) : opEq neg (.lst (I_ A)) (.lst [.int 0]) st = some (.bl (if neg then !decide (A = [0]) else decide (A = [0])), st) := eq_rows neg [0]
theorem lower_set {st : Sto} {g : Nat} {L : List Int} {x1 x3 x4 x5 x6 x7 x8 x9 x10 x11 : Option D} (h : Pool st g) (hL : Dr L) : ∃ L' st', (sSet 2 (iIf (tBl (iBin (opEq true) (iVar 2) (iN opLstF (aCons (iC (.int 0)) aNil)))) (iVar 2) (iN opLstF (aCons (iCall k02__law_any [] (aCons (iVar 0) (aCons (iN opLstF (aCons (iC (.int 1)) (aCons (iUn opNeg (iC (.int 2))) (aCons (iC (.int 7)) aNil)))) aNil))) aNil)))) [some (.ref g), x1, some (.lst (I_ L)), x3, x4, x5, x6, x7, x8, x9, x10, x11] st = .nx [some (.ref g), x1, some (.lst (I_ L')), x3, x4, x5, x6, x7, x8, x9, x10, x11] st' ∧ Dr L' ∧ L' ≠ [0] ∧ Pool st' g ∧ Kp st st' [g] ∧ st'.length = st.length := by
  have e := eq_zero_row true L st
  by_cases q : L = [0]
  · obtain ⟨i, hi, s', e1, p, k, l⟩ := any_ok (xs := [D.int 1, D.int (-2), D.int 7]) h (by decide) (by decide)
    obtain ⟨x, hx, hb, h0⟩ : ∃ x : Int, [D.int 1, D.int (-2), D.int 7][i] = .int x ∧ x.natAbs < 2 ^ 40 ∧ x ≠ 0 := by
      match i, hi with
      | 0, _ => exact ⟨1, rfl, by decide, by decide⟩
      | 1, _ => exact ⟨-2, rfl, by decide, by decide⟩
      | 2, _ => exact ⟨7, rfl, by decide, by decide⟩
    rw [hx] at e1
    refine ⟨[x], s', ?_, dr_one hb, fun z => h0 (by simpa using z), p, k, l⟩
    subst q
    have e' : opEq true (.lst [.int 0]) (.lst [.int 0]) st = some (.bl false, st) := e
    simp [e', opNeg, e1]
  · refine ⟨L, st, ?_, hL, q, h, Kp.refl _ _, rfl⟩
    generalize I_ L = IL at *
    simp [e, q]
theorem more_set {st : Sto} {M : List Int} {x0 x1 x2 x4 x5 x6 x7 x8 x9 x10 x11 : Option D} (hM : Dr M) : ∃ M', (sSet 3 (iIf (tBl (iBin (opEq true) (iVar 3) (iN opLstF (aCons (iC (.int 0)) aNil)))) (iVar 3) (iN opLstF (aCons (iC (.int 3)) aNil)))) [x0, x1, x2, some (.lst (I_ M)), x4, x5, x6, x7, x8, x9, x10, x11] st = .nx [x0, x1, x2, some (.lst (I_ M')), x4, x5, x6, x7, x8, x9, x10, x11] st ∧ Dr M' ∧ M' ≠ [0] := by
  have e := eq_zero_row true M st
  by_cases q : M = [0]
  · refine ⟨[3], ?_, dr_one (by decide), by decide⟩
    subst q
    have e' : opEq true (.lst [.int 0]) (.lst [.int 0]) st = some (.bl false, st) := e
    simp [e']
  · refine ⟨M, ?_, hM, q⟩
    generalize I_ M = IM at *
    simp [e, q]
theorem zeros_set {st : Sto} {g : Nat} {x1 x2 x3 x4 x5 x6 x7 x8 x9 x10 x11 : Option D} (h : Pool st g) : ∃ z st', (sSet 4 (iBin opMulZ (iN opTup (aCons (iC (.int 0)) aNil)) (iCall k02__law_dip [] (aCons (iVar 0) (aCons (iC (.int 3)) aNil))))) [some (.ref g), x1, x2, x3, x4, x5, x6, x7, x8, x9, x10, x11] st = .nx [some (.ref g), x1, x2, x3, some (.tup (I_ (List.replicate z 0))), x5, x6, x7, x8, x9, x10, x11] st' ∧ z ≤ 2 ∧ Pool st' g ∧ Kp st st' [g] ∧ st'.length = st.length := by
  obtain ⟨w, s2, e2, w0, w1, p2, k2, l2⟩ := dip_ok (many := 3) h (by decide) (by decide)
  obtain ⟨z, hz⟩ : ∃ z : Nat, w = (z : Int) := ⟨w.toNat, by omega⟩
  subst hz
  have zn := zeros_n (p := z) (by omega) s2
  refine ⟨z, s2, ?_, by omega, p2, k2, l2⟩
  generalize I_ (List.replicate z (0 : Int)) = Z at *
  simp [e2, zn]
theorem co_zeros (A : List Int) (z n : Nat) : co (A ++ List.replicate z 0) n = co A n := by
  rw [co_get, co_get, List.getD_eq_getElem?_getD, List.getD_eq_getElem?_getD]
  by_cases h : n < A.length
  · rw [List.getElem?_append_left h]
  · rw [List.getElem?_append_right (by omega), List.getElem?_replicate, List.getElem?_eq_none (l := A) (by omega)]
    split <;> rfl
theorem trim_zeros {A : List Int} (h : Row A) (z : Nat) : trimR (A ++ List.replicate z 0) = A := (trimR_row (by simp [h.ne])).ext h fun n => by rw [trimR_co, co_zeros]
/-- the ratio -/
theorem ratio_mkr {U L : List Int} (z : Nat) (hz : z ≤ 2) (hU : Dr U) (hL : Dr L) (L0 : L ≠ [0]) : Mkr (.tup (I_ (U ++ List.replicate z 0))) (.tup (I_ (L ++ List.replicate z 0))) (.tup (I_ U)) (.tup (I_ L)) (.tup (I_ (lowR U L).1)) (.tup (I_ (lowR U L).2)) := by
  have tu := trim_zeros hU.row z
  have tl := trim_zeros hL.row z
  have lu := hU.len
  have ll := hL.len
  have m := mkr_of (t := U ++ List.replicate z 0) (b := L ++ List.replicate z 0) (X := 41) (Y := 41) (H := 503) (g := 6) (Z := 1553) (by simp [hU.row.ne]) (by simp [hL.row.ne]) (by simp; omega) (by simp; omega) (by rw [tl]; exact L0) (by rw [tu, tl]; exact fit5 lu ll (hU.bd.mono (by decide)) (hL.bd.mono (by decide)))
  rw [tu, tl] at m
  exact m
theorem bd_mul {a b l : List Int} (ha : Dr a) (hb : Dr b) (hl : ∀ n, co l n = act a (co b) n) : Bd 84 l := fun x hx => by
  obtain ⟨i, hi⟩ := co_mem hx
  have := act_bd (X := 40) (f := co b) (co_bd hb.bd) a ha.bd i
  rw [← hl, hi] at this
  have p : (2 : Nat) ^ 84 = 16 * 2 ^ 80 := by decide
  have q : a.length * 2 ^ (40 + 40) ≤ 5 * 2 ^ 80 := Nat.mul_le_mul_right _ ha.len
  have r : 0 < (2 : Nat) ^ 80 := Nat.two_pow_pos 80
  omega
/-- the ratio with both sides multiplied -/
theorem wide_mkr {U L M u l : List Int} (hU : Dr U) (hL : Dr L) (L0 : L ≠ [0]) (hM : Dr M) (M0 : M ≠ [0]) (hu : Row u) (hl : Row l) (lu : u.length ≤ 9) (ll : l.length ≤ 9) (cu : ∀ n, co u n = act U (co M) n) (cl : ∀ n, co l n = act L (co M) n) : Mkr (.tup (I_ u)) (.tup (I_ l)) (.tup (I_ u)) (.tup (I_ l)) (.tup (I_ (lowR U L).1)) (.tup (I_ (lowR U L).2)) := by
  have l0 : l ≠ [0] := fun z => by
    obtain ⟨n, hn⟩ := act_ne hL.row L0 hM.row M0
    rw [← cl, z, co_z] at hn
    exact hn rfl
  obtain ⟨h, hc, _, _, _⟩ := lo_of hU.row hL.row L0
  have le : lowR u l = ((lowR U L).1, (lowR U L).2) := low_eq h hu hl l0 fun n => by
    rw [funext cl, funext cu, act_comm, act_comm (lowR U L).2]
    have e1 : act (lowR U L).1 (co M) = act M (co (lowR U L).1) := funext fun n => co_act _ _ n
    have e2 : act (lowR U L).2 (co M) = act M (co (lowR U L).2) := funext fun n => co_act _ _ n
    rw [e1, e2, act_comm, act_comm U]
    have e3 : act L (co (lowR U L).1) = act U (co (lowR U L).2) := funext fun n => by rw [co_act, hc, co_act]
    rw [e3]
  have tu := trimR_id hu
  have tl := trimR_id hl
  have m := mkr_of (t := u) (b := l) (X := 84) (Y := 84) (H := 34679) (g := 10) (Z := 250000) hu.ne hl.ne (by omega) (by omega) (by rw [tl]; exact l0) (by rw [tu, tl]; exact fit9 lu ll (bd_mul hU hM cu) (bd_mul hL hM cl))
  rw [tu, tl, le] at m
  exact m
end M
/-! RC30: == and != of ratios and of other things; what a turn of the law makes. -/
namespace M
open PySem PySem.W Builtin Builtin.Str
abbrev tsR : List String := ["str", "tuple", "list", "NoneType", "int", "bool", "dict"]
theorem eqI_ii {s : Sto} {n m : Nat} {A B A' B' : List Int} (neg : Bool) (h : s[n]? = some (insR A B)) (h' : s[m]? = some (insR A' B')) : opEqI "Ratio" tsR p_Ratio___eq__ neg (.ref n) (.ref m) s = some (.bl (if neg then !decide (A = A' ∧ B = B') else decide (A = A' ∧ B = B')), s) := by
  have sm := same_ok h h'
  have e : insD s (.ref n) = some (("Ratio" : Str), fsR (.tup (I_ A)) (.tup (I_ B))) := by simp only [insD, h]
  have ok : okR "Ratio" tsR s (.ref m) = true := by
    have e' : insD s (.ref m) = some (("Ratio" : Str), fsR (.tup (I_ A')) (.tup (I_ B'))) := by simp only [insD, h']
    simp only [okR, e', decide_true]
  simp only [opEqI, e, ok, and_self, if_true, sm, optR]
  cases neg <;> rfl
/-- a thing that is no ratio -/
structure Oth (d : D) (s : Sto) : Prop where
  isi : opIsiI ["Ratio"] [] (isaT tl_Ratio) [d, .glo "Ratio"] s = some (.bl false, s)
  ok : okR "Ratio" tsR s d = true
theorem oth_str (x : Str) (s : Sto) : Oth (.str x) s := ⟨by kernel_rfl, by kernel_rfl⟩
theorem oth_int (i : Int) (s : Sto) : Oth (.int i) s := ⟨by kernel_rfl, by kernel_rfl⟩
theorem oth_non (s : Sto) : Oth .non s := ⟨by kernel_rfl, by kernel_rfl⟩
theorem oth_tup (xs : List D) (s : Sto) : Oth (.tup xs) s := ⟨by kernel_rfl, by kernel_rfl⟩
theorem eqI_oth {s : Sto} {n : Nat} {A B : List Int} {d : D} (neg : Bool) (h : s[n]? = some (insR A B)) (o : Oth d s) : opEqI "Ratio" tsR p_Ratio___eq__ neg (.ref n) d s = some (.bl neg, s) := by
  have e : insD s (.ref n) = some (("Ratio" : Str), fsR (.tup (I_ A)) (.tup (I_ B))) := by simp only [insD, h]
  have is_ := o.isi
  have sm : p_Ratio___eq__ [.ref n, d] s = .ok (.bl false) s := by simp [p_Ratio___eq__, B_p_Ratio___eq__, is_]
  simp only [opEqI, e, o.ok, and_self, if_true, sm, optR]
  cases neg <;> rfl
theorem tuple_lst (xs : List D) (s : Sto) : opTuple [.lst xs] s = some (.tup xs, s) := rfl
theorem ratio_set {st : Sto} {U L : List Int} {z : Nat} {x0 x3 x5 x6 x7 x8 x9 x10 x11 : Option D} (hz : z ≤ 2) (hU : Dr U) (hL : Dr L) (L0 : L ≠ [0]) :
    (sSet 5 (iNewP "Ratio" p_Ratio___init__ 2 0 [0, 1, 2] (aCons (iBin opAdd (iN opTuple (aCons (iVar 1) aNil)) (iVar 4)) (aCons (iBin opAdd (iN opTuple (aCons (iVar 2) aNil)) (iVar 4)) aNil)) aNil)) [x0, some (.lst (I_ U)), some (.lst (I_ L)), x3, some (.tup (I_ (List.replicate z 0))), x5, x6, x7, x8, x9, x10, x11] st = .nx [x0, some (.lst (I_ U)), some (.lst (I_ L)), x3, some (.tup (I_ (List.replicate z 0))), some (.ref st.length), x6, x7, x8, x9, x10, x11] (st ++ [insR (lowR U L).1 (lowR U L).2]) := by
  have mk := newP_ok (ratio_mkr z hz hU hL L0) st
  have lu := hU.len
  have ll := hL.len
  have a1 := addt_ok (a := U) (b := List.replicate z 0) (by simp; omega) st
  have a2 := addt_ok (a := L) (b := List.replicate z 0) (by simp; omega) st
  generalize I_ (U ++ List.replicate z 0) = W1 at *
  generalize I_ (L ++ List.replicate z 0) = W2 at *
  generalize I_ (List.replicate z (0 : Int)) = Z at *
  generalize hO : insR (lowR U L).1 (lowR U L).2 = O1 at *
  generalize I_ U = IU at *
  generalize I_ L = IL at *
  simp [tuple_lst, a1, a2, iNewP, mk, hO]
theorem wide_set {st : Sto} {U L M : List Int} {x0 x4 x5 x6 x7 x8 x9 x10 x11 : Option D} (hU : Dr U) (hL : Dr L) (L0 : L ≠ [0]) (hM : Dr M) (M0 : M ≠ [0]) :
    ∃ st', (sSet 6 (iNewP "Ratio" p_Ratio___init__ 0 2 [0, 2, 1] aNil (aCons (iN opTuple (aCons (iCall k02__law_multiplied [] (aCons (iVar 2) (aCons (iVar 3) aNil))) aNil)) (aCons (iN opTuple (aCons (iCall k02__law_multiplied [] (aCons (iVar 1) (aCons (iVar 3) aNil))) aNil)) aNil)))) [x0, some (.lst (I_ U)), some (.lst (I_ L)), some (.lst (I_ M)), x4, x5, x6, x7, x8, x9, x10, x11] st = .nx [x0, some (.lst (I_ U)), some (.lst (I_ L)), some (.lst (I_ M)), x4, x5, some (.ref st'.length), x7, x8, x9, x10, x11] (st' ++ [insR (lowR U L).1 (lowR U L).2]) ∧ Kp st st' [] := by
  have lu := hU.len
  have ll := hL.len
  have lm := hM.len
  obtain ⟨s1, l1, m1, k1, r1, n1, c1⟩ := mult_run (a := L) (b := M) hL.row.ne hM.row.ne (by omega) (by omega) hL.bd hM.bd (by decide) st
  obtain ⟨s2, l2, m2, k2, r2, n2, c2⟩ := mult_run (a := U) (b := M) hU.row.ne hM.row.ne (by omega) (by omega) hU.bd hM.bd (by decide) s1
  have mk := newPK_ok (wide_mkr hU hL L0 hM M0 r2 r1 (by omega) (by omega) c2 c1) s2
  refine ⟨s2, ?_, k1.trans k2⟩
  generalize hO : insR (lowR U L).1 (lowR U L).2 = O1 at *
  generalize I_ l1 = W1 at *
  generalize I_ l2 = W2 at *
  generalize I_ U = IU at *
  generalize I_ L = IL at *
  generalize I_ M = IM at *
  simp [tuple_lst, m1, m2, iNewP, mk, hO]
end M
/-! RC31: a turn of the law, statement by statement. -/
namespace M
open PySem PySem.W Builtin Builtin.Str
abbrev R7 : IS := (sIf (tOr' (tNot' (tTru (iCall k02__law_seen_right [] (aCons (iVar 5) (aCons (iVar 1) (aCons (iVar 2) aNil)))))) (tNot' (tTru (iCall k02__law_seen_right [] (aCons (iVar 6) (aCons (iVar 1) (aCons (iVar 2) aNil))))))) (sRet (iC (.bl false))) sNil)
abbrev R8 : IS := (sIf (tNot' (tTru (iCall k02__law_seen_right [] (aCons (iNewD "Ratio" p_Ratio___init__ 1 [0, 1, 2] [.tup [.int 1]] (aCons (iN opTuple (aCons (iVar 1) aNil)) aNil)) (aCons (iVar 1) (aCons (iN opLstF (aCons (iC (.int 1)) aNil)) aNil)))))) (sRet (iC (.bl false))) sNil)
abbrev R9 : IS := (sIf (tNot' (tTru (iCall k02__law_seen_right [] (aCons (iCallK p_Ratio_read 1 [0] [] (aCons (iN (opStrI "Ratio" p_Ratio___str__) (aCons (iVar 5) aNil)) aNil)) (aCons (iVar 1) (aCons (iVar 2) aNil)))))) (sRet (iC (.bl false))) sNil)
abbrev R10 : IS := (sSet 7 (iNewP "Ratio" p_Ratio___init__ 2 0 [0, 1, 2] (aCons (iN opTuple (aCons (iCall k02__law_row [] (aCons (iBin opAdd (iN opLstF (aCons (iBin opAdd (iBin opIx (iVar 1) (iC (.int 0))) (iBin opIx (iVar 2) (iC (.int 0)))) aNil)) (iSl (iVar 1) (oSome (iC (.int 1))) oNone)) aNil)) aNil)) (aCons (iN opTuple (aCons (iVar 2) aNil)) aNil)) aNil))
abbrev R11 : IS := (sSet 8 (iN opLstF (aCons (iBin (opEqI "Ratio" ["str", "tuple", "list", "NoneType", "int", "bool", "dict"] p_Ratio___eq__ false) (iVar 5) (iVar 6)) (aCons (iBin (opEqI "Ratio" ["str", "tuple", "list", "NoneType", "int", "bool", "dict"] p_Ratio___eq__ true) (iVar 5) (iVar 6)) (aCons (iBin (opEqI "Ratio" ["str", "tuple", "list", "NoneType", "int", "bool", "dict"] p_Ratio___eq__ false) (iVar 5) (iCall p_Ratio_read [] (aCons (iN (opStrI "Ratio" p_Ratio___str__) (aCons (iVar 5) aNil)) aNil))) (aCons (iBin (opEqI "Ratio" ["str", "tuple", "list", "NoneType", "int", "bool", "dict"] p_Ratio___eq__ false) (iVar 5) (iVar 7)) (aCons (iBin (opEqI "Ratio" ["str", "tuple", "list", "NoneType", "int", "bool", "dict"] p_Ratio___eq__ true) (iVar 5) (iVar 7)) aNil)))))))
abbrev R12 : IS := (sSet 9 (iAnd (iBin (opEq false) (iN opListF (aCons (iUn (opGet ["Ratio"] "top") (iVar 7)) aNil)) (iN opListF (aCons (iUn (opGet ["Ratio"] "top") (iVar 5)) aNil))) (iBin (opEq false) (iN opListF (aCons (iUn (opGet ["Ratio"] "bottom") (iVar 7)) aNil)) (iN opListF (aCons (iUn (opGet ["Ratio"] "bottom") (iVar 5)) aNil)))))
abbrev R13 : IS := (sIf (tBl (iBin (opEq true) (iVar 8) (iN opLstF (aCons (iC (.bl true)) (aCons (iC (.bl false)) (aCons (iC (.bl true)) (aCons (iVar 9) (aCons (iNot (iVar 9)) aNil)))))))) (sRet (iC (.bl false))) sNil)
abbrev R14 : IS := (sFor (wAny (iN opLstF (aCons (iN (opStrI "Ratio" p_Ratio___str__) (aCons (iVar 5) aNil)) (aCons (iBin opIx (iVar 1) (iC (.int 0))) (aCons (iC .non) (aCons (iN opTup (aCons (iUn (opGet ["Ratio"] "top") (iVar 5)) (aCons (iUn (opGet ["Ratio"] "bottom") (iVar 5)) aNil))) aNil)))))) (gVar 10) (sIf (tOr' (tBl (iBin (opEqI "Ratio" ["str", "tuple", "list", "NoneType", "int", "bool", "dict"] p_Ratio___eq__ false) (iVar 5) (iVar 10))) (tNot' (tBl (iBin (opEqI "Ratio" ["str", "tuple", "list", "NoneType", "int", "bool", "dict"] p_Ratio___eq__ true) (iVar 5) (iVar 10))))) (sRet (iC (.bl false))) sNil))
section
variable {st : Sto} {U L : List Int} {n m q : Nat} {x0 x1 x2 x3 x4 x5 x6 x7 x8 x9 x10 x11 : Option D}
theorem seen_dr (hU : Dr U) (hL : Dr L) (L0 : L ≠ [0]) (h : st[n]? = some (insR (lowR U L).1 (lowR U L).2)) : ∃ st', k02__law_seen_right [.ref n, .lst (I_ U), .lst (I_ L)] st = .ok (.bl true) st' ∧ Kp st st' [] := by
  obtain ⟨_, hc, hz, _, _⟩ := lo_of hU.row hL.row L0
  have lu := hU.len
  have ll := hL.len
  exact seen_ok (X := 40) (gd_of hU.row hL.row L0 lu ll (hU.bd.mono (by decide)) (hL.bd.mono (by decide))) h hU.row hL.row hz hc (by omega) (by omega) hU.bd hL.bd (by decide)
theorem R7_ok (hU : Dr U) (hL : Dr L) (L0 : L ≠ [0]) (h : st[n]? = some (insR (lowR U L).1 (lowR U L).2)) (h' : st[m]? = some (insR (lowR U L).1 (lowR U L).2)) : ∃ st', R7 [x0, some (.lst (I_ U)), some (.lst (I_ L)), x3, x4, some (.ref n), some (.ref m), x7, x8, x9, x10, x11] st = .nx [x0, some (.lst (I_ U)), some (.lst (I_ L)), x3, x4, some (.ref n), some (.ref m), x7, x8, x9, x10, x11] st' ∧ Kp st st' [] := by
  obtain ⟨s1, e1, k1⟩ := seen_dr hU hL L0 h
  obtain ⟨s2, e2, k2⟩ := seen_dr hU hL L0 (k1.ins (by simp) h')
  refine ⟨s2, ?_, k1.trans k2⟩
  generalize I_ U = IU at *
  generalize I_ L = IL at *
  simp [R7, e1, e2]
theorem dr_unit : Dr [1] := dr_one (by decide)
theorem R8_ok (hU : Dr U) : ∃ st', R8 [x0, some (.lst (I_ U)), x2, x3, x4, x5, x6, x7, x8, x9, x10, x11] st = .nx [x0, some (.lst (I_ U)), x2, x3, x4, x5, x6, x7, x8, x9, x10, x11] st' ∧ Kp st st' [] := by
  have o0 : ([1] : List Int) ≠ [0] := by decide
  have lu := hU.len
  have tu := trimR_id hU.row
  have t1 : trimR [1] = [1] := rfl
  have mk := mkr_of (t := U) (b := [1]) (X := 41) (Y := 41) (H := 503) (g := 6) (Z := 1553) hU.row.ne (by simp) (by omega) (by simp) (by rw [t1]; exact o0) (by rw [tu, t1]; exact fit5 lu (by simp) (hU.bd.mono (by decide)) (dr_unit.bd.mono (by decide)))
  rw [tu, t1] at mk
  have nw := new_ok mk st
  have k0 : Kp st (st ++ [insR (lowR U [1]).1 (lowR U [1]).2]) [] := Kp.push
  obtain ⟨s1, e1, k1⟩ := seen_dr (st := st ++ [insR (lowR U [1]).1 (lowR U [1]).2]) (n := st.length) hU dr_unit o0 (by simp)
  refine ⟨s1, ?_, k0.trans k1⟩
  have e1' : k02__law_seen_right [.ref st.length, .lst (I_ U), .lst [.int 1]] (st ++ [insR (lowR U [1]).1 (lowR U [1]).2]) = .ok (.bl true) s1 := e1
  have nw' : opNew "Ratio" (fun l s => p_Ratio___init__ (gPick [0, 1, 2] l) s) [.tup (I_ U), .tup [.int 1]] st = .ok (.ref st.length) (st ++ [insR (lowR U [1]).1 (lowR U [1]).2]) := nw
  generalize insR (lowR U [1]).1 (lowR U [1]).2 = O1 at *
  generalize I_ U = IU at *
  simp [R8, iNewD, tuple_lst, nw', e1']
theorem R9_ok (hU : Dr U) (hL : Dr L) (L0 : L ≠ [0]) (h : st[n]? = some (insR (lowR U L).1 (lowR U L).2)) : ∃ st', R9 [x0, some (.lst (I_ U)), some (.lst (I_ L)), x3, x4, some (.ref n), x6, x7, x8, x9, x10, x11] st = .nx [x0, some (.lst (I_ U)), some (.lst (I_ L)), x3, x4, some (.ref n), x6, x7, x8, x9, x10, x11] st' ∧ Kp st st' [] := by
  have G := gd_of hU.row hL.row L0 hU.len hL.len (hU.bd.mono (by decide)) (hL.bd.mono (by decide))
  have N := G.n
  have so := strI_ok h N.la N.lb N.ba N.bb
  have rd := read_ok N st
  have k0 : Kp st (st ++ [insR (lowR U L).1 (lowR U L).2]) [] := Kp.push
  obtain ⟨s1, e1, k1⟩ := seen_dr (st := st ++ [insR (lowR U L).1 (lowR U L).2]) (n := st.length) hU hL L0 (by simp)
  refine ⟨s1, ?_, k0.trans k1⟩
  clear h G N
  generalize ratioL (lowR U L).1 (lowR U L).2 = W at *
  generalize insR (lowR U L).1 (lowR U L).2 = O1 at *
  generalize I_ U = IU at *
  generalize I_ L = IL at *
  have kp : kPick p_Ratio_read 0 1 [0] [] [] [.str (T_ W)] st = .ok (.ref st.length) (st ++ [O1]) := by
    show p_Ratio_read (gPick [0] [D.str (T_ W)]) st = _
    exact rd
  simp [R9, iCallK, so, kp, e1]
theorem R10_ok (hU : Dr U) (hL : Dr L) (L0 : L ≠ [0]) : ∃ Af Bf, R10 [x0, some (.lst (I_ U)), some (.lst (I_ L)), x3, x4, x5, x6, x7, x8, x9, x10, x11] st = .nx [x0, some (.lst (I_ U)), some (.lst (I_ L)), x3, x4, x5, x6, some (.ref st.length), x8, x9, x10, x11] (st ++ [insR Af Bf]) := by
  have lu := hU.len
  have ll := hL.len
  have up := List.length_pos_iff.mpr hU.row.ne
  have lp := List.length_pos_iff.mpr hL.row.ne
  obtain ⟨F0, hF0⟩ : ∃ F0, F0 = (co U 0 + co L 0) :: U.drop 1 := ⟨_, rfl⟩
  have f0 : F0 ≠ [] := by rw [hF0]; simp
  have fl : F0.length ≤ 5 := by rw [hF0, List.length_cons, List.length_drop]; omega
  have fb : Bd 41 F0 := fun x hx => by
    rw [hF0] at hx
    rcases List.mem_cons.mp hx with rfl | h
    · have a := co_bd hU.bd 0
      have b := co_bd hL.bd 0
      have p : (2 : Nat) ^ 41 = 2 * 2 ^ 40 := by decide
      omega
    · exact (hU.bd.mono (by decide)) x (List.mem_of_mem_drop h)
  have tt : trimR (trimR F0) = trimR F0 := trimR_id (trimR_row f0)
  have tl := trimR_id hL.row
  have tr := trimR_len f0
  have mk := mkr_of (t := trimR F0) (b := L) (X := 41) (Y := 41) (H := 503) (g := 6) (Z := 1553) (trimR_row f0).ne hL.row.ne (by omega) (by omega) (by rw [tl]; exact L0) (by rw [tt, tl]; exact fit5 (by omega) ll (fun x hx => fb x (trimR_mem f0 hx)) (hL.bd.mono (by decide)))
  rw [tt, tl] at mk
  have nw := newP_ok mk st
  have i1 : opIx (.lst (I_ U)) (.int 0) st = some (.int (co U 0), st) := ix_any (xs := I_ U) rfl 0 (by decide) (by rw [show (0 : Int).toNat = 0 from rfl, List.getElem?_map, getD_at up]; rfl)
  have i2 : opIx (.lst (I_ L)) (.int 0) st = some (.int (co L 0), st) := ix_any (xs := I_ L) rfl 0 (by decide) (by rw [show (0 : Int).toNat = 0 from rfl, List.getElem?_map, getD_at lp]; rfl)
  have sl : opSl (.lst (I_ U)) (some 1) none st = some (.lst (I_ (U.drop 1)), st) := by
    show some (D.lst (cutL (I_ U) (some 1) none), st) = _
    have e : cutL (I_ U) (some 1) none = I_ (U.drop 1) := by
      unfold cutL
      have h1 := HT.sIx_nat (I_ U).length 0 1
      rw [show ((1 : Nat) : Int) = 1 from rfl] at h1
      rw [h1, HT.sIx_none, Nat.min_eq_left (by rw [List.length_map]; omega), List.take_of_length_le (by rw [List.length_drop]; exact Nat.le_refl _), ← List.map_drop]
    rw [e]
  have ad := addl_ok (a := [co U 0 + co L 0]) (b := U.drop 1) (by simp; omega) st
  rw [show [co U 0 + co L 0] ++ U.drop 1 = F0 by rw [hF0]; rfl] at ad
  have ad' : opAdd (.lst [.int (co U 0 + co L 0)]) (.lst (I_ (U.drop 1))) st = some (.lst (I_ F0), st) := ad
  have rw_ := row_any (d := .lst (I_ F0)) (st := st) rfl f0 (by omega)
  refine ⟨(lowR (trimR F0) L).1, (lowR (trimR F0) L).2, ?_⟩
  have nw' : opNewP "Ratio" p_Ratio___init__ 2 0 [0, 1, 2] [.tup (I_ (trimR F0)), .tup (I_ L)] [] st = .ok (.ref st.length) (st ++ [insR (lowR (trimR F0) L).1 (lowR (trimR F0) L).2]) := nw
  have oa : opAdd (.int (co U 0)) (.int (co L 0)) st = some (.int (co U 0 + co L 0), st) := rfl
  clear nw mk ad hF0 fb fl f0 tt tr
  generalize insR (lowR (trimR F0) L).1 (lowR (trimR F0) L).2 = O1 at *
  generalize I_ (trimR F0) = W1 at *
  generalize I_ F0 = W0 at *
  generalize I_ (U.drop 1) = W2 at *
  generalize I_ U = IU at *
  generalize I_ L = IL at *
  generalize co U 0 + co L 0 = s0 at *
  simp [R10, i1, i2, oa, sl, ad', rw_, tuple_lst, iNewP, nw']
end
end M
/-! RC32: a turn of the law is right. -/
namespace M
open PySem PySem.W Builtin Builtin.Str
section
variable {st : Sto} {A B Af Bf : List Int} {n m q : Nat} {x0 x1 x2 x3 x4 x5 x6 x7 x8 x9 x10 x11 : Option D}
theorem R11_ok (N : Nice A B) (h : st[n]? = some (insR A B)) (h' : st[m]? = some (insR A B)) (hf : st[q]? = some (insR Af Bf)) : R11 [x0, x1, x2, x3, x4, some (.ref n), some (.ref m), some (.ref q), x8, x9, x10, x11] st = .nx [x0, x1, x2, x3, x4, some (.ref n), some (.ref m), some (.ref q), some (.lst [.bl true, .bl false, .bl true, .bl (decide (A = Af ∧ B = Bf)), .bl (!decide (A = Af ∧ B = Bf))]), x9, x10, x11] (st ++ [insR A B]) := by
  have e1 := eqI_ii false h h'
  have e2 := eqI_ii true h h'
  have so := strI_ok h N.la N.lb N.ba N.bb
  have rd := read_ok N st
  have k0 : Kp st (st ++ [insR A B]) [] := Kp.push
  have hn := k0.ins (by simp) h
  have hq := k0.ins (by simp) hf
  have e3 := eqI_ii false hn (show (st ++ [insR A B])[st.length]? = some (insR A B) by simp)
  have e4 := eqI_ii false hn hq
  have e5 := eqI_ii true hn hq
  simp only [and_self, decide_true, Bool.not_true, if_true, Bool.false_eq_true, if_false] at e1 e2 e3 e4 e5
  clear hn hq h h' hf k0
  generalize decide (A = Af ∧ B = Bf) = b at *
  generalize insR A B = O1 at *
  generalize ratioL A B = W at *
  simp [R11, e1, e2, so, rd, e3, e4, e5]
theorem R12_ok (h : st[n]? = some (insR A B)) (hf : st[q]? = some (insR Af Bf)) : R12 [x0, x1, x2, x3, x4, some (.ref n), x6, some (.ref q), x8, x9, x10, x11] st = .nx [x0, x1, x2, x3, x4, some (.ref n), x6, some (.ref q), x8, some (.bl (decide (A = Af ∧ B = Bf))), x10, x11] st := by
  have t1 := get_top h
  have t2 := get_top hf
  have b1 := get_bot h
  have b2 := get_bot hf
  have o : ∀ xs, opListF [.tup xs] st = some (.lst xs, st) := fun _ => rfl
  have e1 : opEq false (.lst (I_ Af)) (.lst (I_ A)) st = some (.bl (decide (Af = A)), st) := eq_rows false A
  have e2 : opEq false (.lst (I_ Bf)) (.lst (I_ B)) st = some (.bl (decide (Bf = B)), st) := eq_rows false B
  have c1 : decide (Af = A) = decide (A = Af) := by
    by_cases p : A = Af
    · rw [p]
    · rw [decide_eq_false p, decide_eq_false (fun z => p z.symm)]
  have c2 : decide (Bf = B) = decide (B = Bf) := by
    by_cases p : B = Bf
    · rw [p]
    · rw [decide_eq_false p, decide_eq_false (fun z => p z.symm)]
  rw [c1] at e1
  rw [c2] at e2
  have c3 : decide (A = Af ∧ B = Bf) = (decide (A = Af) && decide (B = Bf)) := Bool.decide_and _ _
  rw [c3]
  generalize decide (A = Af) = a at *
  generalize decide (B = Bf) = b at *
  generalize I_ Af = I1 at *
  generalize I_ Bf = I2 at *
  generalize I_ A = I3 at *
  generalize I_ B = I4 at *
  cases a
  · simp [R12, t1, t2, b1, b2, o, e1]
  · simp [R12, t1, t2, b1, b2, o, e1, e2]
theorem eq_bools (b : Bool) (st : Sto) : opEq true (.lst [.bl true, .bl false, .bl true, .bl b, .bl (!b)]) (.lst [.bl true, .bl false, .bl true, .bl b, .bl (!b)]) st = some (.bl false, st) := by
  cases b <;> kernel_rfl
theorem R13_ok (b : Bool) : R13 [x0, x1, x2, x3, x4, x5, x6, x7, some (.lst [.bl true, .bl false, .bl true, .bl b, .bl (!b)]), some (.bl b), x10, x11] st = .nx [x0, x1, x2, x3, x4, x5, x6, x7, some (.lst [.bl true, .bl false, .bl true, .bl b, .bl (!b)]), some (.bl b), x10, x11] st := by
  have e := eq_bools b st
  have kn : kNot (.bl b) st = .ok (.bl (!b)) st := rfl
  generalize (!b) = c at *
  simp [R13, kn, e]
theorem R14_ok {U : List Int} (N : Nice A B) (hU : U ≠ []) (h : st[n]? = some (insR A B)) : ∃ y, R14 [x0, some (.lst (I_ U)), x2, x3, x4, some (.ref n), x6, x7, x8, x9, x10, x11] st = .nx [x0, some (.lst (I_ U)), x2, x3, x4, some (.ref n), x6, x7, x8, x9, y, x11] st := by
  have so := strI_ok h N.la N.lb N.ba N.bb
  have t1 := get_top h
  have b1 := get_bot h
  have up := List.length_pos_iff.mpr hU
  have i1 : opIx (.lst (I_ U)) (.int 0) st = some (.int (co U 0), st) := ix_any (xs := I_ U) rfl 0 (by decide) (by rw [show (0 : Int).toNat = 0 from rfl, List.getElem?_map, getD_at up]; rfl)
  obtain ⟨xs, hxs⟩ : ∃ xs : List D, xs = [.str (T_ (ratioL A B)), .int (co U 0), .non, .tup [.tup (I_ A), .tup (I_ B)]] := ⟨_, rfl⟩
  have ho : ∀ d ∈ xs, Oth d st := fun d hd => by
    rw [hxs] at hd
    simp only [List.mem_cons, List.not_mem_nil, or_false] at hd
    rcases hd with rfl | rfl | rfl | rfl
    · exact oth_str _ _
    · exact oth_int _ _
    · exact oth_non _
    · exact oth_tup _ _
  have run := forL_map (F := fun d : D => d) (l := xs) (g := gVar 10) (b := (sIf (tOr' (tBl (iBin (opEqI "Ratio" ["str", "tuple", "list", "NoneType", "int", "bool", "dict"] p_Ratio___eq__ false) (iVar 5) (iVar 10))) (tNot' (tBl (iBin (opEqI "Ratio" ["str", "tuple", "list", "NoneType", "int", "bool", "dict"] p_Ratio___eq__ true) (iVar 5) (iVar 10))))) (sRet (iC (.bl false))) sNil))
    (fun _ e s => s = st ∧ ∃ y, e = [x0, some (.lst (I_ U)), x2, x3, x4, some (.ref n), x6, x7, x8, x9, y, x11])
    (fun d r e s hd ⟨hs, y, he⟩ => by
      subst hs he
      have o := ho d hd
      have e1 := eqI_oth false h o
      have e2 := eqI_oth true h o
      refine ⟨[x0, some (.lst (I_ U)), x2, x3, x4, some (.ref n), x6, x7, x8, x9, some d, x11], s, rfl, [x0, some (.lst (I_ U)), x2, x3, x4, some (.ref n), x6, x7, x8, x9, some d, x11], s, .inl ?_, rfl, _, rfl⟩
      generalize I_ U = IU at *
      simp [e1, e2]) xs.length 0 [x0, some (.lst (I_ U)), x2, x3, x4, some (.ref n), x6, x7, x8, x9, x10, x11] st (by omega) (Nat.zero_le _) ⟨rfl, _, rfl⟩
  obtain ⟨e2, s2, h1, rfl, y, rfl⟩ := run
  refine ⟨y, ?_⟩
  rw [List.map_id'] at h1
  have w : wAny (iN opLstF (aCons (iN (opStrI "Ratio" p_Ratio___str__) (aCons (iVar 5) aNil)) (aCons (iBin opIx (iVar 1) (iC (.int 0))) (aCons (iC .non) (aCons (iN opTup (aCons (iUn (opGet ["Ratio"] "top") (iVar 5)) (aCons (iUn (opGet ["Ratio"] "bottom") (iVar 5)) aNil))) aNil))))) [x0, some (.lst (I_ U)), x2, x3, x4, some (.ref n), x6, x7, x8, x9, x10, x11] s2 = .ok (nxL xs, xs.length) s2 := by
    rw [hxs]
    generalize ratioL A B = W at *
    generalize I_ U = IU at *
    generalize I_ A = I1 at *
    generalize I_ B = I2 at *
    simp [so, i1, t1, b1]
  rw [R14, sFor_d, w, liftS_ok]
  exact h1
end
theorem right_ok {st : Sto} {g : Nat} (h : Pool st g) : ∃ st', k02__law_right [.ref g] st = .ok (.bl true) st' ∧ Pool st' g ∧ Kp st st' [g] := by
  obtain ⟨U, L0, M0, s1, a1, dU, dL0, dM0, p1, k1, _⟩ := rows_drawn (x1 := none) (x2 := none) (x3 := none) (x4 := none) (x5 := none) (x6 := none) (x7 := none) (x8 := none) (x9 := none) (x10 := none) (x11 := none) h
  obtain ⟨L, s2, a2, dL, nL, p2, k2, _⟩ := lower_set (x1 := some (.lst (I_ U))) (x3 := some (.lst (I_ M0))) (x4 := none) (x5 := none) (x6 := none) (x7 := none) (x8 := none) (x9 := none) (x10 := none) (x11 := none) p1 dL0
  obtain ⟨M, a3, dM, nM⟩ := more_set (st := s2) (x0 := some (.ref g)) (x1 := some (.lst (I_ U))) (x2 := some (.lst (I_ L))) (x4 := none) (x5 := none) (x6 := none) (x7 := none) (x8 := none) (x9 := none) (x10 := none) (x11 := none) dM0
  obtain ⟨z, s4, a4, z2, p4, k4, _⟩ := zeros_set (x1 := some (.lst (I_ U))) (x2 := some (.lst (I_ L))) (x3 := some (.lst (I_ M))) (x5 := none) (x6 := none) (x7 := none) (x8 := none) (x9 := none) (x10 := none) (x11 := none) p2
  have a5 := ratio_set (st := s4) (x0 := some (.ref g)) (x3 := some (.lst (I_ M))) (x5 := none) (x6 := none) (x7 := none) (x8 := none) (x9 := none) (x10 := none) (x11 := none) z2 dU dL nL
  have k5 : Kp s4 (s4 ++ [insR (lowR U L).1 (lowR U L).2]) [] := Kp.push
  have g5 : (s4 ++ [insR (lowR U L).1 (lowR U L).2])[s4.length]? = some (insR (lowR U L).1 (lowR U L).2) := by simp
  obtain ⟨s6, a6, k6⟩ := wide_set (st := s4 ++ [insR (lowR U L).1 (lowR U L).2]) (x0 := some (.ref g)) (x4 := some (.tup (I_ (List.replicate z 0)))) (x5 := some (.ref s4.length)) (x6 := none) (x7 := none) (x8 := none) (x9 := none) (x10 := none) (x11 := none) dU dL nL dM nM
  have k6' : Kp s6 (s6 ++ [insR (lowR U L).1 (lowR U L).2]) [] := Kp.push
  have g6 := k6'.ins (by simp) (k6.ins (by simp) g5)
  have w6 : (s6 ++ [insR (lowR U L).1 (lowR U L).2])[s6.length]? = some (insR (lowR U L).1 (lowR U L).2) := by simp
  obtain ⟨s7, a7, k7⟩ := R7_ok (x0 := some (.ref g)) (x3 := some (.lst (I_ M))) (x4 := some (.tup (I_ (List.replicate z 0)))) (x7 := none) (x8 := none) (x9 := none) (x10 := none) (x11 := none) dU dL nL g6 w6
  have g7 := k7.ins (by simp) g6
  have w7 := k7.ins (by simp) w6
  obtain ⟨s8, a8, k8⟩ := R8_ok (st := s7) (x0 := some (.ref g)) (x2 := some (.lst (I_ L))) (x3 := some (.lst (I_ M))) (x4 := some (.tup (I_ (List.replicate z 0)))) (x5 := some (.ref s4.length)) (x6 := some (.ref s6.length)) (x7 := none) (x8 := none) (x9 := none) (x10 := none) (x11 := none) dU
  have g8 := k8.ins (by simp) g7
  have w8 := k8.ins (by simp) w7
  obtain ⟨s9, a9, k9⟩ := R9_ok (x0 := some (.ref g)) (x3 := some (.lst (I_ M))) (x4 := some (.tup (I_ (List.replicate z 0)))) (x6 := some (.ref s6.length)) (x7 := none) (x8 := none) (x9 := none) (x10 := none) (x11 := none) dU dL nL g8
  have g9 := k9.ins (by simp) g8
  have w9 := k9.ins (by simp) w8
  obtain ⟨Af, Bf, a10⟩ := R10_ok (st := s9) (x0 := some (.ref g)) (x3 := some (.lst (I_ M))) (x4 := some (.tup (I_ (List.replicate z 0)))) (x5 := some (.ref s4.length)) (x6 := some (.ref s6.length)) (x7 := none) (x8 := none) (x9 := none) (x10 := none) (x11 := none) dU dL nL
  have k10 : Kp s9 (s9 ++ [insR Af Bf]) [] := Kp.push
  have g10 := k10.ins (by simp) g9
  have w10 := k10.ins (by simp) w9
  have f10 : (s9 ++ [insR Af Bf])[s9.length]? = some (insR Af Bf) := by simp
  have N := (gd_of dU.row dL.row nL dU.len dL.len (dU.bd.mono (by decide)) (dL.bd.mono (by decide))).n
  have a11 := R11_ok (x0 := some (.ref g)) (x1 := some (.lst (I_ U))) (x2 := some (.lst (I_ L))) (x3 := some (.lst (I_ M))) (x4 := some (.tup (I_ (List.replicate z 0)))) (x8 := none) (x9 := none) (x10 := none) (x11 := none) N g10 w10 f10
  have k11 : Kp (s9 ++ [insR Af Bf]) (s9 ++ [insR Af Bf] ++ [insR (lowR U L).1 (lowR U L).2]) [] := Kp.push
  have g11 := k11.ins (by simp) g10
  have f11 := k11.ins (by simp) f10
  obtain ⟨s11, hs11⟩ : ∃ s11, s11 = s9 ++ [insR Af Bf] ++ [insR (lowR U L).1 (lowR U L).2] := ⟨_, rfl⟩
  rw [← hs11] at a11 k11 g11 f11
  obtain ⟨b, hb⟩ : ∃ b, b = decide ((lowR U L).1 = Af ∧ (lowR U L).2 = Bf) := ⟨_, rfl⟩
  rw [← hb] at a11
  have a12 := R12_ok (x0 := some (.ref g)) (x1 := some (.lst (I_ U))) (x2 := some (.lst (I_ L))) (x3 := some (.lst (I_ M))) (x4 := some (.tup (I_ (List.replicate z 0)))) (x6 := some (.ref s6.length)) (x8 := some (.lst [.bl true, .bl false, .bl true, .bl b, .bl (!b)])) (x9 := none) (x10 := none) (x11 := none) g11 f11
  rw [← hb] at a12
  have a13 := R13_ok (st := s11) (x0 := some (.ref g)) (x1 := some (.lst (I_ U))) (x2 := some (.lst (I_ L))) (x3 := some (.lst (I_ M))) (x4 := some (.tup (I_ (List.replicate z 0)))) (x5 := some (.ref s4.length)) (x6 := some (.ref s6.length)) (x7 := some (.ref s9.length)) (x10 := none) (x11 := none) b
  obtain ⟨y, a14⟩ := R14_ok (x0 := some (.ref g)) (x2 := some (.lst (I_ L))) (x3 := some (.lst (I_ M))) (x4 := some (.tup (I_ (List.replicate z 0)))) (x6 := some (.ref s6.length)) (x7 := some (.ref s9.length)) (x8 := some (.lst [.bl true, .bl false, .bl true, .bl b, .bl (!b)])) (x9 := some (.bl b)) (x10 := none) (x11 := none) N dU.row.ne g11
  have kn : Kp s4 s11 [] := (((((((k5.trans k6).trans k6').trans k7).trans k8).trans k9).trans k10).trans k11)
  refine ⟨s11, ?_, p4.keep kn (by simp), ((k1.trans k2).trans k4).trans (kn.mono fun q hq => by simp at hq)⟩
  show runB B_k02__law_right 12 1 [.ref g] st = _
  unfold B_k02__law_right
  refine runB_ret rfl ?_
  show (sSeq _ _) [some (.ref g), none, none, none, none, none, none, none, none, none, none, none] st = _
  rw [sSeq_nx a1, sSeq_nx a2, sSeq_nx a3, sSeq_nx a4, sSeq_nx a5, sSeq_nx a6, sSeq_nx a7, sSeq_nx a8, sSeq_nx a9, sSeq_nx a10, sSeq_nx a11, sSeq_nx a12, sSeq_nx a13, sSeq_nx a14]
  rfl
end M
/-! Rk02: the law. -/
namespace M
open PySem PySem.W Builtin Builtin.Str
theorem sFor_nx {w : IW} {g : IG} {b : IS} {env e2 : Env} {st s1 s2 : Sto} {nx : Nx} {m : Nat} (hw : w env st = .ok (nx, m) s1) (h : forL nx g b m 0 env s1 = .nx e2 s2) : sFor w g b env st = .nx e2 s2 := by
  show liftS (w env st) env (fun a s => forL a.1 g b a.2 0 env s) = _
  rw [hw]
  exact h
theorem pow18 (st : Sto) : opPow (.int 10) (.int 18) st = some (.int 1000000000000000000, st) := by kernel_rfl
theorem well_is (ns : List Int) (i : Nat) (hn : ns.length ≤ 63) (st : Sto) : ∃ d x : Int, 0 ≤ d ∧ 0 ≤ x ∧ x < 998244353 ∧ k02__law_well [.lst (ns.map .int), .int i] st = .ok (.ref st.length) (st ++ [.lst [.int d, .int x, .int 0]]) := by
  have loop := forL_map (g := gVar 3) (b := (sSet 2 (iBin opMod (iN opInt (aCons (iBin opAdd (iBin opAdd (iBin opMul (iVar 2) (iC (.int 6007))) (iBin opMul (iVar 3) (iC (.int 19)))) (iC (.int 5))) aNil)) (iC (.int 998244353))))) (l := ns.take 4) (F := D.int) (fun _ env s => ∃ (x : Int) (g3 : Option D), env = [some (.lst (ns.map .int)), some (.int i), some (.int x), g3, none, none] ∧ s = st) (fun a r env s _ ⟨x, g3, q1, q2⟩ => by
    subst q1 q2
    have m3 := fun st => mul_small (i := x) (j := 6007) (.inr (by unfold smallI; decide)) st
    have m4 := fun st => mul_small (i := a) (j := 19) (.inr (by unfold smallI; decide)) st
    have p2 := fun i st => mod_pos (i := i) (j := 998244353) (by decide) st
    exact ⟨[some (.lst (ns.map .int)), some (.int i), some (.int x), some (.int a), none, none], s, rfl, [some (.lst (ns.map .int)), some (.int i), some (.int ((x * 6007 + a * 19 + 5) % 998244353)), some (.int a), none, none], s, .inl (by simp [m3, m4, opAdd, opInt, p2]), _, _, rfl, rfl⟩) (ns.take 4).length 0 [some (.lst (ns.map .int)), some (.int i), some (.int (41 + i)), none, none, none] st (by omega) (Nat.zero_le _) ⟨_, _, rfl, rfl⟩
  obtain ⟨e2, s2, l1, x, g3, rfl, rfl⟩ := loop
  have sl : opSl (.lst (ns.map D.int)) none (some 4) s2 = some (.lst ((ns.take 4).map D.int), s2) := by
    show some (D.lst (((ns.map D.int).drop (HT.sIx (ns.map D.int).length 0 none)).take (HT.sIx (ns.map D.int).length (ns.map D.int).length (some (4 : Int)) - HT.sIx (ns.map D.int).length 0 none)), s2) = _
    rw [show (4 : Int) = ((4 : Nat) : Int) from rfl, HT.sIx_nat, HT.sIx_none]
    congr 2
    rw [List.map_take]
    by_cases h4 : 4 ≤ (ns.map D.int).length
    · rw [Nat.min_eq_left h4]; rfl
    · rw [Nat.min_eq_right (by omega), List.take_of_length_le (by simp), List.take_of_length_le (by omega)]; rfl
  -- the number of this turn
  obtain ⟨own, ow⟩ : ∃ own : Int, (iIf (tBl (iBin opLt (iVar 1) (iN opLen (aCons (iVar 0) aNil)))) (iBin opIx (iVar 0) (iVar 1)) (iBin opAdd (iBin opMul (iVar 2) (iC (.int 53))) (iVar 1))) [some (.lst (ns.map .int)), some (.int i), some (.int x), g3, none, none] s2 = .ok (.int own) s2 := by
    by_cases h : i < ns.length
    · refine ⟨ns[i], ?_⟩
      have ix := ixl (xs := ns.map D.int) (d := .int ns[i]) (i : Int) (by omega) (by rw [Int.toNat_natCast, List.getElem?_map, List.getElem?_eq_getElem h]; rfl) s2
      have lt : (i : Int) < (ns.length : Int) := by omega
      simp [len_lst, opCmp, lt, ix]
    · have lt : ¬ ((i : Int) < (ns.length : Int)) := by omega
      have m3 := fun st => mul_small (i := x) (j := 53) (.inr (by unfold smallI; decide)) st
      exact ⟨x * 53 + i, by simp [len_lst, opCmp, lt, m3, opAdd]⟩
  obtain ⟨dg, d0, dw⟩ : ∃ d : Int, 0 ≤ d ∧ (iIf (tOr' (tBl (iBin opLt (iVar 4) (iC (.int 0)))) (tBl (iBin opGe (iVar 4) (iBin opPow (iC (.int 10)) (iC (.int 18)))))) (iN opAbs (aCons (iVar 4) aNil)) (iC (.int 0))) [some (.lst (ns.map .int)), some (.int i), some (.int x), g3, some (.int own), none] s2 = .ok (.int d) s2 := by
    by_cases h1 : own < 0
    · exact ⟨-own, by omega, by simp [opCmp, h1, opAbs]⟩
    · by_cases h2 : 1000000000000000000 ≤ own
      · exact ⟨own, by omega, by simp [opCmp, h1, h2, pow18, opAbs]⟩
      · exact ⟨0, by omega, by simp [opCmp, h1, h2, pow18]⟩
  have m5 := fun st => mul_small (i := own) (j := 3301) (.inr (by unfold smallI; decide)) st
  have m6 := fun st => mul_small (i := x) (j := 7) (.inr (by unfold smallI; decide)) st
  have p2 := fun i st => mod_pos (i := i) (j := 998244353) (by decide) st
  refine ⟨dg, (own * 3301 + x * 7 + 271) % 998244353, d0, Int.emod_nonneg _ (by decide), Int.emod_lt_of_pos _ (by decide), ?_⟩
  show runB B_k02__law_well 6 2 [.lst (ns.map .int), .int i] s2 = _
  unfold B_k02__law_well
  refine runB_ret rfl ?_
  have h1 : (sSet 2 (iBin opAdd (iC (.int 41)) (iVar 1))) [some (.lst (ns.map .int)), some (.int i), none, none, none, none] s2 = .nx [some (.lst (ns.map .int)), some (.int i), some (.int (41 + i)), none, none, none] s2 := by simp [opAdd]
  have h2 : (sFor (wAny (iSl (iVar 0) oNone (oSome (iC (.int 4))))) (gVar 3) (sSet 2 (iBin opMod (iN opInt (aCons (iBin opAdd (iBin opAdd (iBin opMul (iVar 2) (iC (.int 6007))) (iBin opMul (iVar 3) (iC (.int 19)))) (iC (.int 5))) aNil)) (iC (.int 998244353))))) [some (.lst (ns.map .int)), some (.int i), some (.int (41 + i)), none, none, none] s2 = .nx [some (.lst (ns.map .int)), some (.int i), some (.int x), g3, none, none] s2 := by
    have w : (wAny (iSl (iVar 0) oNone (oSome (iC (.int 4))))) [some (.lst (ns.map .int)), some (.int i), some (.int (41 + i)), none, none, none] s2 = .ok (nxL ((ns.take 4).map D.int), (ns.take 4).length) s2 := by
      simp
      rw [sl]
      simp
    exact sFor_nx w l1
  show (sSeq _ _) [some (.lst (ns.map .int)), some (.int i), none, none, none, none] s2 = _
  rw [sSeq_nx h1, sSeq_nx h2, sSeq_nx (sSet_ok ow)]
  show (sSeq _ _) [some (.lst (ns.map .int)), some (.int i), some (.int x), g3, some (.int own), none] s2 = _
  rw [sSeq_nx (sSet_ok dw)]
  show (sRet _) [some (.lst (ns.map .int)), some (.int i), some (.int x), g3, some (.int own), some (.int dg)] s2 = _
  simp [m5, m6, opAdd, opInt, p2]
theorem four_ok {st : Sto} {g : Nat} {x0 x1 x3 : Option D} (h : Pool st g) : ∃ st', iN opAll (aCons (iCompF (wRng1 (aCons (iC (.int 4)) aNil)) (.one 3) tYes' (iCall k02__law_right [] (aCons (iVar 2) aNil))) aNil) [x0, x1, some (.ref g), x3] st = .ok (.bl true) st' := by
  obtain ⟨acc, s', h1, h2, h3, h4⟩ := compF_rng (e := iCall k02__law_right [] (aCons (iVar 2) aNil)) (env0 := [x0, x1, some (.ref g), none]) (v := 3) (n := 4) (by omega) (fun acc s => acc = acc.map (fun _ => D.bl true) ∧ Pool s g)
    (fun i hi acc s ha ⟨hl, hp⟩ => by
      obtain ⟨s', e1, e2, e3⟩ := right_ok hp
      refine ⟨.bl true, s', by simp [e1], ?_, e2⟩
      rw [List.map_append, ← hl]
      rfl) 4 0 [] st (by omega) rfl ⟨rfl, h⟩
  have nr : wRng1 (aCons (iC (.int 4)) aNil) [x0, x1, some (.ref g), x3] st = .ok (nxR 0 4, 4) st := rng1 (e := iC (.int (4 : Nat))) (n := 4) (by rfl) (by omega)
  have al := all_true acc s'
  rw [← h3] at al
  refine ⟨s', ?_⟩
  simp only [iN_d, aCons_d, iCompF_d, nr, R_ok, wipeE, Pat.slots, List.set_cons_zero, List.set_cons_succ, h1, aNil_d, al, ofO_s]
theorem law_k02 : ∀ ns : List Int, ns.length ≤ 63 → ∃ st, k02_law [.lst (ns.map .int)] [] = .ok (.bl true) st := by
  intro ns hn
  obtain ⟨m, hm⟩ : ∃ m : Nat, m = max 2 (min ns.length 5) := ⟨_, rfl⟩
  obtain ⟨e2, s2, h1, g1, g2, g3, h2⟩ := forL_rng (n := m) (g := gVar 1) (b := (sSeq (sSet 2 (iCall k02__law_well [] (aCons (iVar 0) (aCons (iVar 1) aNil))))
  (sIf (tNot' (tTru (iN opAll (aCons (iCompF (wRng1 (aCons (iC (.int 4)) aNil)) (.one 3) tYes' (iCall k02__law_right [] (aCons (iVar 2) aNil))) aNil)))) (sRet (iC (.bl false))) sNil))) (fun _ env s => ∃ g1 g2 g3, env = [some (.lst (ns.map .int)), g1, g2, g3]) (fun i hi env s ⟨g1, g2, g3, q⟩ => by
    subst q
    obtain ⟨d, x, d0, x0, x1, e1⟩ := well_is ns i hn s
    obtain ⟨s', e3⟩ := four_ok (g := s.length) (st := s ++ [.lst [.int d, .int x, .int 0]]) (x0 := some (.lst (ns.map .int))) (x1 := some (.int (i : Int))) (x3 := g3) ⟨d, x, 0, lstAt_new s _, d0, x0, x1⟩
    refine ⟨[some (.lst (ns.map .int)), some (.int (i : Int)), g2, g3], s, rfl, [some (.lst (ns.map .int)), some (.int (i : Int)), some (.ref s.length), g3], s', .inl ?_, _, _, _, rfl⟩
    have a1 : sSet 2 (iCall k02__law_well [] (aCons (iVar 0) (aCons (iVar 1) aNil))) [some (.lst (ns.map .int)), some (.int (i : Int)), g2, g3] s = .nx [some (.lst (ns.map .int)), some (.int (i : Int)), some (.ref s.length), g3] (s ++ [.lst [.int d, .int x, .int 0]]) := by simp [e1]
    rw [sSeq_nx a1]
    simp only [sIf_d, tNot_d, tTru_d, e3, R_ok, tru_b, Bool.not_true, liftS_ok, Bool.false_eq_true, if_false, sNil_d]) (env := [some (.lst (ns.map .int)), none, none, none]) (st := []) ⟨none, none, none, rfl⟩
  have mn : ∀ st, opMin [.int (ns.length : Int), .int 5] st = some (.int (min ns.length 5 : Nat), st) := fun st => by
    simp [opMin]
    omega
  have mx : ∀ st, opMax [.int 2, .int (min ns.length 5 : Nat)] st = some (.int m, st) := fun st => by
    rw [hm]
    exact opMax_nat 2 (min ns.length 5) st
  have rg := rng1 (e := (iN opMax (aCons (iC (.int 2)) (aCons (iN opMin (aCons (iN opLen (aCons (iVar 0) aNil)) (aCons (iC (.int 5)) aNil))) aNil)))) (env := [some (.lst (ns.map .int)), none, none, none]) (st := []) (st' := []) (n := m) (by simp [len_lst]; rw [mn]; simp; rw [mx]; simp) (by omega)
  refine ⟨s2, ?_⟩
  show runB B_k02_law 4 1 [.lst (ns.map .int)] [] = _
  unfold B_k02_law
  refine runB_ret rfl ?_
  show (sSeq _ _) [some (.lst (ns.map .int)), none, none, none] [] = _
  have hf := sFor_nx rg h1
  rw [sSeq_nx hf]
  rfl
end M
/-! the end -/
open PySem PySem.W PySem.Calls PyProof.Rows
theorem PySem.Challenge.cw_evenkeeps_k02_ratios_made_holds : PySem.Challenge.rw_evenkeeps_k02_ratios_made.Holds :=
  M.holds_of M.law_k02
