import PyProof.Rows.All
import Wide.All
import OpenK.AllK
import Wide.FinOn
import KE.KOpsOwn
import HandS.ForExc
import HandS.Codes
import HandS.Property
import HandS.OwnEq
import KE.KSuper
import HandS.Nested
import HandS.ClsMeth
import HandS.Defaults
import KE.DataMinMax
import KE.KxIndex
import HandS.ForMost
import HandS.Wide
import HandS.SortKw
import HandS.FStr
import HandS.IsInst
import HandS.More
import HandS.TupAny
import HandS.Zip
import HandS.Walk
import PyProof.NeKinds
import HandS.HeadHook2
import PySem.Challenge.RW_matrixforms_k99_blocks_put_in
import HandS.MakeKwOnly
import HandS.RaiseMore
import HandS.TryOnly
import PyProof.StrBlock2
import HandS.HeadEnd
import HandS.HeadHook3
import KE.KStateDown
import HandS.Head0
import HandS.Head1
import HandS.Head2
set_option Elab.async false
set_option linter.all false
set_option maxRecDepth 100000
set_option maxHeartbeats 4000000
/-! k99: the definitions that the run of the top needs; the run, look by look; the texts; the head. -/
namespace K9
open PySem PySem.Spec PyProof.Rows L2
abbrev Pg : Program := PySem.Challenge.pw_matrixforms_k99_blocks_put_in
def top (i : Nat) : Stmt := PySem.Challenge.pw_matrixforms_k99_blocks_put_in.main.body.getD i (.Pass ⟨0, 0, 0, 0⟩)
abbrev inCls (i j : Nat) : Stmt := inClass (top i) j
abbrev cR (K : PySem.W.Frag) : Addr := He.ga K "Ratio"
abbrev cM (K : PySem.W.Frag) : Addr := He.ga K "Matrix"
/-- one of the classes of formulas: its name, its place in the text, its __init__, its spelling, its word -/
structure KindI where
  nm : Str
  i : Nat
  jInit : Nat
  jSp : Nat
  word : Str
  qInit : Str
  qSp : Str
  kws : List (Str × V)
def kinds : List KindI := [⟨"Letter", 71, 1, 5, "letter", "Letter.__init__", "Letter.spelling", [("symmetry", .str "plain"), ("about", .int 0)]⟩,
  ⟨"Eye", 72, 1, 2, "eye", "Eye.__init__", "Eye.spelling", []⟩,
  ⟨"Zero", 73, 1, 2, "zero", "Zero.__init__", "Zero.spelling", []⟩,
  ⟨"Sum", 74, 1, 2, "sum", "Sum.__init__", "Sum.spelling", []⟩,
  ⟨"Difference", 75, 1, 2, "difference", "Difference.__init__", "Difference.spelling", []⟩,
  ⟨"Scaled", 76, 1, 3, "scaled", "Scaled.__init__", "Scaled.spelling", []⟩,
  ⟨"Product", 77, 1, 2, "product", "Product.__init__", "Product.spelling", []⟩,
  ⟨"Transposed", 78, 1, 2, "transposed", "Transposed.__init__", "Transposed.spelling", []⟩,
  ⟨"Inverse", 79, 1, 2, "inverse", "Inverse.__init__", "Inverse.spelling", []⟩,
  ⟨"Power", 80, 1, 3, "power", "Power.__init__", "Power.spelling", []⟩,
  ⟨"Blocks", 81, 1, 3, "blocks", "Blocks.__init__", "Blocks.spelling", []⟩,
  ⟨"Corner", 82, 1, 4, "corner", "Corner.__init__", "Corner.spelling", []⟩]
def attrs : List Str := ["row_side", "column_side", "made_of", "signs", "load", "height", "core", "label", "manner", "near", "factor", "order", "lines", "spot"]
/-- what is said of the two classes of x op y (both own): the same, or two that do not descend from each other, both with the method, none with the reflected one -/
def BinC (K : PySem.W.Frag) (nm : String) (C D : Addr) : Bool :=
  PySem.W.selfFirst K C && (decide (C = D) || (PySem.W.selfFirst K D && decide (PySem.W.findIn K (.ref C) (dunderR nm) = some none) && decide (PySem.W.findIn K (.ref D) (dunderR nm) = some none) &&
    decide (PySem.W.subIn K (.ref D) (.ref C) = some false)))
/-- x op n: an instance and an int -/
def BinI (K : PySem.W.Frag) (nm : String) (C : Addr) : Bool :=
  PySem.W.selfFirst K C && decide (PySem.W.findIn K (.ref C) (dunderR nm) = some none) && (PySem.W.findIn K (.type "int") (PySem.dunder nm)).isSome && (PySem.W.findIn K (.type "int") (dunderR nm)).isSome &&
    decide (PySem.W.subIn K (.type "int") (.ref C) = some false)
/-- a property's getter -/
def ptr (K : PySem.W.Frag) (C : Addr) (m : Str) : Addr := match PySem.W.recIn K (He.ma K C m) "property" with
  | some (.ref g :: _) => g
  | _ => 0
/-- a classmethod of Matrix: its record, its def -/
def cmP (K : PySem.W.Frag) (m : Str) : Addr := match PySem.W.findCls K (.ref (cM K)) (.type "type") m with
  | some (.get _ (.ref p) _ _) => p
  | _ => 0
def cmG (K : PySem.W.Frag) (m : Str) : Addr := match PySem.W.recIn K (cmP K m) "classmethod" with
  | some (.ref g :: _) => g
  | _ => 0
/-- one def: where, its name, its full name, its statement, its defaults -/
structure DX where
  ad : PySem.W.Frag → Addr
  name : Str
  qual : Str
  st : Stmt
  dvs : List V
abbrev FnO : Type := Option (Str × Str × Arguments × FuncBody × Scope × Addr × Addr)
def fnO (K : PySem.W.Frag) (f : Addr) : FnO := match K.lookup f with
  | some ⟨_, _, .func z, _⟩ => some (z.name, z.qualname, z.params, z.body, z.scope, z.globals, z.builtins)
  | _ => none
def DX.val (d : DX) : FnO := some (d.name, d.qual, defArgs d.st, .stmts (defBody d.st), defScope d.st, mainGlobals, builtinsNs)
def dxF (K : PySem.W.Frag) (d : DX) (z : FuncData) : Bool := z.closure.isEmpty && (PySem.W.codeIn K z.code d.qual && He.dflB K z.defaults d.dvs)
def DX.ok (K : PySem.W.Frag) (d : DX) : Bool := PySem.W.keepIn K (.ref (d.ad K)) && (match K.lookup (d.ad K) with
  | some ⟨_, _, .func z, _⟩ => dxF K d z
  | _ => false)
def cellB (K : PySem.W.Frag) (cc D : Addr) : Bool := match K.lookup cc with
  | some ⟨_, _, .cell (some (.ref d)), _⟩ => decide (d = D)
  | _ => false
def fileV (F : Str) (o : Option Value) : Bool := match o with
  | some (.str z _) => F == z
  | _ => false
def fileB (F : Str) (K : PySem.W.Frag) (c : Addr) : Bool := match K.lookup c with
  | some ⟨_, _, .fields vs, _⟩ => fileV F vs[2]?
  | _ => false
/-- the program's file -/
def pgF : Str := Pg.main.file
def fsD (F : Str) (K : PySem.W.Frag) (q : KindI) (z : FuncData) : Bool := match z.closure, z.code, z.defaults with
  | [(n, cc)], .ref c, .none => decide (n = ("__class__" : Str)) && (PySem.W.codeIn K (.ref c) q.qInit && (He.kwdB K z.kwdefaults q.kws && (cellB K cc (He.ga K q.nm) && fileB F K c)))
  | _, _, _ => false
def fsA (K : PySem.W.Frag) (q : KindI) : Addr := He.ma K (He.ga K q.nm) "__init__"
def fsB (F : Str) (K : PySem.W.Frag) (q : KindI) : Bool := PySem.W.keepIn K (.ref (fsA K q)) && (match K.lookup (fsA K q) with
  | some ⟨_, _, .func z, _⟩ => fsD F K q z
  | _ => false)
def fsV (q : KindI) : FnO := some ("__init__", q.qInit, defArgs (inCls q.i q.jInit), .stmts (defBody (inCls q.i q.jInit)), defScope (inCls q.i q.jInit), mainGlobals, builtinsNs)
abbrev isB (a b : Option (Option Value)) : Bool := He.eqO a b
def clsB (K : PySem.W.Frag) (C : Addr) : Bool := PySem.W.plainGet K C Str.empty && PySem.W.hasDictIn K C && PySem.W.plainOver K C && isB (PySem.W.findIn K (.ref C) "__setattr__") (some (some (.builtin "object.__setattr__")))
def optB (a : Option Bool) (b : Bool) : Bool := decide (a = some b)
def ownB (K : PySem.W.Frag) (C : Addr) : Bool := clsB K C && isB (PySem.W.findIn K (.ref C) "__class__") (some (some (.builtin "object.__class__"))) && isB (PySem.W.specialIn K (.builtin "object.__class__") "__get__") (some (some (.builtin "getset_descriptor.__get__"))) &&
  optB (PySem.W.takesIn K (.builtin "object.__class__")) true && optB (PySem.W.mroIn K C (.type "object")) true
def notIntB (K : PySem.W.Frag) (C : Addr) : Bool := ownB K C && optB (PySem.W.kitOne K (.ref C) (.type "int")) false && optB (PySem.W.kitOne K (.ref C) (.type "bool")) false
def notNumB (K : PySem.W.Frag) (C : Addr) : Bool := notIntB K C && optB (PySem.W.kitOne K (.ref C) (.ref (cR K))) false
def naB (K : PySem.W.Frag) (C : Addr) (l : List Str) : Bool := l.all fun f => isB (PySem.W.findIn K (.ref C) f) (some none)
def metB (K : PySem.W.Frag) (C : Addr) (m : Str) (f : Addr) : Bool := isB (PySem.W.findIn K (.ref C) m) (some (some (.ref f))) && PySem.W.isFn K (.ref f) && PySem.W.keepIn K (.ref f) && PySem.W.fnIn K f
def recB (K : PySem.W.Frag) (p : Addr) (t : String) (g : Addr) : Bool := match PySem.W.recIn K p t with
  | some (.ref z :: _) => decide (z = g)
  | _ => false
def prB9 (K : PySem.W.Frag) (C : Addr) (m : Str) (p g : Addr) : Bool := isB (PySem.W.findIn K (.ref C) m) (some (some (.ref p))) && isB (PySem.W.specialIn K (.ref p) "__get__") (some (some (.builtin "property.__get__"))) && optB (PySem.W.takesIn K (.ref p)) true && recB K p "property" g
def mkB (K : PySem.W.Frag) (C f : Addr) : Bool := PySem.W.makesIn K C && isB (PySem.W.findIn K (.ref C) "__init__") (some (some (.ref f))) && PySem.W.isFn K (.ref f) && PySem.W.keepIn K (.ref C)
def valB (a : Option Value) (b : Value) : Bool := decide (a = some b)
def supB (K : PySem.W.Frag) (C g : Addr) : Bool := optB (PySem.W.mroIn K C (.ref C)) true && isB (PySem.W.ks_superIn K C C "__init__") (some (some (.ref g))) && valB (PySem.W.typeIn K (.ref g)) (.type "function") && PySem.W.fnIn K g
def neB (K : PySem.W.Frag) (C : Addr) : Bool := isB (PySem.W.findIn K (.ref C) "__ne__") (some (some (.builtin "object.__ne__"))) && optB (PySem.W.mroIn K C (.type "object")) true
def cmV (K : PySem.W.Frag) (m : Str) (o : Option PySem.W.CFound) : Bool := match o with
  | some (.get (.builtin s) (.ref p) .none (.ref C)) => decide (s = "classmethod.__get__") && decide (p = cmP K m) && decide (C = cM K)
  | _ => false
def cmB (K : PySem.W.Frag) (m : Str) : Bool := cmV K m (PySem.W.findCls K (.ref (cM K)) (.type "type") m) && recB K (cmP K m) "classmethod" (cmG K m) && PySem.W.fnIn K (cmG K m)
def dd (x : Str) (i : Nat) : DX := ⟨fun K => He.ga K x, x, x, top i, []⟩
def mm (x m q : Str) (st : Stmt) (dvs : List V) : DX := ⟨fun K => He.ma K (He.ga K x) m, m, q, st, dvs⟩
def pp (x m q : Str) (st : Stmt) : DX := ⟨fun K => ptr K (He.ga K x) m, m, q, st, []⟩
def kk (m q : Str) (st : Stmt) : DX := ⟨fun K => cmG K m, m, q, st, []⟩
def fx0 : List DX := [dd "is_integer" 31, dd "common" 32, dd "is_number" 34, dd "as_ratio" 35, dd "is_size_name" 42, dd "is_letter_name" 43, dd "is_side" 44, dd "as_side" 45, dd "is_index" 46, dd "check_formula" 49, dd "check_letters" 50, dd "check_square" 51]
def fx1 : List DX := [dd "checked_terms" 52, dd "sides_of" 53, dd "letter_of" 54, dd "checked_side" 55, dd "spelled_side" 56, dd "whole_table" 58, dd "turned" 59, dd "multiplied" 60, dd "dotted" 61, dd "eliminated_table" 62, dd "are_entries" 64, dd "check_size" 66]
def fx2 : List DX := [dd "matrix_of" 67, dd "added" 68, dd "is_table" 83, dd "joined_row" 84, dd "remade" 85, dd "check_mapping" 87, dd "exchanged" 88, dd "substituted" 89, dd "moved" 90, dd "_law_purse" 92, dd "_law_draw" 93, dd "_law_pick" 94]
def fx3 : List DX := [dd "_law_names" 95, dd "_law_menu" 96, dd "_law_leaf" 97, dd "_law_spec" 98, dd "_law_join" 99, dd "_law_letters" 100, dd "_law_build" 101, dd "_law_woven" 102, dd "_law_equal" 103, dd "_law_put_right" 104, dd "_law_moved_right" 105, dd "law" 106]
def fx4 : List DX := [mm "Ratio" "__init__" "Ratio.__init__" (inCls 33 0) [.int 1], pp "Ratio" "top" "Ratio.top" (inCls 33 1), pp "Ratio" "bottom" "Ratio.bottom" (inCls 33 2), mm "Ratio" "__mul__" "Ratio.__mul__" (inCls 33 7) [], mm "Ratio" "__eq__" "Ratio.__eq__" (inCls 33 9) [], mm "Ratio" "__str__" "Ratio.__str__" (inCls 33 11) [], mm "Matrix" "__init__" "Matrix.__init__" (inCls 65 0) [], pp "Matrix" "entries" "Matrix.entries" (inCls 65 1), pp "Matrix" "rows" "Matrix.rows" (inCls 65 2), pp "Matrix" "columns" "Matrix.columns" (inCls 65 3), pp "Matrix" "transposed" "Matrix.transposed" (inCls 65 4), kk "eye" "Matrix.eye" (inCls 65 5)]
def fx5 : List DX := [kk "zero" "Matrix.zero" (inCls 65 6), mm "Matrix" "inverse" "Matrix.inverse" (inCls 65 8) [], mm "Matrix" "__add__" "Matrix.__add__" (inCls 65 10) [], mm "Matrix" "__sub__" "Matrix.__sub__" (inCls 65 11) [], mm "Matrix" "__mul__" "Matrix.__mul__" (inCls 65 12) [], mm "Matrix" "__getitem__" "Matrix.__getitem__" (inCls 65 14) [], mm "Matrix" "__eq__" "Matrix.__eq__" (inCls 65 16) [], mm "Part" "__init__" "Part.__init__" (inCls 48 1) [.int 1], pp "Part" "kind" "Part.kind" (inCls 48 2), pp "Part" "rows" "Part.rows" (inCls 48 3), pp "Part" "columns" "Part.columns" (inCls 48 4), pp "Part" "parts" "Part.parts" (inCls 48 5)]
def fx6 : List DX := [pp "Part" "letters" "Part.letters" (inCls 48 6), pp "Part" "weight" "Part.weight" (inCls 48 7), pp "Part" "levels" "Part.levels" (inCls 48 8), pp "Part" "middle" "Part.middle" (inCls 48 9), pp "Formula" "transposed" "Formula.transposed" (inCls 70 0), mm "Formula" "inverse" "Formula.inverse" (inCls 70 1) [], mm "Formula" "__add__" "Formula.__add__" (inCls 70 2) [], mm "Formula" "__sub__" "Formula.__sub__" (inCls 70 3) [], mm "Formula" "__mul__" "Formula.__mul__" (inCls 70 4) [], mm "Formula" "__pow__" "Formula.__pow__" (inCls 70 6) [], mm "Formula" "__getitem__" "Formula.__getitem__" (inCls 70 7) [], mm "Formula" "__str__" "Formula.__str__" (inCls 70 10) []]
def fx7 : List DX := [mm "Formula" "__eq__" "Formula.__eq__" (inCls 70 9) [], mm "Letter" "__eq__" "Letter.__eq__" (inCls 71 6) [], pp "Letter" "name" "Letter.name" (inCls 71 2), pp "Letter" "symmetry" "Letter.symmetry" (inCls 71 3), pp "Letter" "about" "Letter.about" (inCls 71 4), pp "Scaled" "number" "Scaled.number" (inCls 76 2), pp "Power" "exponent" "Power.exponent" (inCls 80 2), pp "Blocks" "table" "Blocks.table" (inCls 81 2), pp "Corner" "row" "Corner.row" (inCls 82 2), pp "Corner" "column" "Corner.column" (inCls 82 3)]
def fxL : List DX := fx0 ++ (fx1 ++ (fx2 ++ (fx3 ++ (fx4 ++ (fx5 ++ (fx6 ++ (fx7 ++ (kinds.map fun q => mm q.nm "spelling" q.qSp (inCls q.i q.jSp) []))))))))
def partNs : List Str := ["kind", "rows", "columns", "parts", "letters", "weight", "levels", "middle"]
def formNs : List Str := ["inverse", "__add__", "__sub__", "__mul__", "__pow__", "__getitem__", "__str__"]
def aP (K : PySem.W.Frag) : Addr := He.ga K "Part"
def aF (K : PySem.W.Frag) : Addr := He.ga K "Formula"
def gloB (K : PySem.W.Frag) (x : Str) : Bool := (He.Fa.glo x).ok K
/-- a kind's class -/
def kindB (K : PySem.W.Frag) (q : KindI) : Bool :=
  notNumB K (He.ga K q.nm) && optB (PySem.W.kitOne K (.ref (He.ga K q.nm)) (.ref (aP K))) true && optB (PySem.W.kitOne K (.ref (He.ga K q.nm)) (.ref (aF K))) true && gloB K q.nm && naB K (He.ga K q.nm) attrs && (PySem.W.clsIn K (He.ga K q.nm)).isSome &&
  mkB K (He.ga K q.nm) (fsA K q) && fsB pgF K q && supB K (He.ga K q.nm) (He.ma K (aP K) "__init__") && He.conB K q.nm "KIND" (.str q.word) && metB K (He.ga K q.nm) "spelling" (He.ma K (He.ga K q.nm) "spelling") && neB K (He.ga K q.nm) &&
  partNs.all (fun m => prB9 K (He.ga K q.nm) m (He.ma K (aP K) m) (ptr K (aP K) m)) && prB9 K (He.ga K q.nm) "transposed" (He.ma K (aF K) "transposed") (ptr K (aF K) "transposed") && formNs.all (fun m => metB K (He.ga K q.nm) m (He.ma K (aF K) m)) &&
  (decide (q.nm = ("Letter" : Str)) || metB K (He.ga K q.nm) "__eq__" (He.ma K (aF K) "__eq__"))
def ratB (K : PySem.W.Frag) : Bool := notIntB K (cR K) && optB (PySem.W.kitOne K (.ref (cR K)) (.ref (cR K))) true && optB (PySem.W.kitOne K (.type "int") (.ref (cR K))) false && naB K (cR K) ["numerator_here", "denominator_here"] && mkB K (cR K) (He.ma K (cR K) "__init__") &&
  prB9 K (cR K) "top" (He.ma K (cR K) "top") (ptr K (cR K) "top") && prB9 K (cR K) "bottom" (He.ma K (cR K) "bottom") (ptr K (cR K) "bottom") && metB K (cR K) "__mul__" (He.ma K (cR K) "__mul__") && metB K (cR K) "__eq__" (He.ma K (cR K) "__eq__") && metB K (cR K) "__str__" (He.ma K (cR K) "__str__")
def matB (K : PySem.W.Frag) : Bool := notNumB K (cM K) && optB (PySem.W.kitOne K (.ref (cM K)) (.ref (cM K))) true && optB (PySem.W.kitOne K (.ref (cR K)) (.ref (cM K))) false && naB K (cM K) ["cells", "wholes", "below"] && mkB K (cM K) (He.ma K (cM K) "__init__") &&
  (["entries", "rows", "columns", "transposed"] : List Str).all (fun m => prB9 K (cM K) m (He.ma K (cM K) m) (ptr K (cM K) m)) && (["inverse", "__add__", "__sub__", "__mul__", "__getitem__", "__eq__"] : List Str).all (fun m => metB K (cM K) m (He.ma K (cM K) m)) && neB K (cM K) &&
  (PySem.W.readsIn K (cM K) (.type "type") && isB (PySem.W.specialIn K (.ref (cM K)) "__getattribute__") (some (some (.builtin "type.__getattribute__"))) && cmB K "eye" && cmB K "zero")
def selB (K : PySem.W.Frag) (q : KindI) : Bool := PySem.W.selfFirst K (He.ga K q.nm) && (["add", "sub", "mul"] : List String).all fun m => isB (PySem.W.findIn K (.ref (He.ga K q.nm)) (dunderR m)) (some none)
def pairB (K : PySem.W.Frag) (q q' : KindI) : Bool := (decide (He.ga K q.nm = He.ga K q'.nm) && decide (q.nm = q'.nm)) || (!decide (He.ga K q.nm = He.ga K q'.nm) && optB (PySem.W.subIn K (.ref (He.ga K q'.nm)) (.ref (He.ga K q.nm))) false)
def binB (K : PySem.W.Frag) : Bool := BinC K "add" (cM K) (cM K) && BinC K "sub" (cM K) (cM K) && BinC K "mul" (cM K) (cM K) && BinC K "mul" (cM K) (cR K)
def sprB (K : PySem.W.Frag) (x m : Str) : Bool := prB9 K (He.ga K x) m (He.ma K (He.ga K x) m) (ptr K (He.ga K x) m)
def letB (K : PySem.W.Frag) : Bool := metB K (He.ga K "Letter") "__eq__" (He.ma K (He.ga K "Letter") "__eq__") && optB (PySem.W.kitOne K (.ref (He.ga K "Letter")) (.ref (He.ga K "Letter"))) true && sprB K "Letter" "name" && sprB K "Letter" "symmetry" && sprB K "Letter" "about" &&
  sprB K "Scaled" "number" && sprB K "Power" "exponent" && sprB K "Blocks" "table" && sprB K "Corner" "row" && sprB K "Corner" "column"
def freeNs : List Str := ["isinstance", "abs", "len", "range", "tuple", "list", "sum", "max", "min", "all", "sorted", "zip", "int", "bool", "str", "super", "dict"]
def conB9 (K : PySem.W.Frag) : Bool := (He.Fa.int "MOST_SIDE" 16).ok K && (He.Fa.int "MOST_WEIGHT" 1000).ok K && (He.Fa.int "MOST_LEVELS" 60).ok K && (He.Fa.int "MOST_POWER" 9).ok K && (He.Fa.str "SMALL" "abcdefghijklmnopqrstuvwxyz").ok K && (He.Fa.str "CAPITALS" "ABCDEFGHIJKLMNOPQRSTUVWXYZ").ok K && (He.Fa.str "LATER" "abcdefghijklmnopqrstuvwxyz0123456789").ok K &&
  isB (PySem.W.nsIn K PySem.cStatics "thirdparty.any") (some none) && gloB K "Ratio" && gloB K "Matrix" && gloB K "Part" && gloB K "Formula" && gloB K "Singular"
def dn0 : List Str := ["is_integer", "common", "is_number", "as_ratio", "is_size_name", "is_letter_name", "is_side", "as_side", "is_index", "check_formula", "check_letters", "check_square", "checked_terms", "sides_of", "letter_of"]
def dn1 : List Str := ["checked_side", "spelled_side", "whole_table", "turned", "multiplied", "dotted", "eliminated_table", "are_entries", "check_size", "matrix_of", "added", "is_table", "joined_row", "remade", "check_mapping"]
def dn2 : List Str := ["exchanged", "substituted", "moved", "_law_purse", "_law_draw", "_law_pick", "_law_names", "_law_menu", "_law_leaf", "_law_spec", "_law_join", "_law_letters", "_law_build", "_law_woven", "_law_equal"]
def dn3 : List Str := ["_law_put_right", "_law_moved_right", "law"]
def dnL : List Str := dn0 ++ (dn1 ++ (dn2 ++ (dn3)))
/-- all looks, one by one -/
def looks (K : PySem.W.Frag) : List Bool := [conB9 K, ratB K, matB K, binB K, letB K, freeNs.all fun x => (He.Fa.free x).ok K, dnL.all (gloB K), kinds.all (kindB K), kinds.all (selB K), kinds.all (fun q => kinds.all (pairB K q)), kinds.all (fun q => BinI K "mul" (He.ga K q.nm) && BinI K "pow" (He.ga K q.nm)), fxL.all (DX.ok K)]
abbrev AlX : Type := Bool × List FnO × List FnO
def obsX (K : PySem.W.Frag) : AlX := ((looks K).all id, fxL.map fun d => fnO K (d.ad K), kinds.map fun q => fnO K (fsA K q))
def valX : AlX := (true, fxL.map DX.val, kinds.map fsV)
/-- what an object leads to -/
def ref9 : Obj → List Addr
  | ⟨_, _, .dict es _, _⟩ => es.toList.flatMap fun e => He.refV e.val
  | ⟨_, _, .cls z, _⟩ => [z.ns]
  | ⟨_, _, .func z, _⟩ => He.refV z.code ++ He.refV z.defaults ++ He.refV z.kwdefaults ++ z.closure.map (·.2)
  | ⟨.type "property", _, .fields vs, _⟩ => vs.toList.flatMap He.refV
  | ⟨.type "classmethod", _, .fields vs, _⟩ => vs.toList.flatMap He.refV
  | _ => []
def lvl (g : Addr → Option Obj) (as : List Addr) : List Addr := as.flatMap fun a => match g a with
  | some o => ref9 o
  | none => []
/-- the addresses that the names lead to, in n steps -/
def far (g : Addr → Option Obj) : Nat → List Addr → List Addr
  | 0, as => as
  | n + 1, as => as ++ far g n (lvl g as)
def adN (K : PySem.W.Frag) (x : Str) : List Addr := match PySem.W.nsIn K mainGlobals x with
  | some (some (.ref a)) => [a]
  | _ => []
def topNs : List Str := (["Ratio", "Matrix", "Part", "Formula"] : List Str) ++ kinds.map (·.nm)
def as0 (g : Addr → Option Obj) (n : Nat) : List Addr :=
  let K := He.frG g [mainGlobals]
  [mainGlobals, PySem.cStatics] ++ far g n (topNs.flatMap (adN K)) ++ far g 1 (dnL.flatMap (adN K))
def obsXG (n : Nat) (g : Addr → Option Obj) : AlX := obsX (He.frG g (as0 g n))
end K9
/-! The head: the top's run, look by look. -/
namespace K9
open PySem PySem.W PySem.Calls PyProof.Rows
abbrev R9 : OpenRow := OpenLaw.row PySem.Challenge.rw_matrixforms_k99_blocks_put_in
abbrev q9 : Program := view R9.prog [106]
def nm9_1 : List PySem.Str := ["_wall", "MOST_SIDE", "MOST_WEIGHT", "MOST_LEVELS", "MOST_POWER", "__name__", "InputError", "InvalidNumber", "InvalidEntries", "InvalidSize", "InvalidName", "InvalidSide", "InvalidSymmetry", "InvalidAbout", "InvalidExponent", "InvalidIndex", "InvalidTable", "InvalidMapping", "InvalidText", "NotAFormula"]
def nm9_2 : List PySem.Str := ["NotARatio", "MeetError", "Clash", "Mismatch", "UnknownName", "AnswerError", "Unanchored", "Singular", "TooLarge", "DIGITS", "is_integer", "common", "Ratio", "is_number", "as_ratio", "is_decimal", "pair_of", "SMALL", "CAPITALS", "LATER"]
def nm9_3 : List PySem.Str := ["is_size_name", "is_letter_name", "is_side", "as_side", "is_index", "Part", "check_formula", "check_letters", "check_square", "checked_terms", "sides_of", "letter_of", "checked_side", "spelled_side", "whole_table", "turned", "multiplied", "dotted", "eliminated_table", "are_entries"]
def nm9_4 : List PySem.Str := ["Matrix", "check_size", "matrix_of", "added", "Formula", "Letter", "Eye", "Zero", "Sum", "Difference", "Scaled", "Product", "Transposed", "Inverse", "Power", "Blocks", "Corner", "is_table", "joined_row", "remade"]
def nm9_5 : List PySem.Str := ["check_mapping", "exchanged", "substituted", "moved", "_law_purse", "_law_draw", "_law_pick", "_law_names", "_law_menu", "_law_leaf", "_law_spec", "_law_join", "_law_letters", "_law_build", "_law_woven", "_law_equal", "_law_put_right", "_law_moved_right"]
def nm9 : List PySem.Str := nm9_1 ++ (nm9_2 ++ (nm9_3 ++ (nm9_4 ++ (nm9_5 ++ ([])))))

/-- the end of the top -/
noncomputable abbrev en9 (w : World) (os : OsState) : Option SharedT := HandSHeadRun.endF (HandSHeadRun.stepQ (HandSHeadRun.denQ HandSHeadRun.tabQ) R9.prog w) 20000 R9.prog w os
abbrev kS (s : SharedT) : Frag := He.frG (HandSHeadRun.getT s) (as0 (HandSHeadRun.getT s) 4)
/-- the looks in pieces: each is taken at the end of the run by itself -/
def lk1 (K : Frag) : Bool := (conB9 K && ratB K && matB K && binB K && letB K) && (kinds.all (selB K) && kinds.all (fun q => kinds.all (pairB K q)) && kinds.all (fun q => BinI K "mul" (He.ga K q.nm) && BinI K "pow" (He.ga K q.nm)))
def lk2 (K : Frag) : Bool := (freeNs.all fun x => (He.Fa.free x).ok K) && dnL.all (gloB K)
def lk3 (K : Frag) : Bool := kinds.all (kindB K)
def fxA : List DX := fxL.take 40
def fxB : List DX := (fxL.drop 40).take 40
def fxC : List DX := (fxL.drop 40).drop 40
def fnA (K : Frag) (l : List DX) : List FnO := l.map fun d => fnO K (d.ad K)
set_option maxHeartbeats 0 in
theorem r1 (w : World) (os : OsState) : ((en9 w os).map fun s => HandSHeadRun.looksF R9.prog (boot_heap w.params) s.abs) = some true := by kernel_rfl
set_option maxHeartbeats 0 in
theorem r2 (w : World) (os : OsState) : ((en9 w os).map fun s => HandSHeadRun.seenQ q9 nm9 (importedModules R9.prog.main.body) (fun s => xlAt q9 [] s && recOk R9.toRowW.records s) s.abs) = some (openGood q9 nm9) := by kernel_rfl
set_option maxHeartbeats 0 in
theorem s1 (w : World) (os : OsState) : ((en9 w os).map fun s => lk1 (kS s)) = some true := by kernel_rfl
set_option maxHeartbeats 0 in
theorem s2 (w : World) (os : OsState) : ((en9 w os).map fun s => lk2 (kS s)) = some true := by kernel_rfl
set_option maxHeartbeats 0 in
theorem s3 (w : World) (os : OsState) : ((en9 w os).map fun s => lk3 (kS s)) = some true := by kernel_rfl
set_option maxHeartbeats 0 in
theorem s4 (w : World) (os : OsState) : ((en9 w os).map fun s => fxA.all (DX.ok (kS s))) = some true := by kernel_rfl
set_option maxHeartbeats 0 in
theorem s5 (w : World) (os : OsState) : ((en9 w os).map fun s => fxB.all (DX.ok (kS s))) = some true := by kernel_rfl
set_option maxHeartbeats 0 in
theorem s6 (w : World) (os : OsState) : ((en9 w os).map fun s => fxC.all (DX.ok (kS s))) = some true := by kernel_rfl
set_option maxHeartbeats 0 in
theorem s7 (w : World) (os : OsState) : ((en9 w os).map fun s => fnA (kS s) fxA) = some (fxA.map DX.val) := by kernel_rfl
set_option maxHeartbeats 0 in
theorem s8 (w : World) (os : OsState) : ((en9 w os).map fun s => fnA (kS s) fxB) = some (fxB.map DX.val) := by kernel_rfl
set_option maxHeartbeats 0 in
theorem s9 (w : World) (os : OsState) : ((en9 w os).map fun s => (fnA (kS s) fxC, kinds.map fun q => fnO (kS s) (fsA (kS s) q))) = some (fxC.map DX.val, kinds.map fsV) := by kernel_rfl
end K9

/-! ## Rules1 -/
/-! Rules over the hand layer that speak of an instance whose class is one of several: properties, methods, operators, items. -/
namespace K9
open PySem PySem.Spec PyProof.Rows L2

/-! ### defs, methods, classes, packed -/
/-- the def at f keeps the promise sp (dvs: its defaults) -/
structure Fnk (P : Program) (w : World) (K : PySem.W.Frag) (mg : Str → Option Value) (base : Heap) (k : Nat) (f : Addr) (sp : Sp) (dvs : List V) : Prop where
  ex : ∃ (fd : FuncData) (ps : List Str) (ds : List Value), FnOk P w K mg base CX0 k f fd ps sp ∧ PySem.W.keepIn K (.ref f) = true ∧ Binds K fd ps ds ∧ Vals dvs ds
theorem Fnk.mono {P : Program} {w : World} {K : PySem.W.Frag} {mg : Str → Option Value} {base : Heap} {k j : Nat} {f : Addr} {sp : Sp} {dvs : List V} (F : Fnk P w K mg base k f sp dvs) (h : k ≤ j) : Fnk P w K mg base j f sp dvs := by
  obtain ⟨fd, ps, ds, F, r⟩ := F.ex
  exact ⟨fd, ps, ds, F.mono h, r⟩
theorem Fnk.imp {P : Program} {w : World} {K : PySem.W.Frag} {mg : Str → Option Value} {base : Heap} {k : Nat} {f : Addr} {sp sp' : Sp} {dvs : List V} (F : Fnk P w K mg base k f sp dvs) (h : ∀ vs H Q E, sp' vs H Q E → sp vs H Q E) : Fnk P w K mg base k f sp' dvs := by
  obtain ⟨fd, ps, ds, F, r⟩ := F.ex
  exact ⟨fd, ps, ds, F.imp h, r⟩
/-- a def of the module by its name -/
structure Cal (P : Program) (w : World) (K : PySem.W.Frag) (mg : Str → Option Value) (base : Heap) (k : Nat) (x : Str) (sp : Sp) (dvs : List V) : Prop where
  ex : ∃ f, mg x = some (.ref f) ∧ Fnk P w K mg base k f sp dvs
/-- a method of the class at C -/
structure Met (P : Program) (w : World) (K : PySem.W.Frag) (mg : Str → Option Value) (base : Heap) (k : Nat) (C : Addr) (m : Str) (sp : Sp) (dvs : List V) : Prop where
  ex : ∃ f, Cls K C ∧ Meth K C m f ∧ Fnk P w K mg base k f sp dvs
/-- a class that is made by its name; sp: its __init__ -/
structure Mak (P : Program) (w : World) (K : PySem.W.Frag) (mg : Str → Option Value) (base : Heap) (k : Nat) (x : Str) (C : Addr) (sp : Sp) (dvs : List V) : Prop where
  ex : ∃ f, Mk K C f ∧ mg x = some (.ref C) ∧ Fnk P w K mg base k f sp dvs
/-- a property -/
structure Prp (P : Program) (w : World) (K : PySem.W.Frag) (mg : Str → Option Value) (base : Heap) (k : Nat) (C : Addr) (f : Str) (sp : Sp) : Prop where
  ex : ∃ (p g : Addr), Cls K C ∧ PropOf K C f p g ∧ Fnk P w K mg base k g sp []
section
variable {X : Cx} {k j : Nat} {C : Addr} {x m : Str} {sp : Sp} {dvs : List V} {p pos apos : Pos} {e o : Expr} {es : List Expr} {ta : TE} {t : TA}
theorem pe_c (c : Cal X.prog X.w X.K X.mg X.base k x sp dvs) (hr : Room j X.A) (ha : PA X (e :: es) t) (hk : k ≤ j := by decide) (hg : Gl X x := by rfl)
    (hdb : (x == ("__debug__" : Str)) = false := by decide) (he : starEach (e :: es) X.env = (false, eval e X.env) :: starEach es X.env := by rfl) (hpl : (backTo pos (starEach es X.env)).any (·.1) = false := by rfl) :
    PE X (.Call (.Name x p) (e :: es) [] pos) (tCall sp dvs E0 t) := by
  obtain ⟨f, hm, F⟩ := c.ex
  obtain ⟨fd, ps, ds, F, kp, b, d⟩ := F.ex
  exact pe_call F (hr.mono hk) hg hm kp b d pass0 ha hdb he hpl
theorem pe_mk (c : Mak X.prog X.w X.K X.mg X.base k x C sp dvs) (hr : Room j X.A) (ha : PA X (e :: es) t) (hk : k + 1 ≤ j := by decide) (hg : Gl X x := by rfl)
    (hdb : (x == ("__debug__" : Str)) = false := by decide) (he : starEach (e :: es) X.env = (false, eval e X.env) :: starEach es X.env := by rfl) (hpl : (backTo pos (starEach es X.env)).any (·.1) = false := by rfl) :
    PE X (.Call (.Name x p) (e :: es) [] pos) (tMake C sp dvs E0 t) := by
  obtain ⟨f, M, hm, F⟩ := c.ex
  obtain ⟨fd, ps, ds, F, kp, b, d⟩ := F.ex
  exact pe_make M F (hr.mono hk) hg hm b d pass0 ha hdb he hpl
end
/-! ### a property of one of several classes -/
def tPrp (ok : Addr → Prop) (sp : Sp) (ta : TE) : TE := fun σ H Q => ta σ H fun x H1 => ∃ a C dx fs, x = .ref a ∧ H1 a = some (.ins C dx fs) ∧ ok C ∧ sp [.ref a] H1 Q E0
/-- o.m(..) -/
def tMtP (ok : Addr → Prop) (m : Str) (sp : Sp) (ta : TE) (t : TA) : TE := fun σ H Q => ta σ H fun x H1 => ∃ a C dx fs, x = .ref a ∧ H1 a = some (.ins C dx fs) ∧ ok C ∧ fs.lookup m = none ∧ t σ H1 fun vs H2 => sp (.ref a :: vs) H2 Q E0
section
variable {X : Cx} {k j : Nat} {ok : Addr → Prop} {f m : Str} {sp : Sp} {e o : Expr} {es : List Expr} {pos apos : Pos} {ta : TE} {t : TA}
theorem pe_prp (c : ∀ C, ok C → Prp X.prog X.w X.K X.mg X.base k C f sp) (hr : Room j X.A) (he : PE X e ta) (hk : k + 1 ≤ j := by decide)
    (hab : attributeBase e f X.env (eval e X.env) = eval e X.env := by rfl) : PE X (.Attribute e f pos) (tPrp ok sp ta) := by
  refine ⟨fun pins s σ H Q I h => ?_⟩
  refine attr_of hab (thn (he.run pins s σ H _ I h) fun u s1 ⟨x, H1, I1, rx, a, C, dx, fs, ex, ea, hC, q⟩ => ?_)
  subst ex
  obtain rfl : u = Value.ref a := rx
  obtain ⟨p, g, c1, hp, F⟩ := (c C hC).ex
  obtain ⟨fd, ps, ds, F, kp, b, d⟩ := F.ex
  exact getprop_ok (dvs := []) I1 ea c1 hp F (hr.mono hk) b d pass0 q
theorem pe_mtP {pl : Sem Bool} (c : ∀ C, ok C → Met X.prog X.w X.K X.mg X.base k C m sp []) (hr : Room j X.A) (he : PE X o ta) (ha : PA X (e :: es) t) (hk : k ≤ j := by decide)
    (hst : starEach (e :: es) X.env = (false, eval e X.env) :: starEach es X.env := by rfl) (hpl : (backTo pos (starEach es X.env)).any (·.1) = false := by rfl)
    (ht : eval (.Call (.Attribute o m apos) (e :: es) [] pos) X.env = (do
      let ov ← eval o X.env
      standAt apos.atName
      let (f, first) ← holding [ov] (getMethod ov m pl)
      callWith pos f first (backTo pos (starEach (e :: es) X.env)) (backToKw pos (keywordEach [] X.env))) := by rfl) :
    PE X (.Call (.Attribute o m apos) (e :: es) [] pos) (tMtP ok m sp ta t) := by
  refine ⟨fun pins s σ H Q I h => ?_⟩
  refine PySem.W.methodCall_KW (pl := pl) (thn (he.run pins s σ H _ I h) fun u s1 ⟨x, H1, I1, rx, a, C, dx, fs, ex, ea, hC, l, q⟩ => ?_) ht
  subst ex
  obtain rfl : u = Value.ref a := rx
  obtain ⟨g, c1, hm, F⟩ := (c C hC).ex
  obtain ⟨fd, ps, ds, F, kp, hb, hd⟩ := F.ex
  refine getmeth_ok I1 ea c1 hm l ?_
  refine PySem.W.callWith_K (first := [.ref a]) (h₀ := X.base) I.ok.mod.kin hm.kp (thn (ha.run pos pins s1 σ H1 _ I1 q) fun us s2 ⟨vs, H2, I2, r, q2⟩ => ⟨I2.kIn, ?_⟩) hst hpl
  exact run_fn (us := .ref a :: us) (vs := .ref a :: vs) F (hr.mono hk) hb hd pass0 I2 (.cons rfl r) (by rw [List.append_nil]; exact q2)
theorem pe_mtP0 {pl : Sem Bool} (c : ∀ C, ok C → Met X.prog X.w X.K X.mg X.base k C m sp []) (hr : Room j X.A) (he : PE X o ta) (hk : k ≤ j := by decide)
    (ht : eval (.Call (.Attribute o m apos) [] [] pos) X.env = (do
      let ov ← eval o X.env
      standAt apos.atName
      let (f, first) ← holding [ov] (getMethod ov m pl)
      callWith pos f first (backTo pos (starEach [] X.env)) (backToKw pos (keywordEach [] X.env))) := by rfl) :
    PE X (.Call (.Attribute o m apos) [] [] pos) (tMtP ok m sp ta tNil) := by
  refine ⟨fun pins s σ H Q I h => ?_⟩
  refine PySem.W.methodCall_KW (pl := pl) (thn (he.run pins s σ H _ I h) fun u s1 ⟨x, H1, I1, rx, a, C, dx, fs, ex, ea, hC, l, q⟩ => ?_) ht
  subst ex
  obtain rfl : u = Value.ref a := rx
  obtain ⟨g, c1, hm, F⟩ := (c C hC).ex
  obtain ⟨fd, ps, ds, F, kp, hb, hd⟩ := F.ex
  refine getmeth_ok I1 ea c1 hm l ?_
  exact PySem.W.callWith_K0 (first := [.ref a]) I1.kIn hm.kp (run_fn (us := [.ref a]) (vs := [.ref a]) F (hr.mono hk) hb hd pass0 I1 (.cons rfl .nil) q)
end

/-! ### operators of one's own -/
/-- an own method by its name, found as Python's operators find it -/
structure Opm (P : Program) (w : World) (K : PySem.W.Frag) (mg : Str → Option Value) (base : Heap) (k : Nat) (C : Addr) (m : Str) (sp : Sp) : Prop where
  ex : ∃ (f : Addr), PySem.W.findIn K (.ref C) m = some (some (.ref f)) ∧ PySem.W.isFn K (.ref f) = true ∧ PySem.W.fnIn K f = true ∧ Fnk P w K mg base k f sp []
section
open PySem.W
variable {prog : Program} {w : World} {A : Around} {E : Value → Shared → Prop} {s : Shared} {K : Frag} {x C D L f g : Addr} {h₀ : Heap} {m : Str → Option Value} {ox : Obj} {od : Option Obj}
theorem bin_KK {op : Operator} {b : Value} {Q : Value → Shared → Prop} (F : Fr h₀ L s.heap m) (X₀ : K.In h₀) (I : InstAt s.heap x ox C od) (hb : Looks (model prog w) s.heap (typeOf b) (.ref D)) (hne : C ≠ D) (hc : selfFirst K C = true) (hd : selfFirst K D = true)
    (hs : findIn K (.ref C) (PySem.dunder op.info.2) = some (some (.ref f))) (hf : isFn K (.ref f) = true) (hr : findIn K (.ref C) (dunderR op.info.2) = some none)
    (hs2 : findIn K (.ref D) (PySem.dunder op.info.2) = some (some (.ref g))) (hr2 : findIn K (.ref D) (dunderR op.info.2) = some none) (hsub : subIn K (.ref D) (.ref C) = some false)
    (h : wpAny (model prog w) A (call (.ref f) [.ref x, b]) (PySem.W.CmpBack Q) E s) : wpAny (model prog w) A (binaryOp op (.ref x) b) Q E s := by
  have X := X₀.keeps F.keep
  obtain ⟨cd, rest, hcd, hm⟩ := ksp_first hc
  obtain ⟨dd, rest', hdd, hm'⟩ := ksp_first hd
  rcases hi : op.info with ⟨sym, nm'⟩
  rw [hi] at hs hr hs2 hr2
  dsimp only at hs hr hs2 hr2
  have one := ksp_try X I hs hf h
  obtain ⟨hh, g', d, tt, os⟩ := s
  have L1 : Looks (model prog w) hh (typeOf (.ref x)) (.ref C) := I.type
  have L2 : Looks (model prog w) hh (typeOf b) (.ref D) := hb
  have L3 : Looks (model prog w) hh (fillsNumberSlot (.ref C) nm') true := fills_K X hcd hm hs
  have L4 : Looks (model prog w) hh (fillsNumberSlot (.ref D) nm') true := fills_K X hdd hm' hs2
  have L5 : Looks (model prog w) hh (isSubtype (.ref D) (.ref C)) false := looks_subIn X hsub
  have L6 : Looks (model prog w) hh (numberSlotInPython (.ref C) nm') true := ksp_inPy X hs hr (.inl rfl)
  have L7 : Looks (model prog w) hh (numberSlotInPython (.ref D) nm') true := ksp_inPy X hs2 hr2 (.inl rfl)
  have hne' : (Value.ref C == Value.ref D) = false := Bool.eq_false_iff.mpr fun q => hne (by cases beq_iff_eq.mp q; rfl)
  simp only [binaryOp, hi]
  refine wpAny_holding (wpAny_bind ?_)
  unfold binaryOp1
  refine wpAny_bind (L1.at (wpAny_bind (L2.at (wpAny_bind (L3.at ?_)))))
  simp only [hne', Bool.false_eq_true, if_false]
  ksp_lk
  refine wpAny_mono one (fun r s' hr' => ?_) fun _ _ e => e
  obtain ⟨v, rfl, hq⟩ := hr'
  ksp_lk
  exact hq
end

section
variable {X : Cx} {k j : Nat}
theorem run_opm {sp : Sp} {f : Addr} {pins : List (Addr × Obj)} {σ : L2.St} {H : Hp} {s : Shared} {Q : VK} {x y : V} {v u : Value}
    (F : Fnk X.prog X.w X.K X.mg X.base k f sp []) (hr : Room k X.A) (I : Inv X pins σ H s) (rx : RelV x v) (ry : RelV y u) (h : sp [x, y] H Q E0) :
    wpAny (model X.prog X.w) X.A (call (.ref f) [v, u]) (PySem.W.CmpBack (EP X pins σ Q)) X.xe s := by
  obtain ⟨fd, ps, ds, F, kp, hb, hd⟩ := F.ex
  refine wpAny_mono (run_fn (us := [v, u]) (vs := [x, y]) F hr hb hd pass0 I (.cons rx (.cons ry .nil)) (by rw [List.append_nil]; exact h)) (fun r s' q => ?_) fun _ _ z => z
  obtain ⟨z, H', I', rz, q⟩ := q
  cases z with
  | non => cases (show r = Value.none from rz); exact ⟨V.non, H', I', rfl, q⟩
  | bl b => cases (show r = Value.bool b from rz); exact ⟨V.bl b, H', I', rfl, q⟩
  | int i => obtain ⟨t, e⟩ := (show ∃ t, r = Value.int i t from rz); cases e; exact ⟨V.int i, H', I', ⟨t, rfl⟩, q⟩
  | str i => obtain ⟨t, e⟩ := (show ∃ t, r = Value.str i t from rz); cases e; exact ⟨V.str i, H', I', ⟨t, rfl⟩, q⟩
  | byt i => obtain ⟨t, e⟩ := (show ∃ t, r = Value.bytes i t from rz); cases e; exact ⟨V.byt i, H', I', ⟨t, rfl⟩, q⟩
  | flt i => obtain ⟨t, e⟩ := (show ∃ t, r = Value.float i t from rz); cases e; exact ⟨V.flt i, H', I', ⟨t, rfl⟩, q⟩
  | ref i => cases (show r = Value.ref i from rz); exact ⟨V.ref i, H', I', rfl, q⟩
  | ty i => cases (show r = Value.type i from rz); exact ⟨V.ty i, H', I', rfl, q⟩

/-- x op y: both instances -/
def rOwn (K : PySem.W.Frag) (nm : String) (ok ok2 : Addr → Prop) (sp : Sp) : R2 := fun x y H Q => ∃ a b C D dx dy fs gs, x = .ref a ∧ y = .ref b ∧ H a = some (.ins C dx fs) ∧ H b = some (.ins D dy gs) ∧ ok C ∧ ok2 D ∧ sp [x, y] H Q E0
theorem op_own {op : Operator} {ok ok2 : Addr → Prop} {sp sp2 : Sp} {k2 : Nat} (c : ∀ C, ok C → Opm X.prog X.w X.K X.mg X.base k C (PySem.dunder op.info.2) sp) (c2 : ∀ C, ok2 C → Opm X.prog X.w X.K X.mg X.base k2 C (PySem.dunder op.info.2) sp2)
    (b : ∀ C D, ok C → ok2 D → BinC X.K op.info.2 C D = true) (hr : Room j X.A) (hk : k ≤ j := by decide) : OpR X (binaryOp op) (rOwn X.K op.info.2 ok ok2 sp) := by
  intro pins s σ H x y v u Q I rx ry hq
  obtain ⟨a, b', C, D, dx, dy, fs, gs, rfl, rfl, ha, hb, hC, hD, q⟩ := hq
  cases rx
  cases ry
  obtain ⟨mA, J, _⟩ := ins_get I.hok ha
  obtain ⟨mB, J', _⟩ := ins_get I.hok hb
  obtain ⟨od, J, _⟩ := J.look
  obtain ⟨od', J', _⟩ := J'.look
  obtain ⟨m, hF⟩ := I.fr
  obtain ⟨f, hs, hf, _, F⟩ := (c C hC).ex
  obtain ⟨f2, hs2, hf2, _, F2⟩ := (c2 D hD).ex
  have hB := b C D hC hD
  unfold BinC at hB
  obtain ⟨s1, hB⟩ := Bool.and_eq_true_iff.mp hB
  have go := run_opm (x := .ref a) (y := .ref b') (v := .ref a) (u := .ref b') F (hr.mono hk) I rfl rfl q
  rcases Bool.or_eq_true_iff.mp hB with e | e
  · have e := of_decide_eq_true e
    subst e
    exact PySem.W.binop_K hF I.ok.mod.kin J J'.type s1 hs hf go
  · simp only [Bool.and_eq_true, decide_eq_true_eq] at e
    obtain ⟨⟨⟨e1, e2⟩, e3⟩, e4⟩ := e
    by_cases hCD : C = D
    · subst hCD
      exact PySem.W.binop_K hF I.ok.mod.kin J J'.type s1 hs hf go
    · exact bin_KK hF I.ok.mod.kin J J'.type hCD s1 e1 hs hf e2 hs2 e3 e4 go

def rOwnI (ok : Addr → Prop) (sp : Sp) : R2 := fun x y H Q => ∃ a i C dx fs, x = .ref a ∧ y = .int i ∧ H a = some (.ins C dx fs) ∧ ok C ∧ sp [x, y] H Q E0
theorem op_ownI {op : Operator} {ok : Addr → Prop} {sp : Sp} (c : ∀ C, ok C → Opm X.prog X.w X.K X.mg X.base k C (PySem.dunder op.info.2) sp) (b : ∀ C, ok C → BinI X.K op.info.2 C = true) (hr : Room j X.A) (hk : k ≤ j := by decide) :
    OpR X (binaryOp op) (rOwnI ok sp) := by
  intro pins s σ H x y v u Q I rx ry hq
  obtain ⟨a, i, C, dx, fs, rfl, rfl, ha, hC, q⟩ := hq
  cases rx
  obtain ⟨t, rfl⟩ := (show ∃ t, u = Value.int i t from ry)
  obtain ⟨mA, J, _⟩ := ins_get I.hok ha
  obtain ⟨od, J, _⟩ := J.look
  obtain ⟨m, hF⟩ := I.fr
  obtain ⟨f, hs, hf, _, F⟩ := (c C hC).ex
  have hB := b C hC
  unfold BinI at hB
  simp only [Bool.and_eq_true, decide_eq_true_eq] at hB
  obtain ⟨⟨⟨⟨e1, e2⟩, e3⟩, e4⟩, e5⟩ := hB
  obtain ⟨fo, h1⟩ := Option.isSome_iff_exists.mp e3
  obtain ⟨ro, h2⟩ := Option.isSome_iff_exists.mp e4
  exact PySem.W.ksp_binT hF I.ok.mod.kin J rfl e1 hs hf e2 (.inl rfl) h1 h2 e5 (run_opm (x := .ref a) (y := .int i) (v := .ref a) F (hr.mono hk) I rfl ⟨t, rfl⟩ q)

/-- x[i] by an own __getitem__ -/
def rItem (ok : Addr → Prop) (sp : Sp) : R2 := fun x y H Q => ∃ a C dx fs, x = .ref a ∧ H a = some (.ins C dx fs) ∧ ok C ∧ sp [x, y] H Q E0
theorem pe_item {ok : Addr → Prop} {sp : Sp} {a b : Expr} {ta tb : TE} {pos : Pos} (c : ∀ C, ok C → Opm X.prog X.w X.K X.mg X.base k C "__getitem__" sp) (hr : Room j X.A) (ha : PE X a ta) (hb : PE X b tb) (hk : k + 1 ≤ j := by decide)
    (hs : ∀ o i, subscripted b true o i = runValue (.builtin "lifetime.subscript" ⟨[o, i], []⟩) := by intro _ _; rfl) : PE X (.Subscript a b pos) (tOp (rItem ok sp) ta tb) := by
  refine ⟨fun pins s σ H Q I h => ?_⟩
  refine Subscript_ (binT ha hb I h fun v u s2 x y H2 I2 rx ry q => ?_)
  obtain ⟨p, C, dx, fs, rfl, hp, hC, q⟩ := q
  cases rx
  obtain ⟨mA, J, _⟩ := ins_get I2.hok hp
  obtain ⟨od, J, _⟩ := J.look
  obtain ⟨m, hF⟩ := I2.fr
  obtain ⟨f, hf1, hf2, hf3, F⟩ := (c C hC).ex
  obtain ⟨fd, ps, ds, F, kp, hb', hd⟩ := F.ex
  have hl : ([Value.ref p, u] ++ ds).length = ps.length := by
    have e := F.len _ _ _ _ q
    rw [← e, List.length_append, ← hd.length]
    rfl
  refine PySem.W.sub_K hF I2.ok.mod.kin J hf1 hf3 hf2 ?_ (hs _ _)
  · have hds : ds = [] := by cases hd; rfl
    subst hds
    refine wpAny_call (codeAny_mono (F.run X.A.in1 X.stack s2 H2 ⟨[.ref p, u], []⟩ ([.ref p, u] ++ []) ([.ref p, y]) Q E0 ((hr.mono hk).in1) I2.env0.in1 (hb' s2 [.ref p, u] I2.kIn hl) (.cons rfl (.cons ry .nil)) q) fun r s' hq => ?_)
    cases r with
    | error e => exact False.elim hq
    | ok fl =>
      cases fl with
      | ret w => exact I2.after hq
      | next => exact False.elim hq
      | brk => exact False.elim hq
      | cont => exact False.elim hq
end
end K9
namespace K9
open PySem PySem.Spec PyProof.Rows L2
/-! ### x != y by an own __eq__ (no own __ne__) -/
section
open PySem.W
variable {prog : Program} {w : World} {A : Around} {E : Value → Shared → Prop} {s : Shared} {K : Frag} {x C L f : Addr} {h₀ : Heap} {m : Str → Option Value} {ox : Obj} {od : Option Obj}
theorem ifBound_B {M : Model} {name : Str} {id B : String} {args : List Value} {Q : Option Value → Shared → Prop} (X : K.In s.heap) (I : InstAt s.heap x ox C od) (hs : findIn K (.ref C) name = some (some (.builtin id))) (S : Slot B name id)
    (h : wpAny M A (call (.builtin id) (.ref x :: args)) (fun v => Q (some v)) E s) : wpAny M A (callSpecialIfBound? (.ref x) name args) Q E s := by
  simp only [callSpecialIfBound?, bindSpecialIfBound?]
  refine wpAny_holding (wpAny_bind (wpAny_bind (wpAny_bind (I.type.here ((looks_findIn X hs).here ?_)))))
  simp only [S.bind]
  refine wpAny_bind (wpAny_askSetting (wpAny_ite ?_))
  have fin : wpAny M A (call (.builtin id) ([.ref x] ++ args) >>= fun v => pure (some v)) Q E s := wpAny_bind (wpAny_mono h (fun v s' h' => wpAny_pure h') fun _ _ h' => h')
  split
  · exact wpAny_bind (wpAny_pure (wpAny_pure fin))
  · exact wpAny_tryCatch (wpAny_bind (wpAny_pure (wpAny_pure fin)))
theorem ne_body {y : Value} {Q : Fin → Shared → Prop} (hu : A.units < cLine) (X : K.In s.heap) (I : InstAt s.heap x ox C od)
    (hs : findIn K (.ref C) "__eq__" = some (some (.ref f))) (hf : isFn K (.ref f) = true)
    (h : wpAny (model prog w) A (call (.ref f) [.ref x, y]) (fun v s' => ∃ b, v = .bool b ∧ Q (.done (.ret (.bool (!b)))) s') E s) :
    wpAny (model prog w) A (Builtin.«object.__ne__» ⟨[.ref x, y], []⟩) Q E s := by
  obtain ⟨hh, g, d, t, os⟩ := s
  unfold Builtin.«object.__ne__»
  repeat (first
    | with_reducible refine wpAny_cRoomFor hu ?_
    | (refine wpAny_bind (m := callSpecialIfBound? (.ref x) (Str.ofString "__eq__") [y])
        (ifBound_K X I hs hf (wpAny_mono h (fun r s' hr => by
          obtain ⟨b, rfl, hq⟩ := hr
          repeat (first | exact hq | exact wpAny_pure hq | exact wpAny_truthy_bool hq | (refine wpAny_bind (m := truthy (.bool _)) (wpAny_truthy_bool ?_)) | wp_step)) fun _ _ e => e)))
    | wp_step)
theorem ne_own {y : Value} {Q : Value → Shared → Prop} (hu : A.units + 1 < cLine) (F : Fr h₀ L s.heap m) (X₀ : K.In h₀) (I : InstAt s.heap x ox C od) (hb : Looks (model prog w) s.heap (typeOf y) (.ref C))
    (hn : findIn K (.ref C) "__ne__" = some (some (.builtin "object.__ne__"))) (ho : mroIn K C (.type "object") = some true)
    (hs : findIn K (.ref C) "__eq__" = some (some (.ref f))) (hf : isFn K (.ref f) = true)
    (h : wpAny (model prog w) A.in1 (call (.ref f) [.ref x, y]) (fun v s' => ∃ b, v = .bool b ∧ Q (.bool (!b)) s') E s) :
    wpAny (model prog w) A (compareOp .NotEq (.ref x) y) Q E s := by
  have X := X₀.keeps F.keep
  refine PySem.W.cmp_ofNotEq ?_
  have sub : Looks (model prog w) s.heap (isInstance (.ref x) (.type "object")) true := I.type.andThen (looks_mroIn X ho)
  have try' : wpAny (model prog w) A (tryCompare (.ref x) "__ne__" y) (fun r s' => ∃ b, r = some (.bool b) ∧ Q (.bool b) s') E s := by
    simp only [tryCompare]
    refine wpAny_bind (ifBound_B X I hn PySem.F.cmp_object.ne (wpAny_call (codeAny_call_builtin PySem.F.cmp_object.ne.plain PySem.F.cmpEntry_ne
      (@check_slot (model prog w) _ _ s "object.__ne__" "object" "__ne__" (.ref x) [y] [] _ PySem.F.cmpKind_ne PySem.F.cmpSplit_ne sub (PySem.F.cmpArgs_ne _ _) (ne_body (A := A.in1) hu X I hs hf (wpAny_mono h (fun v s' hv => ?_) fun _ _ e => e))))))
    obtain ⟨b, rfl, hq⟩ := hv
    exact ⟨b, rfl, wpAny_pure ⟨_, rfl, hq⟩⟩
  obtain ⟨hh, g, d, t, os⟩ := s
  unfold richCompare
  simp only [oneThing_ref]
  refine wpAny_holding (wpAny_bind (wpAny_cRoomFor (Nat.lt_of_succ_lt hu) ?_))
  rw [cmpInfo_NotEq]
  dsimp only
  refine wpAny_bind (I.type.at (wpAny_bind (hb.at ?_)))
  simp only [bne_self_eq_false, Bool.false_eq_true, if_false]
  refine wpAny_bind (wpAny_pure ?_)
  simp only [Bool.false_eq_true, if_false]
  refine wpAny_bind (wpAny_mono try' (fun r s' z => ?_) fun _ _ e => e)
  obtain ⟨b, rfl, hq⟩ := z
  exact wpAny_pure hq
end
/-- x != y: an own ==, that gives True -/
structure NeC (K : PySem.W.Frag) (C : Addr) : Prop where
  hn : PySem.W.findIn K (.ref C) "__ne__" = some (some (.builtin "object.__ne__"))
  ho : PySem.W.mroIn K C (.type "object") = some true
def rNeI (ok : Addr → Prop) (R : Addr → Addr → Hp → Prop) : R2 := fun x y H Q => (∃ a b C dx dy fs gs, x = .ref a ∧ y = .ref b ∧ H a = some (.ins C dx fs) ∧ H b = some (.ins C dy gs) ∧ ok C ∧ R a b H) ∧ ∀ H', Ext H H' → Q (.bl false) H'
section
variable {X : Cx} {k j : Nat}
theorem op_neI {ok : Addr → Prop} {R : Addr → Addr → Hp → Prop} (c : ∀ C, ok C → Opm X.prog X.w X.K X.mg X.base k C "__eq__" (spEq R)) (n : ∀ C, ok C → NeC X.K C) (hr : Room j X.A) (hk : k + 1 ≤ j := by decide) : OpR X (compareOp .NotEq) (rNeI ok R) := by
  intro pins s σ H x y v u Q I rx ry hq
  obtain ⟨⟨a, b, C, dx, dy, fs, gs, rfl, rfl, ha, hb, hC, hR⟩, q⟩ := hq
  cases rx
  cases ry
  obtain ⟨mA, J, _⟩ := ins_get I.hok ha
  obtain ⟨mB, J', _⟩ := ins_get I.hok hb
  obtain ⟨od, J, _⟩ := J.look
  obtain ⟨od', J', _⟩ := J'.look
  obtain ⟨m, hF⟩ := I.fr
  obtain ⟨f, hs, hf, _, F⟩ := (c C hC).ex
  obtain ⟨fd, ps, ds, F, kp, hb', hd⟩ := F.ex
  have hds : ds = [] := by cases hd; rfl
  subst hds
  have hsp : spEq R [.ref a, .ref b] H (fun v H' => v = .bl true ∧ Ext H H') E0 := ⟨a, b, rfl, hR, fun H' e => ⟨rfl, e⟩⟩
  have hl : ([Value.ref a, Value.ref b] ++ []).length = ps.length := (F.len _ _ _ _ hsp)
  have hu := hr.units
  refine ne_own (by omega) hF I.ok.mod.kin J J'.type (n C hC).hn (n C hC).ho hs hf ?_
  refine wpAny_call (codeAny_mono (F.run X.A.in1 X.stack s H ⟨[Value.ref a, Value.ref b], []⟩ ([Value.ref a, Value.ref b] ++ []) ([V.ref a, V.ref b]) _ E0 ((hr.mono hk).in1) I.env0.in1 (hb' s [Value.ref a, Value.ref b] I.kIn hl) (show Vals [V.ref a, V.ref b] [Value.ref a, Value.ref b] from .cons rfl (.cons rfl .nil)) hsp) fun r s' hq => ?_)
  cases r with
  | error e => exact False.elim hq
  | ok fl =>
    cases fl with
    | ret w =>
      obtain ⟨z, H', I', rz, ez, ex⟩ := I.after hq
      subst ez
      cases rz
      exact ⟨true, rfl, .bl false, H', I', rfl, q H' ex⟩
    | next => exact False.elim hq
    | brk => exact False.elim hq
    | cont => exact False.elim hq
/-- x == y: an own ==, that gives True -/
theorem rcG_own {ok : Addr → Prop} {R : Addr → Addr → Hp → Prop} (c : ∀ C, ok C → Opm X.prog X.w X.K X.mg X.base k C "__eq__" (spEq R)) : RcG X k (fun x y H => ∃ C, ok C ∧ DIns C R x y H) := by
  intro A pins s σ H x y u v sb I rx ry d
  obtain ⟨C, hC, d⟩ := d
  obtain ⟨f, hs, hf, _, F⟩ := (c C hC).ex
  obtain ⟨fd, ps, ds, F, kp, hb', hd⟩ := F.ex
  have hds : ds = [] := by cases hd; rfl
  subst hds
  exact rcG_ins F hs hf hb' pass0 A pins s σ H x y u v sb I rx ry d
end
end K9

/-! ## Rules2 -/
/-! A method that says super().__init__(..). -/
namespace K9
open PySem PySem.Spec PyProof.Rows L2

/-- a body's statements at the def's own activation -/
structure PAs (X : Cx) (body st : List Stmt) (t : TS) : Prop where
  run : ∀ (pins : List (Addr × Obj)) (s : Shared) (σ : L2.St) (H : Hp) (D : Ends), Inv X pins σ H s → t D σ H → _root_.PySem.wpAt (model X.prog X.w) X.A (.func body X.env) (execs st X.env) (SP X pins D) X.xe s
section
variable {X : Cx} {body : List Stmt} {st : Stmt} {rest sts : List Stmt} {t u : TS}
theorem pas_of (h : PSs X sts t) : PAs X body sts t := ⟨fun pins s σ H D I hw => wpAt_of_wpAny (h.run pins s σ H D I hw)⟩
theorem pas_cons (h1 : PS X st t) (h2 : PAs X body rest u) : PAs X body (st :: rest) (tSeq t u) := by
  refine ⟨fun pins s σ H D I h => ?_⟩
  refine ks_wpAt_execs_cons (wpAt_of_wpAny (thn (h1.run pins s σ H { D with nx := u D } I h) fun f s1 q => ?_))
  cases f with
  | next =>
    obtain ⟨σ', H', I', q⟩ := q
    exact h2.run pins s1 σ' H' D I' q
  | ret v => exact q
  | brk => exact q
  | cont => exact q
end
/-- what is said of super() in a method of the class D whose first parameter is the slot 0 -/
structure SupC (X : Cx) (D : Addr) (m : Str) : Prop where
  sup : X.mg "super" = none
  hv : bootBuiltins "super" = some (.type "super")
  clsD : (PySem.W.clsIn X.K D).isSome = true
  op : PySem.W.nsIn X.K PySem.cStatics "thirdparty.any" = some none
  file : ∃ (cda : Addr) (ccl : Value) (cdd : Option Addr) (vs : Array Value) (ccs : Array (Option Value)) (file : Str) (tf : Tok), X.env.code = .ref cda ∧ X.K.lookup cda = some ⟨ccl, cdd, .fields vs, ccs⟩ ∧ vs[2]? = some (.str file tf) ∧ ((X.prog.main.file : Str) == file) = true
  fn : ∃ (f : Addr) (oc : Value) (od : Option Addr) (fd : FuncData) (osl : Array (Option Value)) (ar : Arg), X.env.func = some f ∧ X.K.lookup f = some ⟨oc, od, .func fd, osl⟩ ∧ (fd.params.posonlyargs ++ fd.params.args).head? = some ar ∧ ar.arg = ("self" : Str)
  top : (X.prog.main.scope.names.lookup ("super" : Str)).isSome = false
/-- of the instance's class C: g is what super() of D finds -/
structure SupI (K : PySem.W.Frag) (C D g : Addr) (m : Str) : Prop where
  sub : PySem.W.mroIn K C (.ref D) = some true
  at_ : PySem.W.ks_superIn K C D m = some (some (.ref g))
  ty : PySem.W.typeIn K (.ref g) = some (.type "function")
  fi : PySem.W.fnIn K g = true
/-- one statement at the def's own activation -/
structure PAt (X : Cx) (body : List Stmt) (st : Stmt) (t : TS) : Prop where
  run : ∀ (pins : List (Addr × Obj)) (s : Shared) (σ : L2.St) (H : Hp) (D : Ends), Inv X pins σ H s → t D σ H → _root_.PySem.wpAt (model X.prog X.w) X.A (.func body X.env) (exec st X.env) (SP X pins D) X.xe s
/-- super().m(..) of the def's own class D -/
def tSup (D : Addr) (jc : Nat) (ok : Addr → Prop) (sp : Sp) (dvs : List V) (t : TA) : TS := fun Dn σ H => ∃ a C dx fs, σ[0]? = some (some (.ref a)) ∧ σ[jc]? = some (some (.ref D)) ∧ H a = some (.ins C dx fs) ∧ ok C ∧ t σ H fun vs H1 => sp (.ref a :: vs ++ dvs) H1 (fun _ H2 => Dn.nx σ H2) E0
section
variable {X : Cx} {body : List Stmt} {st : Stmt} {rest sts : List Stmt} {t u : TS}
theorem pas_sup (h1 : PAt X body st t) (h2 : PAs X body rest u) : PAs X body (st :: rest) (tSeq t u) := by
  refine ⟨fun pins s σ H D I h => ?_⟩
  refine ks_wpAt_execs_cons (ks_wpAt_mono (h1.run pins s σ H { D with nx := u D } I h) (fun f s1 q => ?_) fun _ _ z => z)
  cases f with
  | next =>
    obtain ⟨σ', H', I', q⟩ := q
    exact h2.run pins s1 σ' H' D I' q
  | ret v => exact q
  | brk => exact q
  | cont => exact q
end
section
variable {X : Cx} {k j jc : Nat} {D : Addr} {ok : Addr → Prop} {m : Str} {sp : Sp} {body : List Stmt} {e : Expr} {es : List Expr} {p0 p1 apos pos pos' : Pos} {ta : TA}
theorem ps_super {dvs : List V} (S : SupC X D m) (c : ∀ C, ok C → ∃ g, SupI X.K C D g m ∧ Fnk X.prog X.w X.K X.mg X.base k g sp dvs) (hr : Room j X.A) (ha : PA X (e :: es) ta) (hN0 : X.N[0]? = some ("self" : Str)) (hNc : X.N[jc]? = some ("__class__" : Str)) (hk : k ≤ j := by decide)
    (hks : X.env.kindOf "super" = some .globalImplicit := by rfl) (hkc : X.env.kindOf "__class__" = some .free := by rfl) (hk0 : X.env.kindOf "self" = some .local := by rfl) (hm : (m == ("__class__" : Str)) = false := by decide)
    (he : starEach (e :: es) X.env = (false, eval e X.env) :: starEach es X.env := by rfl) (hpl : (backTo pos (starEach es X.env)).any (·.1) = false := by rfl)
    (hint : interactive X.env = false := by rfl) (hsw : swapsWith (.Call (.Attribute (.Call (.Name "super" p0) [] [] p1) m apos) (e :: es) [] pos) none pos'.line X.env = pure false := by rfl)
    {pl : Sem Bool} (hev : eval (.Call (.Attribute (.Call (.Name "super" p0) [] [] p1) m apos) (e :: es) [] pos) X.env = (do
      let ov ← attributeBase (.Call (.Name "super" p0) [] [] p1) m X.env (eval (.Call (.Name "super" p0) [] [] p1) X.env)
      standAt apos.atName
      let (f, first) ← holding [ov] (getMethod ov m pl)
      callWith pos f first (backTo pos (starEach (e :: es) X.env)) []) := by rfl) :
    PAt X body (.Expr (.Call (.Attribute (.Call (.Name "super" p0) [] [] p1) m apos) (e :: es) [] pos) pos') (tSup D jc ok sp dvs ta) := by
  refine ⟨fun pins s σ H Dn I h => ?_⟩
  obtain ⟨a, C, dx, fs, h0, hcl, hx, hC, q⟩ := h
  obtain ⟨g, SI, F⟩ := c C hC
  obtain ⟨cda, ccl, cdd, vs, ccs, file, tf, hco, hlc, hvs, hfile⟩ := S.file
  obtain ⟨f, oc, od, fd, osl, ar, hfu, hlf, hp, har⟩ := S.fn
  obtain ⟨ml, hns, hloc⟩ := I.loc
  have KI := I.kIn
  -- self and __class__
  obtain ⟨u0, ru0, l0⟩ := hloc 0 "self" _ hN0 h0 (.inl hk0)
  have l0' : ml "self" = some (.ref a) := by
    rcases l0 with ⟨_, z⟩ | ⟨z, _⟩
    · rw [z, show u0 = Value.ref a from ru0]
    · rcases z with z | z
      · rw [hk0] at z; cases z
      · rw [hk0] at z; cases z
  obtain ⟨u1, ru1, l1⟩ := hloc jc "__class__" _ hNc hcl (.inr (.inr hkc))
  obtain ⟨cc, hcc, hcell⟩ : ∃ c, X.env.cells.lookup ("__class__" : Str) = some c ∧ s.heap.IsCell c (some (.ref D)) := by
    rcases l1 with ⟨z, _⟩ | ⟨_, c, z1, z2⟩
    · rw [hkc] at z; cases z
    · exact ⟨c, z1, by rw [show u1 = Value.ref D from ru1] at z2; exact z2⟩
  obtain ⟨cdD, hD⟩ := Option.isSome_iff_exists.mp S.clsD
  obtain ⟨oD, hD1, hD2⟩ : ∃ oD, s.heap.get? D = some oD ∧ oD.data = .cls cdD := by
    unfold PySem.W.clsIn at hD
    split at hD
    · rename_i c d cd' sl ho
      cases hD
      exact ⟨_, KI _ _ ho, rfl⟩
    · cases hD
  obtain ⟨mA, J, _⟩ := ins_get I.hok hx
  obtain ⟨odx, J, _⟩ := J.look
  have hcd : ∃ cd, PySem.W.clsIn X.K C = some cd ∧ PySem.W.alongIn X.K m ((cd.mro.dropWhile (· != .ref D)).drop 1) = some (some (.ref g)) := by
    have z := SI.at_
    unfold PySem.W.ks_superIn at z
    cases hc : PySem.W.clsIn X.K C with
    | none => rw [hc] at z; cases z
    | some cd => rw [hc] at z; exact ⟨cd, rfl, z⟩
  obtain ⟨cd, hc, hal⟩ := hcd
  refine ks_wpAt_Expr_any (ks_wpAt_MethodCall (pl := pl) (ks_wpAt_super_base (env := X.env) hks hkc hm hfu (KI _ _ hlf) rfl hp hco (KI _ _ hlc) rfl hvs hfile S.top ?_) hev) hint hsw
  obtain ⟨mb, hb1, hb2⟩ := I.mod.blt
  refine PySem.W.ks_loadName_global I.ok.kind hks (Calls.loadGlobal_builtin (by rw [I.ok.glob]; exact I.mod.glob.keeps I.bk) S.sup (by rw [I.ok.blt]; exact hb1.keeps I.bk) ((hb2 "super" (by decide)).trans S.hv) ⟨rfl, ?_⟩)
  refine wpAny_loadName_free I.ok.kind hkc hcc hcell ?_
  rw [har]
  refine wpAny_loadName_local I.ok.kind hk0 hns l0' ?_
  refine ks_wpAny_isType_cls hD1 hD2 ⟨rfl, ?_⟩
  refine ks_wpAny_call_super hD1 hD2 J.at_ J.cls (fun c e => ?_) (PySem.W.looks_mroIn KI SI.sub) (fun h' e1 kp => ?_)
  · have z := J.no
    unfold PySem.W.notCls at z
    rw [e] at z
    exact Bool.noConfusion z
  have hnc : ∀ v, (PySem.W.ks_superObj D a C).data ≠ .cell v := fun v z => nomatch z
  have I1 := ClX.pin_new (t' := s.toks) (h' := h') I kp (Nat.le_refl _) e1 hnc
  have KI1 := I1.kIn
  obtain ⟨of, hof, hofc⟩ : ∃ of, h'.get? g = some of ∧ of.cls = .type "function" := by
    have ht' : (X.K.lookup g).map (·.cls) = some (.type "function") := SI.ty
    cases z : X.K.lookup g with
    | none => rw [z] at ht'; cases ht'
    | some of => rw [z] at ht'; exact ⟨of, KI1 _ _ z, Option.some.inj ht'⟩
  refine ks_wpAny_getMethod_super e1 (PySem.W.looks_opaque KI1 S.op) (l₀ := cd.mro) (fun A Q E s k q => wpAny_bind ((PySem.W.looks_clsIn KI1 hc) A _ E s k (wpAny_pure q))) rfl KI1 hal hof hofc (PySem.W.ks_ne KI J hc) hm ?_
  have I2 := ClX.unpin I1
  have I3 := ClX.met_new (g := g) (C := a) I2
  have hb0 : X.base.get? h'.objs.size = none := ClX.base_none I2 (Nat.le_refl _)
  refine ClX.callwith_cm (pos := pos) I3 hb0 SI.fi (thn (ha.run pos _ _ σ H _ I3 q) fun us s1 ⟨vs', H1, I4, rv, q1⟩ => ?_) he hpl
  obtain ⟨fd', ps', ds', F, kp', b', d'⟩ := F.ex
  refine ⟨⟨ClX.pin_at I4, I4.kIn⟩, ?_⟩
  have hl : ((Value.ref a :: us) ++ ds').length = ps'.length := by
    rw [← F.len _ _ _ _ q1, List.length_append, List.length_append, List.length_cons, List.length_cons, rv.length, d'.length]
  refine wpAny_call (PySem.W.method_call (ClX.pin_at I4) (codeAny_mono (F.run X.A X.stack s1 H1 ⟨Value.ref a :: us, []⟩ ((Value.ref a :: us) ++ ds') (V.ref a :: vs' ++ dvs) _ E0 (hr.mono hk) I4.env0 (b' s1 (Value.ref a :: us) I4.kIn hl) (L2.Vals.append (.cons rfl rv) d') q1) fun r s' hq => ?_))
  cases r with
  | error e => exact False.elim hq
  | ok fl =>
    cases fl with
    | ret w =>
      obtain ⟨z, H', I', rz, qz⟩ := I4.after hq
      exact ⟨σ, H', ClX.unpin I', qz⟩
    | next => exact False.elim hq
    | brk => exact False.elim hq
    | cont => exact False.elim hq
end
/-! ### the def itself -/
/-- a method of the class D that closes over __class__ alone: its function object at f -/
structure FunS (P : Program) (K : PySem.W.Frag) (x qual : Str) (params : Arguments) (body : List Stmt) (scope : Scope) (kws : List (Str × V)) (D f : Addr) (fd : FuncData) : Prop where
  ex : ∃ (oc : Value) (od : Option Addr) (kV doc pm : Value) (an : Option Addr) (c cc : Addr) (ct : Value) (osl : Array (Option Value)) (ccl : Value) (ccd : Option Addr) (ccs : Array (Option Value)),
    fd = PySem.W.fnX x qual params body scope [("__class__", cc)] .none kV doc pm an (.ref c) ct ∧ K.lookup f = some ⟨oc, od, .func fd, osl⟩ ∧ PySem.W.codeIn K (.ref c) qual = true ∧ KwdV K kV kws ∧ K.lookup cc = some ⟨ccl, ccd, .cell (some (.ref D)), ccs⟩ ∧
    ∃ (oc2 : Value) (od2 : Option Addr) (vs2 : Array Value) (sl2 : Array (Option Value)) (file : Str) (tf : Tok), K.lookup c = some ⟨oc2, od2, .fields vs2, sl2⟩ ∧ vs2[2]? = some (.str file tf) ∧ ((P.main.file : Str) == file) = true
  kp : PySem.W.keepIn K (.ref f) = true
section
variable {P : Program} {w : World} {K : PySem.W.Frag} {mg : Str → Option Value} {base : Heap} {x qual : Str} {params : Arguments} {body : List Stmt} {scope : Scope} {kws : List (Str × V)} {D f : Addr} {fd : FuncData}
theorem boot_super9 : bootBuiltins "super" = some (.type "super") := by decide +kernel
theorem cells_at {H : Hp} {h : Heap} {cc : Addr} {ccl : Value} {ccd : Option Addr} {ccs : Array (Option Value)} (KX : K.In h) (hn : H cc = none) (lk : K.lookup cc = some ⟨ccl, ccd, .cell (some (.ref D)), ccs⟩) : NdefX.CellsAt [(("__class__" : Str), cc)] [("__class__" : Str)] [some (V.ref D)] h H where
  len := rfl
  all := fun y c e => by
    have e' : c = cc := by
      rw [List.lookup_cons] at e
      split at e
      · exact (Option.some.inj e).symm
      · cases e
    subst e'
    exact ⟨hn, _, _, KX _ _ lk, rfl⟩
  inj := fun x y c e1 e2 => by
    have k : ∀ z, List.lookup z [(("__class__" : Str), cc)] = some c → z = ("__class__" : Str) := fun z e => by
      rw [List.lookup_cons] at e
      split at e
      · rename_i q; exact beq_iff_eq.mp q
      · cases e
    rw [k _ e1, k _ e2]
  has := fun i y e => by
    cases i with
    | succ i => simp at e
    | zero =>
      have e : some ("__class__" : Str) = some y := e
      cases e
      refine ⟨cc, by rw [List.lookup_cons]; simp, fun v hv => ?_⟩
      have hv : some (some (V.ref D)) = some (some v) := hv
      cases hv
      exact ⟨_, rfl, _, KX _ _ lk, rfl⟩

/-- THE RULE -/
theorem fn_super {k : Nat} {N ps : List Str} {sp : Sp} (F : FunS P K x qual params body scope kws D f fd) (S : NdefX.NScope N ps [("__class__" : Str)] scope) (hself : params.posonlyargs = [] ∧ params.args.head?.map (·.arg) = some ("self" : Str)) (sup : mg "super" = none) (clsD : (PySem.W.clsIn K D).isSome = true) (op : PySem.W.nsIn K PySem.cStatics "thirdparty.any" = some none) (top : (P.main.scope.names.lookup ("super" : Str)).isSome = false) (len : ∀ vs H Q E, sp vs H Q E → vs.length = ps.length)
    (hbody : ∀ (nf : NdefX.NF) (A : Around) (outer : List Env) (s : Shared) (H : Hp) (vs : List V) (Q : VK) (E : XK), nf.qual = qual → nf.scope = scope → nf.body = body → SupC (NdefX.ncx CX0 P w K mg base N nf f A outer s H E).nox D "__init__" → Room k (A.deeper (NdefX.envF nf f s.heap.objs.size)) → sp vs H Q E →
      ∃ t, PAs (NdefX.ncx CX0 P w K mg base N nf f A outer s H E).nox body body t ∧ t { nx := fun _ H' => Q .non H', rt := Q } (NdefX.startF N vs [some (V.ref D)]) H) : FnOk P w K mg base CX0 (k + 1) f fd ps sp := by
  obtain ⟨oc, od, kV, doc, pm, an, c, cc, ct, osl, ccl, ccd, ccs, rfl, lk, hcd, hkw, lcc, oc2, od2, vs2, sl2, file, tf, lc, hvs, hfile⟩ := F.ex
  let nf : NdefX.NF := ⟨x, qual, params, body, scope, [("__class__", cc)], c⟩
  refine ⟨len, fun A outer s H args us vs Q E hr e0 hb r hsp => ?_⟩
  have hl := len _ _ _ _ hsp
  have KX : K.In s.heap := e0.mod.kin.keeps fun b o e => (e0.bs b o e).1
  have lim : s.heap.NoLimit := e0.mod.nolimit.keeps fun b o e => (e0.bs b o e).1
  have C : NdefX.CellsAt nf.cl [("__class__" : Str)] [some (V.ref D)] s.heap H := cells_at KX (e0.bs _ _ (e0.mod.kin _ _ lcc)).2 lcc
  refine codeAny_call_function hr.depth (KX _ _ lk) rfl S.co S.gen rfl (PySem.W.codeRec_of KX hcd) (hb _ _ _ _ ?_)
  refine wpAny_newFunctionEnv S.nocell (fun ⟨n, _⟩ hy => S.par n (List.of_mem_zip hy).1) (fun h₁ hns hsb => ⟨lim.fresh _ hsb, ?_⟩) S.kind
  show codeAny _ _ (.func body (NdefX.envF nf f s.heap.objs.size)) _ _
  refine ks_codeAny_funcAt ?_
  have kp : ∀ b o, s.heap.get? b = some o → h₁.get? b = some o := fun b o e => hsb.extBut b o (Nat.ne_of_lt (Heap.lt_size e)) (Heap.get?_push_of_some _ e)
  have hfn : ∃ ar : Arg, (params.posonlyargs ++ params.args).head? = some ar ∧ ar.arg = ("self" : Str) := by
    obtain ⟨h1, h2⟩ := hself
    rw [h1, List.nil_append]
    cases z : params.args.head? with
    | none => rw [z] at h2; cases h2
    | some ar => rw [z] at h2; exact ⟨ar, rfl, Option.some.inj h2⟩
  obtain ⟨ar, har1, har2⟩ := hfn
  obtain ⟨t, ht, hq⟩ := hbody nf A outer s H vs Q E rfl rfl rfl ⟨sup, boot_super9, clsD, op, ⟨c, oc2, od2, vs2, sl2, file, tf, rfl, lc, hvs, hfile⟩, ⟨f, oc, od, _, osl, ar, rfl, lk, har1, har2⟩, top⟩ (hr.deeper _) hsp
  have I : Inv (NdefX.ncx CX0 P w K mg base N nf f A outer s H E) [] (NdefX.startF N vs [some (V.ref D)]) H { s with heap := h₁, toks := s.toks + (ps.zip us).length } := NdefX.inv_startN S hr.hd e0 hl r C hns kp
  refine ks_wpAt_mono (ht.run [] _ _ H _ (I.wish _) hq) (fun fl s' hs => ?_) fun e s' hs => hs.elim
  have fin : ∀ {σ' : L2.St} {H' : Hp} {v : V} {u : Value}, Inv (NdefX.ncx CX0 P w K mg base N nf f A outer s H E) [] σ' H' s' → L2.RelV v u → Q v H' → CE outer P w H s Q u s' :=
    fun {σ' H' v u} J rv q => ⟨v, H', J.os, J.bare, J.base, J.hok, rv, q⟩
  have hs := SP.unwish hs
  cases fl with
  | ret u =>
    obtain ⟨v, σ', H', J, rv, q⟩ := hs
    exact fin J rv q
  | next =>
    obtain ⟨σ', H', J, q⟩ := hs
    exact fin (v := V.non) (u := Value.none) J rfl q
  | brk =>
    obtain ⟨_, _, _, q⟩ := hs
    exact False.elim q
  | cont =>
    obtain ⟨_, _, _, q⟩ := hs
    exact False.elim q
end
end K9

/-! ## Base9 -/
/-! Heaps that only grow, comprehensions as maps, a few operators. -/
namespace K9
open PySem PySem.Spec PyProof.Rows L2

/-! ### heaps -/
theorem Same.upd {H : Hp} {p : Addr} {o : HO} (h : H p = none) : Same H (upd H p o) := fun b u e => by rw [upd_ne (ne_of_none e h)]; exact e
theorem Same.updT {H H1 : Hp} {p : Addr} {o : HO} (s : Same H H1) (h : H p = none) : Same H (L2.upd H1 p o) := fun b u e => by rw [upd_ne (ne_of_none e h)]; exact s b u e
theorem Same.seqT {K : PySem.W.Frag} {H H' : Hp} {a : Addr} {xs : List V} (e : Same H H') (h : SqT K H a xs) : SqT K H' a xs := SqT.ext h e
theorem sq_same {H H' : Hp} {a : Addr} {o : HO} (e : Same H H') (h : H a = some o) : H' a = some o := e _ _ h

/-- the objects that do not change any more: tuples, instances, their dicts -/
def fixd : HO → Bool
  | .tup _ => true
  | .ins _ _ _ => true
  | .own _ => true
  | _ => false
def Imm (H H' : Hp) : Prop := ∀ b o, fixd o = true → H b = some o → H' b = some o
theorem Imm.refl (H : Hp) : Imm H H := fun _ _ _ h => h
theorem Imm.trans {H H1 H2 : Hp} (a : Imm H H1) (b : Imm H1 H2) : Imm H H2 := fun c o f h => b c o f (a c o f h)
theorem Same.imm {H H' : Hp} (s : Same H H') : Imm H H' := fun b o _ h => s b o h
theorem Imm.lst {H : Hp} {D : Addr} {xs ys : List V} (h : H D = some (.lst xs)) : Imm H (L2.upd H D (.lst ys)) := fun b o f e => by
  by_cases hb : b = D
  · subst hb
    rw [h] at e
    cases e
    cases f
  · rw [upd_ne hb]; exact e
theorem Imm.new {H : Hp} {D : Addr} {o : HO} (h : H D = none) : Imm H (L2.upd H D o) := Same.imm (Same.upd h)
theorem Imm.dK {H : Hp} {D : Addr} {xs ys : List (Key × V)} (h : H D = some (.dK xs)) : Imm H (L2.upd H D (.dK ys)) := fun b o f e => by
  by_cases hb : b = D
  · subst hb
    rw [h] at e
    cases e
    cases f
  · rw [upd_ne hb]; exact e

/-! ### a comprehension with one clause as a map -/
section
variable {K : PySem.W.Frag} {a D : Addr} {xs : List V} {n : Nat} {te : TE} {σ : L2.St} {H1 : Hp} {Qd : Hp → Prop}
theorem wipe1 (σ : L2.St) (n : Nat) (x : V) : (wipe σ [n]).set n (some x) = σ.set n (some x) := by
  show (σ.set n none).set n (some x) = σ.set n (some x)
  rw [List.set_set]
theorem wipe2 (σ : L2.St) (n : Nat) (x : V) : wipe (σ.set n (some x)) [n] = wipe σ [n] := by
  show (σ.set n (some x)).set n none = σ.set n none
  rw [List.set_set]
/-- what holds after i turns -/
structure MapAt (R : Nat → V → Hp → Prop) (H1 : Hp) (D : Addr) (i : Nat) (H : Hp) : Prop where
  same : Same H1 H
  ex : ∃ ys, H D = some (.lst ys) ∧ ys.length = i ∧ ∀ j y, ys[j]? = some y → R j y H
theorem MapAt.start (R : Nat → V → Hp → Prop) (hD : H1 D = none) : MapAt R H1 D 0 (L2.upd H1 D (.lst [])) :=
  ⟨Same.upd hD, [], upd_same, rfl, fun j y e => by simp at e⟩
theorem MapAt.next {R : Nat → V → Hp → Prop} {i : Nat} {H H' : Hp} {y : V} (hm : ∀ j y H H', Imm H H' → R j y H → R j y H') (hD : H1 D = none) (m : MapAt R H1 D i H) (s : Same H H') (r : R i y H') (hl : i < sizeLine) :
    ∃ acc, H' D = some (.lst acc) ∧ acc.length < sizeLine ∧ MapAt R H1 D (i + 1) (L2.upd H' D (.lst (acc ++ [y]))) := by
  obtain ⟨ys, e1, e2, e3⟩ := m.ex
  have keep : Imm H' (L2.upd H' D (.lst (ys ++ [y]))) := Imm.lst (s _ _ e1)
  refine ⟨ys, s _ _ e1, by rw [e2]; exact hl, Same.updT (Same.trans m.same s) hD, ys ++ [y], upd_same, by simp [e2], fun j z hz => ?_⟩
  by_cases hj : j < ys.length
  · rw [List.getElem?_append_left hj] at hz
    exact hm _ _ _ _ keep (hm _ _ _ _ (Same.imm s) (e3 j z hz))
  · rw [List.getElem?_append_right (by omega)] at hz
    have : j - ys.length = 0 := by
      by_cases q : j - ys.length = 0
      · exact q
      · rw [List.getElem?_eq_none (by simp; omega)] at hz; cases hz
    have hj' : j = i := by omega
    rw [this] at hz
    simp at hz
    subst hz
    subst hj'
    exact hm _ _ _ _ keep r

/-- a comprehension over anything that gives its items without change of the heap -/
theorem map_it {J : It} {k : Nat} {G : Hp → Prop} {Yp : Nat → V → Prop} (w : Walk J k G (fun i H x H' => H' = H ∧ Yp i x)) (R : Nat → V → Hp → Prop) (hm : ∀ j y H H', Imm H H' → R j y H → R j y H') (hD : H1 D = none) (hG : ∀ H', Same H1 H' → G H') (hl : k ≤ sizeLine)
    (step : ∀ i x H' (Q' : VK), i < k → Yp i x → MapAt R H1 D i H' → (∀ y H'', Same H' H'' → R i y H'' → Q' y H'') → te (σ.set n (some x)) H' Q')
    (fin : ∀ ys H', Same H1 H' → H' D = some (.lst ys) → ys.length = k → (∀ j y, ys[j]? = some y → R j y H') → Qd H') :
    ∃ W : Nat → Nat → Hp → Prop, (∃ m, W 0 m (upd H1 D (.lst []))) ∧ ∀ i m H, W i m H →
      (J.stop i H ∧ Qd H) ∨ (J.go i H ∧ ∃ Nx : Hp → Prop, (∀ H', Nx H' → ∃ m', m' < m ∧ W (i + 1) m' H') ∧ ∀ x H', J.yld i H x H' → gName n x (wipe σ [n]) H' fun σ2 H2 => wipe σ2 [n] = wipe σ [n] ∧ tYes σ2 H2 fun b H3 =>
        if b = true then te σ2 H3 fun y H4 => ∃ acc, H4 D = some (.lst acc) ∧ acc.length < sizeLine ∧ Nx (upd H4 D (.lst (acc ++ [y]))) else Nx H3) := by
  refine lc_it w (MapAt R H1 D) (MapAt.start R hD) (fun i H _ m => hG H m.same) (fun i x H H' hi m hy => ?_) (fun H m => ?_)
  · obtain ⟨rfl, hy⟩ := hy
    show wipe ((wipe σ [n]).set n (some x)) [n] = wipe σ [n] ∧ _
    rw [wipe1]
    refine ⟨wipe2 σ n x, ?_⟩
    unfold tYes
    dsimp only
    rw [if_pos rfl]
    exact step i x H' _ hi hy m fun y H'' s r => MapAt.next hm hD m s r (by omega)
  · obtain ⟨ys, e1, e2, e3⟩ := m.ex
    exact fin ys H m.same e1 e2 e3
/-- the same where what is made may be lists: all but D stays -/
def BtD (D : Addr) (H H' : Hp) : Prop := ∀ b o, b ≠ D → H b = some o → H' b = some o
theorem map_itD {J : It} {k : Nat} {G : Hp → Prop} {Yp : Nat → V → Prop} (w : Walk J k G (fun i H x H' => H' = H ∧ Yp i x)) (R : Nat → V → Hp → Prop) (hm : ∀ j y H H', BtD D H H' → R j y H → R j y H') (hD : H1 D = none) (hG : ∀ H', Same H1 H' → G H') (hl : k ≤ sizeLine)
    (step : ∀ i x H' (Q' : VK), i < k → Yp i x → MapAt R H1 D i H' → (∀ y H'', Same H' H'' → R i y H'' → Q' y H'') → te (σ.set n (some x)) H' Q')
    (fin : ∀ ys H', Same H1 H' → H' D = some (.lst ys) → ys.length = k → (∀ j y, ys[j]? = some y → R j y H') → Qd H') :
    ∃ W : Nat → Nat → Hp → Prop, (∃ m, W 0 m (upd H1 D (.lst []))) ∧ ∀ i m H, W i m H →
      (J.stop i H ∧ Qd H) ∨ (J.go i H ∧ ∃ Nx : Hp → Prop, (∀ H', Nx H' → ∃ m', m' < m ∧ W (i + 1) m' H') ∧ ∀ x H', J.yld i H x H' → gName n x (wipe σ [n]) H' fun σ2 H2 => wipe σ2 [n] = wipe σ [n] ∧ tYes σ2 H2 fun b H3 =>
        if b = true then te σ2 H3 fun y H4 => ∃ acc, H4 D = some (.lst acc) ∧ acc.length < sizeLine ∧ Nx (upd H4 D (.lst (acc ++ [y]))) else Nx H3) := by
  refine lc_it w (MapAt R H1 D) (MapAt.start R hD) (fun i H _ m => hG H m.same) (fun i x H H' hi m hy => ?_) (fun H m => ?_)
  · obtain ⟨rfl, hy⟩ := hy
    show wipe ((wipe σ [n]).set n (some x)) [n] = wipe σ [n] ∧ _
    rw [wipe1]
    refine ⟨wipe2 σ n x, ?_⟩
    unfold tYes
    dsimp only
    rw [if_pos rfl]
    refine step i x H' _ hi hy m fun y H'' s r => ?_
    obtain ⟨ys, e1, e2, e3⟩ := m.ex
    have keep : BtD D H'' (L2.upd H'' D (.lst (ys ++ [y]))) := fun b o nb e => by rw [upd_ne nb]; exact e
    refine ⟨ys, s _ _ e1, by omega, Same.updT (Same.trans m.same s) hD, ys ++ [y], upd_same, by simp [e2], fun j z hz => ?_⟩
    by_cases hj : j < ys.length
    · rw [List.getElem?_append_left hj] at hz
      exact hm _ _ _ _ keep (hm _ _ _ _ (fun b o _ e => s b o e) (e3 j z hz))
    · rw [List.getElem?_append_right (by omega)] at hz
      have q0 : j - ys.length = 0 := by
        by_cases q : j - ys.length = 0
        · exact q
        · rw [List.getElem?_eq_none (by simp; omega)] at hz; cases hz
      have hj' : j = i := by omega
      rw [q0] at hz
      simp at hz
      subst hz
      subst hj'
      exact hm _ _ _ _ keep r
  · obtain ⟨ys, e1, e2, e3⟩ := m.ex
    exact fin ys H m.same e1 e2 e3
theorem walk_str' {z : Str} : Walk (Its z) z.cps.size (fun _ => True) (fun i H x H' => H' = H ∧ ∃ c, z.cps[i]? = some c ∧ x = .str ⟨#[c]⟩) := walk_str
theorem walk_list' {K : PySem.W.Frag} {a : Addr} {xs : List V} : Walk (Itl K a) xs.length (fun H => SqL K H a xs) (fun i H x H' => H' = H ∧ xs[i]? = some x) := walk_list
theorem walk_tup' {K : PySem.W.Frag} {a : Addr} {xs : List V} : Walk (Itt K a) xs.length (fun H => SqT K H a xs) (fun i H x H' => H' = H ∧ xs[i]? = some x) := walk_tup
theorem walk_range' {lo : Int} {n : Nat} : Walk (Itr lo n) n (fun _ => True) (fun i H x H' => H' = H ∧ x = .int (lo + i)) := walk_range
theorem walk_zip' {K : PySem.W.Frag} {a b : Addr} {xs ys : List V} (h : xs.length = ys.length) : Walk (Itz K a b) xs.length (fun H => SqL K H a xs ∧ SqL K H b ys) (YPair (fun i => xs[i]?) (fun i => ys[i]?)) := walk_zip (by omega)
theorem walk_zipT {K : PySem.W.Frag} {a b : Addr} {xs ys : List V} (h : xs.length = ys.length) : Walk (RZ.ItzT K a b) xs.length (fun H => SqT K H a xs ∧ SqT K H b ys) (YPair (fun i => xs[i]?) (fun i => ys[i]?)) := by
  refine ⟨fun i _ hi q => ?_, fun _ q => ⟨xs, ys, q.1, q.2, by omega⟩, fun i H v H' _ q y => ?_⟩
  · have h1 : i < xs.length := by omega
    have h2 : i < ys.length := by omega
    exact ⟨xs, ys, xs[i], ys[i], q.1, q.2, by simp [h1], by simp [h2]⟩
  · obtain ⟨T, x, z, h1, h2, h3, h4, h5⟩ := y
    exact ⟨T, x, z, h1, h2, h3, h4 xs q.1, h5 ys q.2⟩
/-- over a zip of two, the target a pair of names -/
theorem map_zip {J : It} {k n2 : Nat} {G : Hp → Prop} {xs ys : List V} (hn : n ≠ n2) (w : Walk J k G (YPair (fun i => xs[i]?) (fun i => ys[i]?))) (R : Nat → V → Hp → Prop) (hm : ∀ j y H H', Imm H H' → R j y H → R j y H') (hD : H1 D = none) (hG : ∀ H', Same H1 H' → G H') (hl : k ≤ sizeLine)
    (step : ∀ i x y H' (Q' : VK), xs[i]? = some x → ys[i]? = some y → Same H1 H' → (∀ z H'', Same H' H'' → R i z H'' → Q' z H'') → te ((σ.set n (some x)).set n2 (some y)) H' Q')
    (fin : ∀ ys H', Same H1 H' → H' D = some (.lst ys) → ys.length = k → (∀ j y, ys[j]? = some y → R j y H') → Qd H') :
    ∃ W : Nat → Nat → Hp → Prop, (∃ m, W 0 m (upd H1 D (.lst []))) ∧ ∀ i m H, W i m H →
      (J.stop i H ∧ Qd H) ∨ (J.go i H ∧ ∃ Nx : Hp → Prop, (∀ H', Nx H' → ∃ m', m' < m ∧ W (i + 1) m' H') ∧ ∀ x H', J.yld i H x H' → gTup K 2 (gCons (gName n) (gCons (gName n2) gNil)) x (wipe σ [n, n2]) H' fun σ2 H2 => wipe σ2 [n, n2] = wipe σ [n, n2] ∧ tYes σ2 H2 fun b H3 =>
        if b = true then te σ2 H3 fun y H4 => ∃ acc, H4 D = some (.lst acc) ∧ acc.length < sizeLine ∧ Nx (upd H4 D (.lst (acc ++ [y]))) else Nx H3) := by
  refine lc_it w (MapAt R H1 D) (MapAt.start R hD) (fun i H _ m => hG H m.same) (fun i v H H' hi m hy => ?_) (fun H m => ?_)
  · obtain ⟨T, x, y, rfl, hT, rfl, hx, hy⟩ := hy
    refine ⟨T, [x, y], rfl, SqT.of upd_same, rfl, x, [y], rfl, y, [], rfl, rfl, ?_⟩
    have e1 : (((wipe σ [n, n2]).set n (some x)).set n2 (some y)) = (σ.set n (some x)).set n2 (some y) := by
      show ((((σ.set n2 none).set n none).set n (some x)).set n2 (some y)) = _
      rw [List.set_set, List.set_comm _ _ hn.symm, List.set_set]
    have e2 : wipe ((σ.set n (some x)).set n2 (some y)) [n, n2] = wipe σ [n, n2] := by
      show ((((σ.set n (some x)).set n2 (some y)).set n2 none).set n none) = ((σ.set n2 none).set n none)
      rw [List.set_set, List.set_comm _ _ hn, List.set_set]
    show wipe ((((wipe σ [n, n2]).set n (some x)).set n2 (some y))) [n, n2] = wipe σ [n, n2] ∧ _
    rw [e1]
    refine ⟨e2, ?_⟩
    unfold tYes
    dsimp only
    rw [if_pos rfl]
    have s1 : Same H (upd H T (.tup [x, y])) := Same.upd hT
    exact step i x y _ _ hx hy (Same.trans m.same s1) fun z H'' s r => MapAt.next hm hD m (Same.trans s1 s) r (by omega)
  · obtain ⟨ys, e1, e2, e3⟩ := m.ex
    exact fin ys H m.same e1 e2 e3
end

/-! ### a few operators -/
section
variable {X : Cx}
def CDivA (_ j : Int) : Prop := j ≠ 0 ∧ j.natAbs.log2 < 9000
theorem op_fdivA : OpR X (binaryOp .FloorDiv) (rI CDivA fun i j => .int (i.fdiv j)) := opI fun i j _ _ _ _ _ hc q => floordiv_int hc.1 q (.inl (PyProof.noPylong_of_log2 hc.2))
/-- a tuple of anything and the empty tuple -/
def rT0 (K : PySem.W.Frag) (neg : Bool) : R2 := fun x y H Q => ∃ a b xs, x = .ref a ∧ y = .ref b ∧ SqT K H a xs ∧ SqT K H b [] ∧ Q (.bl (if neg then !xs.isEmpty else xs.isEmpty)) H
theorem op_eqT0 (hu : X.A.units < cLine) : OpR X (compareOp .Eq) (rT0 X.K false) := by
  intro pins s σ H x y v u Q I rx ry h
  obtain ⟨a, b, xs, rfl, rfl, h1, h2, q⟩ := h
  cases rx
  cases ry
  obtain ⟨its, rv, p, _⟩ := I.tuple h1
  obtain ⟨its2, rv2, p2, _⟩ := I.tuple h2
  cases rv2
  have e : (((List.range (min its.toArray.size ([] : List Value).toArray.size)).all fun _ => true) && its.toArray.size == ([] : List Value).toArray.size) = xs.isEmpty := by
    have := rv.length
    cases xs <;> cases its <;> simp_all
  exact SeqAt.RcAt.tuples (e := fun _ => true) (show s.heap.IsTuple a its.toArray from p) (show s.heap.IsTuple b ([] : List Value).toArray from p2) hu (fun j h1 h2 => absurd h2 (Nat.not_lt_zero _)) _ _ _ _ (by rw [e]; exact ⟨.bl _, H, I, rfl, q⟩)
theorem op_neT0 (hu : X.A.units < cLine) : OpR X (compareOp .NotEq) (rT0 X.K true) := by
  intro pins s σ H x y v u Q I rx ry h
  obtain ⟨a, b, xs, rfl, rfl, h1, h2, q⟩ := h
  cases rx
  cases ry
  obtain ⟨its, rv, p, _⟩ := I.tuple h1
  obtain ⟨its2, rv2, p2, _⟩ := I.tuple h2
  cases rv2
  have e : (!(((List.range (min its.toArray.size ([] : List Value).toArray.size)).all fun _ => true) && its.toArray.size == ([] : List Value).toArray.size)) = !xs.isEmpty := by
    have := rv.length
    cases xs <;> cases its <;> simp_all
  exact SeqAt.RcNeAt.tuples (e := fun _ => true) (show s.heap.IsTuple a its.toArray from p) (show s.heap.IsTuple b ([] : List Value).toArray from p2) hu (fun j h1 h2 => absurd h2 (Nat.not_lt_zero _)) _ _ _ _ (by rw [e]; exact ⟨.bl _, H, I, rfl, q⟩)
/-- a list of anything and the empty list -/
def rL0 (K : PySem.W.Frag) (neg : Bool) : R2 := fun x y H Q => ∃ a b xs, x = .ref a ∧ y = .ref b ∧ SqL K H a xs ∧ SqL K H b [] ∧ Q (.bl (if neg then !xs.isEmpty else xs.isEmpty)) H
theorem op_eqL0 (hu : X.A.units < cLine) : OpR X (compareOp .Eq) (rL0 X.K false) := by
  intro pins s σ H x y v u Q I rx ry h
  obtain ⟨a, b, xs, rfl, rfl, h1, h2, q⟩ := h
  cases rx
  cases ry
  obtain ⟨its, rv, p, _⟩ := I.list h1
  obtain ⟨its2, rv2, p2, _⟩ := I.list h2
  cases rv2
  cases rv with
  | nil => exact SeqAt.RcAt.lists (e := fun _ => true) (show s.heap.IsList a ([] : List Value).toArray from p.isList) (show s.heap.IsList b ([] : List Value).toArray from p2.isList) rfl hu (fun j h1 h2 => absurd h2 (Nat.not_lt_zero _)) _ _ _ _ ⟨.bl true, H, I, rfl, q⟩
  | cons r t => exact SeqAt.RcAt.lists_lengths (show s.heap.IsList a _ from p.isList) (show s.heap.IsList b ([] : List Value).toArray from p2.isList) (by simp) hu _ _ _ _ ⟨.bl false, H, I, rfl, q⟩
theorem op_neL0 (hu : X.A.units < cLine) : OpR X (compareOp .NotEq) (rL0 X.K true) := by
  intro pins s σ H x y v u Q I rx ry h
  obtain ⟨a, b, xs, rfl, rfl, h1, h2, q⟩ := h
  cases rx
  cases ry
  obtain ⟨its, rv, p, _⟩ := I.list h1
  obtain ⟨its2, rv2, p2, _⟩ := I.list h2
  cases rv2
  cases rv with
  | nil => exact SeqAt.RcNeAt.lists (e := fun _ => true) (show s.heap.IsList a ([] : List Value).toArray from p.isList) (show s.heap.IsList b ([] : List Value).toArray from p2.isList) rfl hu (fun j h1 h2 => absurd h2 (Nat.not_lt_zero _)) _ _ _ _ ⟨.bl false, H, I, rfl, q⟩
  | cons r t => exact SeqAt.RcNeAt.lists_lengths (show s.heap.IsList a _ from p.isList) (show s.heap.IsList b ([] : List Value).toArray from p2.isList) (by simp) hu _ _ _ _ ⟨.bl true, H, I, rfl, q⟩
theorem sll9 (K : PySem.W.Frag) (hK : X.K = K := by rfl) : SlR X (rSlL K) := hK ▸ sl_list
theorem eqL09 (K : PySem.W.Frag) (hu : X.A.units < cLine) (hK : X.K = K := by rfl) : OpR X (compareOp .Eq) (rL0 K false) := hK ▸ op_eqL0 hu
theorem neL09 (K : PySem.W.Frag) (hu : X.A.units < cLine) (hK : X.K = K := by rfl) : OpR X (compareOp .NotEq) (rL0 K true) := hK ▸ op_neL0 hu
theorem eqT09 (K : PySem.W.Frag) (hu : X.A.units < cLine) (hK : X.K = K := by rfl) : OpR X (compareOp .Eq) (rT0 K false) := hK ▸ op_eqT0 hu
theorem neT09 (K : PySem.W.Frag) (hu : X.A.units < cLine) (hK : X.K = K := by rfl) : OpR X (compareOp .NotEq) (rT0 K true) := hK ▸ op_neT0 hu
/-! ### rules whose reading names the written part, for use within a comprehension -/
variable {K : PySem.W.Frag} {e e2 tg : Expr} {es : List Expr} {te : TE} {ta : TA} {t : TGs} {n k : Nat} {pos p tpos : Pos} {f : Str}
theorem tup9 (K : PySem.W.Frag) (he : PE X e te) (hK : X.K = K := by rfl) : PI X tg e (iTup K te) := hK ▸ pi_tup he
theorem lst9 (K : PySem.W.Frag) (he : PE X e te) (hK : X.K = K := by rfl) : PI X tg e (iList K te) := hK ▸ pi_list he
theorem ixT9 (K : PySem.W.Frag) (hK : X.K = K := by rfl) : IxR X (rIxT K) := hK ▸ ix_tup
theorem ixL9 (K : PySem.W.Frag) (hK : X.K = K := by rfl) : IxR X (rIxL K) := hK ▸ ix_list
def rTupleOf (K : PySem.W.Frag) : List V → Hp → VK → Prop := fun xs H Q => ∃ p ys, xs = [.ref p] ∧ ((SqL K H p ys ∧ ∀ l, H l = none → Q (.ref l) (upd H l (.tup ys))) ∨ (SqT K H p ys ∧ Q (.ref p) H))
theorem tupleOf9 (K : PySem.W.Frag) (hK : X.K = K := by rfl) : CallR X (.type "tuple") (rTupleOf K) := hK ▸ call_tuple_of
def rLenSeq (K : PySem.W.Frag) : List V → Hp → VK → Prop := fun xs H Q => ∃ p ys, xs = [.ref p] ∧ (SqL K H p ys ∨ SqT K H p ys) ∧ Q (.int ys.length) H
theorem len9 (K : PySem.W.Frag) (hK : X.K = K := by rfl) : CallR X (.builtin "len") (rLenSeq K) := hK ▸ call_len_seq
theorem fld9 (K : PySem.W.Frag) (he : PE X e te) (hb : attributeBase e f X.env (eval e X.env) = eval e X.env := by rfl) (hK : X.K = K := by rfl) : PE X (.Attribute e f pos) (tFld K te f) := hK ▸ pe_fld he hb
theorem sum9 (K : PySem.W.Frag) (hc : X.calm = true := by rfl) (hK : X.K = K := by rfl) : CallR X (.builtin "sum") (rSum K) := hK ▸ cr_sum hc
theorem all9 (K : PySem.W.Frag) (hc : X.calm = true := by rfl) (hK : X.K = K := by rfl) : CallR X (.builtin "all") (rAll K) := hK ▸ cr_all hc
theorem isi9 (K : PySem.W.Frag) (hK : X.K = K := by rfl) : CallR X (.builtin "isinstance") (rIsi K) := hK ▸ call_isi
theorem gtup9 (K : PySem.W.Frag) {es : List Expr} (h : PGs X es t) (hn : (assignEach es X.env).length = n := by rfl) (hst : (assignEach es X.env).findIdx? (·.1) = none := by rfl) (hc : X.calm = true := by rfl) (hK : X.K = K := by rfl) : PG X (.Tuple es k pos) (gTup K n t) := hK ▸ pg_tup hc h hn hst
theorem zip9 (K : PySem.W.Frag) {elts : List Expr} (hm : X.mg "zip" = none) (ha : PA X [e, e2] ta) (hg : Gl X "zip" := by rfl)
    (hs : starEach [e, e2] X.env = (false, eval e X.env) :: starEach [e2] X.env := by rfl) (hpl : (backTo pos (starEach [e2] X.env)).any (·.1) = false := by rfl) (hK : X.K = K := by rfl) :
    PI X (.Tuple elts k tpos) (.Call (.Name "zip" p) [e, e2] [] pos) (RZ.iZipA K ta) := hK ▸ RZ.pi_zipA hg hm ha hs hpl
def rListOf (K : PySem.W.Frag) : List V → Hp → VK → Prop := fun xs H Q => ∃ p ys, xs = [.ref p] ∧ (SqL K H p ys ∨ SqT K H p ys) ∧ ∀ l, H l = none → Q (.ref l) (upd H l (.lst ys))
theorem listOf9 (K : PySem.W.Frag) (hK : X.K = K := by rfl) : CallR X (.type "list") (rListOf K) := hK ▸ call_list_of
/-- tuple([.. for x in ..]): the tuple of the items -/
theorem tup_it {σ σ0 : L2.St} {H1 : Hp} {D : Addr} {Q : VK} {J : It} {k n : Nat} {G : Hp → Prop} {Yp : Nat → V → Prop} (w : Walk J k G (fun i H x H' => H' = H ∧ Yp i x)) (R : Nat → V → Hp → Prop) (hm : ∀ j y H H', Imm H H' → R j y H → R j y H') (hD : H1 D = none) (hG : ∀ H', Same H1 H' → G H') (hl : k ≤ sizeLine)
    (step : ∀ i x H' (Q' : VK), i < k → Yp i x → Same H1 H' → (∀ y H'', Same H' H'' → R i y H'' → Q' y H'') → te (σ.set n (some x)) H' Q')
    (fin : ∀ l ys H', Same H1 H' → H' l = some (.tup ys) → ys.length = k → (∀ j y, ys[j]? = some y → R j y H') → Q (.ref l) H') :
    ∃ W : Nat → Nat → Hp → Prop, (∃ m, W 0 m (upd H1 D (.lst []))) ∧ ∀ i m H, W i m H →
      (J.stop i H ∧ tNil σ0 H fun xs H2 => rTupleOf K (.ref D :: xs) H2 Q) ∨ (J.go i H ∧ ∃ Nx : Hp → Prop, (∀ H', Nx H' → ∃ m', m' < m ∧ W (i + 1) m' H') ∧ ∀ x H', J.yld i H x H' → gName n x (wipe σ [n]) H' fun σ2 H2 => wipe σ2 [n] = wipe σ [n] ∧ tYes σ2 H2 fun b H3 =>
        if b = true then te σ2 H3 fun y H4 => ∃ acc, H4 D = some (.lst acc) ∧ acc.length < sizeLine ∧ Nx (upd H4 D (.lst (acc ++ [y]))) else Nx H3) :=
  map_it w R hm hD hG hl (fun i x H' Q' hi hx m q => step i x H' Q' hi hx m.same q) fun ys H' s h1 h2 h3 => ⟨D, ys, rfl, .inl ⟨SqL.of h1, fun l hl => fin l ys _ (Same.updT s (Same.free s hl)) upd_same h2 fun j y e => hm j y _ _ (Imm.new hl) (h3 j y e)⟩⟩
end
end K9

/-! ## Text9 -/
/-! The text by places; defs, methods, properties as they stand behind the top. -/
namespace K9
open PySem PySem.Spec PyProof.Rows L2
section
variable (K : PySem.W.Frag) (mg : Str → Option Value)
structure DefF (x : Str) (st : Stmt) (dvs : List V) : Prop where
  ex : ∃ f fd, mg x = some (.ref f) ∧ FunD K x x (defArgs st) (defBody st) (defScope st) dvs [] f fd
structure MetF (C : Addr) (m qual : Str) (st : Stmt) : Prop where
  ex : ∃ f fd, Cls K C ∧ Meth K C m f ∧ PySem.W.fnIn K f = true ∧ FunD K m qual (defArgs st) (defBody st) (defScope st) [] [] f fd
structure MakF (x : Str) (C : Addr) (qual : Str) (st : Stmt) (dvs : List V) : Prop where
  ex : ∃ f fd, Mk K C f ∧ mg x = some (.ref C) ∧ FunD K "__init__" qual (defArgs st) (defBody st) (defScope st) dvs [] f fd
structure PrpF (C : Addr) (m qual : Str) (st : Stmt) : Prop where
  ex : ∃ p g fd, Cls K C ∧ PropOf K C m p g ∧ FunD K m qual (defArgs st) (defBody st) (defScope st) [] [] g fd
end
section
variable {P : Program} {w : World} {K : PySem.W.Frag} {mg : Str → Option Value} {base : Heap} {x m qual : Str} {st : Stmt} {C : Addr} {N ps : List Str} {k : Nat} {sp : Sp} {params : Arguments} {body : List Stmt} {scope : Scope} {f : Addr} {fd : FuncData}
abbrev cx9 (P : Program) (w : World) (K : PySem.W.Frag) (mg : Str → Option Value) (base : Heap) (N : List Str) (qual : Str) (scope : Scope) (f : Addr) (cd : Value) (A : Around) (outer : List Env) (s : Shared) (H : Hp) (E : XK) : Cx := (cxOf CX0 P w K mg base N qual scope f cd A outer s H E).nox
/-- a def without defaults keeps its promise -/
theorem fnk_of (F : FunD K x qual params body scope [] [] f fd) (S : FnScope N ps scope)
    (hb : ∀ (kV doc pm : Value) (an : Option Addr) (cdv ct : Value) (us : List Value), us.length = ps.length → bindArgs (PySem.W.fnOf x qual params body scope .none kV doc pm an cdv ct) ⟨us, []⟩ = pure (ps.zip us))
    (len : ∀ vs H Q E, sp vs H Q E → vs.length = ps.length)
    (hbody : ∀ (cdv : Value) (A : Around) (outer : List Env) (s : Shared) (H : Hp) (vs : List V) (Q : VK) (E : XK), Room k (A.deeper (envOfC qual scope s.heap.objs.size f cdv)) → sp vs H Q E →
      ∃ t, PSs (cx9 P w K mg base N qual scope f cdv A outer s H E) body t ∧ t { nx := fun _ H' => Q .non H', rt := Q } (start N vs) H) : Fnk P w K mg base (k + 1) f sp [] :=
  ⟨fd, ps, [], F.ok S len fun cdv A outer s H vs Q E hr h => let ⟨t, a, b⟩ := hbody cdv A outer s H vs Q E hr h; ⟨t, a.nox, b⟩, F.kp, F.bindsN hb, .nil⟩
theorem cal_of (F : DefF K mg x st []) (S : FnScope N ps (defScope st))
    (hb : ∀ (kV doc pm : Value) (an : Option Addr) (cdv ct : Value) (us : List Value), us.length = ps.length → bindArgs (PySem.W.fnOf x x (defArgs st) (defBody st) (defScope st) .none kV doc pm an cdv ct) ⟨us, []⟩ = pure (ps.zip us))
    (len : ∀ vs H Q E, sp vs H Q E → vs.length = ps.length)
    (hbody : ∀ (f : Addr) (cdv : Value) (A : Around) (outer : List Env) (s : Shared) (H : Hp) (vs : List V) (Q : VK) (E : XK), Room k (A.deeper (envOfC x (defScope st) s.heap.objs.size f cdv)) → sp vs H Q E →
      ∃ t, PSs (cx9 P w K mg base N x (defScope st) f cdv A outer s H E) (defBody st) t ∧ t { nx := fun _ H' => Q .non H', rt := Q } (start N vs) H) : Cal P w K mg base (k + 1) x sp [] := by
  obtain ⟨f, fd, hm, F⟩ := F.ex
  exact ⟨f, hm, fnk_of F S hb len (hbody f)⟩
theorem met_of (F : MetF K C m qual st) (S : FnScope N ps (defScope st))
    (hb : ∀ (kV doc pm : Value) (an : Option Addr) (cdv ct : Value) (us : List Value), us.length = ps.length → bindArgs (PySem.W.fnOf m qual (defArgs st) (defBody st) (defScope st) .none kV doc pm an cdv ct) ⟨us, []⟩ = pure (ps.zip us))
    (len : ∀ vs H Q E, sp vs H Q E → vs.length = ps.length)
    (hbody : ∀ (f : Addr) (cdv : Value) (A : Around) (outer : List Env) (s : Shared) (H : Hp) (vs : List V) (Q : VK) (E : XK), Room k (A.deeper (envOfC qual (defScope st) s.heap.objs.size f cdv)) → sp vs H Q E →
      ∃ t, PSs (cx9 P w K mg base N qual (defScope st) f cdv A outer s H E) (defBody st) t ∧ t { nx := fun _ H' => Q .non H', rt := Q } (start N vs) H) : Met P w K mg base (k + 1) C m sp [] ∧ Opm P w K mg base (k + 1) C m sp := by
  obtain ⟨f, fd, hc, hm, hi, F⟩ := F.ex
  have G := fnk_of (P := P) (w := w) (mg := mg) (base := base) F S hb len (hbody f)
  exact ⟨⟨f, hc, hm, G⟩, ⟨f, hm.at_, hm.fn, hi, G⟩⟩
theorem prp_of (F : PrpF K C m qual st) (S : FnScope N ps (defScope st))
    (hb : ∀ (kV doc pm : Value) (an : Option Addr) (cdv ct : Value) (us : List Value), us.length = ps.length → bindArgs (PySem.W.fnOf m qual (defArgs st) (defBody st) (defScope st) .none kV doc pm an cdv ct) ⟨us, []⟩ = pure (ps.zip us))
    (len : ∀ vs H Q E, sp vs H Q E → vs.length = ps.length)
    (hbody : ∀ (f : Addr) (cdv : Value) (A : Around) (outer : List Env) (s : Shared) (H : Hp) (vs : List V) (Q : VK) (E : XK), Room k (A.deeper (envOfC qual (defScope st) s.heap.objs.size f cdv)) → sp vs H Q E →
      ∃ t, PSs (cx9 P w K mg base N qual (defScope st) f cdv A outer s H E) (defBody st) t ∧ t { nx := fun _ H' => Q .non H', rt := Q } (start N vs) H) : Prp P w K mg base (k + 1) C m sp := by
  obtain ⟨p, g, fd, hc, hp, F⟩ := F.ex
  exact ⟨p, g, hc, hp, fnk_of F S hb len (hbody g)⟩
theorem mak_of (F : MakF K mg x C qual st []) (S : FnScope N ps (defScope st))
    (hb : ∀ (kV doc pm : Value) (an : Option Addr) (cdv ct : Value) (us : List Value), us.length = ps.length → bindArgs (PySem.W.fnOf "__init__" qual (defArgs st) (defBody st) (defScope st) .none kV doc pm an cdv ct) ⟨us, []⟩ = pure (ps.zip us))
    (len : ∀ vs H Q E, sp vs H Q E → vs.length = ps.length)
    (hbody : ∀ (f : Addr) (cdv : Value) (A : Around) (outer : List Env) (s : Shared) (H : Hp) (vs : List V) (Q : VK) (E : XK), Room k (A.deeper (envOfC qual (defScope st) s.heap.objs.size f cdv)) → sp vs H Q E →
      ∃ t, PSs (cx9 P w K mg base N qual (defScope st) f cdv A outer s H E) (defBody st) t ∧ t { nx := fun _ H' => Q .non H', rt := Q } (start N vs) H) : Mak P w K mg base (k + 1) x C sp [] := by
  obtain ⟨f, fd, hk, hm, F⟩ := F.ex
  exact ⟨f, hk, hm, fnk_of F S hb len (hbody f)⟩
end

/-! ### what the head tells -/
structure OwnC (K : PySem.W.Frag) (C : Addr) : Prop where
  cl : Cls K C
  ha : PySem.W.findIn K (.ref C) "__class__" = some (some (.builtin "object.__class__"))
  hn : PySem.W.specialIn K (.builtin "object.__class__") "__get__" = some (some (.builtin "getset_descriptor.__get__"))
  htk : PySem.W.takesIn K (.builtin "object.__class__") = some true
  hm : PySem.W.mroIn K C (.type "object") = some true
theorem OwnC.ty {K : PySem.W.Frag} {C : Addr} (o : OwnC K C) {H : Hp} {a dx : Addr} {fs : List (Str × V)} (h : H a = some (.ins C dx fs)) : TyX K H (.ref a) (.ref C) := .base (.ins h o.cl o.ha o.hn o.htk o.hm)
/-- an own class that is neither int nor bool -/
structure NotInt (K : PySem.W.Frag) (C : Addr) : Prop where
  own : OwnC K C
  i : PySem.W.kitOne K (.ref C) (.type "int") = some false
  b : PySem.W.kitOne K (.ref C) (.type "bool") = some false
/-- an own class that is no number -/
structure NotNum (K : PySem.W.Frag) (C : Addr) : Prop where
  ni : NotInt K C
  r : PySem.W.kitOne K (.ref C) (.ref (cR K)) = some false
def FC (K : PySem.W.Frag) (C : Addr) : Prop := ∃ q ∈ kinds, C = He.ga K q.nm
/-- of the class at C, the one that q tells -/
structure FcF (K : PySem.W.Frag) (mg : Str → Option Value) (C : Addr) (q : KindI) : Prop where
  num : NotNum K C
  part : PySem.W.kitOne K (.ref C) (.ref (He.ga K "Part")) = some true
  form : PySem.W.kitOne K (.ref C) (.ref (He.ga K "Formula")) = some true
  glob : mg q.nm = some (.ref C)
  na : ∀ f ∈ attrs, NoAttr K C f
  cls : (PySem.W.clsIn K C).isSome = true
  make : ∃ f fd, Mk K C f ∧ FunS Pg K "__init__" q.qInit (defArgs (inCls q.i q.jInit)) (defBody (inCls q.i q.jInit)) (defScope (inCls q.i q.jInit)) q.kws C f fd
  sup : ∃ g fd, SupI K C C g "__init__" ∧ FunD K "__init__" "Part.__init__" (defArgs (inCls 48 1)) (defBody (inCls 48 1)) (defScope (inCls 48 1)) [.int 1] [] g fd
  kindC : ∃ u, Con K C "KIND" (.str q.word) u
  spelling : MetF K C "spelling" q.qSp (inCls q.i q.jSp)
  ne : NeC K C
  pKind : PrpF K C "kind" "Part.kind" (inCls 48 2)
  pRows : PrpF K C "rows" "Part.rows" (inCls 48 3)
  pColumns : PrpF K C "columns" "Part.columns" (inCls 48 4)
  pParts : PrpF K C "parts" "Part.parts" (inCls 48 5)
  pLetters : PrpF K C "letters" "Part.letters" (inCls 48 6)
  pWeight : PrpF K C "weight" "Part.weight" (inCls 48 7)
  pLevels : PrpF K C "levels" "Part.levels" (inCls 48 8)
  pMiddle : PrpF K C "middle" "Part.middle" (inCls 48 9)
  pTransposed : PrpF K C "transposed" "Formula.transposed" (inCls 70 0)
  mInverse : MetF K C "inverse" "Formula.inverse" (inCls 70 1)
  mAdd : MetF K C "__add__" "Formula.__add__" (inCls 70 2)
  mSub : MetF K C "__sub__" "Formula.__sub__" (inCls 70 3)
  mMul : MetF K C "__mul__" "Formula.__mul__" (inCls 70 4)
  mPow : MetF K C "__pow__" "Formula.__pow__" (inCls 70 6)
  mItem : MetF K C "__getitem__" "Formula.__getitem__" (inCls 70 7)
  mStr : MetF K C "__str__" "Formula.__str__" (inCls 70 10)
structure Txt (K : PySem.W.Frag) (mg : Str → Option Value) : Prop where
  free : ∀ x : Str, x ∈ (["isinstance", "abs", "len", "range", "tuple", "list", "sum", "max", "min", "all", "sorted", "zip", "int", "bool", "str", "super", "dict"] : List Str) → mg x = none
  noTop : PySem.W.nsIn K PySem.cStatics "thirdparty.any" = some none
  kSIDE : ∃ t, mg "MOST_SIDE" = some (.int 16 t)
  kWEIGHT : ∃ t, mg "MOST_WEIGHT" = some (.int 1000 t)
  kLEVELS : ∃ t, mg "MOST_LEVELS" = some (.int 60 t)
  kPOWER : ∃ t, mg "MOST_POWER" = some (.int 9 t)
  kSMALL : ∃ t, mg "SMALL" = some (.str "abcdefghijklmnopqrstuvwxyz" t)
  kCAPITALS : ∃ t, mg "CAPITALS" = some (.str "ABCDEFGHIJKLMNOPQRSTUVWXYZ" t)
  kLATER : ∃ t, mg "LATER" = some (.str "abcdefghijklmnopqrstuvwxyz0123456789" t)
  rNot : NotInt K (cR K)
  rSelf : PySem.W.kitOne K (.ref (cR K)) (.ref (cR K)) = some true
  rInt : PySem.W.kitOne K (.type "int") (.ref (cR K)) = some false
  rGlob : mg "Ratio" = some (.ref (cR K))
  rNN : NoAttr K (cR K) "numerator_here"
  rND : NoAttr K (cR K) "denominator_here"
  rInit : MakF K mg "Ratio" (cR K) "Ratio.__init__" (inCls 33 0) [.int 1]
  rTop : PrpF K (cR K) "top" "Ratio.top" (inCls 33 1)
  rBottom : PrpF K (cR K) "bottom" "Ratio.bottom" (inCls 33 2)
  rMul : MetF K (cR K) "__mul__" "Ratio.__mul__" (inCls 33 7)
  rEq : MetF K (cR K) "__eq__" "Ratio.__eq__" (inCls 33 9)
  rStr : MetF K (cR K) "__str__" "Ratio.__str__" (inCls 33 11)
  mNum : NotNum K (cM K)
  mSelf : PySem.W.kitOne K (.ref (cM K)) (.ref (cM K)) = some true
  mRat : PySem.W.kitOne K (.ref (cR K)) (.ref (cM K)) = some false
  mGlob : mg "Matrix" = some (.ref (cM K))
  mNa : ∀ f ∈ (["cells", "wholes", "below"] : List Str), NoAttr K (cM K) f
  mInit : MakF K mg "Matrix" (cM K) "Matrix.__init__" (inCls 65 0) []
  mEntries : PrpF K (cM K) "entries" "Matrix.entries" (inCls 65 1)
  mRows : PrpF K (cM K) "rows" "Matrix.rows" (inCls 65 2)
  mColumns : PrpF K (cM K) "columns" "Matrix.columns" (inCls 65 3)
  mTransposed : PrpF K (cM K) "transposed" "Matrix.transposed" (inCls 65 4)
  mRead : ∃ mc, ClX.CRead K (cM K) mc ∧ (∃ p g fd, ClX.CMet K (cM K) mc "eye" p g ∧ FunD K "eye" "Matrix.eye" (defArgs (inCls 65 5)) (defBody (inCls 65 5)) (defScope (inCls 65 5)) [] [] g fd) ∧
    (∃ p g fd, ClX.CMet K (cM K) mc "zero" p g ∧ FunD K "zero" "Matrix.zero" (defArgs (inCls 65 6)) (defBody (inCls 65 6)) (defScope (inCls 65 6)) [] [] g fd)
  mInverse : MetF K (cM K) "inverse" "Matrix.inverse" (inCls 65 8)
  mAdd : MetF K (cM K) "__add__" "Matrix.__add__" (inCls 65 10)
  mSub : MetF K (cM K) "__sub__" "Matrix.__sub__" (inCls 65 11)
  mMul : MetF K (cM K) "__mul__" "Matrix.__mul__" (inCls 65 12)
  mItem : MetF K (cM K) "__getitem__" "Matrix.__getitem__" (inCls 65 14)
  mEq : MetF K (cM K) "__eq__" "Matrix.__eq__" (inCls 65 16)
  mNe : NeC K (cM K)
  mBin : BinC K "add" (cM K) (cM K) = true ∧ BinC K "sub" (cM K) (cM K) = true ∧ BinC K "mul" (cM K) (cM K) = true ∧ BinC K "mul" (cM K) (cR K) = true
  pGlob : mg "Part" = some (.ref (He.ga K "Part"))
  fGlob : mg "Formula" = some (.ref (He.ga K "Formula"))
  singular : ∃ C, mg "Singular" = some (.ref C)
  fc : ∀ q ∈ kinds, FcF K mg (He.ga K q.nm) q
  fcEq : ∀ q ∈ kinds, q.nm ≠ "Letter" → MetF K (He.ga K q.nm) "__eq__" "Formula.__eq__" (inCls 70 9)
  fcIs : ∀ q ∈ kinds, ∀ q' ∈ kinds, He.ga K q.nm = He.ga K q'.nm → q = q'
  fcBin : ∀ C D, FC K C → FC K D → BinC K "add" C D = true ∧ BinC K "sub" C D = true ∧ BinC K "mul" C D = true
  fcBinI : ∀ C, FC K C → BinI K "mul" C = true ∧ BinI K "pow" C = true
  lEq : MetF K (He.ga K "Letter") "__eq__" "Letter.__eq__" (inCls 71 6)
  lName : PrpF K (He.ga K "Letter") "name" "Letter.name" (inCls 71 2)
  lSymmetry : PrpF K (He.ga K "Letter") "symmetry" "Letter.symmetry" (inCls 71 3)
  lAbout : PrpF K (He.ga K "Letter") "about" "Letter.about" (inCls 71 4)
  lSelf : PySem.W.kitOne K (.ref (He.ga K "Letter")) (.ref (He.ga K "Letter")) = some true
  sNumber : PrpF K (He.ga K "Scaled") "number" "Scaled.number" (inCls 76 2)
  wExponent : PrpF K (He.ga K "Power") "exponent" "Power.exponent" (inCls 80 2)
  bTable : PrpF K (He.ga K "Blocks") "table" "Blocks.table" (inCls 81 2)
  cRow : PrpF K (He.ga K "Corner") "row" "Corner.row" (inCls 82 2)
  cColumn : PrpF K (He.ga K "Corner") "column" "Corner.column" (inCls 82 3)
  d_is_integer : DefF K mg "is_integer" (top 31) []
  d_common : DefF K mg "common" (top 32) []
  d_is_number : DefF K mg "is_number" (top 34) []
  d_as_ratio : DefF K mg "as_ratio" (top 35) []
  d_is_size_name : DefF K mg "is_size_name" (top 42) []
  d_is_letter_name : DefF K mg "is_letter_name" (top 43) []
  d_is_side : DefF K mg "is_side" (top 44) []
  d_as_side : DefF K mg "as_side" (top 45) []
  d_is_index : DefF K mg "is_index" (top 46) []
  d_check_formula : DefF K mg "check_formula" (top 49) []
  d_check_letters : DefF K mg "check_letters" (top 50) []
  d_check_square : DefF K mg "check_square" (top 51) []
  d_checked_terms : DefF K mg "checked_terms" (top 52) []
  d_sides_of : DefF K mg "sides_of" (top 53) []
  d_letter_of : DefF K mg "letter_of" (top 54) []
  d_checked_side : DefF K mg "checked_side" (top 55) []
  d_spelled_side : DefF K mg "spelled_side" (top 56) []
  d_whole_table : DefF K mg "whole_table" (top 58) []
  d_turned : DefF K mg "turned" (top 59) []
  d_multiplied : DefF K mg "multiplied" (top 60) []
  d_dotted : DefF K mg "dotted" (top 61) []
  d_eliminated_table : DefF K mg "eliminated_table" (top 62) []
  d_are_entries : DefF K mg "are_entries" (top 64) []
  d_check_size : DefF K mg "check_size" (top 66) []
  d_matrix_of : DefF K mg "matrix_of" (top 67) []
  d_added : DefF K mg "added" (top 68) []
  d_is_table : DefF K mg "is_table" (top 83) []
  d_joined_row : DefF K mg "joined_row" (top 84) []
  d_remade : DefF K mg "remade" (top 85) []
  d_check_mapping : DefF K mg "check_mapping" (top 87) []
  d_exchanged : DefF K mg "exchanged" (top 88) []
  d_substituted : DefF K mg "substituted" (top 89) []
  d_moved : DefF K mg "moved" (top 90) []
  d__law_purse : DefF K mg "_law_purse" (top 92) []
  d__law_draw : DefF K mg "_law_draw" (top 93) []
  d__law_pick : DefF K mg "_law_pick" (top 94) []
  d__law_names : DefF K mg "_law_names" (top 95) []
  d__law_menu : DefF K mg "_law_menu" (top 96) []
  d__law_leaf : DefF K mg "_law_leaf" (top 97) []
  d__law_spec : DefF K mg "_law_spec" (top 98) []
  d__law_join : DefF K mg "_law_join" (top 99) []
  d__law_letters : DefF K mg "_law_letters" (top 100) []
  d__law_build : DefF K mg "_law_build" (top 101) []
  d__law_woven : DefF K mg "_law_woven" (top 102) []
  d__law_equal : DefF K mg "_law_equal" (top 103) []
  d__law_put_right : DefF K mg "_law_put_right" (top 104) []
  d__law_moved_right : DefF K mg "_law_moved_right" (top 105) []
  d_law : DefF K mg "law" (top 106) []
theorem nofree {K : PySem.W.Frag} {mg : Str → Option Value} (T : Txt K mg) {x : Str} (h : (["isinstance", "abs", "len", "range", "tuple", "list", "sum", "max", "min", "all", "sorted", "zip", "int", "bool", "str", "super", "dict"] : List Str).contains x = true) : mg x = none :=
  T.free x (List.contains_iff_mem.mp h)
end K9

/-! ## F1 -/
namespace K9
open PySem PySem.Spec PyProof.Rows L2
def spIsInt (K : PySem.W.Frag) : Sp := fun vs H Q _ => (∃ i : Int, vs = [.int i] ∧ Q (.bl true) H) ∨ (∃ a C dx fs, vs = [.ref a] ∧ H a = some (.ins C dx fs) ∧ NotInt K C ∧ Q (.bl false) H)
section
variable {P : Program} {w : World} {K : PySem.W.Frag} {mg : Str → Option Value} {base : Heap}
theorem sc_is_integer : FnScope ["value"] ["value"] (defScope (top 31)) := ⟨rfl, rfl, rfl, by decide +kernel, rfl, by decide +kernel, by decide +kernel⟩
theorem boot_isi : bootBuiltins "isinstance" = some (.builtin "isinstance") := by decide +kernel
theorem boot_int9 : bootBuiltins "int" = some (.type "int") := by decide +kernel
theorem boot_bool9 : bootBuiltins "bool" = some (.type "bool") := by decide +kernel
theorem kit_ii {K : PySem.W.Frag} : PySem.W.kitOne K (.type "int") (.type "int") = some true := kit_ty (by decide +kernel)
theorem kit_ib {K : PySem.W.Frag} : PySem.W.kitOne K (.type "int") (.type "bool") = some false := kit_ty (by decide +kernel)
theorem cal_is_integer (T : Txt K mg) : Cal P w K mg base 1 "is_integer" (spIsInt K) [] := by
  refine cal_of T.d_is_integer sc_is_integer (fun _ _ _ _ _ _ us hl => match us, hl with | [_], _ => rfl) (fun vs H Q E h => ?_) (fun f cdv A outer s H vs Q E hr h => ?_)
  · rcases h with ⟨i, rfl, _⟩ | ⟨a, C, dx, fs, rfl, _⟩ <;> rfl
  · have mi := nofree T (x := "isinstance") (by decide +kernel)
    have mt := nofree T (x := "int") (by decide +kernel)
    have mb := nofree T (x := "bool") (by decide +kernel)
    refine ⟨_, pss_one (ps_ret (pe_and (pe_callB call_isi (by rfl) mi boot_isi (pa_cons (pv 0) (pa_cons (pe_bltn (v := .ty "int") (by rfl) mt boot_int9 rfl) pa_nil)))
      (pe_one (pe_not (pe_callB call_isi (by rfl) mi boot_isi (pa_cons (pv 0) (pa_cons (pe_bltn (v := .ty "bool") (by rfl) mb boot_bool9 rfl) pa_nil))))))), ?_⟩
    rcases h with ⟨i, rfl, q⟩ | ⟨a, C, dx, fs, rfl, ha, nc, q⟩
    · refine ⟨_, rfl, _, _, _, _, _, rfl, .ty _, .base (.int i), kit_ii, _, rfl, iteT ?_⟩
      exact ⟨_, rfl, _, _, _, _, _, rfl, .ty _, .base (.int i), kit_ib, _, rfl, q⟩
    · refine ⟨_, rfl, _, _, _, _, _, rfl, .ty _, nc.own.ty ha, nc.i, _, rfl, iteF q⟩
end
end K9

/-! ## F2 -/
namespace K9
open PySem PySem.Spec PyProof.Rows L2
def spCommon : Sp := fun vs H Q _ => ∃ i j : Int, vs = [.int i, .int j] ∧ Q (.int (Int.gcd i j)) H
section
variable {P : Program} {w : World} {K : PySem.W.Frag} {mg : Str → Option Value} {base : Heap}
theorem sc_common : FnScope ["one", "two", "high", "low"] ["one", "two"] (defScope (top 32)) := ⟨rfl, rfl, rfl, by decide +kernel, rfl, by decide +kernel, by decide +kernel⟩
theorem boot_abs9 : bootBuiltins "abs" = some (.builtin "abs") := by decide +kernel
theorem abs_cast (i : Int) : (if i < 0 then -i else i) = (i.natAbs : Int) := by split <;> omega
theorem cal_common (T : Txt K mg) : Cal P w K mg base 1 "common" spCommon [] := by
  refine cal_of T.d_common sc_common (fun _ _ _ _ _ _ us hl => match us, hl with | [_, _], _ => rfl) (fun vs H Q E h => ?_) (fun f cdv A outer s H vs Q E hr h => ?_)
  · obtain ⟨i, j, rfl, _⟩ := h; rfl
  · have ma := nofree T (x := "abs") (by decide +kernel)
    obtain ⟨i, j, rfl, q⟩ := h
    refine ⟨_, pss_cons (ps_par (i := 2) (j := 3) (by rfl) sc_common.nd rfl rfl (by decide) rfl rfl (pa_cons (pe_callB call_abs (by rfl) ma boot_abs9 (pa_cons (pv 0) pa_nil)) (pa_cons (pe_callB call_abs (by rfl) ma boot_abs9 (pa_cons (pv 1) pa_nil)) pa_nil)) (by rfl))
      (pss_cons (ps_while PassesOwn.never (pt_cmpR op_gt (pv 3) pe_int (nomark _)) (pss_one (ps_par (i := 2) (j := 3) (by rfl) sc_common.nd rfl rfl (by decide) rfl rfl (pa_cons (pv 3) (pa_cons (pe_op op_mod (pv 2) (pv 3)) pa_nil)) (by rfl))))
        (pss_one (ps_ret (pv 2)))), ?_⟩
    refine ⟨_, rfl, _, rfl, _, rfl, _, rfl, _, _, rfl, ?_⟩
    rw [abs_cast, abs_cast]
    refine while_by (fun σ H' => ∃ a b : Nat, σ = [some (.int i), some (.int j), some (.int a), some (.int b)] ∧ H' = H ∧ Nat.gcd a b = Int.gcd i j) (fun σ _ => match σ with | [_, _, _, some (.int b)] => b.toNat | _ => 0) ⟨_, _, rfl, rfl, rfl⟩ ?_ (fun σ H Q Q' hq h => ?_)
    rotate_left
    · obtain ⟨x, h1, i', j', h2, h3, k, h4, h5⟩ := h
      exact ⟨x, h1, i', j', h2, h3, k, h4, hq _ _ h5⟩
    rintro σ H' ⟨a, b, rfl, rfl, hg⟩
    refine ⟨_, rfl, _, _, rfl, rfl, _, rfl, ?_⟩
    refine ite2 (fun hb => ?_) (fun hb => ?_)
    · have hb : (0 : Int) < (b : Int) := of_decide_eq_true hb
      refine ⟨_, rfl, _, rfl, _, rfl, _, _, rfl, rfl, hb, _, _, rfl, ⟨b, a % b, rfl, rfl, ?_⟩, ?_⟩
      · rw [← hg, Nat.gcd_comm a b, Nat.gcd_rec b a, Nat.gcd_comm]
      · show ((a : Int) % (b : Int)).toNat < (b : Int).toNat
        have := Int.emod_lt_of_pos (a : Int) hb
        have := Int.emod_nonneg (a : Int) (Int.ne_of_gt hb)
        omega
    · have hb : ¬ (0 : Int) < (b : Int) := fun z => hb (decide_eq_true z)
      have hb0 : b = 0 := by omega
      subst hb0
      rw [Nat.gcd_zero_right] at hg
      subst hg
      exact ⟨_, rfl, q⟩
end
end K9

/-! ## F3 -/
/-! Ratio. -/
namespace K9
open PySem PySem.Spec PyProof.Rows L2
/-! ### data -/
def rFs (r : Rat) : List (Str × V) := putF "denominator_here" (.int r.den) (putF "numerator_here" (.int r.num) [])
theorem rFs_n (r : Rat) : (rFs r).lookup ("numerator_here" : Str) = some (.int r.num) := by
  unfold rFs
  rw [lookup_putF, if_neg (by decide +kernel), lookup_putF, if_pos rfl]
theorem rFs_d (r : Rat) : (rFs r).lookup ("denominator_here" : Str) = some (.int r.den) := by
  unfold rFs
  rw [lookup_putF, if_pos rfl]
/-- v is a Ratio of the value r -/
def IsR (K : PySem.W.Frag) (H : Hp) (v : V) (r : Rat) : Prop := ∃ a dx, v = .ref a ∧ H a = some (.ins (cR K) dx (rFs r))
theorem IsR.imm {K : PySem.W.Frag} {H H' : Hp} {v : V} {r : Rat} (i : Imm H H') (h : IsR K H v r) : IsR K H' v r := by
  obtain ⟨a, dx, e, h⟩ := h
  exact ⟨a, dx, e, i _ _ rfl h⟩
/-- x holds o, all else as it was -/
structure At1 (H H' : Hp) (x : Addr) (o : HO) : Prop where
  at_ : H' x = some o
  rest : ∀ b u, b ≠ x → H b = some u → H' b = some u
theorem At1.same {H1 H' : Hp} {x dx : Addr} {C : Addr} {fs : List (Str × V)} {o : HO} (hx : H1 x = none) (hd : H1 dx = none) (h : At1 (upd (upd H1 dx (.own x)) x (.ins C dx fs)) H' x o) : Same H1 H' := fun b u e => by
  have nb : b ≠ x := ne_of_none e hx
  exact h.rest b u nb (by rw [upd_ne nb, upd_ne (ne_of_none e hd)]; exact e)
theorem fdiv_num {p q : Int} (hq : q ≠ 0) : p.fdiv (if 0 < q then (Int.gcd p q : Int) else -(Int.gcd p q : Int)) = (Rat.divInt p q).num := by
  rw [Rat.num_divInt]
  have e1 : (q.gcd p : Int) = (Int.gcd p q : Int) := by rw [Int.gcd_comm]
  have hd : (Int.gcd p q : Int) ∣ p := Int.gcd_dvd_left p q
  rw [e1]
  by_cases h : 0 < q
  · rw [if_pos h, Int.sign_eq_one_of_pos h, Int.one_mul, Int.fdiv_eq_ediv_of_dvd hd]
  · rw [if_neg h, Int.sign_eq_neg_one_of_neg (by omega), Int.fdiv_eq_ediv_of_dvd (Int.neg_dvd.mpr hd), Int.ediv_neg, Int.neg_one_mul, Int.neg_ediv_of_dvd hd]
theorem fdiv_den {p q : Int} (hq : q ≠ 0) : q.fdiv (if 0 < q then (Int.gcd p q : Int) else -(Int.gcd p q : Int)) = ((Rat.divInt p q).den : Int) := by
  rw [Rat.den_divInt, if_neg hq]
  have e1 : q.gcd p = Int.gcd p q := by rw [Int.gcd_comm]
  have hd : (Int.gcd p q : Int) ∣ q := Int.gcd_dvd_right p q
  rw [e1, Int.natCast_ediv]
  by_cases h : 0 < q
  · rw [if_pos h, Int.fdiv_eq_ediv_of_dvd hd, Int.natAbs_of_nonneg (Int.le_of_lt h)]
  · rw [if_neg h, Int.fdiv_eq_ediv_of_dvd (Int.neg_dvd.mpr hd), Int.ediv_neg, show (q.natAbs : Int) = -q by omega, Int.neg_ediv_of_dvd hd]
theorem gcd_bits {p q : Int} (hq : q ≠ 0) {n : Nat} (h : q.natAbs < 2 ^ n) (hn : 0 < n) : ((if 0 < q then (Int.gcd p q : Int) else -(Int.gcd p q : Int)) ≠ 0) ∧ (if 0 < q then (Int.gcd p q : Int) else -(Int.gcd p q : Int)).natAbs.log2 < n := by
  have h1 : 0 < Int.gcd p q := Int.gcd_pos_of_ne_zero_right p hq
  have h2 : Int.gcd p q ≤ q.natAbs := Nat.le_of_dvd (by omega) (Int.gcd_dvd_natAbs_right p q)
  have h3 : (if 0 < q then (Int.gcd p q : Int) else -(Int.gcd p q : Int)).natAbs = Int.gcd p q := by split <;> omega
  refine ⟨by split <;> omega, ?_⟩
  rw [h3]
  exact PySem.Flt.log2_lt_of hn (Nat.lt_of_le_of_lt h2 h)
/-! ### promises -/
/-- what a pure def hands on: a value, in a heap that has only grown -/
def Pure (post : V → Hp → Prop) (H : Hp) (Q : VK) : Prop := ∀ v H', Same H H' → post v H' → Q v H'
def spRatio (K : PySem.W.Frag) : Sp := fun vs H Q _ => ∃ (x dx : Addr) (p q : Int), vs = [.ref x, .int p, .int q] ∧ q ≠ 0 ∧ q.natAbs < 2 ^ 9000 ∧ H x = some (.ins (cR K) dx []) ∧ ∀ H', At1 H H' x (.ins (cR K) dx (rFs (Rat.divInt p q))) → Q .non H'
section
variable {P : Program} {w : World} {K : PySem.W.Frag} {mg : Str → Option Value} {base : Heap}
theorem sc_rInit : FnScope ["self", "top", "bottom", "shared"] ["self", "top", "bottom"] (defScope (inCls 33 0)) := ⟨rfl, rfl, rfl, by decide +kernel, rfl, by decide +kernel, by decide +kernel⟩
theorem ok_rInit (T : Txt K mg) {f : Addr} {fd : FuncData} {dvs : List V} (F : FunD K "__init__" "Ratio.__init__" (defArgs (inCls 33 0)) (defBody (inCls 33 0)) (defScope (inCls 33 0)) dvs [] f fd) :
    FnOk P w K mg base CX0 2 f fd ["self", "top", "bottom"] (spRatio K) := by
  refine F.ok sc_rInit (fun vs H Q E h => ?_) (fun cdv A outer s H vs Q E hr h => ?_)
  · obtain ⟨x, dx, p, q, rfl, _⟩ := h; rfl
  · obtain ⟨x, dx, p, q, rfl, hq, hb, hx, k⟩ := h
    have ci := cal_is_integer (P := P) (w := w) (base := base) T
    have cc := cal_common (P := P) (w := w) (base := base) T
    suffices z : ∃ t, PSs (cx9 P w K mg base ["self", "top", "bottom", "shared"] "Ratio.__init__" (defScope (inCls 33 0)) f cdv A outer s H E) (defBody (inCls 33 0)) t ∧ t { nx := fun _ H' => Q .non H', rt := Q } (start ["self", "top", "bottom", "shared"] [.ref x, .int p, .int q]) H from let ⟨t, a, b⟩ := z; ⟨t, a.nox, b⟩
    refine ⟨_, pss_cons (ps_if (pt_not (pt_val (pe_c ci hr (pa_cons (pv 1) pa_nil)))) (pss_one ps_never) pss_nil)
      (pss_cons (ps_if (PW.pt (pw_or (pt_not (pt_val (pe_c ci hr (pa_cons (pv 2) pa_nil)))) (pw_or1 (pt_cmpR op_eq (pv 2) pe_int (nomark _))))) (pss_one ps_never) pss_nil)
      (pss_cons (ps_set (i := 3) sc_rInit.nd rfl (Or.inl rfl) (pe_ifExp (pt_cmpR op_gt (pv 2) pe_int (nomark _)) (pe_c cc hr (pa_cons (pv 1) (pa_cons (pv 2) pa_nil))) (pe_un un_neg (pe_c cc hr (pa_cons (pv 1) (pa_cons (pv 2) pa_nil))))))
      (pss_cons (ps_fld (pv 0) (pe_op op_fdivA (pv 1) (pv 3)) rfl) (pss_one (ps_fld (pv 0) (pe_op op_fdivA (pv 2) (pv 3)) rfl))))), ?_⟩
    -- the tests
    refine ⟨_, rfl, .inl ⟨p, rfl, _, rfl, iteF ?_⟩⟩
    refine ⟨_, rfl, .inl ⟨q, rfl, _, rfl, iteF ?_⟩⟩
    refine ⟨_, rfl, rfl, _, rfl, ?_⟩
    have ed : decide (V.int q = V.int 0) = false := decide_eq_false fun z => hq (by cases z; rfl)
    rw [ed]
    refine iteF ?_
    obtain ⟨g1, g2⟩ := gcd_bits (p := p) hq hb (by decide)
    have body : ∀ sh : Int, sh = (if 0 < q then (Int.gcd p q : Int) else -(Int.gcd p q : Int)) →
      (tSeq (sFld K (tVar 0) (tOp (rI CDivA fun i j => .int (i.fdiv j)) (tVar 1) (tVar 3)) "numerator_here") (sFld K (tVar 0) (tOp (rI CDivA fun i j => .int (i.fdiv j)) (tVar 2) (tVar 3)) "denominator_here")) { nx := fun _ H' => Q .non H', rt := Q } [some (.ref x), some (.int p), some (.int q), some (.int sh)] H := by
      intro sh e
      subst e
      refine ⟨_, rfl, _, rfl, _, _, rfl, rfl, ⟨g1, g2⟩, _, rfl, x, _, dx, [], rfl, hx, T.rNot.own.cl, T.rNN, (by show 0 < 1000; decide), ?_⟩
      refine ⟨_, rfl, _, rfl, _, _, rfl, rfl, ⟨g1, g2⟩, _, rfl, x, _, dx, _, rfl, upd_same, T.rNot.own.cl, T.rND, (by show 1 < 1000; decide), ?_⟩
      refine k _ ⟨?_, fun b u nb e => ?_⟩
      · rw [upd_same]
        dsimp only
        rw [fdiv_num hq, fdiv_den hq]
        rfl
      · rw [upd_ne nb, upd_ne nb]
        exact e
    refine ⟨_, rfl, _, _, rfl, rfl, _, rfl, ite2 (fun h0 => ?_) (fun h0 => ?_)⟩
    · have h0 : 0 < q := of_decide_eq_true h0
      refine ⟨_, rfl, _, rfl, _, _, rfl, body _ (by rw [if_pos h0])⟩
    · have h0 : ¬ 0 < q := fun z => h0 (decide_eq_true z)
      refine ⟨_, rfl, _, rfl, _, _, rfl, _, rfl, body _ (by rw [if_neg h0])⟩
theorem mak_ratio2 (T : Txt K mg) : Mak P w K mg base 2 "Ratio" (cR K) (spRatio K) [] := by
  obtain ⟨f, fd, mk, hm, F⟩ := T.rInit.ex
  obtain ⟨ds, v, b⟩ := F.binds1 (ps := ["self", "top", "bottom"]) 3 1 (List.cons_ne_nil _ _) rfl fun T' kV doc pm an cdv ct us its hl h1 => match us, its, hl, h1 with | [_, _, _], [_], _, _ => ⟨_, rfl, rfl⟩
  exact ⟨f, mk, hm, fd, _, ds, ok_rInit T F, F.kp, b, v⟩
theorem mak_ratio1 (T : Txt K mg) : Mak P w K mg base 2 "Ratio" (cR K) (spRatio K) [.int 1] := by
  obtain ⟨f, fd, mk, hm, F⟩ := T.rInit.ex
  obtain ⟨ds, v, b⟩ := F.binds1 (ps := ["self", "top", "bottom"]) 2 0 (List.cons_ne_nil _ _) rfl fun T' kV doc pm an cdv ct us its hl h1 => match us, its, hl, h1 with | [_, _], [_], _, _ => ⟨_, rfl, rfl⟩
  exact ⟨f, mk, hm, fd, _, ds, ok_rInit T F, F.kp, b, v⟩
/-- Ratio(p, q) -/
theorem mk_ratio {H1 : Hp} {p q : Int} {Q : VK} (hq : q ≠ 0) (hb : q.natAbs < 2 ^ 9000) (k : ∀ v H', Same H1 H' → IsR K H' v (Rat.divInt p q) → Q v H') :
    ∀ x dx, H1 x = none → H1 dx = none → dx ≠ x → spRatio K (.ref x :: [.int p, .int q]) (upd (upd H1 dx (.own x)) x (.ins (cR K) dx [])) (fun v H2 => v = .non ∧ Q (.ref x) H2) E0 := fun x dx hx hd hne =>
  ⟨x, dx, p, q, rfl, hq, hb, upd_same, fun H' a => ⟨rfl, k _ H' (At1.same hx hd a) ⟨x, dx, rfl, a.at_⟩⟩⟩
end
end K9

/-! ## F4 -/
/-! Ratio's properties; is_number, as_ratio. -/
namespace K9
open PySem PySem.Spec PyProof.Rows L2
/-- v is a number of the value r: an int or a Ratio -/
def NumV (K : PySem.W.Frag) (H : Hp) (v : V) (r : Rat) : Prop := (∃ i : Int, v = .int i ∧ r = Rat.divInt i 1) ∨ IsR K H v r
theorem NumV.imm {K : PySem.W.Frag} {H H' : Hp} {v : V} {r : Rat} (i : Imm H H') (h : NumV K H v r) : NumV K H' v r := h.elim .inl fun h => .inr (h.imm i)
def spTop (K : PySem.W.Frag) : Sp := fun vs H Q _ => ∃ v r, vs = [v] ∧ IsR K H v r ∧ Q (.int r.num) H
def spBottom (K : PySem.W.Frag) : Sp := fun vs H Q _ => ∃ v r, vs = [v] ∧ IsR K H v r ∧ Q (.int r.den) H
def spIsNum (K : PySem.W.Frag) : Sp := fun vs H Q _ => (∃ v r, vs = [v] ∧ NumV K H v r ∧ Q (.bl true) H) ∨ (∃ a C dx fs, vs = [.ref a] ∧ H a = some (.ins C dx fs) ∧ NotNum K C ∧ Q (.bl false) H)
def spAsR (K : PySem.W.Frag) : Sp := fun vs H Q _ => ∃ v r, vs = [v] ∧ NumV K H v r ∧ Pure (fun v' H' => IsR K H' v' r) H Q
section
variable {P : Program} {w : World} {K : PySem.W.Frag} {mg : Str → Option Value} {base : Heap}
theorem prp_top (T : Txt K mg) : Prp P w K mg base 1 (cR K) "top" (spTop K) := by
  refine prp_of T.rTop (N := ["self"]) (ps := ["self"]) ⟨rfl, rfl, rfl, by decide +kernel, rfl, by decide +kernel, by decide +kernel⟩ (fun _ _ _ _ _ _ us hl => match us, hl with | [_], _ => rfl) (fun vs H Q E h => ?_) (fun f cdv A outer s H vs Q E hr h => ?_)
  · obtain ⟨v, r, rfl, _⟩ := h; rfl
  · obtain ⟨v, r, rfl, ⟨a, dx, rfl, ha⟩, q⟩ := h
    exact ⟨_, pss_one (ps_ret (pe_fld (pv 0) rfl)), _, rfl, a, _, dx, _, _, rfl, ha, T.rNot.own.cl, T.rNN, rFs_n r, q⟩
theorem prp_bottom (T : Txt K mg) : Prp P w K mg base 1 (cR K) "bottom" (spBottom K) := by
  refine prp_of T.rBottom (N := ["self"]) (ps := ["self"]) ⟨rfl, rfl, rfl, by decide +kernel, rfl, by decide +kernel, by decide +kernel⟩ (fun _ _ _ _ _ _ us hl => match us, hl with | [_], _ => rfl) (fun vs H Q E h => ?_) (fun f cdv A outer s H vs Q E hr h => ?_)
  · obtain ⟨v, r, rfl, _⟩ := h; rfl
  · obtain ⟨v, r, rfl, ⟨a, dx, rfl, ha⟩, q⟩ := h
    exact ⟨_, pss_one (ps_ret (pe_fld (pv 0) rfl)), _, rfl, a, _, dx, _, _, rfl, ha, T.rNot.own.cl, T.rND, rFs_d r, q⟩
/-- e.top, e a Ratio -/
abbrev isRat (K : PySem.W.Frag) : Addr → Prop := fun C => C = cR K
theorem prpT (T : Txt K mg) : ∀ C, isRat K C → Prp P w K mg base 1 C "top" (spTop K) := fun C h => h ▸ prp_top T
theorem prpB (T : Txt K mg) : ∀ C, isRat K C → Prp P w K mg base 1 C "bottom" (spBottom K) := fun C h => h ▸ prp_bottom T
/-- the reading of e.top -/
theorem rd_top {K : PySem.W.Frag} {H : Hp} {v : V} {r : Rat} {Q : VK} (h : IsR K H v r) (q : Q (.int r.num) H) : ∃ a C dx fs, v = .ref a ∧ H a = some (.ins C dx fs) ∧ isRat K C ∧ spTop K [.ref a] H Q E0 := by
  obtain ⟨a, dx, rfl, ha⟩ := h
  exact ⟨a, _, dx, _, rfl, ha, rfl, _, r, rfl, ⟨a, dx, rfl, ha⟩, q⟩
theorem rd_bottom {K : PySem.W.Frag} {H : Hp} {v : V} {r : Rat} {Q : VK} (h : IsR K H v r) (q : Q (.int r.den) H) : ∃ a C dx fs, v = .ref a ∧ H a = some (.ins C dx fs) ∧ isRat K C ∧ spBottom K [.ref a] H Q E0 := by
  obtain ⟨a, dx, rfl, ha⟩ := h
  exact ⟨a, _, dx, _, rfl, ha, rfl, _, r, rfl, ⟨a, dx, rfl, ha⟩, q⟩
theorem cal_is_number (T : Txt K mg) : Cal P w K mg base 2 "is_number" (spIsNum K) [] := by
  refine cal_of T.d_is_number (N := ["value"]) (ps := ["value"]) ⟨rfl, rfl, rfl, by decide +kernel, rfl, by decide +kernel, by decide +kernel⟩ (fun _ _ _ _ _ _ us hl => match us, hl with | [_], _ => rfl) (fun vs H Q E h => ?_) (fun f cdv A outer s H vs Q E hr h => ?_)
  · rcases h with ⟨v, r, rfl, _⟩ | ⟨a, C, dx, fs, rfl, _⟩ <;> rfl
  · have mi := nofree T (x := "isinstance") (by decide +kernel)
    refine ⟨_, pss_one (ps_ret (pe_or (pe_c (cal_is_integer T) hr (pa_cons (pv 0) pa_nil)) (pe_one (pe_callB call_isi (by rfl) mi boot_isi (pa_cons (pv 0) (pa_cons (pe_glob (v := .ref (cR K)) (by rfl) T.rGlob rfl) pa_nil)))))), ?_⟩
    rcases h with ⟨v, r, rfl, ⟨i, rfl, _⟩ | ⟨a, dx, rfl, ha⟩, q⟩ | ⟨a, C, dx, fs, rfl, ha, nn, q⟩
    · exact ⟨_, rfl, .inl ⟨i, rfl, _, rfl, iteT q⟩⟩
    · exact ⟨_, rfl, .inr ⟨a, _, dx, _, rfl, ha, T.rNot, _, rfl, iteF ⟨_, rfl, _, _, _, _, _, rfl, .own _, T.rNot.own.ty ha, T.rSelf, q⟩⟩⟩
    · exact ⟨_, rfl, .inr ⟨a, _, dx, _, rfl, ha, nn.ni, _, rfl, iteF ⟨_, rfl, _, _, _, _, _, rfl, .own _, nn.ni.own.ty ha, nn.r, q⟩⟩⟩
theorem cal_as_ratio (T : Txt K mg) : Cal P w K mg base 4 "as_ratio" (spAsR K) [] := by
  refine cal_of T.d_as_ratio (N := ["number"]) (ps := ["number"]) ⟨rfl, rfl, rfl, by decide +kernel, rfl, by decide +kernel, by decide +kernel⟩ (fun _ _ _ _ _ _ us hl => match us, hl with | [_], _ => rfl) (fun vs H Q E h => ?_) (fun f cdv A outer s H vs Q E hr h => ?_)
  · obtain ⟨v, r, rfl, _⟩ := h; rfl
  · have mi := nofree T (x := "isinstance") (by decide +kernel)
    refine ⟨_, pss_one (ps_ret (pe_ifExp (pt_val (pe_callB call_isi (by rfl) mi boot_isi (pa_cons (pv 0) (pa_cons (pe_glob (v := .ref (cR K)) (by rfl) T.rGlob rfl) pa_nil)))) (pv 0) (pe_mk (mak_ratio1 T) hr (pa_cons (pv 0) pa_nil)))), ?_⟩
    obtain ⟨v, r, rfl, ⟨i, rfl, rfl⟩ | ⟨a, dx, rfl, ha⟩, k⟩ := h
    · refine ⟨_, rfl, _, _, _, _, _, rfl, .own _, .base (.int i), T.rInt, _, rfl, iteF ?_⟩
      refine ⟨_, rfl, ?_⟩
      exact mk_ratio (by decide) (by decide) fun v' H' s r => k v' H' s r
    · exact ⟨_, rfl, _, _, _, _, _, rfl, .own _, T.rNot.own.ty ha, T.rSelf, _, rfl, iteT ⟨_, rfl, k _ H (Same.refl H) ⟨a, dx, rfl, ha⟩⟩⟩
end
end K9

/-! ## F5 -/
/-! Names and sides. -/
namespace K9
open PySem PySem.Spec PyProof.Rows L2
abbrev smallS : Str := "abcdefghijklmnopqrstuvwxyz"
abbrev capS : Str := "ABCDEFGHIJKLMNOPQRSTUVWXYZ"
abbrev laterS : Str := "abcdefghijklmnopqrstuvwxyz0123456789"
/-- a size name -/
structure SizeN (z : Str) : Prop where
  pos : 0 < z.length
  lt : z.length < 7
  all : ∀ c ∈ z.cps.toList, c ∈ smallS.cps.toList
/-- a letter's name -/
structure LetN (z : Str) : Prop where
  pos : 0 < z.length
  lt : z.length < 7
  first : ∀ c, z.cps.toList[0]? = some c → c ∈ capS.cps.toList
  all : ∀ c ∈ z.cps.toList.drop 1, c ∈ laterS.cps.toList
theorem list_ofFn {α : Type} {ys : List α} {n : Nat} {f : Nat → α} (hl : ys.length = n) (h : ∀ j y, ys[j]? = some y → y = f j) : ys = (List.range n).map f := by
  refine List.ext_getElem? fun i => ?_
  by_cases hi : i < n
  · have e : ys[i]? = some ys[i] := List.getElem?_eq_getElem (by omega)
    rw [e, h i _ e, List.getElem?_map, List.getElem?_range hi]
    rfl
  · rw [List.getElem?_eq_none (by omega), List.getElem?_eq_none (by simp; omega)]
theorem list_const {α : Type} {ys : List α} {n : Nat} {v : α} (hl : ys.length = n) (h : ∀ (j : Nat) y, ys[j]? = some y → y = v) : ys = List.replicate n v := by
  rw [list_ofFn (f := fun _ => v) hl h]
  simp [List.map_const']
theorem all_true (n : Nat) : (List.replicate n true).all id = true := by
  induction n with
  | zero => rfl
  | succ n ih => rw [List.replicate_succ, List.all_cons, ih]; rfl
theorem rd_all {K : PySem.W.Frag} {H' : Hp} {D : Addr} {ys : List V} {Q : VK} (h1 : H' D = some (.lst ys)) (h3 : ∀ (j : Nat) y, ys[j]? = some y → y = .bl true) (q : Q (.bl true) H') : rAll K [.ref D] H' Q := by
  refine ⟨D, List.replicate ys.length true, rfl, SqL.of ?_, ?_⟩
  · rw [h1, List.map_replicate, ← list_const rfl h3]
  · rw [all_true]
    exact q
theorem seven_line : 7 ≤ sizeLine := by rw [sizeLine_eq]; decide
theorem str_line {z : Str} (h : z.length < 7) : z.length ≤ sizeLine := Nat.le_trans (Nat.le_of_lt h) seven_line
def spIsSize : Sp := fun vs H Q _ => (∃ z, vs = [.str z] ∧ SizeN z ∧ Pure (fun v _ => v = .bl true) H Q) ∨ (∃ t xs, vs = [.ref t] ∧ H t = some (.tup xs) ∧ Q (.bl false) H)
def spIsLet : Sp := fun vs H Q _ => ∃ z, vs = [.str z] ∧ LetN z ∧ Pure (fun v _ => v = .bl true) H Q
/-- a tuple of names -/
def IsS (H : Hp) (v : V) (s : List Str) : Prop := ∃ t, v = .ref t ∧ H t = some (.tup (s.map V.str))
theorem IsS.imm {H H' : Hp} {v : V} {s : List Str} (i : Imm H H') (h : IsS H v s) : IsS H' v s := by
  obtain ⟨t, e, h⟩ := h
  exact ⟨t, e, i _ _ rfl h⟩
/-- a side -/
structure SideN (s : List Str) : Prop where
  pos : 0 < s.length
  le : s.length ≤ 16
  all : ∀ z ∈ s, SizeN z
def spIsSide : Sp := fun vs H Q _ => ∃ v s, vs = [v] ∧ IsS H v s ∧ SideN s ∧ Pure (fun v _ => v = .bl true) H Q
def spAsSide : Sp := fun vs H Q _ => (∃ z, vs = [.str z] ∧ SizeN z ∧ Pure (fun v H' => IsS H' v [z]) H Q) ∨ (∃ v s, vs = [v] ∧ IsS H v s ∧ SideN s ∧ Pure (fun v' H' => IsS H' v' s) H Q)
def spIsIndex : Sp := fun vs H Q _ => ∃ i n : Int, vs = [.int i, .int n] ∧ 0 ≤ i ∧ i < n ∧ Q (.bl true) H
section
variable {P : Program} {w : World} {K : PySem.W.Frag} {mg : Str → Option Value} {base : Heap}
theorem kit_ss {K : PySem.W.Frag} : PySem.W.kitOne K (.type "str") (.type "str") = some true := kit_ty (by decide +kernel)
theorem kit_ts {K : PySem.W.Frag} : PySem.W.kitOne K (.type "tuple") (.type "str") = some false := kit_ty (by decide +kernel)
theorem kit_tt {K : PySem.W.Frag} : PySem.W.kitOne K (.type "tuple") (.type "tuple") = some true := kit_ty (by decide +kernel)
theorem sc_isSize : FnScope ["value", "sign"] ["value"] (defScope (top 42)) := ⟨rfl, rfl, rfl, by decide +kernel, rfl, by decide +kernel, by decide +kernel⟩
theorem cal_is_size (T : Txt K mg) : Cal P w K mg base 1 "is_size_name" spIsSize [] := by
  refine cal_of T.d_is_size_name sc_isSize (fun _ _ _ _ _ _ us hl => match us, hl with | [_], _ => rfl) (fun vs H Q E h => ?_) (fun f cdv A outer s H vs Q E hr h => ?_)
  · rcases h with ⟨z, rfl, _⟩ | ⟨a, C, rfl, _⟩ <;> rfl
  · have mi := nofree T (x := "isinstance") (by decide +kernel)
    have ms := nofree T (x := "str") (by decide +kernel)
    have ml := nofree T (x := "len") (by decide +kernel)
    have ma := nofree T (x := "all") (by decide +kernel)
    obtain ⟨tS, gS⟩ := T.kSMALL
    refine ⟨_, pss_one (ps_ret (pe_and (pe_callB call_isi (by rfl) mi boot_isi (pa_cons (pv 0) (pa_cons (pe_bltn (v := .ty "str") (by rfl) ms boot_str rfl) pa_nil)))
      (pe_and (pe_chain op_lt op_lt pe_int (pe_callB call_len_str (by rfl) ml PySem.boot_len (pa_cons (pv 0) pa_nil)) pe_int)
      (pe_one (pe_callB (cr_all rfl) (by rfl) ma boot_all (pa_cons (pe_lc (own := [("sign", 1)]) (g := gName 1) (tt := tYes) rfl sc_isSize.nd (pi_str (pv 0)) (blkOk_by (N := ["value", "sign"]) (sc := defScope (top 42)) (by decide +kernel)) (fun _ _ _ _ _ => pg_name (i := 1) sc_isSize.nd rfl (Or.inl rfl)) (fun _ _ _ _ _ => pts_nil)
        (fun _ _ _ _ _ => pe_cmpR op_in_sign (pv 1) (pe_glob (v := .str smallS) (by rfl) gS ⟨_, rfl⟩) rfl)) pa_nil)))))), ?_⟩
    rcases h with ⟨z, rfl, hz, k⟩ | ⟨t, xs, rfl, ht, q⟩
    · refine ⟨_, rfl, _, _, _, _, _, rfl, .ty _, .base (.str z), kit_ss, _, rfl, iteT ?_⟩
      refine ⟨_, rfl, _, rfl, str_line hz.lt, _, _, rfl, rfl, _, rfl, ?_⟩
      have e1 : decide ((0 : Int) < (z.length : Int)) = true := decide_eq_true (by have := hz.pos; omega)
      have e2 : decide ((z.length : Int) < 7) = true := decide_eq_true (by have := hz.lt; omega)
      rw [e1]
      refine iteT ⟨_, _, rfl, rfl, _, rfl, ?_⟩
      rw [e2]
      refine iteT ?_
      refine ⟨_, rfl, _, rfl, fun D hD => ?_⟩
      refine map_it walk_str' (fun _ y _ => y = .bl true) (fun _ _ _ _ _ h => h) hD (fun _ _ => trivial) (str_line hz.lt) (fun i x H' Q' hi hx m q => ?_) (fun ys H' s hl1 hl2 hl3 => ?_)
      · obtain ⟨c, hc, rfl⟩ := hx
        have hm : c ∈ smallS.cps.toList := hz.all c (by rw [← Array.getElem?_toList] at hc; exact List.mem_of_getElem? hc)
        refine ⟨_, rfl, c, _, rfl, rfl, ?_⟩
        rw [decide_eq_true hm]
        exact q _ _ (Same.refl _) rfl
      · exact rd_all hl1 hl3 (k _ _ s rfl)
    · exact ⟨_, rfl, _, _, _, _, _, rfl, .ty _, .base (.tup ht), kit_ts, _, rfl, iteF q⟩
end
end K9

/-! ## F6 -/
namespace K9
open PySem PySem.Spec PyProof.Rows L2
section
variable {P : Program} {w : World} {K : PySem.W.Frag} {mg : Str → Option Value} {base : Heap}
theorem sc_isLet : FnScope ["value", "sign"] ["value"] (defScope (top 43)) := ⟨rfl, rfl, rfl, by decide +kernel, rfl, by decide +kernel, by decide +kernel⟩
theorem cut1 (z : Str) : (cutS z (some 1) none).cps.toList = z.cps.toList.drop 1 := by
  have e := C8.cutS_slice z (some 1) none
  have e2 := SX.slice_from (a := z.cps.toList) (i := 1) (by decide)
  have e3 : (SX.S z.cps.toList) = z := SX.S_tl z
  rw [e3] at e2
  rw [e, e2]
  rfl
theorem cal_is_let (T : Txt K mg) : Cal P w K mg base 1 "is_letter_name" spIsLet [] := by
  refine cal_of T.d_is_letter_name sc_isLet (fun _ _ _ _ _ _ us hl => match us, hl with | [_], _ => rfl) (fun vs H Q E h => ?_) (fun f cdv A outer s H vs Q E hr h => ?_)
  · obtain ⟨z, rfl, _⟩ := h; rfl
  · have mi := nofree T (x := "isinstance") (by decide +kernel)
    have ms := nofree T (x := "str") (by decide +kernel)
    have ml := nofree T (x := "len") (by decide +kernel)
    have ma := nofree T (x := "all") (by decide +kernel)
    obtain ⟨tS, gS⟩ := T.kLATER
    obtain ⟨tC, gC⟩ := T.kCAPITALS
    refine ⟨_, pss_cons (ps_if (PW.pt (pw_or (pt_not (pt_val (pe_callB call_isi (by rfl) mi boot_isi (pa_cons (pv 0) (pa_cons (pe_bltn (v := .ty "str") (by rfl) ms boot_str rfl) pa_nil)))))
        (pw_or1 (pt_not (pt_chain op_lt op_lt pe_int (pe_callB call_len_str (by rfl) ml PySem.boot_len (pa_cons (pv 0) pa_nil)) pe_int))))) (pss_one ps_never) pss_nil)
      (pss_one (ps_ret (pe_and (pe_cmpR op_in_sign (pe_ix ix_str (pv 0) pe_int (fun _ _ => rfl)) (pe_glob (v := .str capS) (by rfl) gC ⟨_, rfl⟩) rfl)
      (pe_one (pe_callB (cr_all rfl) (by rfl) ma boot_all (pa_cons (pe_lc (own := [("sign", 1)]) (g := gName 1) (tt := tYes) rfl sc_isLet.nd (pi_str (pe_slice sl_str (pv 0) (po_some pe_int) po_none)) (blkOk_by (N := ["value", "sign"]) (sc := defScope (top 43)) (by decide +kernel)) (fun _ _ _ _ _ => pg_name (i := 1) sc_isLet.nd rfl (Or.inl rfl)) (fun _ _ _ _ _ => pts_nil)
        (fun _ _ _ _ _ => pe_cmpR op_in_sign (pv 1) (pe_glob (v := .str laterS) (by rfl) gS ⟨_, rfl⟩) rfl)) pa_nil)))))), ?_⟩
    obtain ⟨z, rfl, hz, k⟩ := h
    have e1 : decide ((0 : Int) < (z.length : Int)) = true := decide_eq_true (by have := hz.pos; omega)
    have e2 : decide ((z.length : Int) < 7) = true := decide_eq_true (by have := hz.lt; omega)
    refine ⟨_, rfl, _, _, _, _, _, rfl, .ty _, .base (.str z), kit_ss, _, rfl, iteF ?_⟩
    refine ⟨_, rfl, _, rfl, str_line hz.lt, _, _, rfl, rfl, _, rfl, ?_⟩
    rw [e1]
    refine iteT ⟨_, _, rfl, rfl, _, rfl, ?_⟩
    rw [e2]
    refine iteF ?_
    have hlen : z.cps.toList.length = z.length := rfl
    obtain ⟨c, hc⟩ : ∃ c, z.cps.toList[0]? = some c := ⟨_, List.getElem?_eq_getElem (by rw [hlen]; exact hz.pos)⟩
    refine ⟨_, rfl, z, 0, c, rfl, rfl, str_line hz.lt, atI_nat (j := 0) hc, c, _, rfl, rfl, _, rfl, ?_⟩
    rw [decide_eq_true (hz.first c hc)]
    refine iteT ?_
    refine ⟨_, rfl, 1, rfl, z, rfl, str_line hz.lt, _, rfl, fun D hD => ?_⟩
    have hsz : (cutS z (some 1) none).cps.size ≤ sizeLine := by
      have : (cutS z (some 1) none).cps.toList.length ≤ z.length := by rw [cut1, List.length_drop, hlen]; omega
      exact Nat.le_trans this (str_line hz.lt)
    refine map_it walk_str' (fun _ y _ => y = .bl true) (fun _ _ _ _ _ h => h) hD (fun _ _ => trivial) hsz (fun i x H' Q' hi hx m q => ?_) (fun ys H' s hl1 hl2 hl3 => ?_)
    · obtain ⟨c, hc, rfl⟩ := hx
      have hm : c ∈ laterS.cps.toList := hz.all c (by rw [← cut1]; rw [← Array.getElem?_toList] at hc; exact List.mem_of_getElem? hc)
      refine ⟨_, rfl, c, _, rfl, rfl, ?_⟩
      rw [decide_eq_true hm]
      exact q _ _ (Same.refl _) rfl
    · exact rd_all hl1 hl3 (k _ _ s rfl)
theorem sc_isSide : FnScope ["value", "name"] ["value"] (defScope (top 44)) := ⟨rfl, rfl, rfl, by decide +kernel, rfl, by decide +kernel, by decide +kernel⟩
theorem sixteen_line : 16 ≤ sizeLine := by rw [sizeLine_eq]; decide
theorem cal_is_side (T : Txt K mg) : Cal P w K mg base 2 "is_side" spIsSide [] := by
  refine cal_of T.d_is_side sc_isSide (fun _ _ _ _ _ _ us hl => match us, hl with | [_], _ => rfl) (fun vs H Q E h => ?_) (fun f cdv A outer s H vs Q E hr h => ?_)
  · obtain ⟨v, z, rfl, _⟩ := h; rfl
  · have mi := nofree T (x := "isinstance") (by decide +kernel)
    have ms := nofree T (x := "tuple") (by decide +kernel)
    have ml := nofree T (x := "len") (by decide +kernel)
    have ma := nofree T (x := "all") (by decide +kernel)
    obtain ⟨tS, gS⟩ := T.kSIDE
    refine ⟨_, pss_one (ps_ret (pe_and (pe_callB call_isi (by rfl) mi boot_isi (pa_cons (pv 0) (pa_cons (pe_bltn (v := .ty "tuple") (by rfl) ms boot_tuple rfl) pa_nil)))
      (pe_and (pe_chain op_lt op_le pe_int (pe_callB call_len_seq (by rfl) ml PySem.boot_len (pa_cons (pv 0) pa_nil)) (pe_glob (v := .int 16) (by rfl) gS ⟨_, rfl⟩))
      (pe_one (pe_callB (cr_all rfl) (by rfl) ma boot_all (pa_cons (pe_lc (own := [("name", 1)]) (g := gName 1) (tt := tYes) rfl sc_isSide.nd (pi_tup (pv 0)) (blkOk_by (N := ["value", "name"]) (sc := defScope (top 44)) (by decide +kernel)) (fun _ _ _ _ _ => pg_name (i := 1) sc_isSide.nd rfl (Or.inl rfl)) (fun _ _ _ _ _ => pts_nil)
        (fun _ _ _ _ _ => pe_c (cal_is_size T) hr (pa_cons (pv 1) pa_nil))) pa_nil)))))), ?_⟩
    obtain ⟨v, z, rfl, ⟨t, rfl, ht⟩, hz, k⟩ := h
    have e1 : decide ((0 : Int) < ((z.map V.str).length : Int)) = true := decide_eq_true (by have := hz.pos; rw [List.length_map]; omega)
    have e2 : decide (((z.map V.str).length : Int) ≤ 16) = true := decide_eq_true (by have := hz.le; rw [List.length_map]; omega)
    refine ⟨_, rfl, _, _, _, _, _, rfl, .ty _, .base (.tup ht), kit_tt, _, rfl, iteT ?_⟩
    refine ⟨_, rfl, t, _, rfl, .inr (SqT.of ht), _, _, rfl, rfl, _, rfl, ?_⟩
    rw [e1]
    refine iteT ⟨_, _, rfl, rfl, _, rfl, ?_⟩
    rw [e2]
    refine iteT ?_
    refine ⟨_, rfl, t, rfl, ⟨_, SqT.of ht⟩, fun D hD => ?_⟩
    refine map_it (walk_tup' (xs := z.map V.str)) (fun _ y _ => y = .bl true) (fun _ _ _ _ _ h => h) hD (fun _ s => Same.seqT s (SqT.of ht)) (by rw [List.length_map]; exact Nat.le_trans hz.le sixteen_line) (fun i x H' Q' hi hx m q => ?_) (fun ys H' s hl1 hl2 hl3 => ?_)
    · rw [List.getElem?_map] at hx
      obtain ⟨c, hc, rfl⟩ := Option.map_eq_some_iff.mp hx
      exact ⟨_, rfl, .inl ⟨c, rfl, hz.all c (List.mem_of_getElem? hc), fun v H'' s hv => q v H'' s hv⟩⟩
    · exact rd_all hl1 hl3 (k _ _ s rfl)
theorem cal_as_side (T : Txt K mg) : Cal P w K mg base 3 "as_side" spAsSide [] := by
  refine cal_of T.d_as_side (N := ["value"]) (ps := ["value"]) ⟨rfl, rfl, rfl, by decide +kernel, rfl, by decide +kernel, by decide +kernel⟩ (fun _ _ _ _ _ _ us hl => match us, hl with | [_], _ => rfl) (fun vs H Q E h => ?_) (fun f cdv A outer s H vs Q E hr h => ?_)
  · rcases h with ⟨z, rfl, _⟩ | ⟨v, s, rfl, _⟩ <;> rfl
  · refine ⟨_, pss_cons (ps_if (pt_val (pe_c (cal_is_size T) hr (pa_cons (pv 0) pa_nil))) (pss_one (ps_ret (pe_tup (pa_cons (pv 0) pa_nil)))) pss_nil)
      (pss_one (ps_ret (pe_ifExp (pt_val (pe_c (cal_is_side T) hr (pa_cons (pv 0) pa_nil))) (pv 0) pe_non))), ?_⟩
    rcases h with ⟨z, rfl, hz, k⟩ | ⟨v, z, rfl, ⟨t, rfl, ht⟩, hz, k⟩
    · refine ⟨_, rfl, .inl ⟨z, rfl, hz, fun v H' s hv => ?_⟩⟩
      subst hv
      refine ⟨_, rfl, iteT ⟨_, rfl, (by show 1 ≤ sizeLine; exact Nat.le_trans (by decide) sixteen_line), fun p hp => ?_⟩⟩
      exact k _ _ (Same.updT s (Same.free s hp)) ⟨p, rfl, upd_same⟩
    · refine ⟨_, rfl, .inr ⟨t, _, rfl, ht, _, rfl, iteF ?_⟩⟩
      refine ⟨_, rfl, _, z, rfl, ⟨t, rfl, ht⟩, hz, fun v H' s hv => ?_⟩
      subst hv
      exact ⟨_, rfl, iteT ⟨_, rfl, k _ _ s ⟨t, rfl, s _ _ ht⟩⟩⟩
theorem cal_is_index (T : Txt K mg) : Cal P w K mg base 2 "is_index" spIsIndex [] := by
  refine cal_of T.d_is_index (N := ["value", "many"]) (ps := ["value", "many"]) ⟨rfl, rfl, rfl, by decide +kernel, rfl, by decide +kernel, by decide +kernel⟩ (fun _ _ _ _ _ _ us hl => match us, hl with | [_, _], _ => rfl) (fun vs H Q E h => ?_) (fun f cdv A outer s H vs Q E hr h => ?_)
  · obtain ⟨v, s, rfl, _⟩ := h; rfl
  · refine ⟨_, pss_one (ps_ret (pe_and (pe_c (cal_is_integer T) hr (pa_cons (pv 0) pa_nil)) (pe_one (pe_chain op_le op_lt pe_int (pv 0) (pv 1))))), ?_⟩
    obtain ⟨i, n, rfl, h0, h1, q⟩ := h
    refine ⟨_, rfl, .inl ⟨i, rfl, _, rfl, iteT ?_⟩⟩
    refine ⟨_, rfl, _, _, rfl, rfl, _, rfl, ?_⟩
    rw [show decide ((0 : Int) ≤ i) = true from decide_eq_true h0]
    refine iteT ⟨_, rfl, _, _, rfl, rfl, ?_⟩
    show Q (V.bl (decide (i < n))) H
    rw [decide_eq_true h1]
    exact q
end
end K9

/-! ## F7 -/
namespace K9
open PySem PySem.Spec PyProof.Rows L2
/-! Tables. -/
/-- item by item -/
structure Al {β α : Type} (R : β → α → Prop) (vs : List β) (xs : List α) : Prop where
  len : vs.length = xs.length
  at_ : ∀ (i : Nat) v x, vs[i]? = some v → xs[i]? = some x → R v x
section
variable {β α : Type} {R R' : β → α → Prop} {vs : List β} {xs : List α}
theorem Al.imp (h : Al R vs xs) (f : ∀ v x, R v x → R' v x) : Al R' vs xs := ⟨h.len, fun i v x a b => f v x (h.at_ i v x a b)⟩
theorem Al.get (h : Al R vs xs) {i : Nat} {x : α} (e : xs[i]? = some x) : ∃ v, vs[i]? = some v ∧ R v x := by
  have hi : i < vs.length := by rw [h.len]; exact (List.getElem?_eq_some_iff.mp e).1
  exact ⟨_, List.getElem?_eq_getElem hi, h.at_ i _ x (List.getElem?_eq_getElem hi) e⟩
theorem Al.get' (h : Al R vs xs) {i : Nat} {v : β} (e : vs[i]? = some v) : ∃ x, xs[i]? = some x ∧ R v x := by
  have hi : i < xs.length := by rw [← h.len]; exact (List.getElem?_eq_some_iff.mp e).1
  exact ⟨_, List.getElem?_eq_getElem hi, h.at_ i v _ e (List.getElem?_eq_getElem hi)⟩
theorem Al.nil : Al R [] [] := ⟨rfl, fun i v x a _ => by simp at a⟩
theorem Al.cons {v : β} {x : α} (r : R v x) (h : Al R vs xs) : Al R (v :: vs) (x :: xs) := ⟨by simp [h.len], fun i a b e1 e2 => by
  cases i with
  | zero => simp at e1 e2; subst e1; subst e2; exact r
  | succ i => exact h.at_ i a b (by simpa using e1) (by simpa using e2)⟩
theorem Al.eq {vs : List α} (h : Al (fun a b => a = b) vs xs) : vs = xs := by
  refine List.ext_getElem? fun i => ?_
  cases e : xs[i]? with
  | none =>
    have := List.getElem?_eq_none_iff.mp e
    exact List.getElem?_eq_none_iff.mpr (by rw [h.len]; exact this)
  | some x =>
    obtain ⟨v, h1, h2⟩ := h.get e
    rw [h1, h2]
theorem Al.mk_map {ys : List β} {f : α → γ} {S : β → γ → Prop} (hl : ys.length = xs.length) (h : ∀ (i : Nat) y x, ys[i]? = some y → xs[i]? = some x → S y (f x)) : Al S ys (xs.map f) :=
  ⟨by simp [hl], fun i y z a b => by
    rw [List.getElem?_map] at b
    obtain ⟨x, hx, rfl⟩ := Option.map_eq_some_iff.mp b
    exact h i y x a hx⟩
theorem Al.map_of {f : α → β} (h : ∀ x ∈ xs, R (f x) x) : Al R (xs.map f) xs := ⟨by simp, fun i v x a b => by
  rw [List.getElem?_map, b] at a
  cases a
  exact h x (List.mem_of_getElem? b)⟩
end
/-- a tuple of tuples of these -/
def TabV (H : Hp) (v : V) (rows : List (List V)) : Prop := ∃ t rvs, v = .ref t ∧ H t = some (.tup rvs) ∧ Al (fun rv cs => ∃ t', rv = .ref t' ∧ H t' = some (.tup cs)) rvs rows
theorem TabV.imm {H H' : Hp} {v : V} {rows : List (List V)} (i : Imm H H') (h : TabV H v rows) : TabV H' v rows := by
  obtain ⟨t, rvs, e, h1, h2⟩ := h
  exact ⟨t, rvs, e, i _ _ rfl h1, h2.imp fun _ _ ⟨t', e, h⟩ => ⟨t', e, i _ _ rfl h⟩⟩
/-- .. each related to what it stands for -/
def TabOf {α : Type} (R : V → α → Prop) (H : Hp) (v : V) (tb : List (List α)) : Prop := ∃ rows, TabV H v rows ∧ Al (Al R) rows tb
theorem TabOf.imm {α : Type} {R R' : V → α → Prop} {H H' : Hp} {v : V} {tb : List (List α)} (i : Imm H H') (f : ∀ v x, R v x → R' v x) (h : TabOf R H v tb) : TabOf R' H' v tb := by
  obtain ⟨rows, h1, h2⟩ := h
  exact ⟨rows, h1.imm i, h2.imp fun _ _ a => a.imp f⟩
abbrev isI : V → Int → Prop := fun v n => v = .int n
/-- the rows as columns, n of them -/
def trV (n : Nat) (rows : List (List V)) : List (List V) := (List.range n).map fun j => rows.map fun r => r.getD j .non
def tr {α : Type} (d : α) (n : Nat) (tb : List (List α)) : List (List α) := (List.range n).map fun j => tb.map fun r => r.getD j d
theorem tr_al {α : Type} {R : V → α → Prop} {d : α} {n : Nat} {rows : List (List V)} {tb : List (List α)} (h : Al (Al R) rows tb) (hn : ∀ r ∈ tb, r.length = n) : Al (Al R) (trV n rows) (tr d n tb) := by
  refine ⟨by simp [trV, tr], fun j c1 c2 e1 e2 => ?_⟩
  unfold trV at e1
  unfold tr at e2
  have hj : j < n := by
    have := (List.getElem?_eq_some_iff.mp e1).1
    simpa using this
  rw [List.getElem?_map, List.getElem?_range hj] at e1 e2
  cases e1
  cases e2
  refine ⟨by simp [h.len], fun i v x a b => ?_⟩
  rw [List.getElem?_map] at a b
  obtain ⟨r1, h1, rfl⟩ := Option.map_eq_some_iff.mp a
  obtain ⟨r2, h2, rfl⟩ := Option.map_eq_some_iff.mp b
  have hr := h.at_ i r1 r2 h1 h2
  have hl2 : r2.length = n := hn r2 (List.mem_of_getElem? h2)
  have hj2 : j < r2.length := by omega
  have hj1 : j < r1.length := by rw [hr.len]; exact hj2
  rw [List.getD_eq_getElem?_getD, List.getD_eq_getElem?_getD, List.getElem?_eq_getElem hj1, List.getElem?_eq_getElem hj2]
  exact hr.at_ j _ _ (List.getElem?_eq_getElem hj1) (List.getElem?_eq_getElem hj2)
def spTurned : Sp := fun vs H Q _ => ∃ v rows n, vs = [v] ∧ TabV H v rows ∧ rows ≠ [] ∧ (∀ r ∈ rows, r.length = n) ∧ rows.length ≤ 1000 ∧ n ≤ 1000 ∧ Pure (fun v' H' => TabV H' v' (trV n rows)) H Q
theorem thousand_line : 1000 ≤ sizeLine := by rw [sizeLine_eq]; decide
theorem thousand_62 {n : Nat} (h : n ≤ 1000) : -(2 ^ 62) ≤ (n : Int) ∧ (n : Int) < 2 ^ 62 := by
  have : (2 : Int) ^ 62 = 4611686018427387904 := by decide
  omega
section
variable {P : Program} {w : World} {K : PySem.W.Frag} {mg : Str → Option Value} {base : Heap}
theorem sc_turned : FnScope ["table", "j", "row"] ["table"] (defScope (top 59)) := ⟨rfl, rfl, rfl, by decide +kernel, rfl, by decide +kernel, by decide +kernel⟩
theorem cal_turned (T : Txt K mg) : Cal P w K mg base 1 "turned" spTurned [] := by
  refine cal_of T.d_turned sc_turned (fun _ _ _ _ _ _ us hl => match us, hl with | [_], _ => rfl) (fun vs H Q E h => ?_) (fun f cdv A outer s H vs Q E hr h => ?_)
  · obtain ⟨v, rows, n, rfl, _⟩ := h; rfl
  · have mt := nofree T (x := "tuple") (by decide +kernel)
    have mr := nofree T (x := "range") (by decide +kernel)
    have ml := nofree T (x := "len") (by decide +kernel)
    refine ⟨_, pss_one (ps_ret (pe_callTy call_tuple_of (by rfl) mt boot_tuple (pa_cons (pe_lc (own := [("j", 1)]) (g := gName 1) (tt := tYes) rfl sc_turned.nd
        (pi_range1 (by rfl) mr (pa_cons (pe_callB call_len_seq (by rfl) ml PySem.boot_len (pa_cons (pe_ix ix_tup (pv 0) pe_int (fun _ _ => rfl)) pa_nil)) pa_nil))
        (blkOk_by (N := ["table", "j", "row"]) (sc := defScope (top 59)) (by decide +kernel)) (fun _ _ _ _ _ => pg_name (i := 1) sc_turned.nd rfl (Or.inr rfl)) (fun _ _ _ _ _ => pts_nil)
        (fun _ _ _ _ _ => pe_callTy (tupleOf9 K) (by rfl) mt boot_tuple (pa_cons (pe_lc (own := [("row", 2)]) (g := gName 2) (tt := tYes) rfl sc_turned.nd (tup9 K (pv 0)) (blkOk_by (N := ["table", "j", "row"]) (by kernel_rfl)) (fun _ _ _ _ _ => pg_name (i := 2) sc_turned.nd rfl (Or.inl rfl)) (fun _ _ _ _ _ => pts_nil)
          (fun _ _ _ _ _ => pe_ix (ixT9 K) (pv 2) (pv 1) (fun _ _ => rfl))) pa_nil))) pa_nil))), ?_⟩
    obtain ⟨v, rows, n, rfl, ⟨t, rvs, rfl, ht, hrows⟩, hne, hn, hr1, hn1, k⟩ := h
    obtain ⟨r0, hr0⟩ : ∃ r0, rows[0]? = some r0 := by
      cases rows with
      | nil => exact absurd rfl hne
      | cons a l => exact ⟨a, rfl⟩
    obtain ⟨rv0, hrv0, t0, rfl, ht0⟩ := hrows.get hr0
    have hl0 : r0.length = n := hn r0 (List.mem_of_getElem? hr0)
    refine ⟨_, rfl, t, rvs, 0, _, rfl, rfl, SqT.of ht, atI_nat (j := 0) hrv0, t0, r0, rfl, .inr (SqT.of ht0), (r0.length : Int), rfl, (thousand_62 (by omega)).1, (thousand_62 (by omega)).2, fun D hD => ?_⟩
    rw [hl0]
    have col : ∀ j, j < n → ∀ H' (Q' : VK), Same H H' → (∀ D' H'', H' D' = none → Same H' H'' → H'' D' = some (.lst (rows.map fun r => r.getD j .non)) → Q' (.ref D') H'') →
      tLc (iTup K (tVar 0)) (gName 2) tYes (tOp (rIxT K) (tVar 2) (tVar 1)) [2] [some (.ref t), some (.int (0 + (j : Nat))), none] H' Q' := by
      intro j hj H' Q' s q
      refine ⟨_, rfl, t, rfl, ⟨_, SqT.of (s _ _ ht)⟩, fun D' hD' => ?_⟩
      refine map_it (walk_tup' (xs := rvs)) (fun i y _ => ∃ r, rows[i]? = some r ∧ y = r.getD j .non) (fun _ _ _ _ _ h => h) hD' (fun _ s2 => SqT.of (s2 _ _ (s _ _ ht))) (by rw [hrows.len]; exact Nat.le_trans hr1 thousand_line) (fun i x H3 Q3 hi hx m q3 => ?_) (fun ys H3 s3 hl1 hl2 hl3 => ?_)
      · obtain ⟨r, hr, t', rfl, ht'⟩ := hrows.get' hx
        have hrl : j < r.length := by rw [hn r (List.mem_of_getElem? hr)]; exact hj
        have e : r[j]? = some (r.getD j .non) := by rw [List.getD_eq_getElem?_getD, List.getElem?_eq_getElem hrl]; rfl
        exact ⟨_, rfl, _, rfl, t', r, _, r.getD j .non, rfl, rfl, SqT.of (m.same _ _ (s _ _ ht')), by rw [Int.zero_add]; exact atI_nat e, q3 _ _ (Same.refl _) ⟨r, hr, rfl⟩⟩
      · refine q D' H3 hD' s3 ?_
        rw [hl1]
        refine congrArg (fun z => some (HO.lst z)) (List.ext_getElem? fun i => ?_)
        rw [List.getElem?_map]
        by_cases hi : i < rows.length
        · have hi2 : i < ys.length := by rw [hl2, hrows.len]; exact hi
          obtain ⟨r, h1, h2⟩ := hl3 i _ (List.getElem?_eq_getElem hi2)
          rw [h1, List.getElem?_eq_getElem hi2, h2]
          rfl
        · rw [List.getElem?_eq_none (by rw [hl2, hrows.len]; omega), List.getElem?_eq_none (by omega)]
          rfl
    refine map_it walk_range' (fun j y H' => ∃ t', y = .ref t' ∧ H' t' = some (.tup (rows.map fun r => r.getD j .non))) (fun j y H1 H2 i h => let ⟨t', e, h⟩ := h; ⟨t', e, i _ _ rfl h⟩) hD (fun _ _ => trivial) (by simp; exact Nat.le_trans hn1 thousand_line) (fun j x H' Q' hj hx m q => ?_) (fun ys H' s hl1 hl2 hl3 => ?_)
    · subst hx
      have hj : j < n := by simpa using hj
      refine col j hj H' (fun x H1 => rTupleOf K [x] H1 Q') m.same fun D' H'' hD' s2 hl => ?_
      exact ⟨D', _, rfl, .inl ⟨SqL.of hl, fun l hl2 => q _ _ (Same.updT s2 (Same.free s2 hl2)) ⟨l, rfl, upd_same⟩⟩⟩
    · refine ⟨D, ys, rfl, .inl ⟨SqL.of hl1, fun l hl => ?_⟩⟩
      refine k _ _ (Same.updT s (Same.free s hl)) ⟨l, ys, rfl, upd_same, ?_, fun j rv cs h1 h2 => ?_⟩
      · rw [hl2]; simp [trV]
      · obtain ⟨t', e, h3⟩ := hl3 j rv h1
        have hj : j < n := by
          have := (List.getElem?_eq_some_iff.mp h2).1
          simpa [trV] using this
        unfold trV at h2
        rw [List.getElem?_map, List.getElem?_range hj] at h2
        cases h2
        exact ⟨t', e, Same.upd hl _ _ h3⟩
end
end K9

/-! ## F8 -/
namespace K9
open PySem PySem.Spec PyProof.Rows L2
/-! Products of tables of ints. -/
def dot (ns ms : List Int) : Int := (List.zipWith (· * ·) ns ms).sum
def mulI (n : Nat) (A B : List (List Int)) : List (List Int) := A.map fun r => (tr 0 n B).map fun c => dot r c
/-- all of it below 2 ^ b -/
def BdI (b : Nat) (ns : List Int) : Prop := ∀ a ∈ ns, a.natAbs < 2 ^ b
def spDot (K : PySem.W.Frag) : Sp := fun vs H Q _ => ∃ t1 t2 ns ms, vs = [.ref t1, .ref t2] ∧ H t1 = some (.tup (ns.map V.int)) ∧ H t2 = some (.tup (ms.map V.int)) ∧ ns.length = ms.length ∧ ns.length ≤ 1000 ∧ BdI 200000 ns ∧ BdI 200000 ms ∧ Pure (fun v _ => v = .int (dot ns ms)) H Q
def spMulI : Sp := fun vs H Q _ => ∃ v1 v2 A B n, vs = [v1, v2] ∧ TabOf isI H v1 A ∧ TabOf isI H v2 B ∧ B ≠ [] ∧ (∀ r ∈ A, r.length = B.length) ∧ (∀ r ∈ B, r.length = n) ∧ A.length ≤ 1000 ∧ B.length ≤ 1000 ∧ n ≤ 1000 ∧ (∀ r ∈ A, BdI 200000 r) ∧ (∀ r ∈ B, BdI 200000 r) ∧ Pure (fun v H' => TabOf isI H' v (mulI n A B)) H Q
theorem row_isI {vs : List V} {ns : List Int} (h : Al isI vs ns) : vs = ns.map V.int := by
  refine List.ext_getElem? fun i => ?_
  rw [List.getElem?_map]
  cases e : ns[i]? with
  | none =>
    have := List.getElem?_eq_none_iff.mp e
    rw [List.getElem?_eq_none (by rw [h.len]; exact this)]
    rfl
  | some x =>
    obtain ⟨v, h1, h2⟩ := h.get e
    rw [h1, h2]
    rfl
section
variable {P : Program} {w : World} {K : PySem.W.Frag} {mg : Str → Option Value} {base : Heap}
theorem sc_dotted : FnScope ["one", "two", "a", "b"] ["one", "two"] (defScope (top 61)) := ⟨rfl, rfl, rfl, by decide +kernel, rfl, by decide +kernel, by decide +kernel⟩
theorem cal_dotted (T : Txt K mg) : Cal P w K mg base 1 "dotted" (spDot K) [] := by
  refine cal_of T.d_dotted sc_dotted (fun _ _ _ _ _ _ us hl => match us, hl with | [_, _], _ => rfl) (fun vs H Q E h => ?_) (fun f cdv A outer s H vs Q E hr h => ?_)
  · obtain ⟨t1, t2, ns, ms, rfl, _⟩ := h; rfl
  · have mz := nofree T (x := "zip") (by decide +kernel)
    have ms' := nofree T (x := "sum") (by decide +kernel)
    refine ⟨_, pss_one (ps_ret (pe_callB (sum9 K) (by rfl) ms' boot_sum (pa_cons (pe_lc (own := [("a", 2), ("b", 3)]) (g := gTup K 2 (gCons (gName 2) (gCons (gName 3) gNil))) (tt := tYes) rfl sc_dotted.nd (zip9 K mz (pa_cons (pv 0) (pa_cons (pv 1) pa_nil)))
      (blkOk_by (N := ["one", "two", "a", "b"]) (sc := defScope (top 61)) (by decide +kernel)) (fun _ _ _ _ _ => gtup9 K (pgs_cons (pg_name (i := 2) sc_dotted.nd rfl (Or.inl rfl)) (pgs_cons (pg_name (i := 3) sc_dotted.nd rfl (Or.inl rfl)) pgs_nil))) (fun _ _ _ _ _ => pts_nil)
      (fun _ _ _ _ _ => pe_op op_mulW (pv 2) (pv 3))) pa_nil))), ?_⟩
    obtain ⟨t1, t2, ns, ms, rfl, h1, h2, hl, hlen, b1, b2, k⟩ := h
    refine ⟨_, rfl, _, rfl, t1, t2, _, _, rfl, .inr ⟨SqT.of h1, SqT.of h2, fun D hD => ?_⟩⟩
    refine map_zip (n := 2) (n2 := 3) (by decide) (walk_zipT (xs := ns.map V.int) (ys := ms.map V.int) (by simp [hl])) (fun i y _ => ∃ a b, ns[i]? = some a ∧ ms[i]? = some b ∧ y = .int (a * b)) (fun _ _ _ _ _ h => h) hD (fun H' s => ⟨SqT.of (s _ _ h1), SqT.of (s _ _ h2)⟩) (by simp; exact Nat.le_trans hlen thousand_line)
      (fun i x y H' Q' hx hy s q => ?_) (fun ys H' s hl1 hl2 hl3 => ?_)
    · rw [List.getElem?_map] at hx hy
      obtain ⟨a, ha, rfl⟩ := Option.map_eq_some_iff.mp hx
      obtain ⟨b, hb, rfl⟩ := Option.map_eq_some_iff.mp hy
      exact ⟨_, rfl, _, rfl, a, b, rfl, rfl, wide_mul (b1 a (List.mem_of_getElem? ha)) (b2 b (List.mem_of_getElem? hb)) (by decide) (by decide) (by decide), q _ _ (Same.refl _) ⟨a, b, ha, hb, rfl⟩⟩
    · refine ⟨D, List.zipWith (· * ·) ns ms, rfl, SqL.of ?_, k _ _ s rfl⟩
      rw [hl1]
      refine congrArg (fun z => some (HO.lst z)) (List.ext_getElem? fun i => ?_)
      rw [List.getElem?_map, List.getElem?_zipWith]
      by_cases hi : i < ns.length
      · have hi2 : i < ys.length := by rw [hl2]; simpa using hi
        obtain ⟨a, b, e1, e2, e3⟩ := hl3 i _ (List.getElem?_eq_getElem hi2)
        rw [List.getElem?_eq_getElem hi2, e1, e2, e3]
        rfl
      · rw [List.getElem?_eq_none (by rw [hl2]; simpa using hi), List.getElem?_eq_none (by omega)]
        rfl
theorem sc_multiplied : FnScope ["one", "two", "columns", "row", "column"] ["one", "two"] (defScope (top 60)) := ⟨rfl, rfl, rfl, by decide +kernel, rfl, by decide +kernel, by decide +kernel⟩
theorem cal_multiplied (T : Txt K mg) : Cal P w K mg base 2 "multiplied" spMulI [] := by
  refine cal_of T.d_multiplied sc_multiplied (fun _ _ _ _ _ _ us hl => match us, hl with | [_, _], _ => rfl) (fun vs H Q E h => ?_) (fun f cdv A outer s H vs Q E hr h => ?_)
  · obtain ⟨t1, t2, ns, ms, n, rfl, _⟩ := h; rfl
  · have mt := nofree T (x := "tuple") (by decide +kernel)
    refine ⟨_, pss_cons (ps_set (i := 2) sc_multiplied.nd rfl (Or.inr rfl) (pe_c (cal_turned T) hr (pa_cons (pv 1) pa_nil)))
      (pss_one (ps_ret (pe_callTy (tupleOf9 K) (by rfl) mt boot_tuple (pa_cons (pe_lc (own := [("row", 3)]) (g := gName 3) (tt := tYes) rfl sc_multiplied.nd (tup9 K (pv 0))
        (blkOk_by (N := ["one", "two", "columns", "row", "column"]) (sc := defScope (top 60)) (by decide +kernel)) (fun _ _ _ _ _ => pg_name (i := 3) sc_multiplied.nd rfl (Or.inr rfl)) (fun _ _ _ _ _ => pts_nil)
        (fun _ _ _ _ _ => pe_callTy (tupleOf9 K) (by rfl) mt boot_tuple (pa_cons (pe_lc (own := [("column", 4)]) (g := gName 4) (tt := tYes) rfl sc_multiplied.nd (tup9 K (pv 2)) (blkOk_by (N := ["one", "two", "columns", "row", "column"]) (by kernel_rfl)) (fun _ _ _ _ _ => pg_name (i := 4) sc_multiplied.nd rfl (Or.inl rfl)) (fun _ _ _ _ _ => pts_nil)
          (fun _ _ _ _ _ => pe_c (cal_dotted T) hr (pa_cons (pv 3) (pa_cons (pv 4) pa_nil)))) pa_nil))) pa_nil)))), ?_⟩
    obtain ⟨v1, v2, A, B, n, rfl, hA, ⟨rB, hB, aB⟩, hne, hwA, hwB, lA, lB, ln, bA, bB, k⟩ := h
    have hrB : ∀ r ∈ rB, r.length = n := fun r hm => by
      obtain ⟨i, hi⟩ := List.mem_iff_getElem?.mp hm
      obtain ⟨x, hx, hr⟩ := aB.get' hi
      rw [hr.len]
      exact hwB x (List.mem_of_getElem? hx)
    refine ⟨_, rfl, v2, rB, n, rfl, hB, ?_, hrB, by rw [aB.len]; exact lB, ln, fun v' H1 s1 hT => ?_⟩
    · intro e
      have := aB.len
      rw [e] at this
      exact hne (List.length_eq_zero_iff.mp this.symm)
    obtain ⟨tc, rvs, rfl, htc, hcols⟩ := hT
    have aT : Al (Al isI) (trV n rB) (tr 0 n B) := tr_al aB hwB
    obtain ⟨rA, ⟨ta, rvA, rfl, hta, hrA⟩, aA⟩ := hA
    refine ⟨_, rfl, ta, rfl, ⟨_, SqT.of (s1 _ _ hta)⟩, fun D hD => ?_⟩
    have lcol : (trV n rB).length = n := by simp [trV]
    refine tup_it (walk_tup' (xs := rvA)) (fun i y H' => ∃ t' r, y = .ref t' ∧ A[i]? = some r ∧ H' t' = some (.tup (((tr 0 n B).map fun c => dot r c).map V.int))) (fun i y H1 H2 im h => let ⟨t', r, e, h1, h2⟩ := h; ⟨t', r, e, h1, im _ _ rfl h2⟩) hD (fun _ s2 => SqT.of (s2 _ _ (s1 _ _ hta)))
      (by rw [hrA.len, aA.len]; exact Nat.le_trans lA thousand_line) (fun i x H2 Q2 hi hx s2 q2 => ?_) (fun l ys H2 s2 hl1 hl2 hl3 => ?_)
    · obtain ⟨cs, hcs, t', rfl, ht'⟩ := hrA.get' hx
      obtain ⟨r, hr, aR⟩ := aA.get' hcs
      have hrow : cs = r.map V.int := row_isI aR
      subst hrow
      have ht2 := s2 _ _ (s1 _ _ ht')
      refine ⟨_, rfl, tc, rfl, ⟨_, SqT.of (s2 _ _ htc)⟩, fun D2 hD2 => ?_⟩
      refine tup_it (walk_tup' (xs := rvs)) (fun j y _ => ∃ c, (tr 0 n B)[j]? = some c ∧ y = .int (dot r c)) (fun _ _ _ _ _ h => h) hD2 (fun _ s3 => SqT.of (s3 _ _ (s2 _ _ htc))) (by rw [hcols.len, lcol]; exact Nat.le_trans ln thousand_line) (fun j x H3 Q3 hj hx3 s3 q3 => ?_) (fun l3 ys3 H3 s3 hl1 hl2 hl3 => ?_)
      · obtain ⟨cc, hcc, t3, rfl, ht3⟩ := hcols.get' hx3
        obtain ⟨c, hc, aC⟩ := aT.get' hcc
        have hcrow : cc = c.map V.int := row_isI aC
        subst hcrow
        have lr : r.length = B.length := hwA r (List.mem_of_getElem? hr)
        have lc : c.length = B.length := by
          unfold tr at hc
          rw [List.getElem?_map] at hc
          obtain ⟨jj, _, rfl⟩ := Option.map_eq_some_iff.mp hc
          simp
        have bC : BdI 200000 c := fun a ha => by
          unfold tr at hc
          rw [List.getElem?_map] at hc
          obtain ⟨jj, hjj, rfl⟩ := Option.map_eq_some_iff.mp hc
          obtain ⟨row, hrow, rfl⟩ := List.mem_map.mp ha
          rw [List.getD_eq_getElem?_getD]
          cases e : row[jj]? with
          | none => exact Nat.two_pow_pos _
          | some z => exact bB row hrow z (List.mem_of_getElem? e)
        exact ⟨_, rfl, _, rfl, t', t3, r, c, rfl, s3 _ _ ht2, s3 _ _ (s2 _ _ ht3), by rw [lr, lc], by rw [lr]; exact lB, bA r (List.mem_of_getElem? hr), bC, fun v4 H4 s4 e4 => q3 v4 H4 s4 ⟨c, hc, e4⟩⟩
      · refine q2 _ _ s3 ⟨l3, r, rfl, hr, ?_⟩
        rw [hl1]
        refine congrArg (fun z => some (HO.tup z)) (row_isI (Al.mk_map (by rw [hl2, hcols.len, aT.len]) fun j y c e1 e2 => ?_))
        obtain ⟨c', e3, e4⟩ := hl3 j y e1
        rw [e2] at e3
        cases e3
        exact e4
    · refine k _ _ (Same.trans s1 s2) ⟨A.map fun r => ((tr 0 n B).map fun c => dot r c).map V.int, ⟨l, ys, rfl, hl1, Al.mk_map (by rw [hl2, hrA.len, aA.len]) fun i y r e1 e2 => ?_⟩, ?_⟩
      · obtain ⟨t', r', e3, e4, e5⟩ := hl3 i y e1
        rw [e2] at e4
        cases e4
        exact ⟨t', e3, e5⟩
      · refine Al.mk_map (by simp) fun i y r e1 e2 => ?_
        rw [List.getElem?_map, e2] at e1
        cases e1
        exact Al.map_of fun x _ => rfl
end
end K9

/-! ## F9 -/
namespace K9
open PySem PySem.Spec PyProof.Rows L2
/-! whole_table. -/
def lcmL (b : Nat) (row : List Rat) : Nat := row.foldl (fun b r => Nat.lcm b r.den) b
def lcmM (b : Nat) (M : List (List Rat)) : Nat := M.foldl lcmL b
def denM (M : List (List Rat)) : Nat := lcmM 1 M
def whM (M : List (List Rat)) : List (List Int) := M.map fun row => row.map fun r => r.num * ((denM M : Int) / (r.den : Int))
theorem lcmL_dvd (b : Nat) (row : List Rat) : b ∣ lcmL b row := by
  induction row generalizing b with
  | nil => exact Nat.dvd_refl _
  | cons r l ih => exact Nat.dvd_trans (Nat.dvd_lcm_left b r.den) (ih (Nat.lcm b r.den))
theorem lcmL_pos {b : Nat} (hb : 0 < b) (row : List Rat) : 0 < lcmL b row := by
  induction row generalizing b with
  | nil => exact hb
  | cons r l ih => exact ih (Nat.lcm_pos hb r.den_pos)
theorem lcmL_take (b : Nat) (row : List Rat) (j : Nat) : lcmL b (row.take j) ∣ lcmL b row := by
  have e : lcmL b row = lcmL (lcmL b (row.take j)) (row.drop j) := by
    unfold lcmL
    rw [← List.foldl_append, List.take_append_drop]
  rw [e]
  exact lcmL_dvd _ _
theorem lcmM_dvd (b : Nat) (M : List (List Rat)) : b ∣ lcmM b M := by
  induction M generalizing b with
  | nil => exact Nat.dvd_refl _
  | cons r l ih => exact Nat.dvd_trans (lcmL_dvd b r) (ih (lcmL b r))
theorem lcmM_pos {b : Nat} (hb : 0 < b) (M : List (List Rat)) : 0 < lcmM b M := by
  induction M generalizing b with
  | nil => exact hb
  | cons r l ih => exact ih (lcmL_pos hb r)
theorem lcmM_take (b : Nat) (M : List (List Rat)) (j : Nat) : lcmM b (M.take j) ∣ lcmM b M := by
  have e : lcmM b M = lcmM (lcmM b (M.take j)) (M.drop j) := by
    unfold lcmM
    rw [← List.foldl_append, List.take_append_drop]
  rw [e]
  exact lcmM_dvd _ _
theorem lcmM_succ {b : Nat} {M : List (List Rat)} {i : Nat} {row : List Rat} (h : M[i]? = some row) : lcmM b (M.take (i + 1)) = lcmL (lcmM b (M.take i)) row := by
  unfold lcmM
  rw [List.take_succ, h, List.foldl_append]
  rfl
theorem lcmL_succ {b : Nat} {row : List Rat} {j : Nat} {r : Rat} (h : row[j]? = some r) : lcmL b (row.take (j + 1)) = Nat.lcm (lcmL b (row.take j)) r.den := by
  unfold lcmL
  rw [List.take_succ, h, List.foldl_append]
  rfl
theorem denM_pos (M : List (List Rat)) : 0 < denM M := lcmM_pos (by decide) M
/-- a partial multiple divides the whole -/
theorem part_dvd {M : List (List Rat)} {i : Nat} {row : List Rat} (h : M[i]? = some row) (j : Nat) : lcmL (lcmM 1 (M.take i)) (row.take j) ∣ denM M := by
  refine Nat.dvd_trans (lcmL_take _ _ j) ?_
  rw [← lcmM_succ h]
  exact lcmM_take _ _ _
theorem lcm_step (b d : Nat) (hd : 0 < d) : ((b : Int).fdiv (Int.gcd b d)) * (d : Int) = (Nat.lcm b d : Nat) := by
  have e : Int.gcd (b : Int) (d : Int) = Nat.gcd b d := rfl
  rw [e, Int.fdiv_eq_ediv_of_nonneg _ (by omega), ← Int.natCast_ediv, ← Int.natCast_mul, Nat.lcm, Nat.div_mul_right_comm (Nat.gcd_dvd_left b d)]
def BdR (b : Nat) (r : Rat) : Prop := r.num.natAbs < 2 ^ b ∧ r.den < 2 ^ b
def spWhole (K : PySem.W.Frag) : Sp := fun vs H Q _ => ∃ v M, vs = [v] ∧ TabOf (IsR K H) H v M ∧ M.length ≤ 1000 ∧ (∀ row ∈ M, row.length ≤ 1000 ∧ ∀ r ∈ row, r.num.natAbs < 2 ^ 9000) ∧ denM M < 2 ^ 9000 ∧
  Pure (fun v' H' => ∃ t wv, v' = .ref t ∧ H' t = some (.tup [wv, .int (denM M)]) ∧ TabOf isI H' wv (whM M)) H Q
theorem log_of {n k : Nat} (hk : 0 < k) (h : n < 2 ^ k) : n.log2 < k := PySem.Flt.log2_lt_of hk h
section
variable {P : Program} {w : World} {K : PySem.W.Frag} {mg : Str → Option Value} {base : Heap}
theorem sc_whole : FnScope ["cells", "below", "row", "cell"] ["cells"] (defScope (top 58)) := ⟨rfl, rfl, rfl, by decide +kernel, rfl, by decide +kernel, by decide +kernel⟩
theorem cal_whole (T : Txt K mg) : Cal P w K mg base 3 "whole_table" (spWhole K) [] := by
  refine cal_of T.d_whole_table sc_whole (fun _ _ _ _ _ _ us hl => match us, hl with | [_], _ => rfl) (fun vs H Q E h => ?_) (fun f cdv A outer s H vs Q E hr h => ?_)
  · obtain ⟨v, M, rfl, _⟩ := h; rfl
  · have mt := nofree T (x := "tuple") (by decide +kernel)
    refine ⟨_, pss_cons (ps_set (i := 1) sc_whole.nd rfl (Or.inr rfl) pe_int)
      (pss_cons (ps_for PassesOwn.never rfl (tup9 K (pv 0)) (pg_name (i := 2) sc_whole.nd rfl (Or.inl rfl))
        (pss_one (ps_for PassesOwn.never rfl (tup9 K (pv 2)) (pg_name (i := 3) sc_whole.nd rfl (Or.inl rfl))
          (pss_one (ps_set (i := 1) sc_whole.nd rfl (Or.inr rfl) (pe_op op_mulW (pe_op op_fdivA (pv 1) (pe_c (cal_common T) hr (pa_cons (pv 1) (pa_cons (pe_prp (prpB T) hr (pv 3)) pa_nil)))) (pe_prp (prpB T) hr (pv 3))))))))
      (pss_one (ps_ret (pe_tup (pa_cons (pe_callTy (tupleOf9 K) (by rfl) mt boot_tuple (pa_cons (pe_lc (own := [("row", 2)]) (g := gName 2) (tt := tYes) rfl sc_whole.nd (tup9 K (pv 0)) (blkOk_by (N := ["cells", "below", "row", "cell"]) (sc := defScope (top 58)) (by decide +kernel)) (fun _ _ _ _ _ => pg_name (i := 2) sc_whole.nd rfl (Or.inl rfl)) (fun _ _ _ _ _ => pts_nil)
        (fun _ _ _ _ _ => pe_callTy (tupleOf9 K) (by rfl) mt boot_tuple (pa_cons (pe_lc (own := [("cell", 3)]) (g := gName 3) (tt := tYes) rfl sc_whole.nd (tup9 K (pv 2)) (blkOk_by (N := ["cells", "below", "row", "cell"]) (by kernel_rfl)) (fun _ _ _ _ _ => pg_name (i := 3) sc_whole.nd rfl (Or.inl rfl)) (fun _ _ _ _ _ => pts_nil)
          (fun _ _ _ _ _ => pe_op op_mulW (pe_prp (prpT T) hr (pv 3)) (pe_op op_fdivA (pv 1) (pe_prp (prpB T) hr (pv 3))))) pa_nil))) pa_nil)) (pa_cons (pv 1) pa_nil)))))), ?_⟩
    obtain ⟨v, M, rfl, ⟨rows, ⟨t, rvs, rfl, ht, hrv⟩, aM⟩, lM, hM, hden, k⟩ := h
    have dpos := denM_pos M
    refine ⟨_, rfl, t, rfl, ⟨_, SqT.of ht⟩, for_tup (xs := rvs) (fun i σ H' => ∃ vr vc, σ = [some (.ref t), some (.int (lcmM 1 (M.take i))), vr, vc] ∧ Same H H') ⟨none, none, rfl, Same.refl H⟩ (fun i σ H' _ ⟨_, _, _, s⟩ => SqT.of (s _ _ ht)) ?_ ?_⟩
    · rintro i x σ H' hx ⟨vr, vc, rfl, s1⟩
      obtain ⟨cs, hcs, t', rfl, ht'⟩ := hrv.get' hx
      obtain ⟨row, hrow, aR⟩ := aM.get' hcs
      refine ⟨_, rfl, t', rfl, ⟨_, SqT.of (s1 _ _ ht')⟩, for_tup (xs := cs) (fun j σ H'' => ∃ vc, σ = [some (.ref t), some (.int (lcmL (lcmM 1 (M.take i)) (row.take j))), some (.ref t'), vc] ∧ Same H H'') ⟨vc, rfl, s1⟩ (fun j σ H'' _ ⟨_, _, s⟩ => SqT.of (s _ _ ht')) ?_ ?_⟩
      · rintro j y σ H2 hy ⟨vc, rfl, s2⟩
        obtain ⟨r, hr1, hR⟩ := aR.get' hy
        have hR2 : IsR K H2 y r := hR.imm (Same.imm s2)
        have hb : lcmL (lcmM 1 (M.take i)) (row.take j) < 2 ^ 9000 := Nat.lt_of_le_of_lt (Nat.le_of_dvd dpos (part_dvd hrow j)) hden
        have hb1 : lcmL (lcmM 1 (M.take i)) (row.take (j + 1)) < 2 ^ 9000 := Nat.lt_of_le_of_lt (Nat.le_of_dvd dpos (part_dvd hrow (j + 1))) hden
        have hpos : 0 < lcmL (lcmM 1 (M.take i)) (row.take j) := lcmL_pos (lcmM_pos (by decide) _) _
        have hd : r.den < 2 ^ 9000 := Nat.lt_of_le_of_lt (Nat.le_of_dvd (by rw [lcmL_succ hr1]; exact Nat.lcm_pos hpos r.den_pos) (by rw [lcmL_succ hr1]; exact Nat.dvd_lcm_right _ _)) hb1
        have e := lcmL_succ (b := lcmM 1 (M.take i)) hr1
        generalize lcmL (lcmM 1 (M.take i)) (row.take j) = b at *
        have hg : (Int.gcd (b : Int) (r.den : Int) : Int) ≠ 0 := by
          have := Int.gcd_pos_of_ne_zero_left (r.den : Int) (show (b : Int) ≠ 0 by omega)
          omega
        have hg2 : (Int.gcd (b : Int) (r.den : Int) : Int).natAbs < 2 ^ 9000 := by
          have h1 : Int.gcd (b : Int) (r.den : Int) ≤ b := Nat.le_of_dvd hpos (Nat.gcd_dvd_left b r.den)
          have h2 : (Int.gcd (b : Int) (r.den : Int) : Int).natAbs = Int.gcd (b : Int) (r.den : Int) := Int.natAbs_natCast _
          rw [h2]
          exact Nat.lt_of_le_of_lt h1 hb
        have hq : ((b : Int).fdiv (Int.gcd (b : Int) (r.den : Int) : Int)).natAbs < 2 ^ 9000 := by
          rw [Int.fdiv_eq_ediv_of_nonneg _ (by omega)]
          have h1 := Int.ediv_le_self (Int.gcd (b : Int) (r.den : Int) : Int) (show (0 : Int) ≤ (b : Int) by omega)
          have h2 := Int.ediv_nonneg (show (0 : Int) ≤ (b : Int) by omega) (show (0 : Int) ≤ (Int.gcd (b : Int) (r.den : Int) : Int) by omega)
          omega
        refine ⟨_, rfl, _, rfl, y, rfl, ?_⟩
        refine rd_bottom hR2 ⟨(b : Int), (r.den : Int), rfl, ?_⟩
        refine ⟨_, _, rfl, rfl, ⟨hg, log_of (by decide) hg2⟩, y, rfl, ?_⟩
        refine rd_bottom hR2 ⟨_, _, rfl, rfl, wide_mul hq (show (r.den : Int).natAbs < 2 ^ 9000 by omega) (by decide) (by decide) (by decide), ?_⟩
        refine ⟨some y, ?_, s2⟩
        rw [e]
        show [some (V.ref t), some (V.int ((b : Int).fdiv (Int.gcd b r.den) * (r.den : Int))), some (V.ref t'), some y] = _
        rw [lcm_step b r.den r.den_pos]
      · rintro σ H2 ⟨vc, rfl, s2⟩
        refine ⟨some (.ref t'), vc, ?_, s2⟩
        rw [lcmM_succ hrow, aR.len, List.take_length]
    · rintro σ H1 ⟨vr, vc, rfl, s1⟩
      have eM : lcmM 1 (M.take rvs.length) = denM M := by rw [hrv.len, aM.len, List.take_length]; rfl
      rw [eM]
      refine ⟨_, rfl, t, rfl, ⟨_, SqT.of (s1 _ _ ht)⟩, fun D hD => ?_⟩
      refine tup_it (walk_tup' (xs := rvs)) (fun i y H' => ∃ t' row, y = .ref t' ∧ M[i]? = some row ∧ H' t' = some (.tup ((row.map fun r => r.num * ((denM M : Int) / (r.den : Int))).map V.int))) (fun i y H1 H2 im h => let ⟨t', r, e, h1, h2⟩ := h; ⟨t', r, e, h1, im _ _ rfl h2⟩) hD (fun _ s2 => SqT.of (s2 _ _ (s1 _ _ ht)))
        (by rw [hrv.len, aM.len]; exact Nat.le_trans lM thousand_line) (fun i x H2 Q2 hi hx s2 q2 => ?_) (fun l ys H2 s2 hl1 hl2 hl3 => ?_)
      · obtain ⟨cs, hcs, t', rfl, ht'⟩ := hrv.get' hx
        obtain ⟨row, hrow, aR⟩ := aM.get' hcs
        obtain ⟨lrow, brow⟩ := hM row (List.mem_of_getElem? hrow)
        refine ⟨_, rfl, t', rfl, ⟨_, SqT.of (s2 _ _ (s1 _ _ ht'))⟩, fun D2 hD2 => ?_⟩
        refine tup_it (walk_tup' (xs := cs)) (fun j y _ => ∃ r, row[j]? = some r ∧ y = .int (r.num * ((denM M : Int) / (r.den : Int)))) (fun _ _ _ _ _ h => h) hD2 (fun _ s3 => SqT.of (s3 _ _ (s2 _ _ (s1 _ _ ht')))) (by rw [aR.len]; exact Nat.le_trans lrow thousand_line) (fun j y H3 Q3 hj hy s3 q3 => ?_) (fun l3 ys3 H3 s3 hl1 hl2 hl3 => ?_)
        · obtain ⟨r, hr1, hR⟩ := aR.get' hy
          have hR3 : IsR K H3 y r := hR.imm (Same.imm (Same.trans s1 (Same.trans s2 s3)))
          have hd0 : (r.den : Int) ≠ 0 := by have := r.den_pos; omega
          have hdd : r.den ∣ denM M := by
            refine Nat.dvd_trans ?_ (part_dvd hrow (j + 1))
            rw [lcmL_succ hr1]
            exact Nat.dvd_lcm_right _ _
          have hd : r.den < 2 ^ 9000 := Nat.lt_of_le_of_lt (Nat.le_of_dvd dpos hdd) hden
          have hq : ((denM M : Int).fdiv (r.den : Int)) = (denM M : Int) / (r.den : Int) := Int.fdiv_eq_ediv_of_nonneg _ (by omega)
          have hq2 : ((denM M : Int) / (r.den : Int)).natAbs < 2 ^ 9000 := by
            have h1 := Int.ediv_le_self (r.den : Int) (show (0 : Int) ≤ (denM M : Int) by omega)
            have h2 := Int.ediv_nonneg (show (0 : Int) ≤ (denM M : Int) by omega) (show (0 : Int) ≤ (r.den : Int) by omega)
            omega
          refine ⟨y, rfl, rd_top hR3 ⟨_, rfl, y, rfl, rd_bottom hR3 ⟨_, _, rfl, rfl, ⟨hd0, log_of (by decide) (show (r.den : Int).natAbs < 2 ^ 9000 by omega)⟩, ?_⟩⟩⟩
          dsimp only
          rw [hq]
          exact ⟨_, _, rfl, rfl, wide_mul (brow r (List.mem_of_getElem? hr1)) hq2 (by decide) (by decide) (by decide), q3 _ _ (Same.refl _) ⟨r, hr1, rfl⟩⟩
        · refine q2 _ _ s3 ⟨l3, row, rfl, hrow, ?_⟩
          rw [hl1]
          refine congrArg (fun z => some (HO.tup z)) (row_isI (Al.mk_map (by rw [hl2, aR.len]) fun j y c e1 e2 => ?_))
          obtain ⟨c', e3, e4⟩ := hl3 j y e1
          rw [e2] at e3
          cases e3
          exact e4
      · refine ⟨_, rfl, (by show 2 ≤ sizeLine; exact Nat.le_trans (by decide) thousand_line), fun p hp => ?_⟩
        have hwv : TabOf isI H2 (.ref l) (whM M) := by
          refine ⟨M.map fun row => (row.map fun r => r.num * ((denM M : Int) / (r.den : Int))).map V.int, ⟨l, ys, rfl, hl1, Al.mk_map (by rw [hl2, hrv.len, aM.len]) fun i y r e1 e2 => ?_⟩, ?_⟩
          · obtain ⟨t', r', e3, e4, e5⟩ := hl3 i y e1
            rw [e2] at e4
            cases e4
            exact ⟨t', e3, e5⟩
          · refine Al.mk_map (by simp) fun i y r e1 e2 => ?_
            rw [List.getElem?_map, e2] at e1
            cases e1
            exact Al.map_of fun x _ => rfl
        have s12 : Same H H2 := Same.trans s1 s2
        exact k _ _ (Same.updT s12 (Same.free s12 hp)) ⟨p, _, rfl, upd_same, hwv.imm (Imm.new hp) fun _ _ h => h⟩
end
end K9

/-! ## F10 -/
namespace K9
open PySem PySem.Spec PyProof.Rows L2
/-! Elimination. -/
def eI (n i : Nat) : List Int := (List.range n).map fun j => if i = j then 1 else 0
def idI (n : Nat) : List (List Int) := (List.range n).map (eI n)
def augI (n : Nat) (A : List (List Int)) : List (List Int) := A.mapIdx fun i r => r ++ eI n i
/-- a table with nothing off its diagonal, one number on it (or ones) -/
structure DiagI (n : Nat) (A : List (List Int)) : Prop where
  pos : 0 < n
  le : n ≤ 16
  len : A.length = n
  wid : ∀ r ∈ A, r.length = n
  d : ∀ (k : Nat) row, A[k]? = some row → ∃ x, row[k]? = some x ∧ x ≠ 0 ∧ (n = 1 ∨ x = 1)
  off : ∀ (i k : Nat) row, A[i]? = some row → k ≠ i → k < n → row[k]? = some 0
  bd : ∀ r ∈ A, BdI 9000 r
theorem DiagI.aug {n : Nat} {A : List (List Int)} (h : DiagI n A) {i : Nat} (hi : i < n) : ∃ r x, A[i]? = some r ∧ (augI n A)[i]? = some (r ++ eI n i) ∧ r.length = n ∧ r[i]? = some x ∧ x ≠ 0 ∧ (n = 1 ∨ x = 1) := by
  have hl : i < A.length := by rw [h.len]; exact hi
  have e : A[i]? = some A[i] := List.getElem?_eq_getElem hl
  obtain ⟨x, h1, h2, h3⟩ := h.d i _ e
  exact ⟨_, x, e, by unfold augI; rw [List.getElem?_mapIdx, e]; rfl, h.wid _ (List.mem_of_getElem? e), h1, h2, h3⟩
theorem eI_len (n i : Nat) : (eI n i).length = n := by simp [eI]
/-- the last number on the diagonal -/
def lastI (n : Nat) (A : List (List Int)) : Int := (A.getD (n - 1) []).getD (n - 1) 0
def spElim : Sp := fun vs H Q _ => ∃ v n A, vs = [v] ∧ TabOf isI H v A ∧ DiagI n A ∧ Pure (fun v' H' => ∃ t iv, v' = .ref t ∧ H' t = some (.tup [iv, .int (lastI n A)]) ∧ TabOf isI H' iv (idI n)) H Q
/-- a list of lists of ints -/
def RowsAt (H : Hp) (w : Addr) (W : List (List Int)) : Prop := ∃ rs, H w = some (.lst rs) ∧ Al (fun rv row => ∃ a, rv = .ref a ∧ H a = some (.lst (row.map V.int))) rs W
theorem RowsAt.same {H H' : Hp} {w : Addr} {W : List (List Int)} (s : Same H H') (h : RowsAt H w W) : RowsAt H' w W := by
  obtain ⟨rs, h1, h2⟩ := h
  exact ⟨rs, s _ _ h1, h2.imp fun _ _ ⟨a, e, h⟩ => ⟨a, e, s _ _ h⟩⟩
theorem RowsAt.put {H : Hp} {w : Addr} {W : List (List Int)} {rs : List V} (h1 : H w = some (.lst rs)) (h2 : Al (fun rv row => ∃ a, rv = .ref a ∧ H a = some (.lst (row.map V.int))) rs W) (hne : ∀ row ∈ W, row ≠ []) {i : Nat} {row : List Int} {a : Addr} (e : W[i]? = some row)
    (ha : H a = some (.lst (row.map V.int))) : RowsAt (upd H w (.lst (rs.set i (.ref a)))) w W := by
  have apart : ∀ b r, r ∈ W → H b = some (.lst (r.map V.int)) → b ≠ w := fun b r hr hb e2 => by
    subst e2
    rw [h1] at hb
    cases hb
    cases r with
    | nil => exact hne _ hr rfl
    | cons z l =>
      obtain ⟨x, hx, a', ea, _⟩ := h2.get' (i := 0) (v := .int z) rfl
      cases ea
  refine ⟨_, upd_same, by rw [List.length_set]; exact h2.len, fun j v x e1 e2 => ?_⟩
  by_cases hj : i = j
  · subst hj
    have hi : i < rs.length := by rw [h2.len]; exact (List.getElem?_eq_some_iff.mp e).1
    rw [List.getElem?_set_self hi] at e1
    cases e1
    rw [e] at e2
    cases e2
    exact ⟨a, rfl, by rw [upd_ne (apart a _ (List.mem_of_getElem? e) ha)]; exact ha⟩
  · rw [List.getElem?_set_ne hj] at e1
    obtain ⟨b, eb, hb⟩ := h2.at_ j v x e1 e2
    exact ⟨b, eb, by rw [upd_ne (apart b _ (List.mem_of_getElem? e2) hb)]; exact hb⟩
section
variable {P : Program} {w : World} {K : PySem.W.Frag} {mg : Str → Option Value} {base : Heap}
abbrev nElim : List Str := ["table", "size", "work", "last", "k", "free", "lead", "main", "i", "factor", "j", "a", "b", "row"]
theorem sc_elim : FnScope nElim ["table"] (defScope (top 62)) := ⟨rfl, rfl, rfl, by decide +kernel, rfl, by decide +kernel, by decide +kernel⟩
theorem cal_elim (T : Txt K mg) : Cal P w K mg base 1 "eliminated_table" spElim [] := by
  refine cal_of T.d_eliminated_table sc_elim (fun _ _ _ _ _ _ us hl => match us, hl with | [_], _ => rfl) (fun vs H Q E h => ?_) (fun f cdv A outer s H vs Q E hr h => ?_)
  · obtain ⟨v, n, A, rfl, _⟩ := h; rfl
  have mt := nofree T (x := "tuple") (by decide +kernel)
  have ml := nofree T (x := "len") (by decide +kernel)
  have mli := nofree T (x := "list") (by decide +kernel)
  have mi := nofree T (x := "int") (by decide +kernel)
  have mr := nofree T (x := "range") (by decide +kernel)
  have mz := nofree T (x := "zip") (by decide +kernel)
  refine ⟨_, pss_cons (ps_set (i := 1) sc_elim.nd rfl (Or.inr rfl) (pe_callB (len9 K) (by rfl) ml PySem.boot_len (pa_cons (pv 0) pa_nil)))
    (pss_cons (ps_set (i := 2) sc_elim.nd rfl (Or.inr rfl) (pe_lc (own := [("i", 8)]) (g := gName 8) (tt := tYes) rfl sc_elim.nd (pi_range1 (by rfl) mr (pa_cons (pv 1) pa_nil)) (blkOk_by (N := nElim) (sc := defScope (top 62)) (by decide +kernel)) (fun _ _ _ _ _ => pg_name (i := 8) sc_elim.nd rfl (Or.inr rfl)) (fun _ _ _ _ _ => pts_nil)
      (fun _ _ _ _ _ => pe_op op_cat (pe_callTy (listOf9 K) (by rfl) mli boot_list (pa_cons (pe_ix (ixT9 K) (pv 0) (pv 8) (fun _ _ => rfl)) pa_nil))
        (pe_lc (own := [("j", 10)]) (g := gName 10) (tt := tYes) rfl sc_elim.nd (pi_range1 (by rfl) mr (pa_cons (pv 1) pa_nil)) (blkOk_by (N := nElim) (by kernel_rfl)) (fun _ _ _ _ _ => pg_name (i := 10) sc_elim.nd rfl (Or.inl rfl)) (fun _ _ _ _ _ => pts_nil)
          (fun _ _ _ _ _ => pe_callTy call_int1 (by rfl) mi boot_int (pa_cons (pe_cmpR op_eq (pv 8) (pv 10) (nomark _)) pa_nil))))))
    (pss_cons (ps_set (i := 3) sc_elim.nd rfl (Or.inr rfl) pe_int)
    (pss_cons (ps_for PassesOwn.never rfl (pi_range1 (by rfl) mr (pa_cons (pv 1) pa_nil)) (pg_name (i := 4) sc_elim.nd rfl (Or.inr rfl))
      (pss_cons (ps_setLc (i := 5) (own := [("i", 8)]) (g := gName 8) (tt := tTest (tOp rNe (tOp (rIxL K) (tOp (rIxL K) (tVar 2) (tVar 8)) (tVar 4)) (tC (.int 0)))) rfl sc_elim.nd rfl rfl (sw_true rfl rfl rfl (by decide +kernel)) (pi_range2 (by rfl) mr (pa_cons (pv 4) (pa_cons (pv 1) pa_nil))) (blkOk_by (N := nElim) (sc := defScope (top 62)) (by decide +kernel)) (fun _ _ _ _ _ => pg_name (i := 8) sc_elim.nd rfl (Or.inl rfl))
          (fun _ _ _ _ _ => pts_one (pt_cmpR op_ne (pe_ix (ixL9 K) (pe_ix (ixL9 K) (pv 2) (pv 8) (fun _ _ => rfl)) (pv 4) (fun _ _ => rfl)) pe_int (nomark _))) (fun _ _ _ _ _ => pv 8))
      (pss_cons (ps_if (pt_cmpR (eqL09 K hr.units0) (pv 5) (pe_lst pa_nil) (nomark _)) (pss_one ps_never) pss_nil)
      (pss_cons (ps_asg (pe_tup (pa_cons (pe_ix (ixL9 K) (pv 2) (pe_ix (ixL9 K) (pv 5) pe_int (fun _ _ => rfl)) (fun _ _ => rfl)) (pa_cons (pe_ix (ixL9 K) (pv 2) (pv 4) (fun _ _ => rfl)) pa_nil))) (gtup9 K (pgs_cons (pg_sub (pv 2) (pv 4) set_list) (pgs_cons (pg_sub (pv 2) (pe_ix (ixL9 K) (pv 5) pe_int (fun _ _ => rfl)) set_list) pgs_nil))))
      (pss_cons (ps_asg (pe_tup (pa_cons (pe_ix (ixL9 K) (pe_ix (ixL9 K) (pv 2) (pv 4) (fun _ _ => rfl)) (pv 4) (fun _ _ => rfl)) (pa_cons (pe_ix (ixL9 K) (pv 2) (pv 4) (fun _ _ => rfl)) pa_nil))) (gtup9 K (pgs_cons (pg_name (i := 6) sc_elim.nd rfl (Or.inr rfl)) (pgs_cons (pg_name (i := 7) sc_elim.nd rfl (Or.inl rfl)) pgs_nil))))
      (pss_cons (ps_for PassesOwn.never rfl (pi_range1 (by rfl) mr (pa_cons (pv 1) pa_nil)) (pg_name (i := 8) sc_elim.nd rfl (Or.inl rfl))
        (pss_one (ps_if (pt_cmpR op_ne (pv 8) (pv 4) (nomark _))
          (pss_cons (ps_set (i := 9) sc_elim.nd rfl (Or.inr rfl) (pe_ix (ixL9 K) (pe_ix (ixL9 K) (pv 2) (pv 8) (fun _ _ => rfl)) (pv 4) (fun _ _ => rfl)))
          (pss_one (ps_asg (pe_lc (own := [("a", 11), ("b", 12)]) (g := gTup K 2 (gCons (gName 11) (gCons (gName 12) gNil))) (tt := tYes) rfl sc_elim.nd (zip9 K mz (pa_cons (pe_ix (ixL9 K) (pv 2) (pv 8) (fun _ _ => rfl)) (pa_cons (pv 7) pa_nil)))
              (blkOk_by (N := nElim) (sc := defScope (top 62)) (by decide +kernel)) (fun _ _ _ _ _ => gtup9 K (pgs_cons (pg_name (i := 11) sc_elim.nd rfl (Or.inl rfl)) (pgs_cons (pg_name (i := 12) sc_elim.nd rfl (Or.inl rfl)) pgs_nil))) (fun _ _ _ _ _ => pts_nil)
              (fun _ _ _ _ _ => pe_op op_fdivA (pe_op op_sub (pe_op op_mulW (pv 6) (pv 11)) (pe_op op_mulW (pv 9) (pv 12))) (pv 3))) (pg_sub (pv 2) (pv 8) set_list)))) pss_nil)))
      (pss_one (ps_set (i := 3) sc_elim.nd rfl (Or.inr rfl) (pv 6)))))))))
    (pss_one (ps_ret (pe_tup (pa_cons (pe_callTy (tupleOf9 K) (by rfl) mt boot_tuple (pa_cons (pe_lc (own := [("row", 13)]) (g := gName 13) (tt := tYes) rfl sc_elim.nd (lst9 K (pv 2)) (blkOk_by (N := nElim) (sc := defScope (top 62)) (by decide +kernel)) (fun _ _ _ _ _ => pg_name (i := 13) sc_elim.nd rfl (Or.inl rfl)) (fun _ _ _ _ _ => pts_nil)
      (fun _ _ _ _ _ => pe_callTy (tupleOf9 K) (by rfl) mt boot_tuple (pa_cons (pe_slice (sll9 K) (pv 13) (po_some (pv 1)) po_none) pa_nil))) pa_nil)) (pa_cons (pv 3) pa_nil)))))))), ?_⟩
  obtain ⟨v, n, B, rfl, ⟨rows, ⟨t, rvs, rfl, ht, hrv⟩, aB⟩, dB, k⟩ := h
  have ln : rvs.length = n := by rw [hrv.len, aB.len, dB.len]
  have npos := dB.pos
  have nle := dB.le
  have hW : ∀ row ∈ augI n B, row ≠ [] := fun row hm e => by
    obtain ⟨i, hi⟩ := List.mem_iff_getElem?.mp hm
    have hlt : i < n := by
      have := (List.getElem?_eq_some_iff.mp hi).1
      simpa [augI, dB.len] using this
    obtain ⟨r, x, _, h2, h3, _⟩ := dB.aug hlt
    rw [hi] at h2
    cases h2
    have := congrArg List.length e
    simp [eI_len] at this
    omega
  refine ⟨_, rfl, t, rvs, rfl, .inr (SqT.of ht), ?_⟩
  -- work = ..
  have h62 := thousand_62 (show n ≤ 1000 by omega)
  refine ⟨_, rfl, (rvs.length : Int), rfl, by rw [ln]; exact h62.1, by rw [ln]; exact h62.2, fun D hD => ?_⟩
  rw [ln]
  refine map_itD walk_range' (fun i y H' => ∃ a row, y = .ref a ∧ a ≠ D ∧ (augI n B)[i]? = some row ∧ H' a = some (.lst (row.map V.int))) (fun i y H1 H2 bt h => let ⟨a, row, e1, e2, e3, e4⟩ := h; ⟨a, row, e1, e2, e3, bt _ _ e2 e4⟩) hD (fun _ _ => trivial)
    (by simp; exact Nat.le_trans nle sixteen_line) (fun i x H1 Q1 hi hx m q => ?_) (fun rs H1 s1 hw l1 l2 => ?_)
  · subst hx
    have hi : i < n := by simpa using hi
    obtain ⟨r, x, hr, haug, lr, _⟩ := dB.aug hi
    obtain ⟨cs, hcs, aR⟩ := aB.get hr
    obtain ⟨rv, hrv1, t', rfl, ht'⟩ := hrv.get hcs
    have hcr : cs = r.map V.int := row_isI aR
    subst hcr
    refine ⟨_, rfl, _, rfl, t, rvs, _, .ref t', rfl, rfl, SqT.of (m.same _ _ ht), by rw [Int.zero_add]; exact atI_nat hrv1, t', _, rfl, .inr (SqT.of (m.same _ _ ht')), fun l hl => ?_⟩
    -- [int(i == j) for j in range(size)]
    have s01 : Same H (upd H1 l (.lst (r.map V.int))) := Same.updT m.same (Same.free m.same hl)
    refine ⟨_, rfl, (n : Int), rfl, h62.1, h62.2, fun D2 hD2 => ?_⟩
    refine map_it walk_range' (fun j y _ => y = .int (if i = j then 1 else 0)) (fun _ _ _ _ _ h => h) hD2 (fun _ _ => trivial) (by simp; exact Nat.le_trans nle sixteen_line) (fun j x H2 Q2 hj hx m2 q2 => ?_) (fun ys H2 s2 hl1 hl2 hl3 => ?_)
    · subst hx
      refine ⟨_, rfl, _, rfl, rfl, .inr ⟨_, rfl, ?_⟩⟩
      refine q2 _ _ (Same.refl _) ?_
      show V.int (if decide (V.int (0 + (i : Int)) = V.int (0 + (j : Int))) = true then 1 else 0) = _
      by_cases hij : i = j
      · rw [if_pos hij, hij, if_pos (decide_eq_true rfl)]
      · have : ¬ V.int (0 + (i : Int)) = V.int (0 + (j : Int)) := fun e => hij (by have := V.int.inj e; omega)
        rw [if_neg hij, decide_eq_false this]
        rfl
    · have hys : ys = (eI n i).map V.int := by
        rw [list_ofFn hl2 hl3, eI, List.map_map]
        simp
      have hl2' : H2 l = some (.lst (r.map V.int)) := s2 _ _ upd_same
      refine ⟨l, D2, _, _, rfl, rfl, hl2', hl1, ?_, fun p hp => ?_⟩
      · rw [hys]; simp [eI_len, lr]; exact Nat.le_trans (by omega) thousand_line
      · have s12 : Same H1 H2 := fun b o e => s2 b o (Same.upd hl b o e)
        have hpD : p ≠ D := by
          intro e
          obtain ⟨ys0, e1, _⟩ := m.ex
          rw [e, s12 _ _ e1] at hp
          cases hp
        refine q _ _ (Same.updT s12 (Same.free s12 hp)) ⟨p, _, rfl, hpD, haug, ?_⟩
        rw [upd_same, hys, List.map_append]
  · have hrows : RowsAt H1 D (augI n B) := ⟨rs, hw, by rw [l1]; simp [augI, dB.len], fun i v row e1 e2 => by
      obtain ⟨a, row', h1, _, h2, h3⟩ := l2 i v e1
      rw [e2] at h2
      cases h2
      exact ⟨a, h1, h3⟩⟩
    have hD0 : H D = none := hD
    have none_cast : ((n : Int)).toNat = n := by simp
    refine ⟨_, rfl, (n : Int), rfl, h62.1, h62.2, ?_⟩
    rw [none_cast]
    refine for_range (lo := 0) (n := n) (fun k σ H' => ∃ (last : Int) (o4 o5 o6 o7 o8 o9 : Option V), σ = [some (.ref t), some (.int n), some (.ref D), some (.int last), o4, o5, o6, o7, o8, o9, none, none, none, none] ∧
      last = (if k = 0 then 1 else ((augI n B).getD (k - 1) []).getD (k - 1) 0) ∧ Same H H' ∧ RowsAt H' D (augI n B)) ⟨1, none, none, none, none, none, none, rfl, rfl, s1, hrows⟩ ?_ ?_
    · rintro k0 σ H2 hk ⟨last, o4, o5, o6, o7, o8, o9, rfl, hlast, s2, hR2⟩
      obtain ⟨rk, xk, hrk, haugk, lrk, hxk, hx0, hx1⟩ := dB.aug hk
      have haugx : (rk ++ eI n k0)[k0]? = some xk := by rw [List.getElem?_append_left (by omega)]; exact hxk
      -- free
      refine ⟨_, rfl, _, rfl, ((0 : Int) + (k0 : Nat)), (n : Int), rfl, ⟨by have := h62.1; omega, by have := h62.2; omega, h62.1, h62.2⟩, fun F hF => ?_⟩
      have hcnt : ((n : Int) - ((0 : Int) + (k0 : Nat))).toNat = n - k0 := by omega
      rw [hcnt]
      -- a number of the table
      have cell : ∀ (H3 : Hp) (i : Nat), Same H2 H3 → i < n → ∃ (rs3 : List V) (a : Addr) (row : List Int) (z : Int), H3 D = some (.lst rs3) ∧ rs3[i]? = some (.ref a) ∧ H3 a = some (.lst (row.map V.int)) ∧ (augI n B)[i]? = some row ∧ row[k0]? = some z ∧ (row.map V.int)[k0]? = some (.int z) ∧ (i = k0 → z = xk) ∧ (i ≠ k0 → z = 0) := by
        intro H3 i s3 hi
        obtain ⟨rs3, h1, h2⟩ := RowsAt.same s3 hR2
        obtain ⟨r, x, hr, haug, lr, _⟩ := dB.aug hi
        obtain ⟨v, hv, a, rfl, ha⟩ := h2.get haug
        have hz : r[k0]? = some r[k0] := List.getElem?_eq_getElem (by omega)
        have hz2 : (r ++ eI n i)[k0]? = some r[k0] := by rw [List.getElem?_append_left (by omega)]; exact hz
        refine ⟨rs3, a, _, _, h1, hv, ha, haug, hz2, by rw [List.getElem?_map, hz2]; rfl, fun e => ?_, fun e => ?_⟩
        · subst e
          rw [hrk] at hr
          cases hr
          rw [hxk] at hz
          exact (Option.some.inj hz).symm
        · have := dB.off i k0 r hr (fun q => e q.symm) hk
          rw [this] at hz
          exact (Option.some.inj hz).symm
      refine lc_it walk_range' (fun i H' => Same H2 H' ∧ ∃ ns : List Int, H' F = some (.lst (ns.map V.int)) ∧ (0 < i → ns[0]? = some (k0 : Int)) ∧ ns.length ≤ i) ⟨Same.upd hF, [], upd_same, fun z => absurd z (by omega), Nat.le_refl _⟩ (fun _ _ _ _ => trivial) ?_ ?_
      · rintro i x H3 H3' hi ⟨s3, ns, e1, e2, e3⟩ ⟨rfl, rfl⟩
        obtain ⟨rs3, a, row, z, c1, c2, c3, c4, c5, c6, c7, c8⟩ := cell H3' (k0 + i) s3 (by omega)
        have eix : (0 : Int) + (k0 : Nat) + (i : Nat) = ((k0 + i : Nat) : Int) := by omega
        refine ⟨rfl, _, rfl, _, rfl, D, rs3, _, .ref a, rfl, rfl, SqL.of c1, by rw [eix]; exact atI_nat c2, _, rfl, a, _, _, .int z, rfl, rfl, SqL.of c3, by rw [Int.zero_add]; exact atI_nat c6, rfl, _, rfl, ?_⟩
        refine ite2 (fun hb => ?_) (fun hb => ?_)
        · refine ⟨_, rfl, ns.map V.int, e1, by rw [List.length_map]; exact Nat.lt_of_le_of_lt e3 (Nat.lt_of_lt_of_le (show i < 1000 by omega) thousand_line), Same.updT s3 hF, ns ++ [(0 : Int) + (k0 : Nat) + (i : Nat)], ?_, fun _ => ?_, by simp; omega⟩
          · rw [upd_same, List.map_append]; rfl
          · by_cases h0 : 0 < i
            · have hl : 0 < ns.length := (List.getElem?_eq_some_iff.mp (e2 h0)).1
              rw [List.getElem?_append_left hl]
              exact e2 h0
            · have : i = 0 := by omega
              subst this
              have : ns = [] := List.length_eq_zero_iff.mp (by omega)
              subst this
              simp
        · refine ⟨s3, ns, e1, fun _ => ?_, by omega⟩
          by_cases h0 : 0 < i
          · exact e2 h0
          · have : i = 0 := by omega
            subst this
            exfalso
            refine hb ?_
            have hzx := c7 rfl
            rw [hzx, decide_eq_false (fun e => hx0 (V.int.inj e))]
            rfl
      · rintro H3 ⟨s3, ns, e1, e2, e3⟩
        have hn0 : ns[0]? = some (k0 : Int) := e2 (by omega)
        have hmap0 : (ns.map V.int)[0]? = some (.int (k0 : Int)) := by rw [List.getElem?_map, hn0]; rfl
        have hne : (ns.map V.int).isEmpty = false := by
          cases ns with
          | nil => simp at hn0
          | cons a l => rfl
        -- if free == []
        refine ⟨_, rfl, Nat.zero_le _, fun p hp => ⟨F, p, _, rfl, rfl, SqL.of (Same.upd hp _ _ e1), SqL.of upd_same, _, rfl, ?_⟩⟩
        rw [hne]
        refine iteF ?_
        have s4 : Same H2 (upd H3 p (.lst [])) := Same.updT s3 (Same.free s3 hp)
        have e4 : (upd H3 p (.lst [])) F = some (.lst (ns.map V.int)) := Same.upd hp _ _ e1
        generalize upd H3 p (.lst []) = H4 at *
        have ek0 : (0 : Int) + (k0 : Nat) = ((k0 : Nat) : Int) := by omega
        have ixk : ∀ (m : Nat) (l : List V), m < l.length → ixN l.length ((0 : Int) + (m : Nat)) = some m := fun m l h => by
          unfold ixN
          rw [if_pos (by omega), if_pos (by omega)]
          exact congrArg some (by omega)
        have nrow : ∀ row ∈ augI n B, row.length = n + n := fun row hm => by
          obtain ⟨i, hi⟩ := List.mem_iff_getElem?.mp hm
          have hlt : i < n := by
            have := (List.getElem?_eq_some_iff.mp hi).1
            simpa [augI, dB.len] using this
          obtain ⟨r, x, _, h2, h3, _⟩ := dB.aug hlt
          rw [hi] at h2
          cases h2
          simp [eI_len, h3]
        obtain ⟨rs4, a4, row4, z4, c1, c2, c3, c4, c5, c6, c7, c8⟩ := cell H4 k0 s4 hk
        have hz4 : z4 = xk := c7 rfl
        subst hz4
        have er4 : row4 = rk ++ eI n k0 := by rw [haugk] at c4; exact (Option.some.inj c4).symm
        have lr4 : k0 < rs4.length := (List.getElem?_eq_some_iff.mp c2).1
        have hset : rs4.set k0 (.ref a4) = rs4 := by
          refine List.ext_getElem? fun j => ?_
          by_cases hj : k0 = j
          · subst hj; rw [List.getElem?_set_self lr4, c2]
          · rw [List.getElem?_set_ne hj]
        refine ⟨_, rfl, _, rfl, F, _, 0, .int k0, rfl, rfl, SqL.of e4, atI_nat (j := 0) hmap0, D, rs4, (k0 : Int), .ref a4, rfl, rfl, SqL.of c1, atI_nat c2, ?_⟩
        refine ⟨_, rfl, _, rfl, D, rs4, _, .ref a4, rfl, rfl, SqL.of c1, by rw [ek0]; exact atI_nat c2, (by show 2 ≤ sizeLine; exact Nat.le_trans (by decide) thousand_line), fun p2 hp2 => ?_⟩
        have s5 : Same H2 (upd H4 p2 (.tup [.ref a4, .ref a4])) := Same.updT s4 (Same.free s4 hp2)
        have s45 : Same H4 (upd H4 p2 (.tup [.ref a4, .ref a4])) := Same.upd hp2
        have hp5 : (upd H4 p2 (.tup [.ref a4, .ref a4])) p2 = some (.tup [.ref a4, .ref a4]) := upd_same
        generalize upd H4 p2 (.tup [.ref a4, .ref a4]) = H5 at *
        have hD5 : H5 D = some (.lst rs4) := s45 _ _ c1
        have hid : upd H5 D (.lst rs4) = H5 := funext fun b => by
          by_cases hb : b = D
          · subst hb; rw [upd_same, hD5]
          · rw [upd_ne hb]
        refine ⟨p2, _, rfl, SqT.of hp5, rfl, .ref a4, [.ref a4], rfl, ?_⟩
        refine ⟨_, rfl, _, rfl, D, rs4, _, k0, rfl, rfl, hD5, ixk k0 rs4 lr4, ?_⟩
        rw [hset, hid]
        refine ⟨.ref a4, [], rfl, _, rfl, _, rfl, F, _, 0, .int k0, rfl, rfl, SqL.of (s45 _ _ e4), atI_nat (j := 0) hmap0, D, rs4, _, k0, rfl, rfl, hD5, by rw [← ek0]; exact ixk k0 rs4 lr4, ?_⟩
        rw [hset, hid]
        refine ⟨rfl, ?_⟩
        -- lead, main = ..
        refine ⟨_, rfl, _, rfl, D, rs4, _, .ref a4, rfl, rfl, SqL.of hD5, by rw [ek0]; exact atI_nat c2, _, rfl, a4, _, _, .int z4, rfl, rfl, SqL.of (s45 _ _ c3), by rw [ek0]; exact atI_nat c6, ?_⟩
        refine ⟨_, rfl, _, rfl, D, rs4, _, .ref a4, rfl, rfl, SqL.of hD5, by rw [ek0]; exact atI_nat c2, (by show 2 ≤ sizeLine; exact Nat.le_trans (by decide) thousand_line), fun p3 hp3 => ?_⟩
        refine ⟨p3, _, rfl, SqT.of upd_same, rfl, _, _, rfl, _, _, rfl, rfl, ?_⟩
        have s6 : Same H2 (upd H5 p3 (.tup [.int z4, .ref a4])) := Same.updT s5 (Same.free s5 hp3)
        have s56 : Same H5 (upd H5 p3 (.tup [.int z4, .ref a4])) := Same.upd hp3
        generalize upd H5 p3 (.tup [.int z4, .ref a4]) = H6 at *
        have aD : a4 ≠ D := fun e => by
          subst e
          rw [c1] at c3
          cases rs4 with
          | nil => simp at lr4
          | cons v l =>
            cases row4 with
            | nil => simp at c5
            | cons x l2 =>
              injection c3 with c3
              injection c3 with c3
              have e0 : v = .int x := by injection c3
              subst e0
              cases k0 with
              | zero => simp at c2
              | succ k =>
                obtain ⟨rs9, h1, h2⟩ := RowsAt.same s4 hR2
                rw [c1] at h1
                cases h1
                have h0 : 0 < (augI n B).length := by simp [augI, dB.len]; exact npos
                obtain ⟨v, hv, b, hb, _⟩ := h2.get (List.getElem?_eq_getElem h0)
                simp at hv
                subst hv
                cases hb
        have hlast1 : n ≠ 1 → last = 1 := fun hn => by
          rw [hlast]
          by_cases h0 : k0 = 0
          · rw [if_pos h0]
          · rw [if_neg h0]
            obtain ⟨r, x, h1, h2, lr, h3, _, h4⟩ := dB.aug (show k0 - 1 < n by omega)
            rw [List.getD_eq_getElem?_getD, List.getD_eq_getElem?_getD, h2, Option.getD_some, List.getElem?_append_left (by omega), h3]
            exact h4.resolve_left hn
        refine ⟨_, rfl, (n : Int), rfl, h62.1, h62.2, ?_⟩
        rw [none_cast]
        refine for_range (lo := 0) (n := n) (fun i σ H' => ∃ (o8 o9 : Option V), σ = [some (.ref t), some (.int n), some (.ref D), some (.int last), some (.int (0 + (k0 : Nat))), some (.ref F), some (.int z4), some (.ref a4), o8, o9, none, none, none, none] ∧
          Same H H' ∧ RowsAt H' D (augI n B) ∧ H' a4 = some (.lst (row4.map V.int))) ⟨o8, o9, rfl, Same.trans s2 s6, RowsAt.same s6 hR2, s56 _ _ (s45 _ _ c3)⟩ ?_ ?_
        · rintro i σ H7 hi ⟨o8, o9, rfl, s7, hR7, ha7⟩
          refine ⟨_, rfl, _, rfl, rfl, _, rfl, ?_⟩
          refine ite2 (fun hb => ?_) (fun hb => ?_)
          · have hik : i ≠ k0 := fun e => by
              subst e
              simp at hb
            have hn1 : n ≠ 1 := by omega
            have hl1 := hlast1 hn1
            have hz1 := hx1.resolve_left hn1
            subst hl1
            subst hz1
            obtain ⟨rs7, hw7, al7⟩ := hR7
            obtain ⟨r, x, hr, haug, lr, _⟩ := dB.aug hi
            obtain ⟨v, hv, ai, rfl, hai⟩ := al7.get haug
            have hzr : r[k0]? = some 0 := dB.off i k0 r hr (fun q => hik q.symm) hk
            have hz2 : (r ++ eI n i)[k0]? = some 0 := by rw [List.getElem?_append_left (by omega)]; exact hzr
            have hz3 : ((r ++ eI n i).map V.int)[k0]? = some (.int 0) := by rw [List.getElem?_map, hz2]; rfl
            have ei : (0 : Int) + (i : Nat) = ((i : Nat) : Int) := by omega
            refine ⟨_, rfl, _, rfl, D, rs7, _, .ref ai, rfl, rfl, SqL.of hw7, by rw [ei]; exact atI_nat hv, _, rfl, ai, _, _, .int 0, rfl, rfl, SqL.of hai, by rw [ek0]; exact atI_nat hz3, ?_⟩
            -- work[i] = [..]
            refine ⟨_, rfl, _, rfl, D, rs7, _, .ref ai, rfl, rfl, SqL.of hw7, by rw [ei]; exact atI_nat hv, _, rfl, ai, a4, _, _, rfl, .inl ⟨SqL.of hai, SqL.of ha7, fun D3 hD3 => ?_⟩⟩
            have lrr : (r ++ eI n i).length = n + n := nrow _ (List.mem_of_getElem? haug)
            have lr4' : row4.length = n + n := nrow _ (List.mem_of_getElem? c4)
            refine map_zip (by decide) (walk_zip' (by simp [lr4', eI_len, lr])) (fun j y _ => ∃ x, (r ++ eI n i)[j]? = some x ∧ y = .int x) (fun _ _ _ _ _ h => h) hD3 (fun _ s8 => ⟨SqL.of (s8 _ _ hai), SqL.of (s8 _ _ ha7)⟩) (by rw [List.length_map, lrr]; exact Nat.le_trans (by omega) thousand_line) (fun j u v H8 Q8 hu hv s8 q8 => ?_) (fun ys H8 s8 hl1 hl2 hl3 => ?_)
            · rw [List.getElem?_map] at hu hv
              obtain ⟨ui, hui, rfl⟩ := Option.map_eq_some_iff.mp hu
              obtain ⟨vi, hvi, rfl⟩ := Option.map_eq_some_iff.mp hv
              have bu : ui.natAbs < 2 ^ 9000 := by
                rcases List.mem_append.mp (List.mem_of_getElem? hui) with hm | hm
                · exact dB.bd r (List.mem_of_getElem? hr) _ hm
                · unfold eI at hm
                  obtain ⟨j, _, rfl⟩ := List.mem_map.mp hm
                  have : (1 : Nat) < 2 ^ 9000 := Nat.one_lt_two_pow (by decide)
                  split <;> simp <;> omega
              have bv : vi.natAbs < 2 ^ 9000 := by
                rw [er4] at hvi
                rcases List.mem_append.mp (List.mem_of_getElem? hvi) with hm | hm
                · exact dB.bd rk (List.mem_of_getElem? hrk) _ hm
                · unfold eI at hm
                  obtain ⟨j, _, rfl⟩ := List.mem_map.mp hm
                  have : (1 : Nat) < 2 ^ 9000 := Nat.one_lt_two_pow (by decide)
                  split <;> simp <;> omega
              refine ⟨_, rfl, _, rfl, _, _, rfl, rfl, wide_mul (a := 1) (by decide) bu (by decide) (by decide) (by decide), ?_⟩
              refine ⟨_, rfl, _, rfl, _, _, rfl, rfl, wide_mul (a := 1) (by decide) bv (by decide) (by decide) (by decide), ?_⟩
              refine ⟨_, _, rfl, rfl, _, rfl, _, _, rfl, rfl, ⟨by decide, by decide⟩, q8 _ _ (Same.refl _) ⟨ui, hui, ?_⟩⟩
              refine congrArg V.int ?_
              rw [Int.one_mul, Int.zero_mul, Int.sub_zero, Int.fdiv_one]
            · have hys : ys = (r ++ eI n i).map V.int := by
                refine row_isI ⟨by rw [hl2]; simp, fun j y x e1 e2 => ?_⟩
                obtain ⟨x', h1, h2⟩ := hl3 j y e1
                rw [e2] at h1
                cases h1
                exact h2
              have li : i < rs7.length := (List.getElem?_eq_some_iff.mp hv).1
              refine ⟨_, rfl, _, rfl, D, rs7, _, i, rfl, rfl, s8 _ _ hw7, ixk i rs7 li, ?_⟩
              have s78 : Same H H8 := Same.trans s7 s8
              refine ⟨some (.int (0 + (i : Nat))), some (.int 0), rfl, Same.updT s78 hD0, RowsAt.put (s8 _ _ hw7) (al7.imp fun _ _ ⟨a, e, h⟩ => ⟨a, e, s8 _ _ h⟩) hW haug (by rw [hl1, hys]), by rw [upd_ne aD]; exact s8 _ _ ha7⟩
          · exact ⟨_, o9, rfl, s7, hR7, ha7⟩
        · rintro σ H7 ⟨o8, o9, rfl, s7, hR7, ha7⟩
          refine ⟨_, rfl, z4, _, _, _, _, _, _, rfl, ?_, s7, hR7⟩
          rw [if_neg (by omega), Nat.add_sub_cancel, List.getD_eq_getElem?_getD, List.getD_eq_getElem?_getD, haugk, Option.getD_some, haugx]
          rfl
    · rintro σ H2 ⟨last, o4, o5, o6, o7, o8, o9, rfl, hlast, s2, hR2⟩
      obtain ⟨rs2, hw2, al2⟩ := hR2
      have lrs : rs2.length = n := by rw [al2.len]; simp [augI, dB.len]
      refine ⟨_, rfl, D, rfl, ⟨_, SqL.of hw2⟩, fun D3 hD3 => ?_⟩
      refine tup_it (walk_list' (xs := rs2)) (fun i y H' => ∃ t', y = .ref t' ∧ H' t' = some (.tup ((eI n i).map V.int))) (fun i y H1 H2 im h => let ⟨t', e, h1⟩ := h; ⟨t', e, im _ _ rfl h1⟩) hD3 (fun _ s3 => SqL.of (s3 _ _ hw2)) (by rw [lrs]; exact Nat.le_trans nle sixteen_line) (fun i x H3 Q3 hi hx s3 q3 => ?_) (fun l ys H3 s3 hl1 hl2 hl3 => ?_)
      · obtain ⟨row, hrow, a, rfl, ha⟩ := al2.get' hx
        obtain ⟨r, x, _, haug, lr, _⟩ := dB.aug (show i < n by omega)
        rw [hrow] at haug
        cases haug
        refine ⟨_, rfl, _, rfl, _, rfl, a, _, rfl, SqL.of (s3 _ _ ha), fun p hp => ⟨p, _, rfl, .inl ⟨SqL.of upd_same, fun l hl => ?_⟩⟩⟩
        refine q3 _ _ (Same.trans (Same.upd hp) (Same.upd hl)) ⟨l, rfl, ?_⟩
        rw [upd_same]
        refine congrArg (fun z => some (HO.tup z)) ?_
        unfold cutV
        have hlen : ((r ++ eI n i).map V.int).length = n + n := by simp [eI_len, lr]
        rw [hlen, HT.sIx_nat, HT.sIx_none, show min n (n + n) = n by omega, List.map_append, List.drop_append_of_le_length (by simp [lr]), List.drop_eq_nil_of_le (by simp [lr]), List.nil_append]
        exact List.take_of_length_le (by simp [eI_len])
      · refine ⟨_, rfl, (by show 2 ≤ sizeLine; exact Nat.le_trans (by decide) thousand_line), fun p hp => ?_⟩
        have s03 : Same H H3 := Same.trans s2 s3
        have elast : last = lastI n B := by
          rw [hlast, if_neg (by omega)]
          obtain ⟨r, x, h1, h2, lr, h3, _⟩ := dB.aug (show n - 1 < n by omega)
          unfold lastI
          rw [List.getD_eq_getElem?_getD, List.getD_eq_getElem?_getD, h2, Option.getD_some, List.getElem?_append_left (by omega), h3]
          simp [h1, h3]
        subst elast
        refine k _ _ (Same.updT s03 (Same.free s03 hp)) ⟨p, _, rfl, upd_same, ?_⟩
        refine ⟨(idI n).map (·.map V.int), ⟨l, ys, rfl, Same.upd hp _ _ hl1, ?_⟩, ?_⟩
        · refine Al.mk_map (by rw [hl2, lrs]; simp [idI]) fun i y r e1 e2 => ?_
          obtain ⟨t', e3, e4⟩ := hl3 i y e1
          have hi : i < n := by
            have := (List.getElem?_eq_some_iff.mp e2).1
            simpa [idI] using this
          unfold idI at e2
          rw [List.getElem?_map, List.getElem?_range hi] at e2
          cases e2
          exact ⟨t', e3, Same.upd hp _ _ e4⟩
        · refine Al.map_of fun r _ => Al.map_of fun x _ => rfl
end
end K9

/-! ## F11 -/
namespace K9
open PySem PySem.Spec PyProof.Rows L2
/-! Matrix: rules and are_entries. -/
/-- o.f as a target -/
def gFld (K : PySem.W.Frag) (to : TE) (f : Str) : TG := fun v σ H Q => to σ H fun x H2 => ∃ a C dx fs, x = .ref a ∧ H2 a = some (.ins C dx fs) ∧ Cls K C ∧ NoAttr K C f ∧ fs.length < 1000 ∧ Q σ (upd H2 a (.ins C dx (putF f v fs)))
theorem pg_fld {X : Cx} {o : Expr} {f : Str} {pos : Pos} {to : TE} (ho : PE X o to) : PG X (.Attribute o f pos) (gFld X.K to f) := by
  refine ⟨fun pins s σ H v u Q I r h => ?_⟩
  show wpAny (model X.prog X.w) X.A (do
      let ov ← holding [u] (eval o X.env)
      standAt pos.atName
      holding [u, ov] (setAttr ov f u)
      release [u, ov] []) _ X.xe s
  refine wpAny_bind (wpAny_holding (thn (ho.run pins s σ H _ I h) fun ov s1 ⟨x, H1, I1, rx, a, C, dx, fs, ex, ea, c, n, l, q⟩ => ?_))
  subst ex
  obtain rfl : ov = Value.ref a := rx
  exact wpAny_bind (wpAny_standAt (wpAny_bind (wpAny_holding (setattr_ok I1 ea c n l r fun s3 I3 => wpAny_release ⟨σ, _, I3, q⟩))))
section
variable {α : Type} {R : Hp → V → α → Prop}
/-- the number at place j of a row -/
def CellR (R : Hp → V → α → Prop) (row : List α) (j : Nat) (y : V) (H : Hp) : Prop := ∃ x, row[j]? = some x ∧ R H y x
/-- the row at place i of a table -/
def RowR (R : Hp → V → α → Prop) (tb : List (List α)) (j : Nat) (y : V) (H : Hp) : Prop := ∃ t' cs row, y = .ref t' ∧ tb[j]? = some row ∧ H t' = some (.tup cs) ∧ Al (R H) cs row
theorem CellR.imm (hm : ∀ v x H H', Imm H H' → R H v x → R H' v x) {row : List α} (j : Nat) (y : V) (H H' : Hp) (i : Imm H H') (h : CellR R row j y H) : CellR R row j y H' := by
  obtain ⟨x, e, h⟩ := h
  exact ⟨x, e, hm _ _ _ _ i h⟩
theorem RowR.imm (hm : ∀ v x H H', Imm H H' → R H v x → R H' v x) {tb : List (List α)} (j : Nat) (y : V) (H H' : Hp) (i : Imm H H') (h : RowR R tb j y H) : RowR R tb j y H' := by
  obtain ⟨t', cs, row, e1, e2, e3, e4⟩ := h
  exact ⟨t', cs, row, e1, e2, i _ _ rfl e3, e4.imp fun v x => hm v x _ _ i⟩
theorem row_fin {row : List α} {tb : List (List α)} {i l : Nat} {ys : List V} {H' : Hp} (hr : tb[i]? = some row) (h1 : H' l = some (.tup ys)) (h2 : ys.length = row.length) (h3 : ∀ j y, ys[j]? = some y → CellR R row j y H') : RowR R tb i (.ref l) H' :=
  ⟨l, ys, row, rfl, hr, h1, h2, fun j v x e1 e2 => by
    obtain ⟨x', e3, e4⟩ := h3 j v e1
    rw [e2] at e3
    cases e3
    exact e4⟩
theorem tab_fin {tb : List (List α)} {l : Nat} {ys : List V} {H' : Hp} (h1 : H' l = some (.tup ys)) (h2 : ys.length = tb.length) (h3 : ∀ j y, ys[j]? = some y → RowR R tb j y H') : TabOf (R H') H' (.ref l) tb := by
  have key : ∀ j, j < tb.length → ∃ t' cs row, ys[j]? = some (V.ref t') ∧ tb[j]? = some row ∧ H' t' = some (.tup cs) ∧ Al (R H') cs row := fun j hj => by
    have hj2 : j < ys.length := by omega
    obtain ⟨t', cs, row, e1, e2, e3, e4⟩ := h3 j _ (List.getElem?_eq_getElem hj2)
    exact ⟨t', cs, row, by rw [List.getElem?_eq_getElem hj2, e1], e2, e3, e4⟩
  let css : List (List V) := (List.range tb.length).map fun j => if h : j < tb.length then (key j h).choose_spec.choose else []
  have hcss : ∀ (j : Nat) (h : j < tb.length), css[j]? = some (key j h).choose_spec.choose := fun j h => by
    show ((List.range tb.length).map _)[j]? = _
    rw [List.getElem?_map, List.getElem?_range h]
    simp [h]
  have lcss : css.length = tb.length := by simp [css]
  refine ⟨css, ⟨l, ys, rfl, h1, by rw [h2, lcss], fun j v cs e1 e2 => ?_⟩, lcss, fun j cs row e1 e2 => ?_⟩
  · have hj : j < tb.length := by rw [← lcss]; exact (List.getElem?_eq_some_iff.mp e2).1
    rw [hcss j hj] at e2
    cases e2
    obtain ⟨row, a, b, c, d⟩ := (key j hj).choose_spec.choose_spec
    rw [a] at e1
    cases e1
    exact ⟨_, rfl, c⟩
  · have hj : j < tb.length := by rw [← lcss]; exact (List.getElem?_eq_some_iff.mp e1).1
    rw [hcss j hj] at e1
    cases e1
    obtain ⟨row', a, b, c, d⟩ := (key j hj).choose_spec.choose_spec
    rw [b] at e2
    cases e2
    exact d
end
theorem nil_all {K : PySem.W.Frag} {σ : L2.St} {H : Hp} {D : Addr} {Q : VK} (h : rAll K [V.ref D] H Q) : tNil σ H fun xs H2 => rAll K (V.ref D :: xs) H2 Q := h
def spAreE (K : PySem.W.Frag) : Sp := fun vs H Q _ => ∃ v M n, vs = [v] ∧ TabOf (NumV K H) H v M ∧ M ≠ [] ∧ 0 < n ∧ (∀ r ∈ M, r.length = n) ∧ M.length ≤ 1000 ∧ n ≤ 1000 ∧ Pure (fun v' _ => v' = .bl true) H Q
section
variable {P : Program} {w : World} {K : PySem.W.Frag} {mg : Str → Option Value} {base : Heap}
abbrev nAreE : List Str := ["value", "row", "cell"]
theorem sc_areE : FnScope nAreE ["value"] (defScope (top 64)) := ⟨rfl, rfl, rfl, by decide +kernel, rfl, by decide +kernel, by decide +kernel⟩
theorem cal_are_entries (T : Txt K mg) : Cal P w K mg base 3 "are_entries" (spAreE K) [] := by
  refine cal_of T.d_are_entries sc_areE (fun _ _ _ _ _ _ us hl => match us, hl with | [_], _ => rfl) (fun vs H Q E h => ?_) (fun f cdv A outer s H vs Q E hr h => ?_)
  · obtain ⟨v, M, n, rfl, _⟩ := h; rfl
  have mi := nofree T (x := "isinstance") (by decide +kernel)
  have mt := nofree T (x := "tuple") (by decide +kernel)
  have ml := nofree T (x := "len") (by decide +kernel)
  have ma := nofree T (x := "all") (by decide +kernel)
  refine ⟨_, pss_cons (ps_if (PW.pt (pw_or (pt_not (pt_val (pe_callB call_isi (by rfl) mi boot_isi (pa_cons (pv 0) (pa_cons (pe_bltn (v := .ty "tuple") (by rfl) mt boot_tuple rfl) pa_nil))))) (pw_or1 (pt_cmpR (eqT09 K hr.units0) (pv 0) (pe_tup pa_nil) (nomark _))))) (pss_one ps_never) pss_nil)
    (pss_cons (ps_for PassesOwn.never rfl (tup9 K (pv 0)) (pg_name (i := 1) sc_areE.nd rfl (Or.inl rfl))
      (pss_one (ps_if (PW.pt (pw_or (pt_not (pt_val (pe_callB call_isi (by rfl) mi boot_isi (pa_cons (pv 1) (pa_cons (pe_bltn (v := .ty "tuple") (by rfl) mt boot_tuple rfl) pa_nil))))) (pw_or (pt_cmpR (eqT09 K hr.units0) (pv 1) (pe_tup pa_nil) (nomark _))
        (pw_or1 (pt_not (pt_val (pe_callB (all9 K) (by rfl) ma boot_all (pa_cons (pe_lc (own := [("cell", 2)]) (g := gName 2) (tt := tYes) rfl sc_areE.nd (tup9 K (pv 1)) (blkOk_by (N := nAreE) (sc := defScope (top 64)) (by decide +kernel)) (fun _ _ _ _ _ => pg_name (i := 2) sc_areE.nd rfl (Or.inl rfl)) (fun _ _ _ _ _ => pts_nil)
          (fun _ _ _ _ _ => pe_c (cal_is_number T) hr (pa_cons (pv 2) pa_nil))) pa_nil)))))))) (pss_one ps_never) pss_nil)))
    (pss_one (ps_ret (pe_callB (all9 K) (by rfl) ma boot_all (pa_cons (pe_lc (own := [("row", 1)]) (g := gName 1) (tt := tYes) rfl sc_areE.nd (tup9 K (pv 0)) (blkOk_by (N := nAreE) (sc := defScope (top 64)) (by decide +kernel)) (fun _ _ _ _ _ => pg_name (i := 1) sc_areE.nd rfl (Or.inl rfl)) (fun _ _ _ _ _ => pts_nil)
          (fun _ _ _ _ _ => pe_cmpR op_eq (pe_callB (len9 K) (by rfl) ml PySem.boot_len (pa_cons (pv 1) pa_nil)) (pe_callB (len9 K) (by rfl) ml PySem.boot_len (pa_cons (pe_ix (ixT9 K) (pv 0) pe_int (fun _ _ => rfl)) pa_nil)) (nomark _))) pa_nil))))), ?_⟩
  obtain ⟨v, M, n, rfl, ⟨rows, ⟨t, rvs, rfl, ht, hrv⟩, aM⟩, hne, hn0, hn, lM, ln, k⟩ := h
  obtain ⟨r0, hr0⟩ : ∃ r0, M[0]? = some r0 := by
    cases M with
    | nil => exact absurd rfl hne
    | cons a l => exact ⟨a, rfl⟩
  obtain ⟨cs0, hcs0, aR0⟩ := aM.get hr0
  obtain ⟨rv0, hrv0, t0, rfl, ht0⟩ := hrv.get hcs0
  have lcs0 : cs0.length = n := by rw [aR0.len]; exact hn r0 (List.mem_of_getElem? hr0)
  refine ⟨_, rfl, _, _, _, _, _, rfl, .ty _, .base (.tup ht), kit_tt, _, rfl, iteF ?_⟩
  refine ⟨_, rfl, Nat.zero_le _, fun p hp => ⟨t, p, rvs, rfl, rfl, SqT.of (Same.upd hp _ _ ht), SqT.of upd_same, _, rfl, ?_⟩⟩
  have hem : rvs.isEmpty = false := by
    cases rvs with
    | nil => simp at hrv0
    | cons a l => rfl
  rw [hem]
  refine iteF ?_
  have s0 : Same H (upd H p (.tup [])) := Same.upd hp
  generalize upd H p (.tup []) = H1 at *
  refine ⟨_, rfl, t, rfl, ⟨_, SqT.of (s0 _ _ ht)⟩, for_tup (xs := rvs) (fun i σ H' => ∃ o1, σ = [some (.ref t), o1, none] ∧ Same H H') ⟨none, rfl, s0⟩ (fun i σ H' _ ⟨_, _, s⟩ => SqT.of (s _ _ ht)) ?_ ?_⟩
  · rintro i x σ H2 hx ⟨o1, rfl, s2⟩
    obtain ⟨cs, hcs, t', rfl, ht'⟩ := hrv.get' hx
    obtain ⟨row, hrow, aR⟩ := aM.get' hcs
    have lcs : cs.length = n := by rw [aR.len]; exact hn row (List.mem_of_getElem? hrow)
    refine ⟨_, rfl, _, _, _, _, _, rfl, .ty _, .base (.tup (s2 _ _ ht')), kit_tt, _, rfl, iteF ?_⟩
    refine ⟨_, rfl, Nat.zero_le _, fun p2 hp2 => ⟨t', p2, cs, rfl, rfl, SqT.of (Same.upd hp2 _ _ (s2 _ _ ht')), SqT.of upd_same, _, rfl, ?_⟩⟩
    have hem2 : cs.isEmpty = false := by
      cases cs with
      | nil => simp at lcs; omega
      | cons a l => rfl
    rw [hem2]
    refine iteF ?_
    have s3 : Same H (upd H2 p2 (.tup [])) := Same.updT s2 (Same.free s2 hp2)
    generalize upd H2 p2 (.tup []) = H3 at *
    refine ⟨_, rfl, t', rfl, ⟨_, SqT.of (s3 _ _ ht')⟩, fun D hD => ?_⟩
    refine map_it (walk_tup' (xs := cs)) (fun _ y _ => y = .bl true) (fun _ _ _ _ _ h => h) hD (fun _ s4 => SqT.of (s4 _ _ (s3 _ _ ht'))) (by rw [lcs]; exact Nat.le_trans ln thousand_line) (fun j x H4 Q4 hj hx m q => ?_) (fun ys H4 s4 hl1 hl2 hl3 => ?_)
    · obtain ⟨c, hc, hN⟩ := aR.get' hx
      have hN2 : NumV K H4 x c := hN.imm (Same.imm (Same.trans s3 m.same))
      exact ⟨_, rfl, .inl ⟨x, c, rfl, hN2, q _ _ (Same.refl _) rfl⟩⟩
    · refine nil_all (rd_all hl1 hl3 ?_)
      exact ⟨_, rfl, iteF ⟨_, rfl, Same.trans s3 s4⟩⟩
  · rintro σ H2 ⟨o1, rfl, s2⟩
    refine ⟨_, rfl, t, rfl, ⟨_, SqT.of (s2 _ _ ht)⟩, fun D hD => ?_⟩
    refine map_it (walk_tup' (xs := rvs)) (fun _ y _ => y = .bl true) (fun _ _ _ _ _ h => h) hD (fun _ s4 => SqT.of (s4 _ _ (s2 _ _ ht))) (by rw [hrv.len, aM.len]; exact Nat.le_trans lM thousand_line) (fun j x H4 Q4 hj hx m q => ?_) (fun ys H4 s4 hl1 hl2 hl3 => ?_)
    · obtain ⟨cs, hcs, t', rfl, ht'⟩ := hrv.get' hx
      obtain ⟨row, hrow, aR⟩ := aM.get' hcs
      have lcs : cs.length = n := by rw [aR.len]; exact hn row (List.mem_of_getElem? hrow)
      have s5 : Same H H4 := Same.trans s2 m.same
      refine ⟨_, rfl, t', cs, rfl, .inr (SqT.of (s5 _ _ ht')), _, rfl, t, rvs, 0, _, rfl, rfl, SqT.of (s5 _ _ ht), atI_nat (j := 0) hrv0, t0, cs0, rfl, .inr (SqT.of (s5 _ _ ht0)), rfl, ?_⟩
      refine q _ _ (Same.refl _) ?_
      rw [lcs, lcs0, decide_eq_true rfl]
    · exact rd_all hl1 hl3 (k _ _ (Same.trans s2 s4) rfl)
end
end K9

/-! ## F12 -/
namespace K9
open PySem PySem.Spec PyProof.Rows L2
/-! Matrix: making. -/
structure MatB (m n b : Nat) (M : List (List Rat)) : Prop where
  m0 : 0 < m
  m1 : m ≤ 16
  n0 : 0 < n
  n1 : n ≤ 16
  len : M.length = m
  wid : ∀ r ∈ M, r.length = n
  bd : ∀ r ∈ M, ∀ x ∈ r, BdR b x
theorem lcmL_le {b k : Nat} {row : List Rat} (h : ∀ x ∈ row, x.den ≤ 2 ^ b) : lcmL k row ≤ k * 2 ^ (b * row.length) := by
  induction row generalizing k with
  | nil => simp [lcmL]
  | cons r l ih =>
    have h1 := ih (k := Nat.lcm k r.den) fun x hx => h x (List.mem_cons_of_mem _ hx)
    have h2 : Nat.lcm k r.den ≤ k * 2 ^ b := by
      by_cases h0 : k = 0
      · subst h0; simp [Nat.lcm]
      · refine Nat.le_trans (Nat.le_of_dvd (Nat.mul_pos (by omega) r.den_pos) (Nat.lcm_dvd (Nat.dvd_mul_right _ _) (Nat.dvd_mul_left _ _))) ?_
        exact Nat.mul_le_mul_left _ (h r List.mem_cons_self)
    refine Nat.le_trans h1 (Nat.le_trans (Nat.mul_le_mul_right _ h2) (Nat.le_of_eq ?_))
    rw [List.length_cons, Nat.mul_succ, Nat.pow_add, Nat.mul_assoc, Nat.mul_comm (2 ^ b)]
theorem lcmM_le {b n k : Nat} {M : List (List Rat)} (h : ∀ r ∈ M, r.length = n ∧ ∀ x ∈ r, x.den ≤ 2 ^ b) : lcmM k M ≤ k * 2 ^ (b * n * M.length) := by
  induction M generalizing k with
  | nil => simp [lcmM]
  | cons r l ih =>
    have h1 := ih (k := lcmL k r) fun x hx => h x (List.mem_cons_of_mem _ hx)
    have h2 := lcmL_le (k := k) (h r List.mem_cons_self).2
    rw [(h r List.mem_cons_self).1] at h2
    refine Nat.le_trans h1 (Nat.le_trans (Nat.mul_le_mul_right _ h2) (Nat.le_of_eq ?_))
    rw [List.length_cons, Nat.mul_succ, Nat.pow_add, Nat.mul_assoc, Nat.mul_comm (2 ^ (b * n))]
theorem MatB.den {m n b : Nat} {M : List (List Rat)} (h : MatB m n b M) : denM M < 2 ^ (m * n * b + 1) := by
  have h1 := lcmM_le (k := 1) (b := b) (n := n) (M := M) fun r hr => ⟨h.wid r hr, fun x hx => Nat.le_of_lt (h.bd r hr x hx).2⟩
  rw [h.len, Nat.one_mul] at h1
  have e : b * n * m = m * n * b := by rw [Nat.mul_comm, Nat.mul_comm b, Nat.mul_assoc]
  rw [e] at h1
  have h2 : 0 < 2 ^ (m * n * b) := Nat.two_pow_pos _
  rw [Nat.pow_succ]
  unfold denM
  omega
theorem MatB.ne {m n b : Nat} {M : List (List Rat)} (h : MatB m n b M) : M ≠ [] := fun e => by
  have := h.len
  have := h.m0
  rw [e] at *
  simp at *
  omega
theorem MatB.small {m n b : Nat} {M : List (List Rat)} (h : MatB m n b M) (l : m * n * b ≤ 8000) : denM M < 2 ^ 9000 ∧ b ≤ 8000 := by
  have h1 : b ≤ m * n * b := Nat.le_mul_of_pos_left _ (Nat.mul_pos h.m0 h.n0)
  exact ⟨Nat.lt_of_lt_of_le h.den (Nat.pow_le_pow_right (by decide) (by omega)), by omega⟩
def mFs (cv wv : V) (d : Nat) : List (Str × V) := putF "below" (.int d) (putF "wholes" wv (putF "cells" cv []))
theorem mFs_c (cv wv : V) (d : Nat) : (mFs cv wv d).lookup ("cells" : Str) = some cv := by
  unfold mFs
  rw [lookup_putF, if_neg (by decide +kernel), lookup_putF, if_neg (by decide +kernel), lookup_putF, if_pos rfl]
theorem mFs_w (cv wv : V) (d : Nat) : (mFs cv wv d).lookup ("wholes" : Str) = some wv := by
  unfold mFs
  rw [lookup_putF, if_neg (by decide +kernel), lookup_putF, if_pos rfl]
theorem mFs_b (cv wv : V) (d : Nat) : (mFs cv wv d).lookup ("below" : Str) = some (.int d) := by
  unfold mFs
  rw [lookup_putF, if_pos rfl]
/-- v is a Matrix with these numbers -/
def IsM (K : PySem.W.Frag) (H : Hp) (v : V) (M : List (List Rat)) : Prop := ∃ a dx cv wv, v = .ref a ∧ H a = some (.ins (cM K) dx (mFs cv wv (denM M))) ∧ TabOf (IsR K H) H cv M ∧ TabOf isI H wv (whM M)
theorem IsM.imm {K : PySem.W.Frag} {H H' : Hp} {v : V} {M : List (List Rat)} (i : Imm H H') (h : IsM K H v M) : IsM K H' v M := by
  obtain ⟨a, dx, cv, wv, e, h1, h2, h3⟩ := h
  exact ⟨a, dx, cv, wv, e, i _ _ rfl h1, h2.imm i fun _ _ h => h.imm i, h3.imm i fun _ _ h => h⟩
/-- all but x stays -/
def Off (x : Addr) (H H' : Hp) : Prop := ∀ b o, b ≠ x → H b = some o → H' b = some o
theorem Off.trans {x : Addr} {H H1 H2 : Hp} (a : Off x H H1) (b : Off x H1 H2) : Off x H H2 := fun c o n h => b c o n (a c o n h)
theorem Off.of_same {x : Addr} {H H' : Hp} (s : Same H H') : Off x H H' := fun b o _ h => s b o h
theorem Off.upd {x : Addr} {H : Hp} {o : HO} : Off x H (upd H x o) := fun b u n e => by rw [upd_ne n]; exact e
theorem TabV.off {H H' : Hp} {x C dx : Addr} {fs : List (Str × V)} {v : V} {rows : List (List V)} (hx : H x = some (.ins C dx fs)) (o : Off x H H') (h : TabV H v rows) : TabV H' v rows := by
  have k : ∀ t xs, H t = some (.tup xs) → H' t = some (.tup xs) := fun t xs ht => o t _ (fun e => by rw [e, hx] at ht; cases ht) ht
  obtain ⟨t, rvs, e, h1, h2⟩ := h
  exact ⟨t, rvs, e, k _ _ h1, h2.imp fun _ _ ⟨t', e, h⟩ => ⟨t', e, k _ _ h⟩⟩
theorem TabOf.off {α : Type} {R R' : V → α → Prop} {H H' : Hp} {x C dx : Addr} {fs : List (Str × V)} {v : V} {tb : List (List α)} (hx : H x = some (.ins C dx fs)) (o : Off x H H') (f : ∀ v x, R v x → R' v x) (h : TabOf R H v tb) : TabOf R' H' v tb := by
  obtain ⟨rows, h1, h2⟩ := h
  exact ⟨rows, h1.off hx o, h2.imp fun _ _ a => a.imp f⟩
theorem IsR.off {K : PySem.W.Frag} {H H' : Hp} {x C dx : Addr} {fs : List (Str × V)} {v : V} {r : Rat} (hx : H x = some (.ins C dx fs)) (hf : fs.lookup ("numerator_here" : Str) = none) (o : Off x H H') (h : IsR K H v r) : IsR K H' v r := by
  obtain ⟨a, dy, e, h⟩ := h
  refine ⟨a, dy, e, o _ _ (fun q => ?_) h⟩
  rw [q, hx] at h
  cases h
  rw [rFs_n] at hf
  cases hf
theorem IsM.off {K : PySem.W.Frag} {H H' : Hp} {x C dx : Addr} {fs : List (Str × V)} {v : V} {M : List (List Rat)} (hx : H x = some (.ins C dx fs)) (hf : fs.lookup ("numerator_here" : Str) = none) (hg : fs.lookup ("cells" : Str) = none) (o : Off x H H') (h : IsM K H v M) : IsM K H' v M := by
  obtain ⟨a, dy, cv, wv, e, h, h2, h3⟩ := h
  refine ⟨a, dy, cv, wv, e, o _ _ (fun q => ?_) h, h2.off hx o fun _ _ h => h.off hx hf o, h3.off hx o fun _ _ h => h⟩
  rw [q, hx] at h
  cases h
  rw [mFs_c] at hg
  cases hg
def spMatI (K : PySem.W.Frag) : Sp := fun vs H Q _ => ∃ x dx v M m n b, vs = [.ref x, v] ∧ TabOf (NumV K H) H v M ∧ MatB m n b M ∧ m * n * b ≤ 8000 ∧ H x = some (.ins (cM K) dx []) ∧
  ∀ H' cv wv, At1 H H' x (.ins (cM K) dx (mFs cv wv (denM M))) → TabOf (IsR K H') H' cv M → TabOf isI H' wv (whM M) → Q .non H'
section
variable {P : Program} {w : World} {K : PySem.W.Frag} {mg : Str → Option Value} {base : Heap}
abbrev nMat : List Str := ["self", "entries", "row", "cell"]
theorem sc_mInit : FnScope nMat ["self", "entries"] (defScope (inCls 65 0)) := ⟨rfl, rfl, rfl, by decide +kernel, rfl, by decide +kernel, by decide +kernel⟩
theorem mak_matrix (T : Txt K mg) : Mak P w K mg base 5 "Matrix" (cM K) (spMatI K) [] := by
  refine mak_of T.mInit sc_mInit (fun _ _ _ _ _ _ us hl => match us, hl with | [_, _], _ => rfl) (fun vs H Q E h => ?_) (fun f cdv A outer s H vs Q E hr h => ?_)
  · obtain ⟨x, dx, v, M, m, n, b, rfl, _⟩ := h; rfl
  have mt := nofree T (x := "tuple") (by decide +kernel)
  refine ⟨_, pss_cons (ps_if (pt_not (pt_val (pe_c (cal_are_entries T) hr (pa_cons (pv 1) pa_nil)))) (pss_one ps_never) pss_nil)
    (pss_cons (ps_fld (pv 0) (pe_callTy (tupleOf9 K) (by rfl) mt boot_tuple (pa_cons (pe_lc (own := [("row", 2)]) (g := gName 2) (tt := tYes) rfl sc_mInit.nd (tup9 K (pv 1)) (blkOk_by (N := nMat) (sc := defScope (inCls 65 0)) (by decide +kernel)) (fun _ _ _ _ _ => pg_name (i := 2) sc_mInit.nd rfl (Or.inl rfl)) (fun _ _ _ _ _ => pts_nil)
        (fun _ _ _ _ _ => pe_callTy (tupleOf9 K) (by rfl) mt boot_tuple (pa_cons (pe_lc (own := [("cell", 3)]) (g := gName 3) (tt := tYes) rfl sc_mInit.nd (tup9 K (pv 2)) (blkOk_by (N := nMat) (by kernel_rfl)) (fun _ _ _ _ _ => pg_name (i := 3) sc_mInit.nd rfl (Or.inl rfl)) (fun _ _ _ _ _ => pts_nil)
          (fun _ _ _ _ _ => pe_c (cal_as_ratio T) hr (pa_cons (pv 3) pa_nil))) pa_nil))) pa_nil)) rfl)
    (pss_one (ps_asg (pe_c (cal_whole T) hr (pa_cons (pe_fld (pv 0) rfl) pa_nil)) (gtup9 K (pgs_cons (pg_fld (pv 0)) (pgs_cons (pg_fld (pv 0)) pgs_nil)))))), ?_⟩
  obtain ⟨x, dx, v, M, m, n, b, rfl, ⟨rows, ⟨t, rvs, rfl, ht, hrv⟩, aM⟩, hM, hb, hx, k⟩ := h
  obtain ⟨hden, hb2⟩ := hM.small hb
  have hm1 := hM.m1
  have hn1 := hM.n1
  refine ⟨_, rfl, .ref t, M, n, rfl, ⟨rows, ⟨t, rvs, rfl, ht, hrv⟩, aM⟩, hM.ne, hM.n0, hM.wid, by have := hM.len; omega, by omega, fun v0 H0 s0 e0 => ?_⟩
  subst e0
  refine ⟨_, rfl, iteF ?_⟩
  refine ⟨_, rfl, t, rfl, ⟨_, SqT.of (s0 _ _ ht)⟩, fun D hD => ?_⟩
  have hR : ∀ v x H H', Imm H H' → IsR K H v x → IsR K H' v x := fun v x H H' i h => h.imm i
  refine tup_it (walk_tup' (xs := rvs)) (RowR (IsR K) M) (RowR.imm hR) hD (fun _ s2 => SqT.of (s2 _ _ (s0 _ _ ht)))
    (by rw [hrv.len, aM.len, hM.len]; exact Nat.le_trans (by omega) thousand_line) (fun i y H2 Q2 hi hy s2 q2 => ?_) (fun l ys H2 s2 hl1 hl2 hl3 => ?_)
  · obtain ⟨cs, hcs, t', rfl, ht'⟩ := hrv.get' hy
    obtain ⟨row, hrow, aR⟩ := aM.get' hcs
    have s02 : Same H H2 := Same.trans s0 s2
    refine ⟨_, rfl, t', rfl, ⟨_, SqT.of (s02 _ _ ht')⟩, fun D2 hD2 => ?_⟩
    refine tup_it (walk_tup' (xs := cs)) (CellR (IsR K) row) (CellR.imm hR) hD2 (fun _ s3 => SqT.of (s3 _ _ (s02 _ _ ht'))) (by rw [aR.len, hM.wid row (List.mem_of_getElem? hrow)]; exact Nat.le_trans (by omega) thousand_line) (fun j y H3 Q3 hj hy s3 q3 => ?_) (fun l3 ys3 H3 s3 hl1 hl2 hl3 => ?_)
    · obtain ⟨r, hr1, hN⟩ := aR.get' hy
      exact ⟨_, rfl, y, r, rfl, hN.imm (Same.imm (Same.trans s02 s3)), fun v' H' s' h' => q3 _ _ s' ⟨r, hr1, h'⟩⟩
    · exact q2 _ _ s3 (row_fin hrow hl1 (by rw [hl2, aR.len]) hl3)
  · have hT := tab_fin hl1 (by rw [hl2, hrv.len, aM.len]) hl3
    have s02 : Same H H2 := Same.trans s0 s2
    have hx2 := s02 _ _ hx
    refine ⟨_, rfl, x, _, dx, [], rfl, hx2, T.mNum.ni.own.cl, T.mNa _ (by decide +kernel), by decide, ?_⟩
    have o23 : Off x H2 (upd H2 x (.ins (cM K) dx (putF "cells" (.ref l) []))) := Off.upd
    have hx3 : (upd H2 x (.ins (cM K) dx (putF "cells" (.ref l) []))) x = some (.ins (cM K) dx (putF "cells" (.ref l) [])) := upd_same
    generalize upd H2 x (.ins (cM K) dx (putF "cells" (.ref l) [])) = H3 at *
    have o1 : Off x H H3 := Off.trans (Off.of_same s02) o23
    have hT1 : TabOf (IsR K H3) H3 (.ref l) M := hT.off hx2 o23 fun _ _ h => h.off hx2 rfl o23
    have hlk : (putF "cells" (V.ref l) []).lookup ("cells" : Str) = some (V.ref l) := by rw [lookup_putF, if_pos rfl]
    refine ⟨_, rfl, x, _, dx, _, _, rfl, hx3, T.mNum.ni.own.cl, T.mNa _ (by decide +kernel), hlk, ?_⟩
    refine ⟨_, M, rfl, hT1, by have := hM.len; omega, fun row hrow => ⟨by rw [hM.wid row hrow]; omega, fun r hr => Nat.lt_of_lt_of_le (hM.bd row hrow r hr).1 (Nat.pow_le_pow_right (by decide) (by omega))⟩, hden, fun v4 H4 s4 h4 => ?_⟩
    obtain ⟨t4, wv, rfl, ht4, hwv⟩ := h4
    have hx4 := s4 _ _ hx3
    refine ⟨t4, _, rfl, SqT.of ht4, rfl, wv, _, rfl, ?_⟩
    refine ⟨_, rfl, x, _, dx, _, rfl, hx4, T.mNum.ni.own.cl, T.mNa _ (by decide +kernel), (by show 1 < 1000; decide), ?_⟩
    refine ⟨_, _, rfl, _, rfl, x, _, dx, _, rfl, upd_same, T.mNum.ni.own.cl, T.mNa _ (by decide +kernel), (by show 2 < 1000; decide), rfl, ?_⟩
    have o4 : Off x H4 (upd (upd H4 x (.ins (cM K) dx (putF "wholes" wv (putF "cells" (.ref l) [])))) x (.ins (cM K) dx (mFs (.ref l) wv (denM M)))) := Off.trans Off.upd Off.upd
    refine k _ (.ref l) wv ⟨upd_same, Off.trans o1 (Off.trans (Off.of_same s4) o4)⟩ ?_ ?_
    · exact (hT1.imm (Same.imm s4) fun _ _ h => h.imm (Same.imm s4)).off hx4 o4 fun _ _ h => h.off hx4 (by rw [lookup_putF, if_neg (by decide +kernel)]; rfl) o4
    · exact hwv.off hx4 o4 fun _ _ h => h
/-- Matrix(v) -/
theorem mk_matrix {H1 : Hp} {v : V} {M : List (List Rat)} {m n b : Nat} {Q : VK} (hv : TabOf (NumV K H1) H1 v M) (hM : MatB m n b M) (hb : m * n * b ≤ 8000) (k : ∀ v H', Same H1 H' → IsM K H' v M → Q v H') :
    ∀ x dx, H1 x = none → H1 dx = none → dx ≠ x → spMatI K (.ref x :: [v]) (upd (upd H1 dx (.own x)) x (.ins (cM K) dx [])) (fun v H2 => v = .non ∧ Q (.ref x) H2) E0 := fun x dx hx hd hne => by
  have s1 : Same H1 (upd (upd H1 dx (.own x)) x (.ins (cM K) dx [])) := fun b u e => by
    rw [upd_ne (ne_of_none e hx), upd_ne (ne_of_none e hd)]; exact e
  exact ⟨x, dx, v, M, m, n, b, rfl, hv.imm (Same.imm s1) fun _ _ h => h.imm (Same.imm s1), hM, hb, upd_same, fun H' cv wv a h1 h2 => ⟨rfl, k _ H' (At1.same hx hd a) ⟨x, dx, cv, wv, rfl, a.at_, h1, h2⟩⟩⟩
end
end K9

/-! ## F13 -/
namespace K9
open PySem PySem.Spec PyProof.Rows L2
/-! Plain laws on tables of rationals. -/
theorem BdR.divInt {b : Nat} {p q : Int} (hq : q ≠ 0) (h1 : p.natAbs < 2 ^ b) (h2 : q.natAbs < 2 ^ b) : BdR b (Rat.divInt p q) := by
  refine ⟨?_, ?_⟩
  · rw [← fdiv_num hq]
    have hd : (Int.gcd p q : Int) ∣ p := Int.gcd_dvd_left p q
    have hd2 : (if 0 < q then (Int.gcd p q : Int) else -(Int.gcd p q : Int)) ∣ p := by split; exact hd; exact Int.neg_dvd.mpr hd
    rw [Int.fdiv_eq_ediv_of_dvd hd2, Int.natAbs_ediv_of_dvd hd2]
    exact Nat.lt_of_le_of_lt (Nat.div_le_self _ _) h1
  · rw [Rat.den_divInt, if_neg hq]
    exact Nat.lt_of_le_of_lt (Nat.div_le_self _ _) h2
theorem BdR.mono {b c : Nat} {r : Rat} (h : BdR b r) (l : b ≤ c) : BdR c r := ⟨Nat.lt_of_lt_of_le h.1 (Nat.pow_le_pow_right (by decide) l), Nat.lt_of_lt_of_le h.2 (Nat.pow_le_pow_right (by decide) l)⟩
theorem den_ne (x : Rat) : (x.den : Int) ≠ 0 := by have := x.den_pos; omega
theorem natAbs_mul_lt {a c : Int} {b d : Nat} (h1 : a.natAbs < 2 ^ b) (h2 : c.natAbs < 2 ^ d) : (a * c).natAbs < 2 ^ (b + d) := by
  rw [Int.natAbs_mul, Nat.pow_add]
  exact Nat.mul_lt_mul'' h1 h2
theorem BdR.mul {b c : Nat} {x y : Rat} (h : BdR b x) (g : BdR c y) : BdR (b + c) (x * y) := by
  have e : x * y = Rat.divInt (x.num * y.num) ((x.den : Int) * (y.den : Int)) := by
    rw [← Rat.divInt_mul_divInt, Rat.num_divInt_den, Rat.num_divInt_den]
  rw [e]
  refine BdR.divInt (Int.mul_ne_zero (den_ne x) (den_ne y)) (natAbs_mul_lt h.1 g.1) (natAbs_mul_lt (by have := h.2; omega) (by have := g.2; omega))
theorem BdR.add {b c : Nat} {x y : Rat} (h : BdR b x) (g : BdR c y) : BdR (b + c + 1) (x + y) := by
  have e : x + y = Rat.divInt (x.num * y.den + y.num * x.den) ((x.den : Int) * (y.den : Int)) := by
    rw [← Rat.divInt_add_divInt _ _ (den_ne x) (den_ne y), Rat.num_divInt_den, Rat.num_divInt_den]
  rw [e]
  have h1 := natAbs_mul_lt h.1 (show ((y.den : Int)).natAbs < 2 ^ c by have := g.2; omega)
  have h2 := natAbs_mul_lt g.1 (show ((x.den : Int)).natAbs < 2 ^ b by have := h.2; omega)
  have h3 := natAbs_mul_lt (show ((x.den : Int)).natAbs < 2 ^ b by have := h.2; omega) (show ((y.den : Int)).natAbs < 2 ^ c by have := g.2; omega)
  rw [Nat.add_comm c b] at h2
  have h4 := Int.natAbs_add_le (x.num * (y.den : Int)) (y.num * (x.den : Int))
  refine BdR.divInt (Int.mul_ne_zero (den_ne x) (den_ne y)) ?_ ?_ <;> rw [Nat.pow_succ] <;> omega
theorem BdR.neg {b : Nat} {x : Rat} (h : BdR b x) : BdR b (-x) := ⟨by rw [Rat.neg_num, Int.natAbs_neg]; exact h.1, by rw [Rat.neg_den]; exact h.2⟩
theorem BdR.int {b : Nat} {i : Int} (h : i.natAbs < 2 ^ b) (hb : 0 < b) : BdR b (i : Rat) := ⟨by rw [Rat.num_intCast]; exact h, by rw [Rat.den_intCast]; exact Nat.one_lt_two_pow (by omega)⟩
/-- a number over the whole table's one -/
theorem wh_one {x : Rat} {d : Nat} (h : x.den ∣ d) (hd : 0 < d) : Rat.divInt (x.num * ((d : Int) / (x.den : Int))) (d : Int) = x := by
  obtain ⟨k, rfl⟩ := h
  have hk : 0 < k := Nat.pos_of_mul_pos_left hd |> fun _ => by
    by_cases h0 : k = 0
    · subst h0; simp at hd
    · omega
  have e : (((x.den * k : Nat) : Int) / (x.den : Int)) = (k : Int) := by
    rw [Int.natCast_mul, Int.mul_ediv_cancel_left _ (den_ne x)]
  rw [e, Int.natCast_mul, Rat.divInt_mul_right (by omega), Rat.num_divInt_den]
def ofI (A : List (List Int)) (d : Int) : List (List Rat) := A.map fun r => r.map fun a => Rat.divInt a d
theorem den_dvd {M : List (List Rat)} {row : List Rat} {x : Rat} (hr : row ∈ M) (hx : x ∈ row) : x.den ∣ denM M := by
  obtain ⟨i, hi⟩ := List.mem_iff_getElem?.mp hr
  obtain ⟨j, hj⟩ := List.mem_iff_getElem?.mp hx
  refine Nat.dvd_trans ?_ (part_dvd hi (j + 1))
  rw [lcmL_succ hj]
  exact Nat.dvd_lcm_right _ _
theorem ofI_wh (M : List (List Rat)) : ofI (whM M) (denM M) = M := by
  unfold ofI whM
  rw [List.map_map]
  refine (List.map_congr_left fun row hr => ?_).trans (List.map_id _)
  show (row.map _).map _ = id row
  rw [List.map_map]
  refine (List.map_congr_left fun x hx => ?_).trans (List.map_id _)
  exact wh_one (den_dvd hr hx) (denM_pos M)
def addM (s : Int) (A B : List (List Rat)) : List (List Rat) := List.zipWith (List.zipWith fun x y => x + (s : Rat) * y) A B
def addI (s : Int) (d1 d2 : Int) (A B : List (List Int)) : List (List Int) := List.zipWith (List.zipWith fun a b => a * d2 + s * b * d1) A B
theorem addI_of (s : Int) {d1 d2 : Int} (h1 : d1 ≠ 0) (h2 : d2 ≠ 0) (A B : List (List Int)) : ofI (addI s d1 d2 A B) (d1 * d2) = addM s (ofI A d1) (ofI B d2) := by
  unfold ofI addI addM
  rw [List.map_zipWith, List.zipWith_map]
  congr 1
  funext r1 r2
  rw [List.map_zipWith, List.zipWith_map]
  congr 1
  funext a b
  have e : (s : Rat) * Rat.divInt b d2 = Rat.divInt (s * b) d2 := by
    have : (s : Rat) = Rat.divInt s 1 := by rw [← Rat.num_divInt_den (s : Rat), Rat.num_intCast, Rat.den_intCast]; rfl
    rw [this, Rat.divInt_mul_divInt, Int.one_mul]
  rw [e, Rat.divInt_add_divInt _ _ h1 h2]
theorem addM_wh (s : Int) (A B : List (List Rat)) : ofI (addI s (denM A) (denM B) (whM A) (whM B)) ((denM A : Int) * (denM B : Int)) = addM s A B := by
  have hA := denM_pos A
  have hB := denM_pos B
  rw [addI_of s (by omega) (by omega), ofI_wh, ofI_wh]
def sclM (q : Rat) (A : List (List Rat)) : List (List Rat) := A.map fun r => r.map fun x => q * x
theorem sclM_wh (q : Rat) (A : List (List Rat)) : ofI ((whM A).map fun r => r.map fun a => q.num * a) ((denM A : Int) * (q.den : Int)) = sclM q A := by
  have e : ofI ((whM A).map fun r => r.map fun a => q.num * a) ((denM A : Int) * (q.den : Int)) = sclM q (ofI (whM A) (denM A)) := by
    unfold ofI sclM
    rw [List.map_map, List.map_map]
    refine List.map_congr_left fun r _ => ?_
    show (r.map _).map _ = (r.map _).map _
    rw [List.map_map, List.map_map]
    refine List.map_congr_left fun a _ => ?_
    show Rat.divInt (q.num * a) ((denM A : Int) * (q.den : Int)) = q * Rat.divInt a (denM A)
    have : q * Rat.divInt a (denM A) = Rat.divInt q.num q.den * Rat.divInt a (denM A) := by rw [Rat.num_divInt_den]
    rw [this, Rat.divInt_mul_divInt, Int.mul_comm (denM A : Int)]
  rw [e, ofI_wh]
def dotR (r c : List Rat) : Rat := (List.zipWith (· * ·) r c).sum
def mulM (n : Nat) (A B : List (List Rat)) : List (List Rat) := A.map fun r => (tr 0 n B).map fun c => dotR r c
theorem divInt_sum {d : Int} (hd : d ≠ 0) (l : List Int) : Rat.divInt l.sum d = (l.map fun a => Rat.divInt a d).sum := by
  induction l with
  | nil => simp
  | cons a l ih =>
    rw [List.sum_cons, List.map_cons, List.sum_cons, ← ih, Rat.divInt_add_divInt _ _ hd hd, ← Int.add_mul, Rat.divInt_mul_right hd]
theorem dot_of {d1 d2 : Int} (h1 : d1 ≠ 0) (h2 : d2 ≠ 0) (r c : List Int) : Rat.divInt (dot r c) (d1 * d2) = dotR (r.map fun a => Rat.divInt a d1) (c.map fun a => Rat.divInt a d2) := by
  unfold dot dotR
  rw [divInt_sum (Int.mul_ne_zero h1 h2), List.map_zipWith, List.zipWith_map]
  congr 2
  funext a b
  rw [Rat.divInt_mul_divInt]
theorem tr_of {d : Int} (hd : d ≠ 0) (n : Nat) (B : List (List Int)) : tr 0 n (ofI B d) = (tr 0 n B).map fun c => c.map fun a => Rat.divInt a d := by
  unfold tr ofI
  rw [List.map_map]
  refine List.map_congr_left fun j _ => ?_
  show (B.map _).map _ = (B.map _).map _
  rw [List.map_map, List.map_map]
  refine List.map_congr_left fun r _ => ?_
  show (r.map _).getD j 0 = Rat.divInt (r.getD j 0) d
  rw [List.getD_eq_getElem?_getD, List.getD_eq_getElem?_getD, List.getElem?_map]
  cases r[j]? with
  | none => simp
  | some x => rfl
theorem mulM_wh (n : Nat) (A B : List (List Rat)) : ofI (mulI n (whM A) (whM B)) ((denM A : Int) * (denM B : Int)) = mulM n A B := by
  have hA : (denM A : Int) ≠ 0 := by have := denM_pos A; omega
  have hB : (denM B : Int) ≠ 0 := by have := denM_pos B; omega
  have e : ofI (mulI n (whM A) (whM B)) ((denM A : Int) * (denM B : Int)) = mulM n (ofI (whM A) (denM A)) (ofI (whM B) (denM B)) := by
    unfold mulM mulI
    rw [tr_of hB]
    unfold ofI
    rw [List.map_map, List.map_map]
    refine List.map_congr_left fun r _ => ?_
    show ((tr 0 n (whM B)).map _).map _ = (List.map _ _).map _
    rw [List.map_map, List.map_map]
    refine List.map_congr_left fun c _ => ?_
    exact dot_of hA hB r c
  rw [e, ofI_wh, ofI_wh]
/-! bounds and shapes -/
theorem MatB.mono {m n b c : Nat} {M : List (List Rat)} (h : MatB m n b M) (l : b ≤ c) : MatB m n c M := ⟨h.m0, h.m1, h.n0, h.n1, h.len, h.wid, fun r hr x hx => (h.bd r hr x hx).mono l⟩
theorem mem_zipWith {α β γ : Type} {f : α → β → γ} {l : List α} {k : List β} {z : γ} (h : z ∈ List.zipWith f l k) : ∃ x ∈ l, ∃ y ∈ k, z = f x y := by
  obtain ⟨i, hi⟩ := List.mem_iff_getElem?.mp h
  rw [List.getElem?_zipWith] at hi
  cases e1 : l[i]? with
  | none => rw [e1] at hi; simp at hi
  | some x =>
    cases e2 : k[i]? with
    | none => rw [e1, e2] at hi; simp at hi
    | some y =>
      rw [e1, e2] at hi
      exact ⟨x, List.mem_of_getElem? e1, y, List.mem_of_getElem? e2, (Option.some.inj hi).symm⟩
theorem MatB.add {m n b c : Nat} {A B : List (List Rat)} {s : Int} (hs : s = 1 ∨ s = -1) (h : MatB m n b A) (g : MatB m n c B) : MatB m n (b + c + 1) (addM s A B) := by
  refine ⟨h.m0, h.m1, h.n0, h.n1, by unfold addM; simp [h.len, g.len], fun r hr => ?_, fun r hr x hx => ?_⟩
  · obtain ⟨r1, h1, r2, h2, rfl⟩ := mem_zipWith hr
    simp [h.wid r1 h1, g.wid r2 h2]
  · obtain ⟨r1, h1, r2, h2, rfl⟩ := mem_zipWith hr
    obtain ⟨x1, k1, x2, k2, rfl⟩ := mem_zipWith hx
    refine BdR.add (h.bd r1 h1 x1 k1) ?_
    have h3 := g.bd r2 h2 x2 k2
    rcases hs with rfl | rfl
    · rw [show ((1 : Int) : Rat) = 1 from rfl, Rat.one_mul]; exact h3
    · rw [show ((-1 : Int) : Rat) = -1 from rfl, Rat.neg_mul, Rat.one_mul]; exact h3.neg
theorem MatB.scl {m n b c : Nat} {A : List (List Rat)} {q : Rat} (hq : BdR c q) (h : MatB m n b A) : MatB m n (c + b) (sclM q A) := by
  refine ⟨h.m0, h.m1, h.n0, h.n1, by unfold sclM; simp [h.len], fun r hr => ?_, fun r hr x hx => ?_⟩
  · obtain ⟨r1, h1, rfl⟩ := List.mem_map.mp hr
    simp [h.wid r1 h1]
  · obtain ⟨r1, h1, rfl⟩ := List.mem_map.mp hr
    obtain ⟨x1, k1, rfl⟩ := List.mem_map.mp hx
    exact hq.mul (h.bd r1 h1 x1 k1)
theorem BdR.zero {b : Nat} (hb : 0 < b) : BdR b 0 := ⟨Nat.two_pow_pos _, Nat.one_lt_two_pow (by omega)⟩
theorem MatB.tr {m n b : Nat} {A : List (List Rat)} (h : MatB m n b A) : MatB n m b (tr 0 n A) := by
  refine ⟨h.n0, h.n1, h.m0, h.m1, by simp [K9.tr], fun r hr => ?_, fun r hr x hx => ?_⟩
  · obtain ⟨j, hj, rfl⟩ := List.mem_map.mp hr
    simp [h.len]
  · obtain ⟨j, hj, rfl⟩ := List.mem_map.mp hr
    obtain ⟨r1, h1, rfl⟩ := List.mem_map.mp hx
    have hj2 : j < r1.length := by rw [h.wid r1 h1]; simpa using hj
    rw [List.getD_eq_getElem?_getD, List.getElem?_eq_getElem hj2]
    exact h.bd r1 h1 _ (List.getElem_mem hj2)
theorem BdR.sum {b : Nat} {l : List Rat} (h : ∀ x ∈ l, BdR b x) : BdR (l.length * (b + 1) + 1) l.sum := by
  induction l with
  | nil => exact BdR.zero (by omega)
  | cons a l ih =>
    rw [List.sum_cons]
    exact (BdR.add (h a List.mem_cons_self) (ih fun x hx => h x (List.mem_cons_of_mem _ hx))).mono (by rw [List.length_cons, Nat.succ_mul]; omega)
theorem MatB.mul {m k n b c : Nat} {A B : List (List Rat)} (h : MatB m k b A) (g : MatB k n c B) : MatB m n (k * (b + c + 1) + 1) (mulM n A B) := by
  refine ⟨h.m0, h.m1, g.n0, g.n1, by simp [mulM, h.len], fun r hr => ?_, fun r hr x hx => ?_⟩
  · obtain ⟨r1, h1, rfl⟩ := List.mem_map.mp hr
    simp [K9.tr]
  · obtain ⟨r1, h1, rfl⟩ := List.mem_map.mp hr
    obtain ⟨c1, k1, rfl⟩ := List.mem_map.mp hx
    have lc := g.tr.wid c1 k1
    have hl : (List.zipWith (· * ·) r1 c1).length = k := by simp [h.wid r1 h1, lc]
    have := BdR.sum (b := b + c) (l := List.zipWith (· * ·) r1 c1) fun z hz => by
      obtain ⟨x, hx, y, hy, rfl⟩ := mem_zipWith hz
      exact (h.bd r1 h1 x hx).mul (g.tr.bd c1 k1 y hy)
    rw [hl] at this
    exact this
def eyeM (n : Nat) : List (List Rat) := (List.range n).map fun i => (List.range n).map fun j => if i = j then 1 else 0
def zeroM (m n : Nat) : List (List Rat) := List.replicate m (List.replicate n 0)
theorem MatB.eye {n : Nat} (h0 : 0 < n) (h1 : n ≤ 16) : MatB n n 1 (eyeM n) := by
  refine ⟨h0, h1, h0, h1, by simp [eyeM], fun r hr => ?_, fun r hr x hx => ?_⟩
  · obtain ⟨i, _, rfl⟩ := List.mem_map.mp hr
    simp
  · obtain ⟨i, _, rfl⟩ := List.mem_map.mp hr
    obtain ⟨j, _, rfl⟩ := List.mem_map.mp hx
    show BdR 1 (if i = j then 1 else 0)
    split
    · exact ⟨by decide, by decide⟩
    · exact ⟨by decide, by decide⟩
theorem MatB.zero {m n : Nat} (h0 : 0 < m) (h1 : m ≤ 16) (k0 : 0 < n) (k1 : n ≤ 16) : MatB m n 1 (zeroM m n) := by
  refine ⟨h0, h1, k0, k1, by simp [zeroM], fun r hr => ?_, fun r hr x hx => ?_⟩
  · rw [(List.mem_replicate.mp hr).2]; simp
  · rw [(List.mem_replicate.mp hr).2] at hx
    rw [(List.mem_replicate.mp hx).2]
    exact ⟨by decide, by decide⟩
/-- the wholes' bound -/
theorem MatB.wh {m n b : Nat} {M : List (List Rat)} (h : MatB m n b M) : (∀ r ∈ whM M, r.length = n) ∧ (whM M).length = m ∧ ∀ r ∈ whM M, BdI (b + (m * n * b + 1)) r := by
  refine ⟨fun r hr => ?_, by simp [whM, h.len], fun r hr a ha => ?_⟩
  · obtain ⟨r1, h1, rfl⟩ := List.mem_map.mp hr
    simp [h.wid r1 h1]
  · obtain ⟨r1, h1, rfl⟩ := List.mem_map.mp hr
    obtain ⟨x, hx, rfl⟩ := List.mem_map.mp ha
    refine natAbs_mul_lt (h.bd r1 h1 x hx).1 (Nat.lt_of_le_of_lt ?_ h.den)
    have h1 := Int.ediv_le_self (x.den : Int) (show (0 : Int) ≤ (denM M : Int) by omega)
    have h2 := Int.ediv_nonneg (show (0 : Int) ≤ (denM M : Int) by omega) (show (0 : Int) ≤ (x.den : Int) by omega)
    omega
end K9

/-! ## F14 -/
namespace K9
open PySem PySem.Spec PyProof.Rows L2
/-! Matrix: properties, class methods, matrix_of. -/
theorem Fnk.fnr {P : Program} {w : World} {K : PySem.W.Frag} {mg : Str → Option Value} {base : Heap} {k : Nat} {f : Addr} {sp : Sp} (F : Fnk P w K mg base k f sp []) : FnR P w K mg base CX0 k f sp := by
  obtain ⟨fd, ps, ds, F, kp, b, d⟩ := F.ex
  intro A outer s H us vs Q E hr e hv h
  cases d
  have l := F.len vs H Q E h
  have l2 := hv.length
  have := b s us (e.mod.kin.keeps fun b o q => (e.bs b o q).1) (by rw [List.append_nil]; omega)
  rw [List.append_nil] at this
  exact F.run A outer s H _ us vs Q E hr e this hv h
abbrev isMat (K : PySem.W.Frag) : Addr → Prop := fun C => C = cM K
theorem rd_isM {K : PySem.W.Frag} {H : Hp} {v : V} {M : List (List Rat)} {sp : Sp} {Q : VK} (h : IsM K H v M) (q : sp [v] H Q E0) : ∃ a C dx fs, v = .ref a ∧ H a = some (.ins C dx fs) ∧ isMat K C ∧ sp [.ref a] H Q E0 := by
  obtain ⟨a, dx, cv, wv, rfl, ha, _⟩ := h
  exact ⟨a, _, dx, _, rfl, ha, rfl, q⟩
def spEnt (K : PySem.W.Frag) : Sp := fun vs H Q _ => ∃ a dx cv wv d, vs = [.ref a] ∧ H a = some (.ins (cM K) dx (mFs cv wv d)) ∧ Q cv H
def spMRows (K : PySem.W.Frag) : Sp := fun vs H Q _ => ∃ v M, vs = [v] ∧ IsM K H v M ∧ Q (.int M.length) H
def spMCols (K : PySem.W.Frag) : Sp := fun vs H Q _ => ∃ v M r0, vs = [v] ∧ IsM K H v M ∧ M[0]? = some r0 ∧ Q (.int r0.length) H
def spMTr (K : PySem.W.Frag) : Sp := fun vs H Q _ => ∃ v M m n b, vs = [v] ∧ IsM K H v M ∧ MatB m n b M ∧ m * n * b ≤ 8000 ∧ Pure (fun v' H' => IsM K H' v' (tr 0 n M)) H Q
def spSize : Sp := fun vs H Q _ => ∃ i : Nat, vs = [.int i] ∧ 0 < i ∧ Q .non H
def spEye (K : PySem.W.Frag) : Sp := fun vs H Q _ => ∃ (c : V) (n : Nat), vs = [c, .int n] ∧ 0 < n ∧ n ≤ 16 ∧ Pure (fun v' H' => IsM K H' v' (eyeM n)) H Q
def spZero (K : PySem.W.Frag) : Sp := fun vs H Q _ => ∃ (c : V) (m n : Nat), vs = [c, .int m, .int n] ∧ 0 < m ∧ m ≤ 16 ∧ 0 < n ∧ n ≤ 16 ∧ Pure (fun v' H' => IsM K H' v' (zeroM m n)) H Q
def spMatOf (K : PySem.W.Frag) : Sp := fun vs H Q _ => ∃ (tv : V) (d : Int) (A : List (List Int)) (m n b : Nat), vs = [tv, .int d] ∧ TabOf isI H tv A ∧ d ≠ 0 ∧ d.natAbs < 2 ^ 9000 ∧ MatB m n b (ofI A d) ∧ m * n * b ≤ 8000 ∧ Pure (fun v' H' => IsM K H' v' (ofI A d)) H Q
theorem MatB.row0 {m n b : Nat} {M : List (List Rat)} (h : MatB m n b M) : ∃ r0, M[0]? = some r0 ∧ r0.length = n := by
  have hl : 0 < M.length := by rw [h.len]; exact h.m0
  exact ⟨M[0], List.getElem?_eq_getElem hl, h.wid _ (List.getElem_mem hl)⟩
section
variable {P : Program} {w : World} {K : PySem.W.Frag} {mg : Str → Option Value} {base : Heap}
theorem prp_entries (T : Txt K mg) : ∀ C, isMat K C → Prp P w K mg base 1 C "entries" (spEnt K) := fun C hC => by
  subst hC
  refine prp_of T.mEntries (N := ["self"]) (ps := ["self"]) ⟨rfl, rfl, rfl, by decide +kernel, rfl, by decide +kernel, by decide +kernel⟩ (fun _ _ _ _ _ _ us hl => match us, hl with | [_], _ => rfl) (fun vs H Q E h => ?_) (fun f cdv A outer s H vs Q E hr h => ?_)
  · obtain ⟨a, dx, cv, wv, d, rfl, _⟩ := h; rfl
  obtain ⟨a, dx, cv, wv, d, rfl, ha, q⟩ := h
  exact ⟨_, pss_one (ps_ret (pe_fld (pv 0) rfl)), _, rfl, a, _, dx, _, _, rfl, ha, T.mNum.ni.own.cl, T.mNa _ (by decide +kernel), mFs_c _ _ _, q⟩
theorem prp_mrows (T : Txt K mg) : ∀ C, isMat K C → Prp P w K mg base 1 C "rows" (spMRows K) := fun C hC => by
  subst hC
  refine prp_of T.mRows (N := ["self"]) (ps := ["self"]) ⟨rfl, rfl, rfl, by decide +kernel, rfl, by decide +kernel, by decide +kernel⟩ (fun _ _ _ _ _ _ us hl => match us, hl with | [_], _ => rfl) (fun vs H Q E h => ?_) (fun f cdv A outer s H vs Q E hr h => ?_)
  · obtain ⟨v, M, rfl, _⟩ := h; rfl
  have ml := nofree T (x := "len") (by decide +kernel)
  obtain ⟨v, M, rfl, ⟨a, dx, cv, wv, rfl, ha, ⟨rows, ⟨t, rvs, rfl, ht, hrv⟩, aM⟩, hw⟩, q⟩ := h
  refine ⟨_, pss_one (ps_ret (pe_callB (len9 K) (by rfl) ml PySem.boot_len (pa_cons (pe_fld (pv 0) rfl) pa_nil))), _, rfl, a, _, dx, _, _, rfl, ha, T.mNum.ni.own.cl, T.mNa _ (by decide +kernel), mFs_c _ _ _, ?_⟩
  refine ⟨t, rvs, rfl, .inr (SqT.of ht), ?_⟩
  rw [hrv.len, aM.len]
  exact q
theorem prp_mcolumns (T : Txt K mg) : ∀ C, isMat K C → Prp P w K mg base 1 C "columns" (spMCols K) := fun C hC => by
  subst hC
  refine prp_of T.mColumns (N := ["self"]) (ps := ["self"]) ⟨rfl, rfl, rfl, by decide +kernel, rfl, by decide +kernel, by decide +kernel⟩ (fun _ _ _ _ _ _ us hl => match us, hl with | [_], _ => rfl) (fun vs H Q E h => ?_) (fun f cdv A outer s H vs Q E hr h => ?_)
  · obtain ⟨v, M, r0, rfl, _⟩ := h; rfl
  have ml := nofree T (x := "len") (by decide +kernel)
  obtain ⟨v, M, r0, rfl, ⟨a, dx, cv, wv, rfl, ha, ⟨rows, ⟨t, rvs, rfl, ht, hrv⟩, aM⟩, hw⟩, h0, q⟩ := h
  obtain ⟨cs0, hcs0, aR0⟩ := aM.get h0
  obtain ⟨rv0, hrv0, t0, rfl, ht0⟩ := hrv.get hcs0
  refine ⟨_, pss_one (ps_ret (pe_callB (len9 K) (by rfl) ml PySem.boot_len (pa_cons (pe_ix (ixT9 K) (pe_fld (pv 0) rfl) pe_int (fun _ _ => rfl)) pa_nil))), _, rfl, a, _, dx, _, _, rfl, ha, T.mNum.ni.own.cl, T.mNa _ (by decide +kernel), mFs_c _ _ _, ?_⟩
  refine ⟨t, rvs, 0, _, rfl, rfl, SqT.of ht, atI_nat (j := 0) hrv0, t0, cs0, rfl, .inr (SqT.of ht0), ?_⟩
  rw [aR0.len]
  exact q
theorem prp_mtrans (T : Txt K mg) : ∀ C, isMat K C → Prp P w K mg base 7 C "transposed" (spMTr K) := fun C hC => by
  subst hC
  refine prp_of T.mTransposed (N := ["self"]) (ps := ["self"]) ⟨rfl, rfl, rfl, by decide +kernel, rfl, by decide +kernel, by decide +kernel⟩ (fun _ _ _ _ _ _ us hl => match us, hl with | [_], _ => rfl) (fun vs H Q E h => ?_) (fun f cdv A outer s H vs Q E hr h => ?_)
  · obtain ⟨v, M, m, n, b, rfl, _⟩ := h; rfl
  obtain ⟨v, M, m, n, b, rfl, ⟨a, dx, cv, wv, rfl, ha, ⟨rows, hT, aM⟩, hw⟩, hM, hb, k⟩ := h
  refine ⟨_, pss_one (ps_ret (pe_mk (mak_matrix T) hr (pa_cons (pe_c (cal_turned T) hr (pa_cons (pe_fld (pv 0) rfl) pa_nil)) pa_nil))), _, rfl, a, _, dx, _, _, rfl, ha, T.mNum.ni.own.cl, T.mNa _ (by decide +kernel), mFs_c _ _ _, ?_⟩
  have hr2 : ∀ r ∈ rows, r.length = n := fun r hm => by
    obtain ⟨i, hi⟩ := List.mem_iff_getElem?.mp hm
    obtain ⟨x, hx, hr⟩ := aM.get' hi
    rw [hr.len]
    exact hM.wid x (List.mem_of_getElem? hx)
  have hm1 := hM.m1
  have hn1 := hM.n1
  refine ⟨cv, rows, n, rfl, hT, ?_, hr2, by rw [aM.len, hM.len]; omega, by omega, fun v1 H1 s1 hT1 => ?_⟩
  · intro e
    have := aM.len
    rw [e] at this
    exact hM.ne (List.length_eq_zero_iff.mp this.symm)
  · have aT := tr_al (d := 0) aM hM.wid
    exact mk_matrix ⟨_, hT1, aT.imp fun _ _ a => a.imp fun _ _ h => .inr (h.imm (Same.imm s1))⟩ hM.tr (by rw [Nat.mul_comm n m]; exact hb) fun v2 H2 s2 h2 => k v2 H2 (Same.trans s1 s2) h2
theorem cal_size (T : Txt K mg) : Cal P w K mg base 2 "check_size" spSize [] := by
  refine cal_of T.d_check_size (N := ["value"]) (ps := ["value"]) ⟨rfl, rfl, rfl, by decide +kernel, rfl, by decide +kernel, by decide +kernel⟩ (fun _ _ _ _ _ _ us hl => match us, hl with | [_], _ => rfl) (fun vs H Q E h => ?_) (fun f cdv A outer s H vs Q E hr h => ?_)
  · obtain ⟨i, rfl, _⟩ := h; rfl
  obtain ⟨i, rfl, hi, q⟩ := h
  refine ⟨_, pss_one (ps_if (PW.pt (pw_or (pt_not (pt_val (pe_c (cal_is_integer T) hr (pa_cons (pv 0) pa_nil)))) (pw_or1 (pt_cmpR op_lt (pv 0) pe_int (nomark _))))) (pss_one ps_never) pss_nil), _, rfl, .inl ⟨i, rfl, _, rfl, iteF ?_⟩⟩
  refine ⟨_, rfl, _, _, rfl, rfl, _, rfl, ?_⟩
  rw [show decide ((i : Int) < 1) = false from decide_eq_false (by omega)]
  exact iteF q
abbrev nMof : List Str := ["table", "below", "row", "cell"]
theorem sc_mof : FnScope nMof ["table", "below"] (defScope (top 67)) := ⟨rfl, rfl, rfl, by decide +kernel, rfl, by decide +kernel, by decide +kernel⟩
theorem cal_matrix_of (T : Txt K mg) : Cal P w K mg base 7 "matrix_of" (spMatOf K) [] := by
  refine cal_of T.d_matrix_of sc_mof (fun _ _ _ _ _ _ us hl => match us, hl with | [_, _], _ => rfl) (fun vs H Q E h => ?_) (fun f cdv A outer s H vs Q E hr h => ?_)
  · obtain ⟨tv, d, M, m, n, b, rfl, _⟩ := h; rfl
  have mt := nofree T (x := "tuple") (by decide +kernel)
  refine ⟨_, pss_one (ps_ret (pe_mk (mak_matrix T) hr (pa_cons (pe_callTy (tupleOf9 K) (by rfl) mt boot_tuple (pa_cons (pe_lc (own := [("row", 2)]) (g := gName 2) (tt := tYes) rfl sc_mof.nd (tup9 K (pv 0)) (blkOk_by (N := nMof) (sc := defScope (top 67)) (by decide +kernel)) (fun _ _ _ _ _ => pg_name (i := 2) sc_mof.nd rfl (Or.inl rfl)) (fun _ _ _ _ _ => pts_nil)
        (fun _ _ _ _ _ => pe_callTy (tupleOf9 K) (by rfl) mt boot_tuple (pa_cons (pe_lc (own := [("cell", 3)]) (g := gName 3) (tt := tYes) rfl sc_mof.nd (tup9 K (pv 2)) (blkOk_by (N := nMof) (by kernel_rfl)) (fun _ _ _ _ _ => pg_name (i := 3) sc_mof.nd rfl (Or.inl rfl)) (fun _ _ _ _ _ => pts_nil)
          (fun _ _ _ _ _ => pe_mk (mak_ratio2 T) hr (pa_cons (pv 3) (pa_cons (pv 1) pa_nil)))) pa_nil))) pa_nil)) pa_nil))), ?_⟩
  obtain ⟨tv, d, M, m, n, b, rfl, ⟨rows, ⟨t, rvs, rfl, ht, hrv⟩, aM⟩, hd, hd2, hM, hb, k⟩ := h
  have hm1 := hM.m1
  have hn1 := hM.n1
  have lM : M.length = m := by have := hM.len; simpa [ofI] using this
  refine ⟨_, rfl, t, rfl, ⟨_, SqT.of ht⟩, fun D hD => ?_⟩
  have hR : ∀ v x H H', Imm H H' → IsR K H v x → IsR K H' v x := fun v x H H' i h => h.imm i
  have wM : ∀ r ∈ M, r.length = n := fun r hr => by
    have := hM.wid (r.map fun a => Rat.divInt a d) (List.mem_map_of_mem hr)
    simpa using this
  refine tup_it (walk_tup' (xs := rvs)) (RowR (IsR K) (ofI M d)) (RowR.imm hR) hD (fun _ s2 => SqT.of (s2 _ _ ht))
    (by rw [hrv.len, aM.len, lM]; exact Nat.le_trans (by omega) thousand_line) (fun i y H2 Q2 hi hy s2 q2 => ?_) (fun l ys H2 s2 hl1 hl2 hl3 => ?_)
  · obtain ⟨cs, hcs, t', rfl, ht'⟩ := hrv.get' hy
    obtain ⟨row, hrow, aR⟩ := aM.get' hcs
    refine ⟨_, rfl, t', rfl, ⟨_, SqT.of (s2 _ _ ht')⟩, fun D2 hD2 => ?_⟩
    refine tup_it (walk_tup' (xs := cs)) (CellR (IsR K) (row.map fun a => Rat.divInt a d)) (CellR.imm hR) hD2 (fun _ s3 => SqT.of (s3 _ _ (s2 _ _ ht'))) (by rw [aR.len, wM row (List.mem_of_getElem? hrow)]; exact Nat.le_trans (by omega) thousand_line) (fun j y H3 Q3 hj hy s3 q3 => ?_) (fun l3 ys3 H3 s3 hl1 hl2 hl3 => ?_)
    · obtain ⟨r, hr1, rfl⟩ := aR.get' hy
      refine ⟨_, rfl, _, rfl, ?_⟩
      exact mk_ratio hd hd2 fun v' H' s' h' => q3 _ _ s' ⟨_, by rw [List.getElem?_map, hr1]; rfl, h'⟩
    · exact q2 _ _ s3 (row_fin (by unfold ofI; rw [List.getElem?_map, hrow]; rfl) hl1 (by rw [hl2, aR.len, List.length_map]) hl3)
  · have hT := tab_fin hl1 (by rw [hl2, hrv.len, aM.len]; simp [ofI]) hl3
    exact mk_matrix (hT.imm (Imm.refl _) fun _ _ h => .inr h) hM hb fun v2 H3 s3 h3 => k v2 H3 (Same.trans s2 s3) h3
abbrev nEye : List Str := ["cls", "size", "i", "j"]
theorem sc_eye : FnScope nEye ["cls", "size"] (defScope (inCls 65 5)) := ⟨rfl, rfl, rfl, by decide +kernel, rfl, by decide +kernel, by decide +kernel⟩
theorem fnk_eye (T : Txt K mg) {g : Addr} {fd : FuncData} (F : FunD K "eye" "Matrix.eye" (defArgs (inCls 65 5)) (defBody (inCls 65 5)) (defScope (inCls 65 5)) [] [] g fd) : Fnk P w K mg base 7 g (spEye K) [] := by
  refine fnk_of F sc_eye (fun _ _ _ _ _ _ us hl => match us, hl with | [_, _], _ => rfl) (fun vs H Q E h => ?_) (fun cdv A outer s H vs Q E hr h => ?_)
  · obtain ⟨c, n, rfl, _⟩ := h; rfl
  have mt := nofree T (x := "tuple") (by decide +kernel)
  have mr := nofree T (x := "range") (by decide +kernel)
  have mi := nofree T (x := "int") (by decide +kernel)
  refine ⟨_, pss_cons (ps_expr (pe_c (cal_size T) hr (pa_cons (pv 1) pa_nil))) (pss_one (ps_ret (pe_mk (mak_matrix T) hr (pa_cons (pe_callTy (tupleOf9 K) (by rfl) mt boot_tuple (pa_cons (pe_lc (own := [("i", 2)]) (g := gName 2) (tt := tYes) rfl sc_eye.nd (pi_range1 (by rfl) mr (pa_cons (pv 1) pa_nil)) (blkOk_by (N := nEye) (sc := defScope (inCls 65 5)) (by decide +kernel)) (fun _ _ _ _ _ => pg_name (i := 2) sc_eye.nd rfl (Or.inr rfl)) (fun _ _ _ _ _ => pts_nil)
        (fun _ _ _ _ _ => pe_callTy (tupleOf9 K) (by rfl) mt boot_tuple (pa_cons (pe_lc (own := [("j", 3)]) (g := gName 3) (tt := tYes) rfl sc_eye.nd (pi_range1 (by rfl) mr (pa_cons (pv 1) pa_nil)) (blkOk_by (N := nEye) (by kernel_rfl)) (fun _ _ _ _ _ => pg_name (i := 3) sc_eye.nd rfl (Or.inl rfl)) (fun _ _ _ _ _ => pts_nil)
          (fun _ _ _ _ _ => pe_callTy call_int1 (by rfl) mi boot_int (pa_cons (pe_cmpR op_eq (pv 2) (pv 3) (nomark _)) pa_nil))) pa_nil))) pa_nil)) pa_nil)))), ?_⟩
  obtain ⟨c, n, rfl, h0, h1, k⟩ := h
  have h62 := thousand_62 (show n ≤ 1000 by omega)
  have hl : n ≤ sizeLine := Nat.le_trans (by omega) thousand_line
  have hM := MatB.eye h0 h1
  refine ⟨_, rfl, n, rfl, h0, ?_⟩
  refine ⟨_, rfl, _, rfl, h62.1, h62.2, fun D hD => ?_⟩
  have hR : ∀ v x H H', Imm H H' → NumV K H v x → NumV K H' v x := fun v x H H' i h => h.imm i
  refine tup_it walk_range' (RowR (NumV K) (eyeM n)) (RowR.imm hR) hD (fun _ _ => trivial) (by simpa using hl) (fun i y H2 Q2 hi hy s2 q2 => ?_) (fun l ys H2 s2 hl1 hl2 hl3 => ?_)
  · subst hy
    have hi : i < n := by simpa using hi
    refine ⟨_, rfl, _, rfl, h62.1, h62.2, fun D2 hD2 => ?_⟩
    have hrow : (eyeM n)[i]? = some ((List.range n).map fun j => if i = j then 1 else 0) := by
      unfold eyeM
      rw [List.getElem?_map, List.getElem?_range hi]; rfl
    refine tup_it walk_range' (CellR (NumV K) ((List.range n).map fun j => if i = j then 1 else 0)) (CellR.imm hR) hD2 (fun _ _ => trivial) (by simpa using hl) (fun j y H3 Q3 hj hy s3 q3 => ?_) (fun l3 ys3 H3 s3 hl1 hl2 hl3 => ?_)
    · subst hy
      have hj : j < n := by simpa using hj
      refine ⟨_, rfl, _, rfl, rfl, .inr ⟨_, rfl, ?_⟩⟩
      refine q3 _ _ (Same.refl _) ⟨_, by rw [List.getElem?_map, List.getElem?_range hj]; rfl, ?_⟩
      by_cases hij : i = j
      · subst hij
        rw [decide_eq_true rfl]
        exact .inl ⟨1, rfl, by show (if i = i then (1 : Rat) else 0) = _; rw [if_pos rfl]; rfl⟩
      · have : ¬ V.int (0 + (i : Int)) = V.int (0 + (j : Int)) := fun e => hij (by have := V.int.inj e; omega)
        rw [decide_eq_false this]
        exact .inl ⟨0, rfl, by show (if i = j then (1 : Rat) else 0) = _; rw [if_neg hij]; rfl⟩
    · exact q2 _ _ s3 (row_fin hrow hl1 (by rw [hl2]; simp) hl3)
  · have hT := tab_fin hl1 (by rw [hl2]; simp [eyeM]) hl3
    refine mk_matrix hT hM ?_ fun v2 H3 s3 h3 => k v2 H3 (Same.trans s2 s3) h3
    have := Nat.mul_le_mul h1 h1
    omega
abbrev nZero : List Str := ["cls", "rows", "columns", "i", "j"]
theorem sc_zero : FnScope nZero ["cls", "rows", "columns"] (defScope (inCls 65 6)) := ⟨rfl, rfl, rfl, by decide +kernel, rfl, by decide +kernel, by decide +kernel⟩
theorem fnk_zero (T : Txt K mg) {g : Addr} {fd : FuncData} (F : FunD K "zero" "Matrix.zero" (defArgs (inCls 65 6)) (defBody (inCls 65 6)) (defScope (inCls 65 6)) [] [] g fd) : Fnk P w K mg base 7 g (spZero K) [] := by
  refine fnk_of F sc_zero (fun _ _ _ _ _ _ us hl => match us, hl with | [_, _, _], _ => rfl) (fun vs H Q E h => ?_) (fun cdv A outer s H vs Q E hr h => ?_)
  · obtain ⟨c, m, n, rfl, _⟩ := h; rfl
  have mt := nofree T (x := "tuple") (by decide +kernel)
  have mr := nofree T (x := "range") (by decide +kernel)
  refine ⟨_, pss_cons (ps_expr (pe_c (cal_size T) hr (pa_cons (pv 1) pa_nil))) (pss_cons (ps_expr (pe_c (cal_size T) hr (pa_cons (pv 2) pa_nil))) (pss_one (ps_ret (pe_mk (mak_matrix T) hr (pa_cons (pe_callTy (tupleOf9 K) (by rfl) mt boot_tuple (pa_cons (pe_lc (own := [("i", 3)]) (g := gName 3) (tt := tYes) rfl sc_zero.nd (pi_range1 (by rfl) mr (pa_cons (pv 1) pa_nil)) (blkOk_by (N := nZero) (sc := defScope (inCls 65 6)) (by decide +kernel)) (fun _ _ _ _ _ => pg_name (i := 3) sc_zero.nd rfl (Or.inl rfl)) (fun _ _ _ _ _ => pts_nil)
        (fun _ _ _ _ _ => pe_callTy (tupleOf9 K) (by rfl) mt boot_tuple (pa_cons (pe_lc (own := [("j", 4)]) (g := gName 4) (tt := tYes) rfl sc_zero.nd (pi_range1 (by rfl) mr (pa_cons (pv 2) pa_nil)) (blkOk_by (N := nZero) (by kernel_rfl)) (fun _ _ _ _ _ => pg_name (i := 4) sc_zero.nd rfl (Or.inl rfl)) (fun _ _ _ _ _ => pts_nil)
          (fun _ _ _ _ _ => pe_int)) pa_nil))) pa_nil)) pa_nil))))), ?_⟩
  obtain ⟨c, m, n, rfl, m0, m1, h0, h1, k⟩ := h
  have h62 := thousand_62 (show n ≤ 1000 by omega)
  have m62 := thousand_62 (show m ≤ 1000 by omega)
  have hl : n ≤ sizeLine := Nat.le_trans (by omega) thousand_line
  have ml : m ≤ sizeLine := Nat.le_trans (by omega) thousand_line
  have hM := MatB.zero m0 m1 h0 h1
  refine ⟨_, rfl, m, rfl, m0, ?_⟩
  refine ⟨_, rfl, n, rfl, h0, ?_⟩
  refine ⟨_, rfl, _, rfl, m62.1, m62.2, fun D hD => ?_⟩
  have hR : ∀ v x H H', Imm H H' → NumV K H v x → NumV K H' v x := fun v x H H' i h => h.imm i
  refine tup_it walk_range' (RowR (NumV K) (zeroM m n)) (RowR.imm hR) hD (fun _ _ => trivial) (by simpa using ml) (fun i y H2 Q2 hi hy s2 q2 => ?_) (fun l ys H2 s2 hl1 hl2 hl3 => ?_)
  · subst hy
    have hi : i < m := by simpa using hi
    refine ⟨_, rfl, _, rfl, h62.1, h62.2, fun D2 hD2 => ?_⟩
    have hrow : (zeroM m n)[i]? = some (List.replicate n 0) := by
      unfold zeroM
      rw [List.getElem?_replicate, if_pos hi]
    refine tup_it walk_range' (CellR (NumV K) (List.replicate n 0)) (CellR.imm hR) hD2 (fun _ _ => trivial) (by simpa using hl) (fun j y H3 Q3 hj hy s3 q3 => ?_) (fun l3 ys3 H3 s3 hl1 hl2 hl3 => ?_)
    · have hj : j < n := by simpa using hj
      exact q3 _ _ (Same.refl _) ⟨0, by rw [List.getElem?_replicate, if_pos hj], .inl ⟨0, rfl, rfl⟩⟩
    · exact q2 _ _ s3 (row_fin hrow hl1 (by rw [hl2]; simp) hl3)
  · have hT := tab_fin hl1 (by rw [hl2]; simp [zeroM]) hl3
    refine mk_matrix hT hM ?_ fun v2 H3 s3 h3 => k v2 H3 (Same.trans s2 s3) h3
    have := Nat.mul_le_mul m1 h1
    omega
end
end K9

/-! ## F15 -/
namespace K9
open PySem PySem.Spec PyProof.Rows L2
/-! Matrix: the operators. -/
theorem eqvAll_map {α : Type} {f : α → PyData} {l : List α} (h : ∀ x ∈ l, (f x).eqv (f x) = true) : PyData.eqvAll (l.map f) (l.map f) = true := by
  induction l with
  | nil => simp [PyData.eqvAll]
  | cons a l ih =>
    rw [List.map_cons]
    simp [PyData.eqvAll, h a List.mem_cons_self, ih fun x hx => h x (List.mem_cons_of_mem _ hx)]
def pr2 (i j : Int) : PyData := .tuple [.int i, .int j]
theorem pr2_eqv (i j : Int) : (pr2 i j).eqv (pr2 i j) = true := by simp [pr2, PyData.eqv, PyData.eqvAll]
theorem pr2_shaped (i j : Int) : SeqAt.shaped (pr2 i j) = true := by
  simp [pr2, SeqAt.shaped, PyData.canLay0, PyData.depth, PyData.canLayAll0, PyData.depthAll]
abbrev IsII : Hp → V → Int → Prop := fun _ => isI
def spAdded (K : PySem.W.Frag) : Sp := fun vs H Q _ => ∃ (v1 v2 : V) (s : Int) (A B : List (List Rat)) (m n b c : Nat), vs = [v1, v2, .int s] ∧ (s = 1 ∨ s = -1) ∧ IsM K H v1 A ∧ IsM K H v2 B ∧ MatB m n b A ∧ MatB m n c B ∧ m * n * (b + c + 1) ≤ 8000 ∧ Pure (fun v' H' => IsM K H' v' (addM s A B)) H Q
def spAddM (K : PySem.W.Frag) (s : Int) : Sp := fun vs H Q _ => ∃ (v1 v2 : V) (A B : List (List Rat)) (m n b c : Nat), vs = [v1, v2] ∧ IsM K H v1 A ∧ IsM K H v2 B ∧ MatB m n b A ∧ MatB m n c B ∧ m * n * (b + c + 1) ≤ 8000 ∧ Pure (fun v' H' => IsM K H' v' (addM s A B)) H Q
def spMulM (K : PySem.W.Frag) : Sp := fun vs H Q _ => (∃ (v1 v2 : V) (A : List (List Rat)) (q : Rat) (m n b c : Nat), vs = [v1, v2] ∧ IsM K H v1 A ∧ IsR K H v2 q ∧ MatB m n b A ∧ BdR c q ∧ m * n * (c + b) ≤ 8000 ∧ c ≤ 900 ∧ Pure (fun v' H' => IsM K H' v' (sclM q A)) H Q) ∨
  (∃ (v1 v2 : V) (A B : List (List Rat)) (m k n b c : Nat), vs = [v1, v2] ∧ IsM K H v1 A ∧ IsM K H v2 B ∧ MatB m k b A ∧ MatB k n c B ∧ m * n * (k * (b + c + 1) + 1) ≤ 8000 ∧ m * k * b + k * n * c ≤ 8000 ∧ Pure (fun v' H' => IsM K H' v' (mulM n A B)) H Q)
def spItemM (K : PySem.W.Frag) : Sp := fun vs H Q _ => ∃ (v : V) (t : Addr) (M : List (List Rat)) (m n b i j : Nat) (x : Rat), vs = [v, .ref t] ∧ H t = some (.tup [.int i, .int j]) ∧ IsM K H v M ∧ MatB m n b M ∧ i < m ∧ j < n ∧ (M.getD i []).getD j 0 = x ∧ ∀ xv, IsR K H xv x → Q xv H
section
variable {P : Program} {w : World} {K : PySem.W.Frag} {mg : Str → Option Value} {base : Heap}
abbrev nAdd : List Str := ["one", "two", "sign", "rows", "left", "right", "a", "b"]
theorem sc_added : FnScope nAdd ["one", "two", "sign"] (defScope (top 68)) := ⟨rfl, rfl, rfl, by decide +kernel, rfl, by decide +kernel, by decide +kernel⟩
theorem cal_added (T : Txt K mg) : Cal P w K mg base 8 "added" (spAdded K) [] := by
  refine cal_of T.d_added sc_added (fun _ _ _ _ _ _ us hl => match us, hl with | [_, _, _], _ => rfl) (fun vs H Q E h => ?_) (fun f cdv A outer s H vs Q E hr h => ?_)
  · obtain ⟨v1, v2, s, M, N, m, n, b, c, rfl, _⟩ := h; rfl
  have mt := nofree T (x := "tuple") (by decide +kernel)
  have mz := nofree T (x := "zip") (by decide +kernel)
  refine ⟨_, pss_cons (ps_if (pt_cmpR (op_neD hr.units) (pe_tup (pa_cons (pe_prp (prp_mrows T) hr (pv 0)) (pa_cons (pe_prp (prp_mcolumns T) hr (pv 0)) pa_nil))) (pe_tup (pa_cons (pe_prp (prp_mrows T) hr (pv 1)) (pa_cons (pe_prp (prp_mcolumns T) hr (pv 1)) pa_nil))) (nomark _)) (pss_one ps_never) pss_nil)
    (pss_cons (ps_set (i := 3) sc_added.nd rfl (Or.inl rfl) (pe_lst pa_nil))
    (pss_cons (ps_for PassesOwn.never rfl (zip9 K mz (pa_cons (pe_fld (pv 0) rfl) (pa_cons (pe_fld (pv 1) rfl) pa_nil))) (gtup9 K (pgs_cons (pg_name (i := 4) sc_added.nd rfl (Or.inl rfl)) (pgs_cons (pg_name (i := 5) sc_added.nd rfl (Or.inl rfl)) pgs_nil)))
      (pss_one (ps_expr (pe_bm PySem.F.plainAttrs_list PySem.F.slot_list_append PySem.F.type_list_append mt_append (pv 3) (pa_cons (pe_callTy (tupleOf9 K) (by rfl) mt boot_tuple (pa_cons (pe_lc (own := [("a", 6), ("b", 7)]) (g := gTup K 2 (gCons (gName 6) (gCons (gName 7) gNil))) (tt := tYes) rfl sc_added.nd (zip9 K mz (pa_cons (pv 4) (pa_cons (pv 5) pa_nil)))
              (blkOk_by (N := nAdd) (sc := defScope (top 68)) (by decide +kernel)) (fun _ _ _ _ _ => gtup9 K (pgs_cons (pg_name (i := 6) sc_added.nd rfl (Or.inl rfl)) (pgs_cons (pg_name (i := 7) sc_added.nd rfl (Or.inl rfl)) pgs_nil))) (fun _ _ _ _ _ => pts_nil)
              (fun _ _ _ _ _ => pe_op op_add (pe_op op_mulW (pv 6) (fld9 K (pv 1))) (pe_op op_mulW (pe_op op_mulW (pv 2) (pv 7)) (fld9 K (pv 0))))) pa_nil)) pa_nil)))))
    (pss_one (ps_ret (pe_c (cal_matrix_of T) hr (pa_cons (pe_callTy (tupleOf9 K) (by rfl) mt boot_tuple (pa_cons (pv 3) pa_nil)) (pa_cons (pe_op op_mulW (pe_fld (pv 0) rfl) (pe_fld (pv 1) rfl)) pa_nil))))))), ?_⟩
  obtain ⟨v1, v2, s, M, N, m, n, b, c, rfl, hs, h1, h2, hM, hN, hb, k⟩ := h
  obtain ⟨r0, hr0, lr0⟩ := hM.row0
  obtain ⟨q0, hq0, lq0⟩ := hN.row0
  have two : 2 ≤ sizeLine := Nat.le_trans (by decide) thousand_line
  have hm1 := hM.m1
  have hn1 := hM.n1
  have hm0 := hM.m0
  have hn0 := hM.n0
  have hmn : 0 < m * n := Nat.mul_pos hm0 hn0
  have e1 : m * n * (b + c + 1) = m * n * b + m * n * c + m * n := by rw [Nat.mul_add, Nat.mul_add, Nat.mul_one]
  have hb2 : b ≤ m * n * b := Nat.le_mul_of_pos_left _ hmn
  have hc2 : c ≤ m * n * c := Nat.le_mul_of_pos_left _ hmn
  refine ⟨_, rfl, rd_isM h1 ⟨_, M, rfl, h1, _, rfl, rd_isM h1 ⟨_, M, r0, rfl, h1, hr0, two, fun p hp => ?_⟩⟩⟩
  have s1 : Same H (upd H p (.tup [.int M.length, .int r0.length])) := Same.upd hp
  have hp1 : (upd H p (.tup [.int M.length, .int r0.length])) p = some (.tup [.int M.length, .int r0.length]) := upd_same
  generalize upd H p (.tup [.int M.length, .int r0.length]) = H1 at *
  have h2' : IsM K H1 v2 N := h2.imm (Same.imm s1)
  refine ⟨_, rfl, rd_isM h2' ⟨_, N, rfl, h2', _, rfl, rd_isM h2' ⟨_, N, q0, rfl, h2', hq0, two, fun p2 hp2 => ?_⟩⟩⟩
  refine ⟨pr2 M.length r0.length, pr2 N.length q0.length, .tup (SqT.of (Same.upd hp2 _ _ hp1)) (.cons (.int _) (.cons (.int _) .nil)), .tup (SqT.of upd_same) (.cons (.int _) (.cons (.int _) .nil)), pr2_shaped _ _, pr2_shaped _ _, _, rfl, ?_⟩
  rw [hM.len, hN.len, lr0, lq0, pr2_eqv]
  refine iteF ?_
  have s2 : Same H (upd H1 p2 (.tup [.int m, .int n])) := Same.updT s1 (Same.free s1 hp2)
  generalize upd H1 p2 (.tup [.int m, .int n]) = H2 at *
  refine ⟨Nat.zero_le _, fun L hL => ?_⟩
  have hL0 : H L = none := Same.free s2 hL
  have s3 : Same H (upd H2 L (.lst [])) := Same.updT s2 hL0
  have hL3 : (upd H2 L (.lst [])) L = some (.lst []) := upd_same
  generalize upd H2 L (.lst []) = H3 at *
  obtain ⟨a1, dx1, cv1, wv1, rfl, ha1, hc1, ⟨rows1, ⟨t1, rvs1, rfl, ht1, hrv1⟩, aW1⟩⟩ := h1
  obtain ⟨a2, dx2, cv2, wv2, rfl, ha2, hc2', ⟨rows2, ⟨t2, rvs2, rfl, ht2, hrv2⟩, aW2⟩⟩ := h2
  obtain ⟨w1, w2, w3⟩ := hM.wh
  obtain ⟨x1, x2, x3⟩ := hN.wh
  have cl := T.mNum.ni.own.cl
  have naw : NoAttr K (cM K) "wholes" := T.mNa _ (by decide +kernel)
  have nab : NoAttr K (cM K) "below" := T.mNa _ (by decide +kernel)
  have l1 : rvs1.length = m := by rw [hrv1.len, aW1.len, w2]
  have l2 : rvs2.length = m := by rw [hrv2.len, aW2.len, x2]
  have dM := hM.den
  have dN := hN.den
  have wbd : ∀ {A : List (List Rat)} {r : List Int} {e : Nat}, r ∈ whM A → (∀ r ∈ whM A, BdI e r) → ∀ {x : Int} {j : Nat}, r[j]? = some x → x.natAbs < 2 ^ e := fun hr hB _ _ hx => hB _ hr _ (List.mem_of_getElem? hx)
  refine ⟨_, rfl, a1, _, dx1, _, _, rfl, s3 _ _ ha1, cl, naw, mFs_w _ _ _, _, rfl, a2, _, dx2, _, _, rfl, s3 _ _ ha2, cl, naw, mFs_w _ _ _, t1, t2, rvs1, rvs2, rfl, .inr ⟨SqT.of (s3 _ _ ht1), SqT.of (s3 _ _ ht2), ?_⟩⟩
  have hRI : ∀ v x H H', Imm H H' → IsII H v x → IsII H' v x := fun v x H H' i h => h
  refine for_it (walk_zipT (K := K) (a := t1) (b := t2) (show rvs1.length = rvs2.length by omega)) (fun i σ H' => ∃ o4 o5 ys, σ = [some (.ref a1), some (.ref a2), some (.int s), some (.ref L), o4, o5, none, none] ∧ Same H H' ∧ H' L = some (.lst ys) ∧ ys.length = i ∧ ∀ j y, ys[j]? = some y → RowR IsII (addI s (denM M) (denM N) (whM M) (whM N)) j y H')
    ⟨none, none, [], rfl, s3, hL3, rfl, fun j y e => by simp at e⟩ (fun i σ H' _ ⟨_, _, _, _, s, _⟩ => ⟨SqT.of (s _ _ ht1), SqT.of (s _ _ ht2)⟩) ?_ ?_
  · rintro i x σ H5 H6 hi ⟨o4, o5, ys, rfl, s5, hL5, ly, hys⟩ ⟨Tp, u, v, rfl, hTp, rfl, hu, hv⟩
    refine ⟨Tp, _, rfl, SqT.of upd_same, rfl, u, [v], rfl, v, [], rfl, rfl, ?_⟩
    have s56 : Same H5 (upd H5 Tp (.tup [u, v])) := Same.upd hTp
    have s6 : Same H (upd H5 Tp (.tup [u, v])) := Same.trans s5 s56
    generalize upd H5 Tp (.tup [u, v]) = H6 at *
    obtain ⟨cs1, hcs1, y1, rfl, hy1⟩ := hrv1.get' hu
    obtain ⟨row1, hrow1, aR1⟩ := aW1.get' hcs1
    obtain ⟨cs2, hcs2, y2, rfl, hy2⟩ := hrv2.get' hv
    obtain ⟨row2, hrow2, aR2⟩ := aW2.get' hcs2
    have lr1 := w1 _ (List.mem_of_getElem? hrow1)
    have lr2 := x1 _ (List.mem_of_getElem? hrow2)
    have htbl : (addI s (denM M) (denM N) (whM M) (whM N))[i]? = some (List.zipWith (fun a b => a * (denM N : Int) + s * b * (denM M : Int)) row1 row2) := by
      unfold addI
      rw [List.getElem?_zipWith, hrow1, hrow2]
    refine ⟨_, rfl, .inl ⟨rfl, _, SqL.of (s56 _ _ hL5)⟩, _, rfl, _, rfl, y1, y2, cs1, cs2, rfl, .inr ⟨SqT.of (s6 _ _ hy1), SqT.of (s6 _ _ hy2), fun D hD => ?_⟩⟩
    refine map_zip (by decide) (walk_zipT (by rw [aR1.len, aR2.len, lr1, lr2])) (CellR IsII (List.zipWith (fun a b => a * (denM N : Int) + s * b * (denM M : Int)) row1 row2)) (CellR.imm hRI) hD (fun _ s7 => ⟨SqT.of (s7 _ _ (s6 _ _ hy1)), SqT.of (s7 _ _ (s6 _ _ hy2))⟩) (by rw [aR1.len, lr1]; exact Nat.le_trans (by omega) thousand_line) (fun j u v H7 Q7 hu hv s7 q7 => ?_) (fun zs H7 s7 hl1 hl2 hl3 => ?_)
    · obtain ⟨ui, hui, rfl⟩ := aR1.get' hu
      obtain ⟨vi, hvi, rfl⟩ := aR2.get' hv
      have bu := wbd (List.mem_of_getElem? hrow1) w3 hui
      have bv := wbd (List.mem_of_getElem? hrow2) x3 hvi
      have s67 := Same.trans s6 s7
      have bs : s.natAbs < 2 ^ 1 := by rcases hs with rfl | rfl <;> decide
      have bsv := natAbs_mul_lt bs bv
      refine ⟨_, rfl, _, rfl, a2, _, dx2, _, _, rfl, s67 _ _ ha2, cl, nab, mFs_b _ _ _, _, _, rfl, rfl, wide_mul bu (show ((denM N : Int)).natAbs < 2 ^ (m * n * c + 1) by omega) (by omega) (by omega) (by omega), ?_⟩
      refine ⟨_, rfl, _, rfl, _, _, rfl, rfl, wide_mul bs bv (by decide) (by omega) (by omega), ?_⟩
      refine ⟨_, rfl, a1, _, dx1, _, _, rfl, s67 _ _ ha1, cl, nab, mFs_b _ _ _, _, _, rfl, rfl, wide_mul bsv (show ((denM M : Int)).natAbs < 2 ^ (m * n * b + 1) by omega) (by omega) (by omega) (by omega), ?_⟩
      exact ⟨_, _, rfl, rfl, q7 _ _ (Same.refl _) ⟨_, by rw [List.getElem?_zipWith, hui, hvi], rfl⟩⟩
    · refine ⟨D, zs, rfl, .inl ⟨SqL.of hl1, fun l hl => ?_⟩⟩
      have s67 := Same.trans s6 s7
      have hL7 : H7 L = some (.lst ys) := s7 _ _ (s56 _ _ hL5)
      have hlL : l ≠ L := fun e => by rw [e, hL7] at hl; cases hl
      refine ⟨L, ys, .ref l, rfl, rfl, Same.upd hl _ _ hL7, by rw [ly]; exact Nat.lt_of_lt_of_le (show i < 1000 by omega) thousand_line, ?_⟩
      have iLst : Imm (upd H7 l (.tup zs)) (upd (upd H7 l (.tup zs)) L (.lst (ys ++ [.ref l]))) := Imm.lst (Same.upd hl _ _ hL7)
      have i57 : Imm H5 (upd (upd H7 l (.tup zs)) L (.lst (ys ++ [.ref l]))) := Imm.trans (Same.imm s56) (Imm.trans (Same.imm s7) (Imm.trans (Imm.new hl) iLst))
      refine ⟨_, _, ys ++ [.ref l], rfl, Same.updT (Same.updT s67 (Same.free s67 hl)) hL0, upd_same, by simp [ly], fun j y e => ?_⟩
      by_cases hj : j < ys.length
      · rw [List.getElem?_append_left hj] at e
        exact RowR.imm hRI _ _ _ _ i57 (hys j y e)
      · rw [List.getElem?_append_right (by omega)] at e
        have hj0 : j - ys.length = 0 := by
          by_cases q : j - ys.length = 0
          · exact q
          · rw [List.getElem?_eq_none (by simp; omega)] at e; cases e
        rw [hj0] at e
        simp at e
        subst e
        have hji : j = i := by omega
        subst hji
        exact RowR.imm hRI _ _ _ _ iLst (row_fin htbl upd_same (by rw [hl2, aR1.len]; simp [lr1, lr2]) fun j y e => CellR.imm hRI _ _ _ _ (Imm.new hl) (hl3 j y e))
  · rintro σ H5 ⟨o4, o5, ys, rfl, s5, hL5, ly, hys⟩
    refine ⟨_, rfl, L, ys, rfl, .inl ⟨SqL.of hL5, fun l hl => ?_⟩⟩
    have hT := tab_fin (tb := addI s (denM M) (denM N) (whM M) (whM N)) (R := IsII) (H' := upd H5 l (.tup ys)) (l := l) upd_same (by rw [ly, l1]; simp [addI, w2, x2]) fun j y e => RowR.imm hRI _ _ _ _ (Imm.new hl) (hys j y e)
    have s6 : Same H (upd H5 l (.tup ys)) := Same.updT s5 (Same.free s5 hl)
    generalize upd H5 l (.tup ys) = H6 at *
    have bd1 : ((denM M : Int)).natAbs < 2 ^ (m * n * b + 1) := by omega
    have bd2 : ((denM N : Int)).natAbs < 2 ^ (m * n * c + 1) := by omega
    refine ⟨_, rfl, a1, _, dx1, _, _, rfl, s6 _ _ ha1, cl, nab, mFs_b _ _ _, _, rfl, a2, _, dx2, _, _, rfl, s6 _ _ ha2, cl, nab, mFs_b _ _ _, _, _, rfl, rfl, wide_mul bd1 bd2 (by omega) (by omega) (by omega), ?_⟩
    have pM := denM_pos M
    have pN := denM_pos N
    have hres := addM_wh s M N
    refine ⟨_, _, _, m, n, b + c + 1, rfl, hT, Int.mul_ne_zero (by omega) (by omega), Nat.lt_of_lt_of_le (natAbs_mul_lt bd1 bd2) (Nat.pow_le_pow_right (by decide) (by omega)), ?_, hb, fun v' H' s' h' => ?_⟩
    · rw [hres]; exact hM.add hs hN
    · rw [hres] at h'; exact k v' H' (Same.trans s6 s') h'
end
end K9

/-! ## F16 -/
namespace K9
open PySem PySem.Spec PyProof.Rows L2
/-! Matrix: +, -, *, inverse, [i, j]. -/
def invT (M : List (List Rat)) (n : Nat) : List (List Rat) := ofI ((idI n).map fun r => r.map fun a => (denM M : Int) * a) (lastI n (whM M))
def spInvM (K : PySem.W.Frag) : Sp := fun vs H Q _ => ∃ (v : V) (M : List (List Rat)) (n b c : Nat), vs = [v] ∧ IsM K H v M ∧ MatB n n b M ∧ n * n * b ≤ 8000 ∧ DiagI n (whM M) ∧ MatB n n c (invT M n) ∧ n * n * c ≤ 8000 ∧ Pure (fun v' H' => IsM K H' v' (invT M n)) H Q
theorem DiagI.last {n : Nat} {A : List (List Int)} (h : DiagI n A) : lastI n A ≠ 0 ∧ (lastI n A).natAbs < 2 ^ 9000 := by
  have := h.pos
  obtain ⟨r, x, h1, h2, lr, h3, h4, _⟩ := h.aug (show n - 1 < n by omega)
  have e : lastI n A = x := by
    unfold lastI
    rw [List.getD_eq_getElem?_getD, List.getD_eq_getElem?_getD, h1, Option.getD_some, h3]
    rfl
  rw [e]
  exact ⟨h4, h.bd r (List.mem_of_getElem? h1) x (List.mem_of_getElem? h3)⟩
theorem rd_isR {K : PySem.W.Frag} {H : Hp} {v : V} {r : Rat} {sp : Sp} {Q : VK} (h : IsR K H v r) (q : sp [v] H Q E0) : ∃ a C dx fs, v = .ref a ∧ H a = some (.ins C dx fs) ∧ isRat K C ∧ sp [.ref a] H Q E0 := by
  obtain ⟨a, dx, rfl, ha⟩ := h
  exact ⟨a, _, dx, _, rfl, ha, rfl, q⟩
section
variable {P : Program} {w : World} {K : PySem.W.Frag} {mg : Str → Option Value} {base : Heap}
theorem sc_mAdd : FnScope ["self", "other"] ["self", "other"] (defScope (inCls 65 10)) := ⟨rfl, rfl, rfl, by decide +kernel, rfl, by decide +kernel, by decide +kernel⟩
theorem sc_mSub : FnScope ["self", "other"] ["self", "other"] (defScope (inCls 65 11)) := ⟨rfl, rfl, rfl, by decide +kernel, rfl, by decide +kernel, by decide +kernel⟩
theorem met_mAdd (T : Txt K mg) : Opm P w K mg base 9 (cM K) "__add__" (spAddM K 1) := by
  refine (met_of T.mAdd sc_mAdd (fun _ _ _ _ _ _ us hl => match us, hl with | [_, _], _ => rfl) (fun vs H Q E h => ?_) (fun f cdv A outer s H vs Q E hr h => ?_)).2
  · obtain ⟨v1, v2, M, N, m, n, b, c, rfl, _⟩ := h; rfl
  have mi := nofree T (x := "isinstance") (by decide +kernel)
  refine ⟨_, pss_cons (ps_if (pt_not (pt_val (pe_callB call_isi (by rfl) mi boot_isi (pa_cons (pv 1) (pa_cons (pe_glob (v := .ref (cM K)) (by rfl) T.mGlob rfl) pa_nil))))) (pss_one ps_never) pss_nil)
    (pss_one (ps_ret (pe_c (cal_added T) hr (pa_cons (pv 0) (pa_cons (pv 1) (pa_cons pe_int pa_nil)))))), ?_⟩
  obtain ⟨v1, v2, M, N, m, n, b, c, rfl, h1, h2, hM, hN, hb, k⟩ := h
  have h2' := h2
  obtain ⟨a2, dx2, cv2, wv2, rfl, ha2, _⟩ := h2'
  refine ⟨_, rfl, _, _, _, _, _, rfl, .own _, T.mNum.ni.own.ty ha2, T.mSelf, _, rfl, iteF ?_⟩
  exact ⟨_, rfl, _, rfl, _, _, 1, M, N, m, n, b, c, rfl, .inl rfl, h1, h2, hM, hN, hb, k⟩
theorem met_mSub (T : Txt K mg) : Opm P w K mg base 9 (cM K) "__sub__" (spAddM K (-1)) := by
  refine (met_of T.mSub sc_mSub (fun _ _ _ _ _ _ us hl => match us, hl with | [_, _], _ => rfl) (fun vs H Q E h => ?_) (fun f cdv A outer s H vs Q E hr h => ?_)).2
  · obtain ⟨v1, v2, M, N, m, n, b, c, rfl, _⟩ := h; rfl
  have mi := nofree T (x := "isinstance") (by decide +kernel)
  refine ⟨_, pss_cons (ps_if (pt_not (pt_val (pe_callB call_isi (by rfl) mi boot_isi (pa_cons (pv 1) (pa_cons (pe_glob (v := .ref (cM K)) (by rfl) T.mGlob rfl) pa_nil))))) (pss_one ps_never) pss_nil)
    (pss_one (ps_ret (pe_c (cal_added T) hr (pa_cons (pv 0) (pa_cons (pv 1) (pa_cons (pe_un un_neg pe_int) pa_nil)))))), ?_⟩
  obtain ⟨v1, v2, M, N, m, n, b, c, rfl, h1, h2, hM, hN, hb, k⟩ := h
  have h2' := h2
  obtain ⟨a2, dx2, cv2, wv2, rfl, ha2, _⟩ := h2'
  refine ⟨_, rfl, _, _, _, _, _, rfl, .own _, T.mNum.ni.own.ty ha2, T.mSelf, _, rfl, iteF ?_⟩
  exact ⟨_, rfl, _, rfl, _, rfl, _, _, -1, M, N, m, n, b, c, rfl, .inr rfl, h1, h2, hM, hN, hb, k⟩
abbrev nMulM : List Str := ["self", "other", "factor", "rows", "row", "cell"]
theorem sc_mMul : FnScope nMulM ["self", "other"] (defScope (inCls 65 12)) := ⟨rfl, rfl, rfl, by decide +kernel, rfl, by decide +kernel, by decide +kernel⟩
theorem met_mMul (T : Txt K mg) : Opm P w K mg base 8 (cM K) "__mul__" (spMulM K) := by
  refine (met_of T.mMul sc_mMul (fun _ _ _ _ _ _ us hl => match us, hl with | [_, _], _ => rfl) (fun vs H Q E h => ?_) (fun f cdv A outer s H vs Q E hr h => ?_)).2
  · rcases h with ⟨v1, v2, M, N, m, n, b, c, rfl, _⟩ | ⟨v1, v2, M, N, m, k, n, b, c, rfl, _⟩ <;> rfl
  have mi := nofree T (x := "isinstance") (by decide +kernel)
  have mt := nofree T (x := "tuple") (by decide +kernel)
  refine ⟨_, pss_cons (ps_if (pt_val (pe_c (cal_is_number T) hr (pa_cons (pv 1) pa_nil)))
      (pss_cons (ps_set (i := 2) sc_mMul.nd rfl (Or.inr rfl) (pe_c (cal_as_ratio T) hr (pa_cons (pv 1) pa_nil)))
      (pss_cons (ps_set (i := 3) sc_mMul.nd rfl (Or.inl rfl) (pe_callTy (tupleOf9 K) (by rfl) mt boot_tuple (pa_cons (pe_lc (own := [("row", 4)]) (g := gName 4) (tt := tYes) rfl sc_mMul.nd (tup9 K (pe_fld (pv 0) rfl)) (blkOk_by (N := nMulM) (sc := defScope (inCls 65 12)) (by decide +kernel)) (fun _ _ _ _ _ => pg_name (i := 4) sc_mMul.nd rfl (Or.inl rfl)) (fun _ _ _ _ _ => pts_nil)
        (fun _ _ _ _ _ => pe_callTy (tupleOf9 K) (by rfl) mt boot_tuple (pa_cons (pe_lc (own := [("cell", 5)]) (g := gName 5) (tt := tYes) rfl sc_mMul.nd (tup9 K (pv 4)) (blkOk_by (N := nMulM) (by kernel_rfl)) (fun _ _ _ _ _ => pg_name (i := 5) sc_mMul.nd rfl (Or.inl rfl)) (fun _ _ _ _ _ => pts_nil)
          (fun _ _ _ _ _ => pe_op op_mulW (pe_prp (prpT T) hr (pv 2)) (pv 5))) pa_nil))) pa_nil)))
      (pss_one (ps_ret (pe_c (cal_matrix_of T) hr (pa_cons (pv 3) (pa_cons (pe_op op_mulW (pe_fld (pv 0) rfl) (pe_prp (prpB T) hr (pv 2))) pa_nil))))))) pss_nil)
    (pss_cons (ps_if (pt_not (pt_val (pe_callB call_isi (by rfl) mi boot_isi (pa_cons (pv 1) (pa_cons (pe_glob (v := .ref (cM K)) (by rfl) T.mGlob rfl) pa_nil))))) (pss_one ps_never) pss_nil)
    (pss_cons (ps_if (pt_cmpR op_ne (pe_prp (prp_mcolumns T) hr (pv 0)) (pe_prp (prp_mrows T) hr (pv 1)) (nomark _)) (pss_one ps_never) pss_nil)
    (pss_one (ps_ret (pe_c (cal_matrix_of T) hr (pa_cons (pe_c (cal_multiplied T) hr (pa_cons (pe_fld (pv 0) rfl) (pa_cons (pe_fld (pv 1) rfl) pa_nil))) (pa_cons (pe_op op_mulW (pe_fld (pv 0) rfl) (pe_fld (pv 1) rfl)) pa_nil))))))), ?_⟩
  have cl := T.mNum.ni.own.cl
  have naw : NoAttr K (cM K) "wholes" := T.mNa _ (by decide +kernel)
  have nab : NoAttr K (cM K) "below" := T.mNa _ (by decide +kernel)
  have hRI : ∀ v x H H', Imm H H' → IsII H v x → IsII H' v x := fun v x H H' i h => h
  rcases h with ⟨v1, v2, M, q, m, n, b, c, rfl, h1, h2, hM, hq, hb, hc, k⟩ | ⟨v1, v2, M, N, m, l, n, b, c, rfl, h1, h2, hM, hN, hb, hb2, k⟩
  · have hmn : 0 < m * n := Nat.mul_pos hM.m0 hM.n0
    have e1 : m * n * (c + b) = m * n * c + m * n * b := by rw [Nat.mul_add]
    have hbb : b ≤ m * n * b := Nat.le_mul_of_pos_left _ hmn
    have hm1 := hM.m1
    have hn1 := hM.n1
    obtain ⟨w1, w2, w3⟩ := hM.wh
    have dM := hM.den
    refine ⟨_, rfl, .inl ⟨v2, q, rfl, .inr h2, _, rfl, iteT ?_⟩⟩
    refine ⟨_, rfl, v2, q, rfl, .inr h2, fun fv H1 s1 hf => ?_⟩
    obtain ⟨a1, dx1, cv1, wv1, rfl, ha1, hc1, ⟨rows1, ⟨t1, rvs1, rfl, ht1, hrv1⟩, aW1⟩⟩ := h1
    refine ⟨_, rfl, a1, _, dx1, _, _, rfl, s1 _ _ ha1, cl, naw, mFs_w _ _ _, t1, rfl, ⟨_, SqT.of (s1 _ _ ht1)⟩, fun D hD => ?_⟩
    refine tup_it (walk_tup' (xs := rvs1)) (RowR IsII ((whM M).map fun r => r.map fun a => q.num * a)) (RowR.imm hRI) hD (fun _ s2 => SqT.of (s2 _ _ (s1 _ _ ht1)))
      (by rw [hrv1.len, aW1.len, w2]; exact Nat.le_trans (by omega) thousand_line) (fun i y H2 Q2 hi hy s2 q2 => ?_) (fun l ys H2 s2 hl1 hl2 hl3 => ?_)
    · obtain ⟨cs, hcs, t', rfl, ht'⟩ := hrv1.get' hy
      obtain ⟨row, hrow, aR⟩ := aW1.get' hcs
      have s12 := Same.trans s1 s2
      refine ⟨_, rfl, t', rfl, ⟨_, SqT.of (s12 _ _ ht')⟩, fun D2 hD2 => ?_⟩
      refine tup_it (walk_tup' (xs := cs)) (CellR IsII (row.map fun a => q.num * a)) (CellR.imm hRI) hD2 (fun _ s3 => SqT.of (s3 _ _ (s12 _ _ ht'))) (by rw [aR.len, w1 row (List.mem_of_getElem? hrow)]; exact Nat.le_trans (by omega) thousand_line) (fun j y H3 Q3 hj hy s3 q3 => ?_) (fun l3 ys3 H3 s3 hl1 hl2 hl3 => ?_)
      · obtain ⟨x, hx, rfl⟩ := aR.get' hy
        have bx := w3 _ (List.mem_of_getElem? hrow) _ (List.mem_of_getElem? hx)
        refine ⟨_, rfl, rd_isR (hf.imm (Same.imm (Same.trans s2 s3))) ⟨_, q, rfl, hf.imm (Same.imm (Same.trans s2 s3)), _, rfl, _, _, rfl, rfl, wide_mul (Nat.lt_of_lt_of_le hq.1 (Nat.pow_le_pow_right (by decide) (Nat.le_succ c))) bx (by omega) (by omega) (by omega), ?_⟩⟩
        exact q3 _ _ (Same.refl _) ⟨_, by rw [List.getElem?_map, hx]; rfl, rfl⟩
      · exact q2 _ _ s3 (row_fin (by rw [List.getElem?_map, hrow]; rfl) hl1 (by rw [hl2, aR.len, List.length_map]) hl3)
    · have hT := tab_fin (tb := (whM M).map fun r => r.map fun a => q.num * a) (R := IsII) hl1 (by rw [hl2, hrv1.len, aW1.len, List.length_map]) hl3
      have s12 := Same.trans s1 s2
      have hf2 := hf.imm (Same.imm s2)
      have bd1 : ((denM M : Int)).natAbs < 2 ^ (m * n * b + 1) := by omega
      have bd2 : ((q.den : Int)).natAbs < 2 ^ (c + 1) := by
        have := hq.2
        rw [Nat.pow_succ]
        omega
      have hres := sclM_wh q M
      refine ⟨_, rfl, _, rfl, a1, _, dx1, _, _, rfl, s12 _ _ ha1, cl, nab, mFs_b _ _ _, _, rfl, rd_isR hf2 ⟨_, q, rfl, hf2, _, _, rfl, rfl, wide_mul bd1 bd2 (by omega) (by omega) (by omega), ?_⟩⟩
      refine ⟨_, _, _, m, n, c + b, rfl, hT, Int.mul_ne_zero (by have := denM_pos M; omega) (den_ne q), Nat.lt_of_lt_of_le (natAbs_mul_lt bd1 bd2) (Nat.pow_le_pow_right (by decide) (by omega)), ?_, hb, fun v' H' s' h' => ?_⟩
      · rw [hres]; exact hM.scl hq
      · rw [hres] at h'; exact k v' H' (Same.trans s12 s') h'
  · have hml : 0 < m * l := Nat.mul_pos hM.m0 hM.n0
    have hln : 0 < l * n := Nat.mul_pos hN.m0 hN.n0
    have hbb : b ≤ m * l * b := Nat.le_mul_of_pos_left _ hml
    have hcc : c ≤ l * n * c := Nat.le_mul_of_pos_left _ hln
    have hm1 := hM.m1
    have hn1 := hM.n1
    have hk1 := hN.n1
    obtain ⟨w1, w2, w3⟩ := hM.wh
    obtain ⟨x1, x2, x3⟩ := hN.wh
    obtain ⟨r0, hr0, lr0⟩ := hM.row0
    have dM := hM.den
    have dN := hN.den
    have h2' := h2
    have h1' := h1
    obtain ⟨a2, dx2, cv2, wv2, rfl, ha2, hc2, hw2⟩ := h2'
    obtain ⟨a1, dx1, cv1, wv1, rfl, ha1, hc1, hw1⟩ := h1'
    refine ⟨_, rfl, .inr ⟨a2, _, dx2, _, rfl, ha2, T.mNum, _, rfl, iteF ?_⟩⟩
    refine ⟨_, rfl, _, _, _, _, _, rfl, .own _, T.mNum.ni.own.ty ha2, T.mSelf, _, rfl, iteF ?_⟩
    refine ⟨_, rfl, rd_isM h1 ⟨_, M, r0, rfl, h1, hr0, _, rfl, rd_isM h2 ⟨_, N, rfl, h2, rfl, _, rfl, ?_⟩⟩⟩
    rw [lr0, hN.len, decide_eq_true rfl]
    refine iteF ?_
    have big1 : ∀ r ∈ whM M, BdI 200000 r := fun r hr x hx => Nat.lt_of_lt_of_le (w3 r hr x hx) (Nat.pow_le_pow_right (by decide) (by omega))
    have big2 : ∀ r ∈ whM N, BdI 200000 r := fun r hr x hx => Nat.lt_of_lt_of_le (x3 r hr x hx) (Nat.pow_le_pow_right (by decide) (by omega))
    refine ⟨_, rfl, a1, _, dx1, _, _, rfl, ha1, cl, naw, mFs_w _ _ _, _, rfl, a2, _, dx2, _, _, rfl, ha2, cl, naw, mFs_w _ _ _, ?_⟩
    refine ⟨wv1, wv2, whM M, whM N, n, rfl, hw1, hw2, fun e => by have := hN.m0; rw [e] at x2; simp at x2; omega, fun r hr => by rw [w1 r hr, x2], x1, by omega, by omega, by omega, big1, big2, fun tv H1 s1 hT => ?_⟩
    have bd1 : ((denM M : Int)).natAbs < 2 ^ (m * l * b + 1) := by omega
    have bd2 : ((denM N : Int)).natAbs < 2 ^ (l * n * c + 1) := by omega
    have hres := mulM_wh n M N
    refine ⟨_, rfl, a1, _, dx1, _, _, rfl, s1 _ _ ha1, cl, nab, mFs_b _ _ _, _, rfl, a2, _, dx2, _, _, rfl, s1 _ _ ha2, cl, nab, mFs_b _ _ _, _, _, rfl, rfl, wide_mul bd1 bd2 (by omega) (by omega) (by omega), ?_⟩
    have pM := denM_pos M
    have pN := denM_pos N
    refine ⟨_, _, _, m, n, _, rfl, hT, Int.mul_ne_zero (by omega) (by omega), Nat.lt_of_lt_of_le (natAbs_mul_lt bd1 bd2) (Nat.pow_le_pow_right (by decide) (by omega)), ?_, hb, fun v' H' s' h' => ?_⟩
    · rw [hres]; exact hM.mul hN
    · rw [hres] at h'; exact k v' H' (Same.trans s1 s') h'
abbrev nInv : List Str := ["self", "found", "row", "cell"]
theorem sc_mInv : FnScope nInv ["self"] (defScope (inCls 65 8)) := ⟨rfl, rfl, rfl, by decide +kernel, rfl, by decide +kernel, by decide +kernel⟩
theorem met_mInv (T : Txt K mg) : Met P w K mg base 8 (cM K) "inverse" (spInvM K) [] := by
  refine (met_of T.mInverse sc_mInv (fun _ _ _ _ _ _ us hl => match us, hl with | [_], _ => rfl) (fun vs H Q E h => ?_) (fun f cdv A outer s H vs Q E hr h => ?_)).1
  · obtain ⟨v, M, n, b, c, rfl, _⟩ := h; rfl
  have mt := nofree T (x := "tuple") (by decide +kernel)
  refine ⟨_, pss_cons (ps_if (pt_cmpR op_ne (pe_prp (prp_mrows T) hr (pv 0)) (pe_prp (prp_mcolumns T) hr (pv 0)) (nomark _)) (pss_one ps_never) pss_nil)
    (pss_cons (ps_set (i := 1) sc_mInv.nd rfl (Or.inl rfl) (pe_c (cal_elim T) hr (pa_cons (pe_fld (pv 0) rfl) pa_nil)))
    (pss_cons (ps_if (pt_cmpR op_isN (pv 1) pe_non (nomark _)) (pss_one ps_never) pss_nil)
    (pss_one (ps_ret (pe_c (cal_matrix_of T) hr (pa_cons (pe_callTy (tupleOf9 K) (by rfl) mt boot_tuple (pa_cons (pe_lc (own := [("row", 2)]) (g := gName 2) (tt := tYes) rfl sc_mInv.nd (tup9 K (pe_ix (ixT9 K) (pv 1) pe_int (fun _ _ => rfl))) (blkOk_by (N := nInv) (sc := defScope (inCls 65 8)) (by decide +kernel)) (fun _ _ _ _ _ => pg_name (i := 2) sc_mInv.nd rfl (Or.inl rfl)) (fun _ _ _ _ _ => pts_nil)
        (fun _ _ _ _ _ => pe_callTy (tupleOf9 K) (by rfl) mt boot_tuple (pa_cons (pe_lc (own := [("cell", 3)]) (g := gName 3) (tt := tYes) rfl sc_mInv.nd (tup9 K (pv 2)) (blkOk_by (N := nInv) (by kernel_rfl)) (fun _ _ _ _ _ => pg_name (i := 3) sc_mInv.nd rfl (Or.inl rfl)) (fun _ _ _ _ _ => pts_nil)
          (fun _ _ _ _ _ => pe_op op_mulW (fld9 K (pv 0)) (pv 3))) pa_nil))) pa_nil)) (pa_cons (pe_ix (ixT9 K) (pv 1) pe_int (fun _ _ => rfl)) pa_nil))))))), ?_⟩
  obtain ⟨v, M, n, b, c, rfl, h1, hM, hb, hD, hI, hc, k⟩ := h
  have cl := T.mNum.ni.own.cl
  have naw : NoAttr K (cM K) "wholes" := T.mNa _ (by decide +kernel)
  have nab : NoAttr K (cM K) "below" := T.mNa _ (by decide +kernel)
  have hRI : ∀ v x H H', Imm H H' → IsII H v x → IsII H' v x := fun v x H H' i h => h
  obtain ⟨r0, hr0, lr0⟩ := hM.row0
  have hm1 := hM.m1
  refine ⟨_, rfl, rd_isM h1 ⟨_, M, rfl, h1, _, rfl, rd_isM h1 ⟨_, M, r0, rfl, h1, hr0, rfl, _, rfl, ?_⟩⟩⟩
  rw [lr0, hM.len, decide_eq_true rfl]
  refine iteF ?_
  obtain ⟨a1, dx1, cv1, wv1, rfl, ha1, hc1, hw1⟩ := h1
  refine ⟨_, rfl, a1, _, dx1, _, _, rfl, ha1, cl, naw, mFs_w _ _ _, wv1, n, whM M, rfl, hw1, hD, fun fv H1 s1 hf => ?_⟩
  obtain ⟨tf, iv, rfl, htf, ⟨rows1, ⟨t1, rvs1, rfl, ht1, hrv1⟩, aW1⟩⟩ := hf
  refine ⟨_, rfl, rfl, _, rfl, iteF ?_⟩
  refine ⟨_, rfl, tf, _, 0, .ref t1, rfl, rfl, SqT.of htf, rfl, t1, rfl, ⟨_, SqT.of ht1⟩, fun D hD' => ?_⟩
  have l1 : (idI n).length = n := by simp [idI]
  refine tup_it (walk_tup' (xs := rvs1)) (RowR IsII ((idI n).map fun r => r.map fun a => (denM M : Int) * a)) (RowR.imm hRI) hD' (fun _ s2 => SqT.of (s2 _ _ ht1))
      (by rw [hrv1.len, aW1.len, l1]; exact Nat.le_trans (by omega) thousand_line) (fun i y H2 Q2 hi hy s2 q2 => ?_) (fun l ys H2 s2 hl1 hl2 hl3 => ?_)
  · obtain ⟨cs, hcs, t', rfl, ht'⟩ := hrv1.get' hy
    obtain ⟨row, hrow, aR⟩ := aW1.get' hcs
    have hrow2 := List.mem_of_getElem? hrow
    unfold idI at hrow2
    obtain ⟨i', _, rfl⟩ := List.mem_map.mp hrow2
    refine ⟨_, rfl, t', rfl, ⟨_, SqT.of (s2 _ _ ht')⟩, fun D2 hD2 => ?_⟩
    refine tup_it (walk_tup' (xs := cs)) (CellR IsII ((eI n i').map fun a => (denM M : Int) * a)) (CellR.imm hRI) hD2 (fun _ s3 => SqT.of (s3 _ _ (s2 _ _ ht'))) (by rw [aR.len, eI_len]; exact Nat.le_trans (by omega) thousand_line) (fun j y H3 Q3 hj hy s3 q3 => ?_) (fun l3 ys3 H3 s3 hl1 hl2 hl3 => ?_)
    · obtain ⟨x, hx, rfl⟩ := aR.get' hy
      have bx : x.natAbs < 2 ^ 1 := by
        have := List.mem_of_getElem? hx
        unfold eI at this
        obtain ⟨j', _, rfl⟩ := List.mem_map.mp this
        split <;> decide
      have dM := hM.den
      refine ⟨_, rfl, a1, _, dx1, _, _, rfl, s3 _ _ (s2 _ _ (s1 _ _ ha1)), cl, nab, mFs_b _ _ _, _, rfl, _, _, rfl, rfl, wide_mul (show ((denM M : Int)).natAbs < 2 ^ (n * n * b + 1) by omega) bx (by omega) (by decide) (by omega), ?_⟩
      exact q3 _ _ (Same.refl _) ⟨_, by rw [List.getElem?_map, hx]; rfl, rfl⟩
    · exact q2 _ _ s3 (row_fin (by rw [List.getElem?_map, hrow]; rfl) hl1 (by rw [hl2, aR.len, List.length_map]) hl3)
  · have hT := tab_fin (tb := (idI n).map fun r => r.map fun a => (denM M : Int) * a) (R := IsII) hl1 (by rw [hl2, hrv1.len, aW1.len, List.length_map]) hl3
    refine ⟨_, rfl, tf, _, 1, .int (lastI n (whM M)), rfl, rfl, SqT.of (s2 _ _ htf), rfl, ?_⟩
    exact ⟨_, _, _, n, n, c, rfl, hT, hD.last.1, hD.last.2, hI, hc, fun v' H' s' h' => k v' H' (Same.trans s1 (Same.trans s2 s')) h'⟩
theorem sc_mItem : FnScope ["self", "at"] ["self", "at"] (defScope (inCls 65 14)) := ⟨rfl, rfl, rfl, by decide +kernel, rfl, by decide +kernel, by decide +kernel⟩
theorem met_mItem (T : Txt K mg) : Opm P w K mg base 3 (cM K) "__getitem__" (spItemM K) := by
  refine (met_of T.mItem sc_mItem (fun _ _ _ _ _ _ us hl => match us, hl with | [_, _], _ => rfl) (fun vs H Q E h => ?_) (fun f cdv A outer s H vs Q E hr h => ?_)).2
  · obtain ⟨v, t, M, m, n, b, i, j, x, rfl, _⟩ := h; rfl
  have mi := nofree T (x := "isinstance") (by decide +kernel)
  have mt := nofree T (x := "tuple") (by decide +kernel)
  have ml := nofree T (x := "len") (by decide +kernel)
  refine ⟨_, pss_cons (ps_if (PW.pt (pw_or (pt_not (pt_val (pe_callB call_isi (by rfl) mi boot_isi (pa_cons (pv 1) (pa_cons (pe_bltn (v := .ty "tuple") (by rfl) mt boot_tuple rfl) pa_nil))))) (pw_or1 (pt_cmpR op_ne (pe_callB (len9 K) (by rfl) ml PySem.boot_len (pa_cons (pv 1) pa_nil)) pe_int (nomark _))))) (pss_one ps_never) pss_nil)
    (pss_cons (ps_if (PW.pt (pw_or (pt_not (pt_val (pe_c (cal_is_index T) hr (pa_cons (pe_ix (ixT9 K) (pv 1) pe_int (fun _ _ => rfl)) (pa_cons (pe_prp (prp_mrows T) hr (pv 0)) pa_nil))))) (pw_or1 (pt_not (pt_val (pe_c (cal_is_index T) hr (pa_cons (pe_ix (ixT9 K) (pv 1) pe_int (fun _ _ => rfl)) (pa_cons (pe_prp (prp_mcolumns T) hr (pv 0)) pa_nil)))))))) (pss_one ps_never) pss_nil)
    (pss_one (ps_ret (pe_ix (ixT9 K) (pe_ix (ixT9 K) (pe_fld (pv 0) rfl) (pe_ix (ixT9 K) (pv 1) pe_int (fun _ _ => rfl)) (fun _ _ => rfl)) (pe_ix (ixT9 K) (pv 1) pe_int (fun _ _ => rfl)) (fun _ _ => rfl))))), ?_⟩
  obtain ⟨v, t, M, m, n, b, i, j, x, rfl, ht, h1, hM, hi, hj, hx, k⟩ := h
  obtain ⟨r0, hr0, lr0⟩ := hM.row0
  refine ⟨_, rfl, _, _, _, _, _, rfl, .ty _, .base (.tup ht), kit_tt, _, rfl, iteF ?_⟩
  refine ⟨_, rfl, t, _, rfl, .inr (SqT.of ht), rfl, _, rfl, iteF ?_⟩
  refine ⟨_, rfl, t, _, 0, .int i, rfl, rfl, SqT.of ht, rfl, _, rfl, rd_isM h1 ⟨_, M, rfl, h1, ?_⟩⟩
  refine ⟨(i : Int), (M.length : Int), rfl, by omega, by rw [hM.len]; omega, _, rfl, iteF ?_⟩
  refine ⟨_, rfl, t, _, 1, .int j, rfl, rfl, SqT.of ht, rfl, _, rfl, rd_isM h1 ⟨_, M, r0, rfl, h1, hr0, ?_⟩⟩
  refine ⟨(j : Int), (r0.length : Int), rfl, by omega, by rw [lr0]; omega, _, rfl, iteF ?_⟩
  obtain ⟨a1, dx1, cv1, wv1, rfl, ha1, ⟨rows1, ⟨t1, rvs1, rfl, ht1, hrv1⟩, aW1⟩, hw⟩ := h1
  have hi2 : i < M.length := by rw [hM.len]; exact hi
  obtain ⟨cs, hcs, aR⟩ := aW1.get (List.getElem?_eq_getElem hi2)
  obtain ⟨rv, hrv, t', rfl, ht'⟩ := hrv1.get hcs
  have hj2 : j < M[i].length := by rw [hM.wid _ (List.getElem_mem hi2)]; exact hj
  obtain ⟨xv, hxv, hR⟩ := aR.get (List.getElem?_eq_getElem hj2)
  refine ⟨_, rfl, a1, _, dx1, _, _, rfl, ha1, T.mNum.ni.own.cl, T.mNa _ (by decide +kernel), mFs_c _ _ _, _, rfl, t, _, 0, .int i, rfl, rfl, SqT.of ht, rfl, t1, rvs1, i, .ref t', rfl, rfl, SqT.of ht1, atI_nat hrv, ?_⟩
  refine ⟨_, rfl, t, _, 1, .int j, rfl, rfl, SqT.of ht, rfl, t', cs, j, xv, rfl, rfl, SqT.of ht', atI_nat hxv, k xv ?_⟩
  rw [← hx, List.getD_eq_getElem?_getD, List.getD_eq_getElem?_getD, List.getElem?_eq_getElem hi2, Option.getD_some, List.getElem?_eq_getElem hj2]
  exact hR
end
end K9

/-! ## F17 -/
namespace K9
open PySem PySem.Spec PyProof.Rows L2
def maxOr (d : Int) : List Int → Int | [] => d | y :: ys => ys.foldl (fun a b => if a < b then b else a) y
theorem dl (i j : Int) : W.dataLt (.int i) (.int j) = decide (i < j) := by
  simp only [W.dataLt, W.keyToks]
  simp [PyProof.Rows.lexLt, itemOrd, itemLt]
theorem maxD_ints (y : Int) (ys : List Int) : W.maxD (.int y) (ys.map PyData.int) = .int (maxOr 0 (y :: ys)) := by
  unfold W.maxD maxOr
  induction ys generalizing y with
  | nil => rfl
  | cons z ys ih =>
    rw [List.map_cons, List.foldl_cons, dl]
    show _ = PyData.int (List.foldl _ (if y < z then z else y) ys)
    by_cases h : y < z
    · rw [if_pos (decide_eq_true h), if_pos h]; exact ih z
    · rw [if_neg (by simpa using h), if_neg h]; exact ih y
theorem depth_ints (ns : List Int) : PyData.depthAll (ns.map PyData.int) ≤ 1 := by
  induction ns with
  | nil => simp [PyData.depthAll]
  | cons z ys ih =>
    rw [List.map_cons]
    simp only [PyData.depthAll, PyData.depth]
    omega
def rMaxDf (K : PySem.W.Frag) : List V → List V → Hp → VK → Prop := fun xs zs H Q => ∃ a ns d, xs = [.ref a] ∧ zs = [.int d] ∧ SqL K H a (ns.map V.int) ∧ Q (.int (maxOr d ns)) H
theorem cr_maxDf {X : Cx} (hc : X.calm = true := by rfl) (hu : X.A.units + 64 < cLine) : CallRK X (.builtin "max") ["default"] (rMaxDf X.K) := by
  intro pins s σ H xs zs us ws Q I rx rz h
  obtain ⟨a, ns, d, rfl, rfl, hs, q⟩ := h
  obtain ⟨its, rv, hl, _⟩ := I.list hs
  cases rx with
  | cons r0 rx0 =>
  cases rx0
  cases r0
  cases rz with
  | cons r1 rz0 =>
  cases rz0
  obtain ⟨td, rfl⟩ := r1
  refine PySem.W.max_list_default (I.ok.hd hc) hl.isList (W.readsAll_of_ints (ints_of_vals rv)) ⟨fun x hx y hy => ?_, fun x hx => ?_⟩ ?_ (fun e h' tk hk => ?_) (fun y ys i v h' tk bs e hv hr hk => ?_)
  · obtain ⟨i, _, rfl⟩ := List.mem_map.mp hx
    obtain ⟨j, _, rfl⟩ := List.mem_map.mp hy
    rfl
  · obtain ⟨i, _, rfl⟩ := List.mem_map.mp hx
    exact fun e => nomatch e
  · have := depth_ints ns
    omega
  · have : ns = [] := List.map_eq_nil_iff.mp e
    subst this
    exact ⟨.int d, H, I.kept hk, ⟨td, rfl⟩, q⟩
  · cases ns with
    | nil => cases e
    | cons n ns =>
      injection e with e1 e2
      subst e1
      subst e2
      rw [maxD_ints] at hr
      cases hr with
      | int i t => exact ⟨.int _, H, I.kept hk, ⟨t, rfl⟩, q⟩

/-! the inverse of a number, of the identity of side 2 -/
def midInv (M : List (List Rat)) : List (List Rat) := match M with | [[q]] => [[q⁻¹]] | M => M
def eye2 : List (List Rat) := [[1, 0], [0, 1]]
def OkInv (n : Nat) (M : List (List Rat)) : Prop := (n = 1 ∧ ∃ q, M = [[q]] ∧ q ≠ 0) ∨ (n = 2 ∧ M = eye2)
theorem wh_1 (q : Rat) : denM [[q]] = q.den ∧ whM [[q]] = [[q.num]] := by
  have e : denM [[q]] = q.den := by
    show Nat.lcm 1 q.den = q.den
    exact Nat.lcm_one_left _
  refine ⟨e, ?_⟩
  unfold whM
  rw [e]
  show [[q.num * ((q.den : Int) / (q.den : Int))]] = _
  rw [Int.ediv_self (den_ne q), Int.mul_one]
theorem wh_2 : denM eye2 = 1 ∧ whM eye2 = [[1, 0], [0, 1]] := ⟨by decide +kernel, by decide +kernel⟩
theorem OkInv.diag {n b : Nat} {M : List (List Rat)} (h : OkInv n M) (hM : MatB n n b M) (hb : b ≤ 8000) : DiagI n (whM M) ∧ invT M n = midInv M ∧ MatB n n b (midInv M) := by
  have big : (1 : Nat) < 2 ^ 9000 := Nat.one_lt_two_pow (by decide)
  rcases h with ⟨rfl, q, rfl, hq⟩ | ⟨rfl, rfl⟩
  · obtain ⟨e1, e2⟩ := wh_1 q
    have bq : BdR b q := hM.bd [q] List.mem_cons_self q List.mem_cons_self
    have hn : q.num ≠ 0 := fun e => hq (Rat.num_eq_zero.mp e)
    refine ⟨?_, ?_, ?_⟩
    · rw [e2]
      refine ⟨by decide, by decide, rfl, fun r hr => by rw [List.mem_singleton.mp hr]; rfl, fun k row e => ?_, fun i k row e h1 h2 => ?_, fun r hr a ha => ?_⟩
      · cases k with
        | zero => cases e; exact ⟨q.num, rfl, hn, .inl rfl⟩
        | succ k => simp at e
      · cases i with
        | zero => omega
        | succ i => simp at e
      · rw [List.mem_singleton.mp hr] at ha
        rw [List.mem_singleton.mp ha]
        exact Nat.lt_of_lt_of_le bq.1 (Nat.pow_le_pow_right (by decide) (by omega))
    · unfold invT
      rw [e1, e2]
      show [[Rat.divInt ((q.den : Int) * 1) q.num]] = [[q⁻¹]]
      rw [Int.mul_one, Rat.inv_def]
    · refine ⟨by decide, by decide, by decide, by decide, rfl, fun r hr => by rw [List.mem_singleton.mp hr]; rfl, fun r hr a ha => ?_⟩
      rw [List.mem_singleton.mp hr] at ha
      rw [List.mem_singleton.mp ha, Rat.inv_def]
      exact BdR.divInt hn (by have := bq.2; omega) bq.1
  · refine ⟨?_, by decide +kernel, hM⟩
    rw [wh_2.2]
    refine ⟨by decide, by decide, rfl, fun r hr => ?_, fun k row e => ?_, fun i k row e h1 h2 => ?_, fun r hr a ha => ?_⟩
    · simp at hr
      rcases hr with rfl | rfl <;> rfl
    · match k, e with
      | 0, e => cases e; exact ⟨1, rfl, by decide, .inr rfl⟩
      | 1, e => cases e; exact ⟨1, rfl, by decide, .inr rfl⟩
      | k + 2, e => simp at e
    · match i, k, e with
      | 0, 0, e => omega
      | 0, 1, e => cases e; rfl
      | 1, 0, e => cases e; rfl
      | 1, 1, e => omega
      | _, k + 2, e => omega
      | i + 2, _, e => simp at e
    · have : a = 1 ∨ a = 0 := by
        simp at hr
        rcases hr with rfl | rfl <;> simp at ha <;> omega
      rcases this with rfl | rfl
      · exact big
      · exact Nat.two_pow_pos _
end K9

/-! ## F18 -/
namespace K9
open PySem PySem.Spec PyProof.Rows L2
/-! str(x), x an instance with its own __str__; binding of a def that closes over its class. -/
def rStrOwn (ok : Addr → Prop) (sp : Sp) : List V → Hp → VK → Prop := fun xs H Q => ∃ a C dx fs, xs = [.ref a] ∧ H a = some (.ins C dx fs) ∧ ok C ∧ sp [.ref a] H (fun v H' => ∃ z, v = .str z ∧ Q v H') E0
theorem wants_str {P : Program} {w : World} {A : Around} {E : Value → Shared → Prop} {s : Shared} {x : Value} {Q : Value → Shared → Prop}
    (h : wpAny (model P w) A.in1.in1 (PySem.Builtin.Str.strOf x) (fun r s' => s'.TypeIs r "str" ∧ Q r s') E s) : wpAny (model P w) A (call (.type "str") [x]) Q E s := by
  refine PySem.callType_newIn (S := fun A' R s' => wpAny (model P w) A'.in1 (PySem.Builtin.Str.strOf x) (fun r s' => R (.ok (.ret r)) s') (fun e s' => R (.error e) s') s') PySem.F.called_str (of_decide_eq_true (id (Eq.refl true))) (PySem.F.typeCall_str_1 x) (PySem.F.newCall_str_1 x) (fun obj => PySem.F.args_object_init_2 obj x) PySem.F.entry_str_new ?_ h
  refine PySem.MeetsIn.of_wp fun A R s h => ?_
  rw [PySem.str_new_tree]
  exact wpAny_bind (wpAny_pure (wpAny_bind (wpAny_of_eq isSubtype_str_str (wpAny_bind (wpAny_mono h (fun r s' h' => wpAny_pure ⟨r, rfl, h'⟩) fun _ _ e => e)))))
theorem cr_strOwn {X : Cx} {k j : Nat} {ok : Addr → Prop} {sp : Sp} (c : ∀ C, ok C → Opm X.prog X.w X.K X.mg X.base k C "__str__" sp) (hr : Room j X.A) (hk : k + 2 ≤ j := by decide) : CallR X (.type "str") (rStrOwn ok sp) := by
  intro pins s σ H xs us Q I r h
  obtain ⟨a, C, dx, fs, rfl, ha, hC, q⟩ := h
  cases r with
  | cons r0 r1 =>
  cases r1
  cases r0
  obtain ⟨mA, J, _⟩ := ins_get I.hok ha
  obtain ⟨od, J, _⟩ := J.look
  obtain ⟨f, hs, hf, _, F⟩ := (c C hC).ex
  obtain ⟨fd, ps, ds, F, kp, hb', hd⟩ := F.ex
  have hds : ds = [] := by cases hd; rfl
  subst hds
  have hl : ([Value.ref a] ++ []).length = ps.length := (F.len _ _ _ _ q)
  have r1 : Room (k + 1) X.A.in1 := Room.in1 (hr.mono hk)
  have r2 : Room k X.A.in1.in1 := Room.in1 r1
  refine wants_str ?_
  refine PySem.W.kso_strOf r2.units0 I.kIn J hs hf ?_
  refine wpAny_call (codeAny_mono (F.run X.A.in1.in1 X.stack s H ⟨[Value.ref a], []⟩ ([Value.ref a] ++ []) ([V.ref a]) _ E0 r2 I.env0.in1.in1 (hb' s [Value.ref a] I.kIn hl) (show Vals [V.ref a] [Value.ref a] from .cons rfl .nil) q) fun r s' hq => ?_)
  cases r with
  | error e => exact False.elim hq
  | ok fl =>
    cases fl with
    | ret w =>
      obtain ⟨z, H', I', rz, x, ez, q⟩ := I.after hq
      subst ez
      obtain ⟨t, rfl⟩ := rz
      exact ⟨PySem.typeIs_str _ _ _, .str x, H', I', ⟨t, rfl⟩, q⟩
    | next => exact False.elim hq
    | brk => exact False.elim hq
    | cont => exact False.elim hq
/-- what a def that closes over its class binds: all its parameters -/
theorem FunS.bindsN {P : Program} {K : PySem.W.Frag} {x qual : Str} {params : Arguments} {body : List Stmt} {scope : Scope} {kws : List (Str × V)} {D f : Addr} {fd : FuncData} {ps : List Str} (F : FunS P K x qual params body scope kws D f fd)
    (hb : ∀ (kV doc pm : Value) (an : Option Addr) (cdv ct : Value) (cl : List (Str × Addr)) (us : List Value), us.length = ps.length → bindArgs (PySem.W.fnX x qual params body scope cl .none kV doc pm an cdv ct) ⟨us, []⟩ = pure (ps.zip us)) : L2.Binds K fd ps [] := by
  obtain ⟨oc, od, kV, doc, pm, an, c, cc, ct, osl, ccl, ccd, ccs, rfl, _⟩ := F.ex
  exact L2.Binds.all (hb kV doc pm an (.ref c) ct _)
end K9

/-! ## F19 -/
namespace K9
open PySem PySem.Spec PyProof.Rows L2
/-! Formulas as data. -/
/-! ### names in order -/
def leS (a b : Str) : Prop := a.cps.toList ≤ b.cps.toList
theorem leS_of_rising : ∀ (x : Str) (r : List Str), risingS x r = true → (x :: r).Pairwise leS
  | x, [], _ => List.pairwise_singleton _ _
  | x, y :: r, h => by
    rw [risingS.eq_2, Bool.and_eq_true, Bool.not_eq_true', ltCps_eq] at h
    have ih := leS_of_rising y r h.2
    have hxy : leS x y := by
      have := of_decide_eq_false h.1
      exact this
    refine List.pairwise_cons.mpr ⟨fun z hz => ?_, ih⟩
    rcases List.mem_cons.mp hz with rfl | hz
    · exact hxy
    · exact List.le_trans hxy ((List.pairwise_cons.mp ih).1 z hz)
theorem leS_of_sorted {l : List Str} (h : sortedS l = true) : l.Pairwise leS := by
  cases l with
  | nil => exact List.Pairwise.nil
  | cons x r => exact leS_of_rising x r h
theorem str_ext {a b : Str} (h : a.cps.toList = b.cps.toList) : a = b := by
  cases a; cases b
  congr 1
  exact Array.toList_inj.mp h
theorem sorted_unique {l k : List Str} (hl : sortedS l = true) (hk : sortedS k = true) (p : l.Perm k) : l = k :=
  List.Perm.eq_of_pairwise (fun a b _ _ h1 h2 => str_ext (List.le_antisymm h1 h2)) (leS_of_sorted hl) (leS_of_sorted hk) p
/-! ### the tree -/
structure Ltr where
  name : Str
  rows : Str
  cols : Str
  sym : Str
  about : Rat
inductive Fm where
  | letter (l : Ltr)
  | eye (s : List Str)
  | zero (r c : List Str)
  | sum (f g : Fm)
  | dif (f g : Fm)
  | sca (q : Rat) (f : Fm)
  | pro (f g : Fm)
  | tra (f : Fm)
  | inv (f : Fm)
  | pow (f : Fm) (e : Nat)
  | b22 (a b c d : Fm)
  | b21 (a b : Fm)
  | b12 (a b : Fm)
  | cor (f : Fm) (i j : Nat)
namespace Fm
def kd : Fm → KindI
  | letter _ => ⟨"Letter", 71, 1, 5, "letter", "Letter.__init__", "Letter.spelling", [("symmetry", .str "plain"), ("about", .int 0)]⟩
  | eye _ => ⟨"Eye", 72, 1, 2, "eye", "Eye.__init__", "Eye.spelling", []⟩
  | zero _ _ => ⟨"Zero", 73, 1, 2, "zero", "Zero.__init__", "Zero.spelling", []⟩
  | sum _ _ => ⟨"Sum", 74, 1, 2, "sum", "Sum.__init__", "Sum.spelling", []⟩
  | dif _ _ => ⟨"Difference", 75, 1, 2, "difference", "Difference.__init__", "Difference.spelling", []⟩
  | sca _ _ => ⟨"Scaled", 76, 1, 3, "scaled", "Scaled.__init__", "Scaled.spelling", []⟩
  | pro _ _ => ⟨"Product", 77, 1, 2, "product", "Product.__init__", "Product.spelling", []⟩
  | tra _ => ⟨"Transposed", 78, 1, 2, "transposed", "Transposed.__init__", "Transposed.spelling", []⟩
  | inv _ => ⟨"Inverse", 79, 1, 2, "inverse", "Inverse.__init__", "Inverse.spelling", []⟩
  | pow _ _ => ⟨"Power", 80, 1, 3, "power", "Power.__init__", "Power.spelling", []⟩
  | b22 _ _ _ _ => ⟨"Blocks", 81, 1, 3, "blocks", "Blocks.__init__", "Blocks.spelling", []⟩
  | b21 _ _ => ⟨"Blocks", 81, 1, 3, "blocks", "Blocks.__init__", "Blocks.spelling", []⟩
  | b12 _ _ => ⟨"Blocks", 81, 1, 3, "blocks", "Blocks.__init__", "Blocks.spelling", []⟩
  | cor _ _ _ => ⟨"Corner", 82, 1, 4, "corner", "Corner.__init__", "Corner.spelling", []⟩
theorem kd_mem (f : Fm) : f.kd ∈ kinds := by cases f <;> simp [kd, kinds]
def kids : Fm → List Fm
  | letter _ => []
  | eye _ => []
  | zero _ _ => []
  | sum f g => [f, g]
  | dif f g => [f, g]
  | sca _ f => [f]
  | pro f g => [f, g]
  | tra f => [f]
  | inv f => [f]
  | pow f _ => [f]
  | b22 a b c d => [a, b, c, d]
  | b21 a b => [a, b]
  | b12 a b => [a, b]
  | cor f _ _ => [f]
/-- rows and columns -/
def sides : Fm → List Str × List Str
  | letter l => ([l.rows], [l.cols])
  | eye s => (s, s)
  | zero r c => (r, c)
  | sum f _ => sides f
  | dif f _ => sides f
  | sca _ f => sides f
  | pro f g => ((sides f).1, (sides g).2)
  | tra f => ((sides f).2, (sides f).1)
  | inv f => sides f
  | pow f _ => sides f
  | b22 a b c _ => ((sides a).1 ++ (sides c).1, (sides a).2 ++ (sides b).2)
  | b21 a b => ((sides a).1 ++ (sides b).1, (sides a).2)
  | b12 a b => ((sides a).1, (sides a).2 ++ (sides b).2)
  | cor f i j => ([(sides f).1.getD i Str.empty], [(sides f).2.getD j Str.empty])
abbrev rows (f : Fm) : List Str := f.sides.1
abbrev cols (f : Fm) : List Str := f.sides.2
def wt : Fm → Nat
  | letter _ => 1
  | eye _ => 1
  | zero _ _ => 1
  | sum f g => wt f + wt g
  | dif f g => wt f + wt g
  | sca _ f => wt f
  | pro f g => wt f + wt g
  | tra f => wt f
  | inv f => wt f
  | pow f e => e * wt f
  | b22 a b c d => wt a + wt b + wt c + wt d
  | b21 a b => wt a + wt b
  | b12 a b => wt a + wt b
  | cor f _ _ => wt f
def lv : Fm → Nat
  | letter _ => 1
  | eye _ => 1
  | zero _ _ => 1
  | sum f g => 1 + max (lv f) (lv g)
  | dif f g => 1 + max (lv f) (lv g)
  | sca _ f => 1 + lv f
  | pro f g => 1 + max (lv f) (lv g)
  | tra f => 1 + lv f
  | inv f => 1 + lv f
  | pow f _ => 1 + lv f
  | b22 a b c d => 1 + max (max (max (lv a) (lv b)) (lv c)) (lv d)
  | b21 a b => 1 + max (lv a) (lv b)
  | b12 a b => 1 + max (lv a) (lv b)
  | cor f _ _ => 1 + lv f
/-- the letters that stand in it -/
def occ : Fm → List Ltr
  | letter l => [l]
  | eye _ => []
  | zero _ _ => []
  | sum f g => occ f ++ occ g
  | dif f g => occ f ++ occ g
  | sca _ f => occ f
  | pro f g => occ f ++ occ g
  | tra f => occ f
  | inv f => occ f
  | pow f _ => occ f
  | b22 a b c d => occ a ++ occ b ++ occ c ++ occ d
  | b21 a b => occ a ++ occ b
  | b12 a b => occ a ++ occ b
  | cor f _ _ => occ f
end Fm
def hcat (A B : List (List Rat)) : List (List Rat) := List.zipWith (· ++ ·) A B
def powM (n : Nat) (A : List (List Rat)) : Nat → List (List Rat)
  | 0 => A
  | k + 1 => mulM n (powM n A k) A
namespace Fm
def mid : Fm → List (List Rat)
  | letter l => [[l.about]]
  | eye s => eyeM s.length
  | zero r c => zeroM r.length c.length
  | sum f g => addM 1 (mid f) (mid g)
  | dif f g => addM (-1) (mid f) (mid g)
  | sca q f => sclM q (mid f)
  | pro f g => mulM (cols g).length (mid f) (mid g)
  | tra f => tr 0 (cols f).length (mid f)
  | inv f => midInv (mid f)
  | pow f e => powM (cols f).length (mid f) (e - 1)
  | b22 a b c d => hcat (mid a) (mid b) ++ hcat (mid c) (mid d)
  | b21 a b => mid a ++ mid b
  | b12 a b => hcat (mid a) (mid b)
  | cor f i j => [[((mid f).getD i []).getD j 0]]
/-- a bound of its numbers: 2 ^ bits -/
def powB (k b : Nat) : Nat → Nat
  | 0 => b
  | e + 1 => k * (powB k b e + b + 1) + 1
def bits : Fm → Nat
  | letter _ => 8
  | eye _ => 1
  | zero _ _ => 1
  | sum f g => bits f + bits g + 1
  | dif f g => bits f + bits g + 1
  | sca _ f => 8 + bits f
  | pro f g => (cols f).length * (bits f + bits g + 1) + 1
  | tra f => bits f
  | inv f => bits f
  | pow f e => powB (cols f).length (bits f) (e - 1)
  | b22 a b c d => max (max (bits a) (bits b)) (max (bits c) (bits d))
  | b21 a b => max (bits a) (bits b)
  | b12 a b => max (bits a) (bits b)
  | cor f _ _ => bits f
end Fm
/-! ### texts -/
def jn (l : List Str) : Str := l.foldl (· ++ ·) Str.empty
def ratS (q : Rat) : Str := if q.den = 1 then Str.ofString (toString q.num) else jn [Str.ofString (toString q.num), "/", Str.ofString (toString (q.den : Int))]
def commaS (l : List Str) : Str := Txt.join ", " l
def semiS (l : List Str) : Str := Txt.join "; " l
namespace Fm
def spell : Fm → Str
  | letter l => l.name
  | eye s => jn ["eye(", commaS s, ")"]
  | zero r c => jn ["zero(", commaS r, "; ", commaS c, ")"]
  | sum f g => jn ["(", spell f, " + ", spell g, ")"]
  | dif f g => jn ["(", spell f, " - ", spell g, ")"]
  | sca q f => jn ["(", ratS q, " * ", spell f, ")"]
  | pro f g => jn ["(", spell f, " * ", spell g, ")"]
  | tra f => jn [spell f, "'"]
  | inv f => jn ["inv(", spell f, ")"]
  | pow f e => jn ["(", spell f, " ** ", Str.ofString (toString (e : Int)), ")"]
  | b22 a b c d => jn ["blocks(", semiS [commaS [spell a, spell b], commaS [spell c, spell d]], ")"]
  | b21 a b => jn ["blocks(", semiS [commaS [spell a], commaS [spell b]], ")"]
  | b12 a b => jn ["blocks(", semiS [commaS [spell a, spell b]], ")"]
  | cor f i j => jn [spell f, "[", Str.ofString (toString (i : Int)), ", ", Str.ofString (toString (j : Int)), "]"]
def slen : Fm → Nat
  | letter _ => 6
  | eye s => 5 + 8 * s.length
  | zero r c => 8 + 8 * r.length + 8 * c.length
  | sum f g => slen f + slen g + 5
  | dif f g => slen f + slen g + 5
  | sca _ f => 20 + slen f
  | pro f g => slen f + slen g + 5
  | tra f => slen f + 1
  | inv f => slen f + 5
  | pow f _ => slen f + 10
  | b22 a b c d => slen a + slen b + slen c + slen d + 30
  | b21 a b => slen a + slen b + 30
  | b12 a b => slen a + slen b + 30
  | cor f _ _ => slen f + 20
/-- within the limits -/
structure Lim (f : Fm) : Prop where
  w : f.wt ≤ 1000
  l : f.lv ≤ 60
  r : f.rows.length ≤ 16
  c : f.cols.length ≤ 16
  b : f.rows.length * f.cols.length * f.bits ≤ 4000
  s : f.slen ≤ 100000
end Fm
structure Ltr.Ok (l : Ltr) : Prop where
  n : LetN l.name
  r : SizeN l.rows
  c : SizeN l.cols
  s : l.sym = ("plain" : Str) ∨ l.sym = ("symmetric" : Str) ∨ l.sym = ("skew" : Str)
  q : l.sym ≠ ("plain" : Str) → l.rows = l.cols
  a : l.rows ≠ l.cols ∨ l.sym = ("skew" : Str) → l.about = 0
  b : BdR 8 l.about
/-- the letters there are -/
structure Sys where
  N : List Str
  few : N.length ≤ 60
  at_ : Str → Ltr
namespace Fm
/-- it can be made; each letter is the one of its name -/
def Ok (S : Sys) : Fm → Prop
  | letter l => l.Ok ∧ l.name ∈ S.N ∧ S.at_ l.name = l
  | eye s => SideN s ∧ (eye s).Lim
  | zero r c => SideN r ∧ SideN c ∧ (zero r c).Lim
  | sum f g => Ok S f ∧ Ok S g ∧ f.sides = g.sides ∧ (sum f g).Lim
  | dif f g => Ok S f ∧ Ok S g ∧ f.sides = g.sides ∧ (dif f g).Lim
  | sca q f => Ok S f ∧ BdR 8 q ∧ (sca q f).Lim
  | pro f g => Ok S f ∧ Ok S g ∧ f.cols = g.rows ∧ (pro f g).Lim
  | tra f => Ok S f ∧ (tra f).Lim
  | inv f => Ok S f ∧ f.rows = f.cols ∧ OkInv f.rows.length f.mid ∧ (inv f).Lim
  | pow f e => Ok S f ∧ f.rows = f.cols ∧ 0 < e ∧ e ≤ 9 ∧ (∀ i, i ≤ e - 1 → f.rows.length * f.cols.length * powB f.cols.length f.bits i ≤ 4000) ∧ (pow f e).Lim
  | b22 a b c d => Ok S a ∧ Ok S b ∧ Ok S c ∧ Ok S d ∧ a.rows = b.rows ∧ c.rows = d.rows ∧ a.cols = c.cols ∧ b.cols = d.cols ∧ (b22 a b c d).Lim
  | b21 a b => Ok S a ∧ Ok S b ∧ a.cols = b.cols ∧ (b21 a b).Lim
  | b12 a b => Ok S a ∧ Ok S b ∧ a.rows = b.rows ∧ (b12 a b).Lim
  | cor f i j => Ok S f ∧ i < f.rows.length ∧ j < f.cols.length ∧ (cor f i j).Lim
end Fm
/-- the letters of a formula in their order -/
structure LetsOk (f : Fm) (ls : List Ltr) : Prop where
  nd : (ls.map (·.name)).Nodup
  st : sortedS (ls.map (·.name)) = true
  mem : ∀ l, l ∈ ls ↔ l ∈ f.occ
theorem name_inj {ls : List Ltr} (h : (ls.map (·.name)).Nodup) {l k : Ltr} (hl : l ∈ ls) (hk : k ∈ ls) (e : l.name = k.name) : l = k := by
  induction ls with
  | nil => cases hl
  | cons a t ih =>
    rw [List.map_cons, List.nodup_cons] at h
    rcases List.mem_cons.mp hl with e1 | hl1
    · rcases List.mem_cons.mp hk with e2 | hk1
      · rw [e1, e2]
      · exact absurd (List.mem_map.mpr ⟨k, hk1, by rw [← e, e1]⟩) h.1
    · rcases List.mem_cons.mp hk with e2 | hk1
      · exact absurd (List.mem_map.mpr ⟨l, hl1, by rw [e, e2]⟩) h.1
      · exact ih h.2 hl1 hk1
theorem LetsOk.unique {f : Fm} {ls ks : List Ltr} (a : LetsOk f ls) (b : LetsOk f ks) : ls = ks := by
  have nd : ∀ {x : List Ltr}, (x.map (·.name)).Nodup → x.Nodup := fun h => (List.pairwise_map.mp h).imp fun n e => n (congrArg _ e)
  have p : ls.Perm ks := (List.perm_ext_iff_of_nodup (nd a.nd) (nd b.nd)).mpr fun l => by rw [a.mem, b.mem]
  have e := sorted_unique a.st b.st (p.map _)
  refine List.ext_getElem? fun i => ?_
  have inj : ∀ (l k : Ltr), l ∈ ls → k ∈ ls → l.name = k.name → l = k := fun l k hl hk e => name_inj a.nd hl hk e
  have ei : (ls.map (·.name))[i]? = (ks.map (·.name))[i]? := by rw [e]
  rw [List.getElem?_map, List.getElem?_map] at ei
  cases h1 : ls[i]? with
  | none =>
    cases h2 : ks[i]? with
    | none => rfl
    | some k => rw [h1, h2] at ei; cases ei
  | some l =>
    cases h2 : ks[i]? with
    | none => rw [h1, h2] at ei; cases ei
    | some k =>
      rw [h1, h2] at ei
      have m1 := List.mem_of_getElem? h1
      have m2 := p.mem_iff.mpr (List.mem_of_getElem? h2)
      exact congrArg some (inj l k m1 m2 (Option.some.inj ei))
end K9

/-! ## F20 -/
namespace K9
open PySem PySem.Spec PyProof.Rows L2
/-! Part. -/
abbrev cF (K : PySem.W.Frag) (f : Fm) : Addr := He.ga K f.kd.nm
theorem fc_of (K : PySem.W.Frag) (f : Fm) : FC K (cF K f) := ⟨f.kd, f.kd_mem, rfl⟩
structure PartFs (fs : List (Str × V)) (rv cv pv sv : V) (w l : Nat) : Prop where
  r : fs.lookup ("row_side" : Str) = some rv
  c : fs.lookup ("column_side" : Str) = some cv
  p : fs.lookup ("made_of" : Str) = some pv
  s : fs.lookup ("signs" : Str) = some sv
  w : fs.lookup ("load" : Str) = some (.int w)
  l : fs.lookup ("height" : Str) = some (.int l)
def pFs (fs0 : List (Str × V)) (rv cv pv sv : V) (w l : Nat) : List (Str × V) := putF "height" (.int l) (putF "load" (.int w) (putF "signs" sv (putF "made_of" pv (putF "column_side" cv (putF "row_side" rv fs0)))))
theorem pFs_get (fs0 : List (Str × V)) (rv cv pv sv : V) (w l : Nat) (x : Str) (h : (["row_side", "column_side", "made_of", "signs", "load", "height"] : List Str).contains x = false) : (pFs fs0 rv cv pv sv w l).lookup x = fs0.lookup x := by
  have g : ∀ y, (["row_side", "column_side", "made_of", "signs", "load", "height"] : List Str).contains y = true → x ≠ y := fun y hy e => by
    rw [e] at h
    rw [h] at hy
    cases hy
  unfold pFs
  rw [lookup_putF, if_neg (g _ (by decide +kernel)), lookup_putF, if_neg (g _ (by decide +kernel)), lookup_putF, if_neg (g _ (by decide +kernel)), lookup_putF, if_neg (g _ (by decide +kernel)), lookup_putF, if_neg (g _ (by decide +kernel)), lookup_putF, if_neg (g _ (by decide +kernel))]
theorem pFs_ok (fs0 : List (Str × V)) (rv cv pv sv : V) (w l : Nat) : PartFs (pFs fs0 rv cv pv sv w l) rv cv pv sv w l := by
  unfold pFs
  constructor <;> repeat (first | rw [lookup_putF, if_pos rfl] | rw [lookup_putF, if_neg (by decide +kernel)])
def spGet (K : PySem.W.Frag) (fld : Str) : Sp := fun vs H Q _ => ∃ a C dx fs v, vs = [.ref a] ∧ H a = some (.ins C dx fs) ∧ FC K C ∧ fs.lookup fld = some v ∧ Q v H
/-- the reading of a property of a formula -/
theorem rd_get {K : PySem.W.Frag} {H : Hp} {a C dx : Addr} {fs : List (Str × V)} {fld : Str} {v : V} {Q : VK} (ha : H a = some (.ins C dx fs)) (hC : FC K C) (hv : fs.lookup fld = some v) (q : Q v H) :
    ∃ a' C' dx' fs', V.ref a = .ref a' ∧ H a' = some (.ins C' dx' fs') ∧ FC K C' ∧ spGet K fld [.ref a'] H Q E0 := ⟨a, C, dx, fs, rfl, ha, hC, a, C, dx, fs, v, rfl, ha, hC, hv, q⟩
/-- a part: its weight and its levels -/
def PartV (K : PySem.W.Frag) (x : Addr) (H : Hp) (p : V) (wl : Nat × Nat) : Prop := ∃ a C dx fs, p = .ref a ∧ a ≠ x ∧ H a = some (.ins C dx fs) ∧ FC K C ∧ fs.lookup ("load" : Str) = some (.int wl.1) ∧ fs.lookup ("height" : Str) = some (.int wl.2)
theorem PartV.off {K : PySem.W.Frag} {x : Addr} {H H' : Hp} {p : V} {wl : Nat × Nat} (o : Off x H H') (h : PartV K x H p wl) : PartV K x H' p wl := by
  obtain ⟨a, C, dx, fs, e, n, ha, r⟩ := h
  exact ⟨a, C, dx, fs, e, n, o _ _ n ha, r⟩
theorem sum_bd {wls : List (Nat × Nat)} (h : ∀ p ∈ wls, p.1 ≤ 1000) : 0 ≤ (wls.map fun p => (p.1 : Int)).sum ∧ (wls.map fun p => (p.1 : Int)).sum ≤ 1000 * wls.length := by
  induction wls with
  | nil => simp
  | cons z zs ih =>
    have := ih (fun p hp => h p (List.mem_cons_of_mem _ hp))
    have hz := h z List.mem_cons_self
    rw [List.map_cons, List.sum_cons, List.length_cons]
    omega
theorem ite_key {c : Bool} {t u : TE} {σ σ' : L2.St} {H H' : Hp} {Qc : VK} (v : V) (G : Hp → Prop) (key : ∀ Hb, G Hb → Qc v Hb) (h1 : c = true → (∀ Hb, G Hb → Qc v Hb) → t σ H Qc) (h2 : c = false → (∀ Hb, G Hb → Qc v Hb) → u σ' H' Qc) : if c = true then t σ H Qc else u σ' H' Qc := by
  cases c with
  | true => exact h1 rfl key
  | false => exact h2 rfl key
theorem Off.tup {x C dx : Addr} {fs : List (Str × V)} {H H' : Hp} {t : Addr} {xs : List V} (hx : H x = some (.ins C dx fs)) (o : Off x H H') (ht : H t = some (.tup xs)) : H' t = some (.tup xs) := o t _ (fun e => by rw [e, hx] at ht; cases ht) ht
theorem putF_len (x : Str) (v : V) (fs : List (Str × V)) : (putF x v fs).length ≤ fs.length + 1 := by
  induction fs with
  | nil => simp [putF]
  | cons p l ih =>
    obtain ⟨y, u⟩ := p
    unfold putF
    split
    · simp
    · simp only [List.length_cons]; omega
def spPart (K : PySem.W.Frag) : Sp := fun vs H Q _ => ∃ (x C dx : Addr) (fs0 : List (Str × V)) (rv cv pt : Addr) (sv : V) (ps : List V) (r c : List Str) (t w l : Nat) (wls : List (Nat × Nat)), vs = [.ref x, .ref rv, .ref cv, .ref pt, sv, .int t] ∧ FC K C ∧ H x = some (.ins C dx fs0) ∧ fs0.length ≤ 900 ∧
  H rv = some (.tup (r.map V.str)) ∧ H cv = some (.tup (c.map V.str)) ∧ H pt = some (.tup ps) ∧ r.length ≤ 16 ∧ c.length ≤ 16 ∧ ps.length ≤ 1000 ∧ Al (PartV K x H) ps wls ∧ t ≤ 9 ∧ (∀ p ∈ wls, p.1 ≤ 1000) ∧
  ((if ps.isEmpty then (1 : Int) else (t : Int) * (wls.map fun p => (p.1 : Int)).sum) = (w : Int)) ∧ (1 + maxOr 0 (wls.map fun p => (p.2 : Int)) = (l : Int)) ∧ w ≤ 1000 ∧ l ≤ 60 ∧
  ∀ H', At1 H H' x (.ins C dx (pFs fs0 (.ref rv) (.ref cv) (.ref pt) sv w l)) → Q .non H'
section
variable {P : Program} {w : World} {K : PySem.W.Frag} {mg : Str → Option Value} {base : Heap}
theorem prp_rows (T : Txt K mg) : ∀ C, FC K C → Prp P w K mg base 1 C "rows" (spGet K "row_side") := fun C hC => by
  obtain ⟨q, hq, rfl⟩ := hC
  have F := T.fc q hq
  refine prp_of F.pRows (N := ["self"]) (ps := ["self"]) ⟨rfl, rfl, rfl, by decide +kernel, rfl, by decide +kernel, by decide +kernel⟩ (fun _ _ _ _ _ _ us hl => match us, hl with | [_], _ => rfl) (fun vs H Q E h => ?_) (fun f cdv A outer s H vs Q E hr h => ?_)
  · obtain ⟨a, C, dx, fs, v, rfl, _⟩ := h; rfl
  obtain ⟨a, C, dx, fs, v, rfl, ha, hC, hv, k⟩ := h
  obtain ⟨q', hq', rfl⟩ := hC
  exact ⟨_, pss_one (ps_ret (pe_fld (pv 0) rfl)), _, rfl, a, _, dx, _, _, rfl, ha, (T.fc q' hq').num.ni.own.cl, (T.fc q' hq').na _ (by decide +kernel), hv, k⟩
theorem prp_columns (T : Txt K mg) : ∀ C, FC K C → Prp P w K mg base 1 C "columns" (spGet K "column_side") := fun C hC => by
  obtain ⟨q, hq, rfl⟩ := hC
  have F := T.fc q hq
  refine prp_of F.pColumns (N := ["self"]) (ps := ["self"]) ⟨rfl, rfl, rfl, by decide +kernel, rfl, by decide +kernel, by decide +kernel⟩ (fun _ _ _ _ _ _ us hl => match us, hl with | [_], _ => rfl) (fun vs H Q E h => ?_) (fun f cdv A outer s H vs Q E hr h => ?_)
  · obtain ⟨a, C, dx, fs, v, rfl, _⟩ := h; rfl
  obtain ⟨a, C, dx, fs, v, rfl, ha, hC, hv, k⟩ := h
  obtain ⟨q', hq', rfl⟩ := hC
  exact ⟨_, pss_one (ps_ret (pe_fld (pv 0) rfl)), _, rfl, a, _, dx, _, _, rfl, ha, (T.fc q' hq').num.ni.own.cl, (T.fc q' hq').na _ (by decide +kernel), hv, k⟩
theorem prp_parts (T : Txt K mg) : ∀ C, FC K C → Prp P w K mg base 1 C "parts" (spGet K "made_of") := fun C hC => by
  obtain ⟨q, hq, rfl⟩ := hC
  have F := T.fc q hq
  refine prp_of F.pParts (N := ["self"]) (ps := ["self"]) ⟨rfl, rfl, rfl, by decide +kernel, rfl, by decide +kernel, by decide +kernel⟩ (fun _ _ _ _ _ _ us hl => match us, hl with | [_], _ => rfl) (fun vs H Q E h => ?_) (fun f cdv A outer s H vs Q E hr h => ?_)
  · obtain ⟨a, C, dx, fs, v, rfl, _⟩ := h; rfl
  obtain ⟨a, C, dx, fs, v, rfl, ha, hC, hv, k⟩ := h
  obtain ⟨q', hq', rfl⟩ := hC
  exact ⟨_, pss_one (ps_ret (pe_fld (pv 0) rfl)), _, rfl, a, _, dx, _, _, rfl, ha, (T.fc q' hq').num.ni.own.cl, (T.fc q' hq').na _ (by decide +kernel), hv, k⟩
theorem prp_letters (T : Txt K mg) : ∀ C, FC K C → Prp P w K mg base 1 C "letters" (spGet K "signs") := fun C hC => by
  obtain ⟨q, hq, rfl⟩ := hC
  have F := T.fc q hq
  refine prp_of F.pLetters (N := ["self"]) (ps := ["self"]) ⟨rfl, rfl, rfl, by decide +kernel, rfl, by decide +kernel, by decide +kernel⟩ (fun _ _ _ _ _ _ us hl => match us, hl with | [_], _ => rfl) (fun vs H Q E h => ?_) (fun f cdv A outer s H vs Q E hr h => ?_)
  · obtain ⟨a, C, dx, fs, v, rfl, _⟩ := h; rfl
  obtain ⟨a, C, dx, fs, v, rfl, ha, hC, hv, k⟩ := h
  obtain ⟨q', hq', rfl⟩ := hC
  exact ⟨_, pss_one (ps_ret (pe_fld (pv 0) rfl)), _, rfl, a, _, dx, _, _, rfl, ha, (T.fc q' hq').num.ni.own.cl, (T.fc q' hq').na _ (by decide +kernel), hv, k⟩
theorem prp_weight (T : Txt K mg) : ∀ C, FC K C → Prp P w K mg base 1 C "weight" (spGet K "load") := fun C hC => by
  obtain ⟨q, hq, rfl⟩ := hC
  have F := T.fc q hq
  refine prp_of F.pWeight (N := ["self"]) (ps := ["self"]) ⟨rfl, rfl, rfl, by decide +kernel, rfl, by decide +kernel, by decide +kernel⟩ (fun _ _ _ _ _ _ us hl => match us, hl with | [_], _ => rfl) (fun vs H Q E h => ?_) (fun f cdv A outer s H vs Q E hr h => ?_)
  · obtain ⟨a, C, dx, fs, v, rfl, _⟩ := h; rfl
  obtain ⟨a, C, dx, fs, v, rfl, ha, hC, hv, k⟩ := h
  obtain ⟨q', hq', rfl⟩ := hC
  exact ⟨_, pss_one (ps_ret (pe_fld (pv 0) rfl)), _, rfl, a, _, dx, _, _, rfl, ha, (T.fc q' hq').num.ni.own.cl, (T.fc q' hq').na _ (by decide +kernel), hv, k⟩
theorem prp_levels (T : Txt K mg) : ∀ C, FC K C → Prp P w K mg base 1 C "levels" (spGet K "height") := fun C hC => by
  obtain ⟨q, hq, rfl⟩ := hC
  have F := T.fc q hq
  refine prp_of F.pLevels (N := ["self"]) (ps := ["self"]) ⟨rfl, rfl, rfl, by decide +kernel, rfl, by decide +kernel, by decide +kernel⟩ (fun _ _ _ _ _ _ us hl => match us, hl with | [_], _ => rfl) (fun vs H Q E h => ?_) (fun f cdv A outer s H vs Q E hr h => ?_)
  · obtain ⟨a, C, dx, fs, v, rfl, _⟩ := h; rfl
  obtain ⟨a, C, dx, fs, v, rfl, ha, hC, hv, k⟩ := h
  obtain ⟨q', hq', rfl⟩ := hC
  exact ⟨_, pss_one (ps_ret (pe_fld (pv 0) rfl)), _, rfl, a, _, dx, _, _, rfl, ha, (T.fc q' hq').num.ni.own.cl, (T.fc q' hq').na _ (by decide +kernel), hv, k⟩
theorem prp_middle (T : Txt K mg) : ∀ C, FC K C → Prp P w K mg base 1 C "middle" (spGet K "core") := fun C hC => by
  obtain ⟨q, hq, rfl⟩ := hC
  have F := T.fc q hq
  refine prp_of F.pMiddle (N := ["self"]) (ps := ["self"]) ⟨rfl, rfl, rfl, by decide +kernel, rfl, by decide +kernel, by decide +kernel⟩ (fun _ _ _ _ _ _ us hl => match us, hl with | [_], _ => rfl) (fun vs H Q E h => ?_) (fun f cdv A outer s H vs Q E hr h => ?_)
  · obtain ⟨a, C, dx, fs, v, rfl, _⟩ := h; rfl
  obtain ⟨a, C, dx, fs, v, rfl, ha, hC, hv, k⟩ := h
  obtain ⟨q', hq', rfl⟩ := hC
  exact ⟨_, pss_one (ps_ret (pe_fld (pv 0) rfl)), _, rfl, a, _, dx, _, _, rfl, ha, (T.fc q' hq').num.ni.own.cl, (T.fc q' hq').na _ (by decide +kernel), hv, k⟩
abbrev nPart : List Str := ["self", "row_side", "column_side", "made_of", "signs", "times", "part"]
theorem sc_part : FnScope nPart ["self", "row_side", "column_side", "made_of", "signs", "times"] (defScope (inCls 48 1)) := ⟨rfl, rfl, rfl, by decide +kernel, rfl, by decide +kernel, by decide +kernel⟩
theorem ok_part (T : Txt K mg) {f : Addr} {fd : FuncData} {dvs : List V} (F : FunD K "__init__" "Part.__init__" (defArgs (inCls 48 1)) (defBody (inCls 48 1)) (defScope (inCls 48 1)) dvs [] f fd) :
    FnOk P w K mg base CX0 3 f fd ["self", "row_side", "column_side", "made_of", "signs", "times"] (spPart K) := by
  refine F.ok sc_part (fun vs H Q E h => ?_) (fun cdv A outer s H vs Q E hr h => ?_)
  · obtain ⟨x, C, dx, fs0, rv, cv, pt, sv, ps, r, c, t, w, l, wls, rfl, _⟩ := h; rfl
  suffices z : ∃ t, PSs (cx9 P w K mg base nPart "Part.__init__" (defScope (inCls 48 1)) f cdv A outer s H E) (defBody (inCls 48 1)) t ∧ t { nx := fun _ H' => Q .non H', rt := Q } (start nPart vs) H from let ⟨t, a, b⟩ := z; ⟨t, a.nox, b⟩
  have msum := nofree T (x := "sum") (by decide +kernel)
  have mmax := nofree T (x := "max") (by decide +kernel)
  have ml := nofree T (x := "len") (by decide +kernel)
  obtain ⟨tS, gS⟩ := T.kSIDE
  obtain ⟨tW, gW⟩ := T.kWEIGHT
  obtain ⟨tL, gL⟩ := T.kLEVELS
  refine ⟨_, pss_cons (ps_fld (pv 0) (pv 1) rfl) (pss_cons (ps_fld (pv 0) (pv 2) rfl) (pss_cons (ps_fld (pv 0) (pv 3) rfl) (pss_cons (ps_fld (pv 0) (pv 4) rfl)
    (pss_cons (ps_fld (pv 0) (pe_ifExp (pt_cmpR (neT09 K hr.units0) (pv 3) (pe_tup pa_nil) (nomark _)) (pe_op op_mulW (pv 5) (pe_callB (sum9 K) (by rfl) msum boot_sum (pa_cons (pe_lc (own := [("part", 6)]) (g := gName 6) (tt := tYes) rfl sc_part.nd (tup9 K (pv 3)) (blkOk_by (N := nPart) (sc := defScope (inCls 48 1)) (by decide +kernel)) (fun _ _ _ _ _ => pg_name (i := 6) sc_part.nd rfl (Or.inl rfl)) (fun _ _ _ _ _ => pts_nil)
          (fun _ _ _ _ _ => pe_prp (prp_weight T) hr (pv 6))) pa_nil))) pe_int) rfl)
    (pss_cons (ps_fld (pv 0) (pe_op op_add pe_int (pe_callBK (cr_maxDf rfl hr.units) (by rfl) mmax boot_max (pa_cons (pe_lc (own := [("part", 6)]) (g := gName 6) (tt := tYes) rfl sc_part.nd (tup9 K (pv 3)) (blkOk_by (N := nPart) (sc := defScope (inCls 48 1)) (by decide +kernel)) (fun _ _ _ _ _ => pg_name (i := 6) sc_part.nd rfl (Or.inl rfl)) (fun _ _ _ _ _ => pts_nil)
          (fun _ _ _ _ _ => pe_prp (prp_levels T) hr (pv 6))) pa_nil) (pk_cons pe_int pk_nil))) rfl)
    (pss_cons (ps_if (pt_cmpR op_gt (pe_fld (pv 0) rfl) (pe_glob (v := .int 1000) (by rfl) gW ⟨_, rfl⟩) (nomark _)) (pss_one ps_never) pss_nil)
    (pss_cons (ps_if (PW.pt (pw_or (pt_cmpR op_gt (pe_callB (len9 K) (by rfl) ml PySem.boot_len (pa_cons (pv 1) pa_nil)) (pe_glob (v := .int 16) (by rfl) gS ⟨_, rfl⟩) (nomark _)) (pw_or1 (pt_cmpR op_gt (pe_callB (len9 K) (by rfl) ml PySem.boot_len (pa_cons (pv 2) pa_nil)) (pe_glob (v := .int 16) (by rfl) gS ⟨_, rfl⟩) (nomark _))))) (pss_one ps_never) pss_nil)
    (pss_one (ps_if (pt_cmpR op_gt (pe_fld (pv 0) rfl) (pe_glob (v := .int 60) (by rfl) gL ⟨_, rfl⟩) (nomark _)) (pss_one ps_never) pss_nil))))))))), ?_⟩
  obtain ⟨x, C, dx, fs0, rv, cv, pt, sv, ps, r, c, t, w, l, wls, rfl, hC, hx, hf0, hrv, hcv, hpt, lr, lc, lps, aps, ht9, hw1, hw, hl, bw, bl, k⟩ := h
  obtain ⟨q, hq, rfl⟩ := hC
  have cl := (T.fc q hq).num.ni.own.cl
  have na := (T.fc q hq).na
  have hC : FC K (He.ga K q.nm) := ⟨q, hq, rfl⟩
  generalize He.ga K q.nm = C at *
  have lp : ∀ {y : Str} {v : V} {fs : List (Str × V)} {n : Nat}, fs.length ≤ n → (putF y v fs).length ≤ n + 1 := fun h => Nat.le_trans (putF_len _ _ _) (by omega)
  -- four fields
  refine ⟨_, rfl, _, rfl, x, C, dx, fs0, rfl, hx, cl, na _ (by decide +kernel), by omega, ?_⟩
  refine ⟨_, rfl, _, rfl, x, C, dx, _, rfl, upd_same, cl, na _ (by decide +kernel), Nat.lt_of_le_of_lt (lp hf0) (by decide), ?_⟩
  refine ⟨_, rfl, _, rfl, x, C, dx, _, rfl, upd_same, cl, na _ (by decide +kernel), Nat.lt_of_le_of_lt (lp (lp hf0)) (by decide), ?_⟩
  refine ⟨_, rfl, _, rfl, x, C, dx, _, rfl, upd_same, cl, na _ (by decide +kernel), Nat.lt_of_le_of_lt (lp (lp (lp hf0))) (by decide), ?_⟩
  have hx4 : (upd (upd (upd (upd H x (.ins C dx (putF "row_side" (.ref rv) fs0))) x (.ins C dx (putF "column_side" (.ref cv) (putF "row_side" (.ref rv) fs0)))) x (.ins C dx (putF "made_of" (.ref pt) (putF "column_side" (.ref cv) (putF "row_side" (.ref rv) fs0))))) x (.ins C dx (putF "signs" sv (putF "made_of" (.ref pt) (putF "column_side" (.ref cv) (putF "row_side" (.ref rv) fs0)))))) x = some (.ins C dx (putF "signs" sv (putF "made_of" (.ref pt) (putF "column_side" (.ref cv) (putF "row_side" (.ref rv) fs0))))) := upd_same
  have o4 : Off x H (upd (upd (upd (upd H x (.ins C dx (putF "row_side" (.ref rv) fs0))) x (.ins C dx (putF "column_side" (.ref cv) (putF "row_side" (.ref rv) fs0)))) x (.ins C dx (putF "made_of" (.ref pt) (putF "column_side" (.ref cv) (putF "row_side" (.ref rv) fs0))))) x (.ins C dx (putF "signs" sv (putF "made_of" (.ref pt) (putF "column_side" (.ref cv) (putF "row_side" (.ref rv) fs0)))))) := Off.trans (Off.trans (Off.trans Off.upd Off.upd) Off.upd) Off.upd
  generalize upd (upd (upd (upd H x (.ins C dx (putF "row_side" (.ref rv) fs0))) x (.ins C dx (putF "column_side" (.ref cv) (putF "row_side" (.ref rv) fs0)))) x (.ins C dx (putF "made_of" (.ref pt) (putF "column_side" (.ref cv) (putF "row_side" (.ref rv) fs0))))) x (.ins C dx (putF "signs" sv (putF "made_of" (.ref pt) (putF "column_side" (.ref cv) (putF "row_side" (.ref rv) fs0))))) = H4 at *
  have l4 := lp (y := "signs") (v := sv) (lp (y := "made_of") (v := .ref pt) (lp (y := "column_side") (v := .ref cv) (lp (y := "row_side") (v := .ref rv) hf0)))
  have efs : pFs fs0 (.ref rv) (.ref cv) (.ref pt) sv w l = putF "height" (.int l) (putF "load" (.int w) (putF "signs" sv (putF "made_of" (.ref pt) (putF "column_side" (.ref cv) (putF "row_side" (.ref rv) fs0))))) := rfl
  rw [efs] at k
  generalize putF "signs" sv (putF "made_of" (.ref pt) (putF "column_side" (.ref cv) (putF "row_side" (.ref rv) fs0))) = fs4 at *
  have hpt4 := Off.tup hx o4 hpt
  have lens : ps.length = wls.length := aps.len
  have hnl : ps.length ≤ sizeLine := Nat.le_trans lps thousand_line
  -- load
  refine ⟨_, rfl, Nat.zero_le _, fun p hp => ⟨pt, p, ps, rfl, rfl, SqT.of (Same.upd hp _ _ hpt4), SqT.of upd_same, _, rfl, ?_⟩⟩
  have s45 : Same H4 (upd H4 p (.tup [])) := Same.upd hp
  generalize upd H4 p (.tup []) = H5 at *
  have o5 := Off.trans o4 (Off.of_same s45)
  have hx5 := s45 _ _ hx4
  refine ite_key (.int w) (fun Hb => Off x H Hb ∧ Hb x = some (.ins C dx fs4)) (fun H6 ⟨o6, hx6⟩ => ?_) (fun hc key => ?_) (fun hc key => ?_)
  rotate_left
  · have hne : ps.isEmpty = false := by simpa using hc
    rw [hne] at hw
    have hw : (t : Int) * (wls.map fun p => (p.1 : Int)).sum = (w : Int) := hw
    have hpt5 := Off.tup hx o5 hpt
    refine ⟨_, rfl, _, rfl, pt, rfl, ⟨_, SqT.of hpt5⟩, fun D hD => ?_⟩
    refine map_it (walk_tup' (xs := ps)) (fun j y _ => ∃ wl, wls[j]? = some wl ∧ y = .int wl.1) (fun _ _ _ _ _ h => h) hD (fun _ s => SqT.of (s _ _ hpt5)) hnl (fun j y H7 Q7 hj hy m q7 => ?_) (fun ys H7 s7 hl1 hl2 hl3 => ?_)
    · have hj2 : j < wls.length := by omega
      obtain ⟨a, C', dx', fs', rfl, nx, ha, hC', h1, h2⟩ := aps.at_ j y _ hy (List.getElem?_eq_getElem hj2)
      have ha7 := m.same _ _ (o5 _ _ nx ha)
      exact ⟨_, rfl, rd_get ha7 hC' h1 (q7 _ _ (Same.refl _) ⟨_, List.getElem?_eq_getElem hj2, rfl⟩)⟩
    · have hys : ys = (wls.map fun p => (p.1 : Int)).map V.int := row_isI ⟨by rw [hl2]; simp [lens], fun j y c e1 e2 => by
        obtain ⟨wl, h1, h2⟩ := hl3 j y e1
        rw [List.getElem?_map, h1] at e2
        cases e2
        exact h2⟩
      refine ⟨D, wls.map fun p => (p.1 : Int), rfl, SqL.of (by rw [hl1, hys]), ?_⟩
      refine ⟨_, _, rfl, rfl, ?_, ?_⟩
      · have b1 : ((t : Int)).natAbs < 2 ^ 4 := by
          have : (2 : Nat) ^ 4 = 16 := by decide
          omega
        have b2 : ((wls.map fun p => (p.1 : Int)).sum).natAbs < 2 ^ 40 := by
          have h1 := sum_bd hw1
          have : (2 : Nat) ^ 40 = 1099511627776 := by decide
          omega
        exact wide_mul b1 b2 (by decide) (by decide) (by decide)
      · dsimp only
        rw [hw]
        exact key _ ⟨Off.trans o5 (Off.of_same s7), s7 _ _ hx5⟩
  · have hne : ps.isEmpty = true := by simpa using hc
    rw [hne] at hw
    have hw : (1 : Int) = (w : Int) := hw
    have := key H5 ⟨o5, hx5⟩
    rw [← hw] at this
    exact this
  refine ⟨_, rfl, x, C, dx, _, rfl, hx6, cl, na _ (by decide +kernel), by omega, ?_⟩
  have hx7 : (upd H6 x (.ins C dx (putF "load" (.int w) fs4))) x = some (.ins C dx (putF "load" (.int w) fs4)) := upd_same
  have o7 : Off x H (upd H6 x (.ins C dx (putF "load" (.int w) fs4))) := Off.trans o6 Off.upd
  generalize upd H6 x (.ins C dx (putF "load" (.int w) fs4)) = H7 at *
  -- height
  have hpt7 := Off.tup hx o7 hpt
  refine ⟨_, rfl, pt, rfl, ⟨_, SqT.of hpt7⟩, fun D hD => ?_⟩
  refine map_it (walk_tup' (xs := ps)) (fun j y _ => ∃ wl, wls[j]? = some wl ∧ y = .int wl.2) (fun _ _ _ _ _ h => h) hD (fun _ s => SqT.of (s _ _ hpt7)) hnl (fun j y H8 Q8 hj hy m q8 => ?_) (fun ys H8 s8 hl1 hl2 hl3 => ?_)
  · have hj2 : j < wls.length := by omega
    obtain ⟨a, C', dx', fs', rfl, nx, ha, hC', h1, h2⟩ := aps.at_ j y _ hy (List.getElem?_eq_getElem hj2)
    have ha7 := m.same _ _ (o7 _ _ nx ha)
    exact ⟨_, rfl, rd_get ha7 hC' h2 (q8 _ _ (Same.refl _) ⟨_, List.getElem?_eq_getElem hj2, rfl⟩)⟩
  have hys : ys = (wls.map fun p => (p.2 : Int)).map V.int := row_isI ⟨by rw [hl2]; simp [lens], fun j y c e1 e2 => by
    obtain ⟨wl, h1, h2⟩ := hl3 j y e1
    rw [List.getElem?_map, h1] at e2
    cases e2
    exact h2⟩
  refine ⟨D, _, 0, rfl, rfl, SqL.of (by rw [hl1, hys]), ?_⟩
  have hx8 := s8 _ _ hx7
  refine ⟨_, _, rfl, rfl, _, rfl, x, C, dx, _, rfl, hx8, cl, na _ (by decide +kernel), by have := lp (y := "load") (v := .int w) l4; omega, ?_⟩
  dsimp only
  rw [hl]
  have hx9 : (upd H8 x (.ins C dx (putF "height" (.int l) (putF "load" (.int w) fs4)))) x = some (.ins C dx (putF "height" (.int l) (putF "load" (.int w) fs4))) := upd_same
  have o9 : Off x H (upd H8 x (.ins C dx (putF "height" (.int l) (putF "load" (.int w) fs4)))) := Off.trans (Off.trans o7 (Off.of_same s8)) Off.upd
  generalize upd H8 x (.ins C dx (putF "height" (.int l) (putF "load" (.int w) fs4))) = H9 at *
  have gl : (putF "height" (V.int l) (putF "load" (.int w) fs4)).lookup ("load" : Str) = some (.int w) := by rw [lookup_putF, if_neg (by decide +kernel), lookup_putF, if_pos rfl]
  have gh : (putF "height" (V.int l) (putF "load" (.int w) fs4)).lookup ("height" : Str) = some (.int l) := by rw [lookup_putF, if_pos rfl]
  refine ⟨_, rfl, x, C, dx, _, _, rfl, hx9, cl, na _ (by decide +kernel), gl, _, _, rfl, rfl, _, rfl, ?_⟩
  rw [show decide ((w : Int) > 1000) = false from decide_eq_false (by omega)]
  refine iteF ?_
  refine ⟨_, rfl, rv, _, rfl, .inr (SqT.of (Off.tup hx o9 hrv)), _, _, rfl, rfl, _, rfl, ?_⟩
  rw [List.length_map, show decide ((r.length : Int) > 16) = false from decide_eq_false (by omega)]
  refine iteF ?_
  refine ⟨_, rfl, cv, _, rfl, .inr (SqT.of (Off.tup hx o9 hcv)), _, _, rfl, rfl, _, rfl, ?_⟩
  rw [List.length_map, show decide ((c.length : Int) > 16) = false from decide_eq_false (by omega)]
  refine iteF ?_
  refine ⟨_, rfl, x, C, dx, _, _, rfl, hx9, cl, na _ (by decide +kernel), gh, _, _, rfl, rfl, _, rfl, ?_⟩
  rw [show decide ((l : Int) > 60) = false from decide_eq_false (by omega)]
  exact iteF (k _ ⟨hx9, o9⟩)
theorem fnk_part (T : Txt K mg) {f : Addr} {fd : FuncData} (F : FunD K "__init__" "Part.__init__" (defArgs (inCls 48 1)) (defBody (inCls 48 1)) (defScope (inCls 48 1)) [.int 1] [] f fd) :
    Fnk P w K mg base 3 f (spPart K) [.int 1] ∧ Fnk P w K mg base 3 f (spPart K) [] := by
  refine ⟨?_, ?_⟩
  · obtain ⟨ds, v, b⟩ := F.binds1 (ps := ["self", "row_side", "column_side", "made_of", "signs", "times"]) 5 0 (List.cons_ne_nil _ _) rfl fun T' kV doc pm an cdv ct us its hl h1 => match us, its, hl, h1 with | [_, _, _, _, _], [_], _, _ => ⟨_, rfl, rfl⟩
    exact ⟨fd, _, ds, ok_part T F, F.kp, b, v⟩
  · obtain ⟨ds, v, b⟩ := F.binds1 (ps := ["self", "row_side", "column_side", "made_of", "signs", "times"]) 6 1 (List.cons_ne_nil _ _) rfl fun T' kV doc pm an cdv ct us its hl h1 => match us, its, hl, h1 with | [_, _, _, _, _, _], [_], _, _ => ⟨_, rfl, rfl⟩
    exact ⟨fd, _, ds, ok_part T F, F.kp, b, v⟩
end
end K9

/-! ## F21 -/
namespace K9
open PySem PySem.Spec PyProof.Rows L2
/-! Formulas as objects. -/
def tabOf (f : Fm) (ps : List V) : List (List V) := match f, ps with
  | .b22 _ _ _ _, [p, q, r, s] => [[p, q], [r, s]]
  | .b21 _ _, [p, q] => [[p], [q]]
  | .b12 _ _, [p, q] => [[p, q]]
  | _, _ => []
/-- what a kind keeps besides -/
def Extr (K : PySem.W.Frag) (H : Hp) (fs : List (Str × V)) (f : Fm) (ps : List V) : Prop := match f with
  | .letter l => fs.lookup ("label" : Str) = some (.str l.name) ∧ fs.lookup ("manner" : Str) = some (.str l.sym) ∧ ∃ nv, fs.lookup ("near" : Str) = some nv ∧ IsR K H nv l.about
  | .sca q _ => ∃ nv, fs.lookup ("factor" : Str) = some nv ∧ IsR K H nv q
  | .pow _ e => fs.lookup ("order" : Str) = some (.int e)
  | .b22 _ _ _ _ => ∃ tv, fs.lookup ("lines" : Str) = some tv ∧ TabV H tv (tabOf f ps)
  | .b21 _ _ => ∃ tv, fs.lookup ("lines" : Str) = some tv ∧ TabV H tv (tabOf f ps)
  | .b12 _ _ => ∃ tv, fs.lookup ("lines" : Str) = some tv ∧ TabV H tv (tabOf f ps)
  | .cor _ i j => ∃ t, fs.lookup ("spot" : Str) = some (.ref t) ∧ H t = some (.tup [.int i, .int j])
  | _ => True
theorem Extr.imm {K : PySem.W.Frag} {H H' : Hp} {fs : List (Str × V)} {f : Fm} {ps : List V} (i : Imm H H') (h : Extr K H fs f ps) : Extr K H' fs f ps := by
  cases f with
  | letter l => obtain ⟨a, b, nv, c, d⟩ := h; exact ⟨a, b, nv, c, d.imm i⟩
  | sca q f => obtain ⟨nv, c, d⟩ := h; exact ⟨nv, c, d.imm i⟩
  | b22 a b c d => obtain ⟨nv, c, d⟩ := h; exact ⟨nv, c, d.imm i⟩
  | b21 a b => obtain ⟨nv, c, d⟩ := h; exact ⟨nv, c, d.imm i⟩
  | b12 a b => obtain ⟨nv, c, d⟩ := h; exact ⟨nv, c, d.imm i⟩
  | cor f i' j => obtain ⟨t, c, d⟩ := h; exact ⟨t, c, i _ _ rfl d⟩
  | _ => exact h
/-- the fields of a formula have no method's name -/
def noMeth (fs : List (Str × V)) : Prop := fs.lookup ("spelling" : Str) = none ∧ fs.lookup ("inverse" : Str) = none ∧ fs.lookup ("KIND" : Str) = none
structure ObjD (K : PySem.W.Frag) (H : Hp) (a : Addr) (f : Fm) (ps lv : List V) (dx : Addr) (fs : List (Str × V)) (rv cv pt st : Addr) (core : V) : Prop where
  at_ : H a = some (.ins (cF K f) dx fs)
  fld : PartFs fs (.ref rv) (.ref cv) (.ref pt) (.ref st) f.wt f.lv
  co : fs.lookup ("core" : Str) = some core
  r : H rv = some (.tup (f.rows.map V.str))
  c : H cv = some (.tup (f.cols.map V.str))
  p : H pt = some (.tup ps)
  s : H st = some (.tup lv)
  m : IsM K H core f.mid
  x : Extr K H fs f ps
  no : noMeth fs
def ObjF (K : PySem.W.Frag) (H : Hp) (a : Addr) (f : Fm) (ps lv : List V) : Prop := ∃ dx fs rv cv pt st core, ObjD K H a f ps lv dx fs rv cv pt st core
theorem ObjF.imm {K : PySem.W.Frag} {H H' : Hp} {a : Addr} {f : Fm} {ps lv : List V} (i : Imm H H') (h : ObjF K H a f ps lv) : ObjF K H' a f ps lv := by
  obtain ⟨dx, fs, rv, cv, pt, st, core, h⟩ := h
  exact ⟨dx, fs, rv, cv, pt, st, core, i _ _ rfl h.at_, h.fld, h.co, i _ _ rfl h.r, i _ _ rfl h.c, i _ _ rfl h.p, i _ _ rfl h.s, h.m.imm i, h.x.imm i, h.no⟩
def IsL (K : PySem.W.Frag) (H : Hp) (v : V) (l : Ltr) : Prop := ∃ a, v = .ref a ∧ ObjF K H a (.letter l) [] [.ref a]
theorem IsL.imm {K : PySem.W.Frag} {H H' : Hp} {v : V} {l : Ltr} (i : Imm H H') (h : IsL K H v l) : IsL K H' v l := by
  obtain ⟨a, e, h⟩ := h
  exact ⟨a, e, h.imm i⟩
def Node (K : PySem.W.Frag) (H : Hp) (v : V) (f : Fm) (ps : List V) : Prop := ∃ a lv ls, v = .ref a ∧ ObjF K H a f ps lv ∧ Al (IsL K H) lv ls ∧ LetsOk f ls
theorem Node.imm {K : PySem.W.Frag} {H H' : Hp} {v : V} {f : Fm} {ps : List V} (i : Imm H H') (h : Node K H v f ps) : Node K H' v f ps := by
  obtain ⟨a, lv, ls, e, h1, h2, h3⟩ := h
  exact ⟨a, lv, ls, e, h1.imm i, h2.imp fun _ _ h => h.imm i, h3⟩
theorem LetsOk.one (l : Ltr) : LetsOk (.letter l) [l] := ⟨by simp, rfl, fun k => Iff.rfl⟩
theorem IsL.node {K : PySem.W.Frag} {H : Hp} {v : V} {l : Ltr} (h : IsL K H v l) : Node K H v (.letter l) [] := by
  obtain ⟨a, rfl, h⟩ := h
  exact ⟨a, [.ref a], [l], rfl, h, Al.cons ⟨a, rfl, h⟩ Al.nil, LetsOk.one l⟩
/-- v is the formula f -/
def IsF (K : PySem.W.Frag) (H : Hp) : Fm → V → Prop
  | .letter l, v => IsL K H v l
  | .eye s, v => Node K H v (.eye s) []
  | .zero r c, v => Node K H v (.zero r c) []
  | .sum f g, v => ∃ p q, Node K H v (.sum f g) [p, q] ∧ IsF K H f p ∧ IsF K H g q
  | .dif f g, v => ∃ p q, Node K H v (.dif f g) [p, q] ∧ IsF K H f p ∧ IsF K H g q
  | .sca r f, v => ∃ p, Node K H v (.sca r f) [p] ∧ IsF K H f p
  | .pro f g, v => ∃ p q, Node K H v (.pro f g) [p, q] ∧ IsF K H f p ∧ IsF K H g q
  | .tra f, v => ∃ p, Node K H v (.tra f) [p] ∧ IsF K H f p
  | .inv f, v => ∃ p, Node K H v (.inv f) [p] ∧ IsF K H f p
  | .pow f e, v => ∃ p, Node K H v (.pow f e) [p] ∧ IsF K H f p
  | .b22 a b c d, v => ∃ p q r s, Node K H v (.b22 a b c d) [p, q, r, s] ∧ IsF K H a p ∧ IsF K H b q ∧ IsF K H c r ∧ IsF K H d s
  | .b21 a b, v => ∃ p q, Node K H v (.b21 a b) [p, q] ∧ IsF K H a p ∧ IsF K H b q
  | .b12 a b, v => ∃ p q, Node K H v (.b12 a b) [p, q] ∧ IsF K H a p ∧ IsF K H b q
  | .cor f i j, v => ∃ p, Node K H v (.cor f i j) [p] ∧ IsF K H f p
theorem IsF.imm {K : PySem.W.Frag} {H H' : Hp} (i : Imm H H') : ∀ {f : Fm} {v : V}, IsF K H f v → IsF K H' f v
  | .letter l, v, h => IsL.imm i h
  | .eye s, v, h => Node.imm i h
  | .zero r c, v, h => Node.imm i h
  | .sum f g, v, ⟨p, q, h, h1, h2⟩ => ⟨p, q, h.imm i, IsF.imm i h1, IsF.imm i h2⟩
  | .dif f g, v, ⟨p, q, h, h1, h2⟩ => ⟨p, q, h.imm i, IsF.imm i h1, IsF.imm i h2⟩
  | .sca r f, v, ⟨p, h, h1⟩ => ⟨p, h.imm i, IsF.imm i h1⟩
  | .pro f g, v, ⟨p, q, h, h1, h2⟩ => ⟨p, q, h.imm i, IsF.imm i h1, IsF.imm i h2⟩
  | .tra f, v, ⟨p, h, h1⟩ => ⟨p, h.imm i, IsF.imm i h1⟩
  | .inv f, v, ⟨p, h, h1⟩ => ⟨p, h.imm i, IsF.imm i h1⟩
  | .pow f e, v, ⟨p, h, h1⟩ => ⟨p, h.imm i, IsF.imm i h1⟩
  | .b22 a b c d, v, ⟨p, q, r, s, h, h1, h2, h3, h4⟩ => ⟨p, q, r, s, h.imm i, IsF.imm i h1, IsF.imm i h2, IsF.imm i h3, IsF.imm i h4⟩
  | .b21 a b, v, ⟨p, q, h, h1, h2⟩ => ⟨p, q, h.imm i, IsF.imm i h1, IsF.imm i h2⟩
  | .b12 a b, v, ⟨p, q, h, h1, h2⟩ => ⟨p, q, h.imm i, IsF.imm i h1, IsF.imm i h2⟩
  | .cor f a b, v, ⟨p, h, h1⟩ => ⟨p, h.imm i, IsF.imm i h1⟩
theorem IsF.node {K : PySem.W.Frag} {H : Hp} {f : Fm} {v : V} (h : IsF K H f v) : ∃ ps, Node K H v f ps ∧ Al (fun p g => IsF K H g p) ps f.kids := by
  cases f with
  | letter l => exact ⟨[], IsL.node h, Al.nil⟩
  | eye s => exact ⟨[], h, Al.nil⟩
  | zero r c => exact ⟨[], h, Al.nil⟩
  | sum f g => obtain ⟨p, q, h, h1, h2⟩ := h; exact ⟨_, h, .cons h1 (.cons h2 .nil)⟩
  | dif f g => obtain ⟨p, q, h, h1, h2⟩ := h; exact ⟨_, h, .cons h1 (.cons h2 .nil)⟩
  | sca r f => obtain ⟨p, h, h1⟩ := h; exact ⟨_, h, .cons h1 .nil⟩
  | pro f g => obtain ⟨p, q, h, h1, h2⟩ := h; exact ⟨_, h, .cons h1 (.cons h2 .nil)⟩
  | tra f => obtain ⟨p, h, h1⟩ := h; exact ⟨_, h, .cons h1 .nil⟩
  | inv f => obtain ⟨p, h, h1⟩ := h; exact ⟨_, h, .cons h1 .nil⟩
  | pow f e => obtain ⟨p, h, h1⟩ := h; exact ⟨_, h, .cons h1 .nil⟩
  | b22 a b c d => obtain ⟨p, q, r, s, h, h1, h2, h3, h4⟩ := h; exact ⟨_, h, .cons h1 (.cons h2 (.cons h3 (.cons h4 .nil)))⟩
  | b21 a b => obtain ⟨p, q, h, h1, h2⟩ := h; exact ⟨_, h, .cons h1 (.cons h2 .nil)⟩
  | b12 a b => obtain ⟨p, q, h, h1, h2⟩ := h; exact ⟨_, h, .cons h1 (.cons h2 .nil)⟩
  | cor f i j => obtain ⟨p, h, h1⟩ := h; exact ⟨_, h, .cons h1 .nil⟩
/-! ### data of texts -/
def sT (z : List Str) : PyData := .tuple (z.map .str)
theorem sT_eqv (z : List Str) : (sT z).eqv (sT z) = true := by
  unfold sT
  simp [PyData.eqv, eqvAll_map (f := PyData.str) (l := z) fun x _ => by simp [PyData.eqv]]
def Nice (z : List Str) : Prop := ∀ x ∈ z, PyData.strOk x = true
theorem strs_lay {z : List Str} (h : Nice z) : PyData.canLayAll0 (z.map .str) = true ∧ PyData.depthAll (z.map .str) ≤ 1 := by
  induction z with
  | nil => simp [PyData.canLayAll0, PyData.depthAll]
  | cons a l ih =>
    have ih := ih fun x hx => h x (List.mem_cons_of_mem _ hx)
    simp [PyData.canLayAll0, PyData.depthAll, PyData.canLay0, PyData.depth, ih.1, ih.2, h a List.mem_cons_self]
theorem sT_lay {z : List Str} (h : Nice z) : (sT z).canLay0 = true ∧ (sT z).depth ≤ 3 := by
  obtain ⟨h1, h2⟩ := strs_lay h
  refine ⟨by simp [sT, PyData.canLay0, h1], ?_⟩
  simp only [sT, PyData.depth]
  omega
theorem sT_shaped {z : List Str} (h : Nice z) : SeqAt.shaped (sT z) = true := by
  obtain ⟨h1, h2⟩ := sT_lay h
  simp [SeqAt.shaped, h1]
  omega
theorem dp_strs (K : PySem.W.Frag) (H : Hp) (z : List Str) : DpAll K H (z.map V.str) (z.map .str) := by
  induction z with
  | nil => exact .nil
  | cons a l ih => exact .cons (.str a) ih
theorem dp_sT {K : PySem.W.Frag} {H : Hp} {t : Addr} {z : List Str} (h : H t = some (.tup (z.map V.str))) : Dp K H (.ref t) (sT z) := .tup (SqT.of h) (dp_strs K H z)
/-- rows and columns as a pair -/
def sdT (s : List Str × List Str) : PyData := .tuple [sT s.1, sT s.2]
theorem sdT_eqv (s : List Str × List Str) : (sdT s).eqv (sdT s) = true := by
  have h1 := sT_eqv s.1
  have h2 := sT_eqv s.2
  simp [sdT, PyData.eqv, PyData.eqvAll, h1, h2]
theorem sdT_shaped {s : List Str × List Str} (n1 : Nice s.1) (n2 : Nice s.2) : SeqAt.shaped (sdT s) = true := by
  obtain ⟨h1, h2⟩ := sT_lay n1
  obtain ⟨h3, h4⟩ := sT_lay n2
  simp [SeqAt.shaped, sdT, PyData.canLay0, PyData.canLayAll0, PyData.depth, PyData.depthAll, h1, h3]
  omega
def IsSd (H : Hp) (v : V) (s : List Str × List Str) : Prop := ∃ t rv cv, v = .ref t ∧ H t = some (.tup [.ref rv, .ref cv]) ∧ H rv = some (.tup (s.1.map V.str)) ∧ H cv = some (.tup (s.2.map V.str))
theorem IsSd.dp {K : PySem.W.Frag} {H : Hp} {v : V} {s : List Str × List Str} (h : IsSd H v s) : Dp K H v (sdT s) := by
  obtain ⟨t, rv, cv, rfl, h1, h2, h3⟩ := h
  exact .tup (SqT.of h1) (.cons (dp_sT h2) (.cons (dp_sT h3) .nil))
theorem IsSd.imm {H H' : Hp} {v : V} {s : List Str × List Str} (i : Imm H H') (h : IsSd H v s) : IsSd H' v s := by
  obtain ⟨t, rv, cv, rfl, h1, h2, h3⟩ := h
  exact ⟨t, rv, cv, rfl, i _ _ rfl h1, i _ _ rfl h2, i _ _ rfl h3⟩
/-! ### readings of properties -/
section
variable {K : PySem.W.Frag} {H : Hp} {v : V} {f : Fm} {ps : List V} {Q : VK}
theorem rd_rows (h : Node K H v f ps) (q : ∀ rv, H rv = some (.tup (f.rows.map V.str)) → Q (.ref rv) H) : ∃ a C dx fs, v = .ref a ∧ H a = some (.ins C dx fs) ∧ FC K C ∧ spGet K "row_side" [.ref a] H Q E0 := by
  obtain ⟨a, lv, ls, rfl, ⟨dx, fs, rv, cv, pt, st, core, o⟩, _⟩ := h
  exact rd_get o.at_ (fc_of K f) o.fld.r (q rv o.r)
theorem rd_cols (h : Node K H v f ps) (q : ∀ rv, H rv = some (.tup (f.cols.map V.str)) → Q (.ref rv) H) : ∃ a C dx fs, v = .ref a ∧ H a = some (.ins C dx fs) ∧ FC K C ∧ spGet K "column_side" [.ref a] H Q E0 := by
  obtain ⟨a, lv, ls, rfl, ⟨dx, fs, rv, cv, pt, st, core, o⟩, _⟩ := h
  exact rd_get o.at_ (fc_of K f) o.fld.c (q cv o.c)
theorem rd_parts (h : Node K H v f ps) (q : ∀ rv, H rv = some (.tup ps) → Q (.ref rv) H) : ∃ a C dx fs, v = .ref a ∧ H a = some (.ins C dx fs) ∧ FC K C ∧ spGet K "made_of" [.ref a] H Q E0 := by
  obtain ⟨a, lv, ls, rfl, ⟨dx, fs, rv, cv, pt, st, core, o⟩, _⟩ := h
  exact rd_get o.at_ (fc_of K f) o.fld.p (q pt o.p)
theorem rd_letters (h : Node K H v f ps) (q : ∀ rv lv ls, H rv = some (.tup lv) → Al (IsL K H) lv ls → LetsOk f ls → Q (.ref rv) H) : ∃ a C dx fs, v = .ref a ∧ H a = some (.ins C dx fs) ∧ FC K C ∧ spGet K "signs" [.ref a] H Q E0 := by
  obtain ⟨a, lv, ls, rfl, ⟨dx, fs, rv, cv, pt, st, core, o⟩, h1, h2⟩ := h
  exact rd_get o.at_ (fc_of K f) o.fld.s (q st lv ls o.s h1 h2)
theorem rd_middle (h : Node K H v f ps) (q : ∀ core, IsM K H core f.mid → Q core H) : ∃ a C dx fs, v = .ref a ∧ H a = some (.ins C dx fs) ∧ FC K C ∧ spGet K "core" [.ref a] H Q E0 := by
  obtain ⟨a, lv, ls, rfl, ⟨dx, fs, rv, cv, pt, st, core, o⟩, _⟩ := h
  exact rd_get o.at_ (fc_of K f) o.co (q core o.m)
theorem rd_node {sp : Sp} (h : Node K H v f ps) (q : sp [v] H Q E0) : ∃ a C dx fs, v = .ref a ∧ H a = some (.ins C dx fs) ∧ FC K C ∧ sp [.ref a] H Q E0 := by
  obtain ⟨a, lv, ls, rfl, ⟨dx, fs, rv, cv, pt, st, core, o⟩, _⟩ := h
  exact ⟨a, _, dx, fs, rfl, o.at_, fc_of K f, q⟩
end
/-! ### equalities -/
def REqR (K : PySem.W.Frag) (a b : Addr) (H : Hp) : Prop := ∃ r, IsR K H (.ref a) r ∧ IsR K H (.ref b) r
def REqL (K : PySem.W.Frag) (a b : Addr) (H : Hp) : Prop := ∃ l, IsL K H (.ref a) l ∧ IsL K H (.ref b) l
abbrev isLet (K : PySem.W.Frag) : Addr → Prop := fun C => C = He.ga K "Letter"
def qLetter : KindI := ⟨"Letter", 71, 1, 5, "letter", "Letter.__init__", "Letter.spelling", [("symmetry", .str "plain"), ("about", .int 0)]⟩
theorem qLetter_mem : qLetter ∈ kinds := by simp [qLetter, kinds]
section
variable {P : Program} {w : World} {K : PySem.W.Frag} {mg : Str → Option Value} {base : Heap}
theorem sc_rEq : FnScope ["self", "other"] ["self", "other"] (defScope (inCls 33 9)) := ⟨rfl, rfl, rfl, by decide +kernel, rfl, by decide +kernel, by decide +kernel⟩
theorem opm_rEq (T : Txt K mg) : ∀ C, isRat K C → Opm P w K mg base 3 C "__eq__" (spEq (REqR K)) := fun C hC => by
  subst hC
  refine (met_of T.rEq sc_rEq (fun _ _ _ _ _ _ us hl => match us, hl with | [_, _], _ => rfl) (fun vs H Q E h => ?_) (fun f cdv A outer s H vs Q E hr h => ?_)).2
  · obtain ⟨a, b, rfl, _⟩ := h; rfl
  have mi := nofree T (x := "isinstance") (by decide +kernel)
  refine ⟨_, pss_one (ps_ret (pe_and (pe_callB call_isi (by rfl) mi boot_isi (pa_cons (pv 1) (pa_cons (pe_glob (v := .ref (cR K)) (by rfl) T.rGlob rfl) pa_nil)))
    (pe_and (pe_cmpR op_eq (pe_prp (prpT T) hr (pv 0)) (pe_prp (prpT T) hr (pv 1)) (nomark _)) (pe_one (pe_cmpR op_eq (pe_prp (prpB T) hr (pv 0)) (pe_prp (prpB T) hr (pv 1)) (nomark _)))))), ?_⟩
  obtain ⟨a, b, rfl, ⟨r, h1, h2⟩, q⟩ := h
  have h2' := h2
  obtain ⟨b', dx, e, hb⟩ := h2'
  cases e
  refine ⟨_, rfl, _, _, _, _, _, rfl, .own _, T.rNot.own.ty hb, T.rSelf, _, rfl, iteT ?_⟩
  refine ⟨_, rfl, rd_top h1 ⟨_, rfl, rd_top h2 ⟨rfl, _, rfl, ?_⟩⟩⟩
  rw [decide_eq_true rfl]
  refine iteT ⟨_, rfl, rd_bottom h1 ⟨_, rfl, rd_bottom h2 ⟨rfl, ?_⟩⟩⟩
  rw [decide_eq_true rfl]
  exact q H fun _ _ h => h
theorem prp_lname (T : Txt K mg) : ∀ C, isLet K C → Prp P w K mg base 1 C "name" (spGet K "label") := fun C hC => by
  subst hC
  refine prp_of T.lName (N := ["self"]) (ps := ["self"]) ⟨rfl, rfl, rfl, by decide +kernel, rfl, by decide +kernel, by decide +kernel⟩ (fun _ _ _ _ _ _ us hl => match us, hl with | [_], _ => rfl) (fun vs H Q E h => ?_) (fun f cdv A outer s H vs Q E hr h => ?_)
  · obtain ⟨a, C, dx, fs, v, rfl, _⟩ := h; rfl
  obtain ⟨a, C, dx, fs, v, rfl, ha, hC, hv, k⟩ := h
  obtain ⟨q', hq', rfl⟩ := hC
  exact ⟨_, pss_one (ps_ret (pe_fld (pv 0) rfl)), _, rfl, a, _, dx, _, _, rfl, ha, (T.fc q' hq').num.ni.own.cl, (T.fc q' hq').na _ (by decide +kernel), hv, k⟩
theorem prp_lsym (T : Txt K mg) : ∀ C, isLet K C → Prp P w K mg base 1 C "symmetry" (spGet K "manner") := fun C hC => by
  subst hC
  refine prp_of T.lSymmetry (N := ["self"]) (ps := ["self"]) ⟨rfl, rfl, rfl, by decide +kernel, rfl, by decide +kernel, by decide +kernel⟩ (fun _ _ _ _ _ _ us hl => match us, hl with | [_], _ => rfl) (fun vs H Q E h => ?_) (fun f cdv A outer s H vs Q E hr h => ?_)
  · obtain ⟨a, C, dx, fs, v, rfl, _⟩ := h; rfl
  obtain ⟨a, C, dx, fs, v, rfl, ha, hC, hv, k⟩ := h
  obtain ⟨q', hq', rfl⟩ := hC
  exact ⟨_, pss_one (ps_ret (pe_fld (pv 0) rfl)), _, rfl, a, _, dx, _, _, rfl, ha, (T.fc q' hq').num.ni.own.cl, (T.fc q' hq').na _ (by decide +kernel), hv, k⟩
theorem prp_labout (T : Txt K mg) : ∀ C, isLet K C → Prp P w K mg base 1 C "about" (spGet K "near") := fun C hC => by
  subst hC
  refine prp_of T.lAbout (N := ["self"]) (ps := ["self"]) ⟨rfl, rfl, rfl, by decide +kernel, rfl, by decide +kernel, by decide +kernel⟩ (fun _ _ _ _ _ _ us hl => match us, hl with | [_], _ => rfl) (fun vs H Q E h => ?_) (fun f cdv A outer s H vs Q E hr h => ?_)
  · obtain ⟨a, C, dx, fs, v, rfl, _⟩ := h; rfl
  obtain ⟨a, C, dx, fs, v, rfl, ha, hC, hv, k⟩ := h
  obtain ⟨q', hq', rfl⟩ := hC
  exact ⟨_, pss_one (ps_ret (pe_fld (pv 0) rfl)), _, rfl, a, _, dx, _, _, rfl, ha, (T.fc q' hq').num.ni.own.cl, (T.fc q' hq').na _ (by decide +kernel), hv, k⟩
theorem rd_lname {H : Hp} {v : V} {l : Ltr} {Q : VK} (h : IsL K H v l) (q : Q (.str l.name) H) : ∃ a C dx fs, v = .ref a ∧ H a = some (.ins C dx fs) ∧ isLet K C ∧ spGet K "label" [.ref a] H Q E0 := by
  obtain ⟨a, rfl, ⟨dx, fs, rv, cv, pt, st, core, o⟩⟩ := h
  exact ⟨a, _, dx, fs, rfl, o.at_, rfl, a, _, dx, fs, _, rfl, o.at_, fc_of K (.letter l), o.x.1, q⟩
theorem rd_lsym {H : Hp} {v : V} {l : Ltr} {Q : VK} (h : IsL K H v l) (q : Q (.str l.sym) H) : ∃ a C dx fs, v = .ref a ∧ H a = some (.ins C dx fs) ∧ isLet K C ∧ spGet K "manner" [.ref a] H Q E0 := by
  obtain ⟨a, rfl, ⟨dx, fs, rv, cv, pt, st, core, o⟩⟩ := h
  exact ⟨a, _, dx, fs, rfl, o.at_, rfl, a, _, dx, fs, _, rfl, o.at_, fc_of K (.letter l), o.x.2.1, q⟩
theorem rd_labout {H : Hp} {v : V} {l : Ltr} {Q : VK} (h : IsL K H v l) (q : ∀ nv, IsR K H nv l.about → Q nv H) : ∃ a C dx fs, v = .ref a ∧ H a = some (.ins C dx fs) ∧ isLet K C ∧ spGet K "near" [.ref a] H Q E0 := by
  obtain ⟨a, rfl, ⟨dx, fs, rv, cv, pt, st, core, o⟩⟩ := h
  obtain ⟨nv, h1, h2⟩ := o.x.2.2
  exact ⟨a, _, dx, fs, rfl, o.at_, rfl, a, _, dx, fs, _, rfl, o.at_, fc_of K (.letter l), h1, q nv h2⟩
def LNice (l : Ltr) : Prop := PyData.strOk l.rows = true ∧ PyData.strOk l.cols = true
theorem LNice.r {l : Ltr} (h : LNice l) : Nice [l.rows] := fun x hx => by rw [List.mem_singleton.mp hx]; exact h.1
theorem LNice.c {l : Ltr} (h : LNice l) : Nice [l.cols] := fun x hx => by rw [List.mem_singleton.mp hx]; exact h.2
def REqLn (K : PySem.W.Frag) (a b : Addr) (H : Hp) : Prop := ∃ l, LNice l ∧ IsL K H (.ref a) l ∧ IsL K H (.ref b) l
theorem sc_lEq : FnScope ["self", "other"] ["self", "other"] (defScope (inCls 71 6)) := ⟨rfl, rfl, rfl, by decide +kernel, rfl, by decide +kernel, by decide +kernel⟩
theorem opm_lEq (T : Txt K mg) : ∀ C, isLet K C → Opm P w K mg base 5 C "__eq__" (spEq (REqLn K)) := fun C hC => by
  subst hC
  refine (met_of T.lEq sc_lEq (fun _ _ _ _ _ _ us hl => match us, hl with | [_, _], _ => rfl) (fun vs H Q E h => ?_) (fun f cdv A outer s H vs Q E hr h => ?_)).2
  · obtain ⟨a, b, rfl, _⟩ := h; rfl
  have mi := nofree T (x := "isinstance") (by decide +kernel)
  have gL := (T.fc qLetter qLetter_mem).glob
  refine ⟨_, pss_cons (ps_if (PW.pt (pw_or (pt_not (pt_val (pe_callB call_isi (by rfl) mi boot_isi (pa_cons (pv 1) (pa_cons (pe_glob (v := .ref (He.ga K "Letter")) (by rfl) gL rfl) pa_nil))))) (pw_or (pt_cmpR op_ne (pe_prp (prp_lname T) hr (pv 0)) (pe_prp (prp_lname T) hr (pv 1)) (nomark _)) (pw_or1 (pt_cmpR op_ne (pe_prp (prp_lsym T) hr (pv 0)) (pe_prp (prp_lsym T) hr (pv 1)) (nomark _)))))) (pss_one ps_never) pss_nil)
    (pss_one (ps_ret (pe_and (pe_cmpR (op_eqD hr.units) (pe_prp (prp_rows T) hr (pv 0)) (pe_prp (prp_rows T) hr (pv 1)) (nomark _))
      (pe_and (pe_cmpR (op_eqD hr.units) (pe_prp (prp_columns T) hr (pv 0)) (pe_prp (prp_columns T) hr (pv 1)) (nomark _)) (pe_one (pe_cmpR (op_eqG (rcG_own (opm_rEq T)) (hr.mono (by decide))) (pe_prp (prp_labout T) hr (pv 0)) (pe_prp (prp_labout T) hr (pv 1)) (nomark _))))))), ?_⟩
  obtain ⟨a, b, rfl, ⟨l, nl, h1, h2⟩, q⟩ := h
  have n1 := h1.node
  have n2 := h2.node
  have h2' := h2
  obtain ⟨b', e, ⟨dx, fs, rv, cv, pt, st, core, o⟩⟩ := h2'
  cases e
  refine ⟨_, rfl, _, _, _, _, _, rfl, .own _, (T.fc qLetter qLetter_mem).num.ni.own.ty o.at_, T.lSelf, _, rfl, iteF ?_⟩
  refine ⟨_, rfl, rd_lname h1 ⟨_, rfl, rd_lname h2 ⟨rfl, _, rfl, ?_⟩⟩⟩
  rw [decide_eq_true rfl]
  refine iteF ?_
  refine ⟨_, rfl, rd_lsym h1 ⟨_, rfl, rd_lsym h2 ⟨rfl, _, rfl, ?_⟩⟩⟩
  rw [decide_eq_true rfl]
  refine iteF ?_
  refine ⟨_, rfl, rd_rows n1 fun rv1 hr1 => ⟨_, rfl, rd_rows n2 fun rv2 hr2 => ⟨sT [l.rows], sT [l.rows], dp_sT hr1, dp_sT hr2, sT_shaped nl.r, sT_shaped nl.r, _, rfl, ?_⟩⟩⟩
  rw [sT_eqv]
  refine iteT ?_
  refine ⟨_, rfl, rd_cols n1 fun rv1 hr1 => ⟨_, rfl, rd_cols n2 fun rv2 hr2 => ⟨sT [l.cols], sT [l.cols], dp_sT hr1, dp_sT hr2, sT_shaped nl.c, sT_shaped nl.c, _, rfl, ?_⟩⟩⟩
  rw [sT_eqv]
  refine iteT ?_
  refine ⟨_, rfl, rd_labout h1 fun v1 hv1 => ⟨_, rfl, rd_labout h2 fun v2 hv2 => ⟨⟨_, rfl, ?_⟩, fun H' e => q H' e⟩⟩⟩
  have hv1' := hv1
  have hv2' := hv2
  obtain ⟨a1, dx1, rfl, ha1⟩ := hv1'
  obtain ⟨a2, dx2, rfl, ha2⟩ := hv2'
  exact ⟨a1, a2, dx1, dx2, _, _, rfl, rfl, ha1, ha2, l.about, hv1, hv2⟩
end
end K9

/-! ## F22 -/
namespace K9
open PySem PySem.Spec PyProof.Rows L2
/-! The checks. -/
def kvOf (es : List (Str × V)) : List (Key × V) := es.map fun e => (Sum.inr e.1, e.2)
theorem val_kv {es : List (Str × V)} {n : Str} (h : n ∈ es.map (·.1)) : ∃ v, valV (kvOf es) (Sum.inr n) = some v ∧ (n, v) ∈ es := by
  induction es with
  | nil => simp at h
  | cons e es ih =>
    obtain ⟨m, u⟩ := e
    by_cases hm : m = n
    · subst hm
      exact ⟨u, by simp [valV, kvOf], List.mem_cons_self⟩
    · have h2 : n ∈ es.map (·.1) := by
        rcases List.mem_cons.mp h with h | h
        · exact absurd h.symm hm
        · exact h
      obtain ⟨v, h3, h4⟩ := ih h2
      refine ⟨v, ?_, List.mem_cons_of_mem _ h4⟩
      unfold valV kvOf at *
      rw [List.map_cons, List.find?_cons_of_neg (by simpa using hm)]
      exact h3
theorem val_kv_none {es : List (Str × V)} {n : Str} (h : n ∉ es.map (·.1)) : valV (kvOf es) (Sum.inr n) = none := by
  unfold valV kvOf
  rw [List.find?_eq_none.mpr]
  · rfl
  · intro x hx
    obtain ⟨e, he, rfl⟩ := List.mem_map.mp hx
    simp
    intro e2
    exact h (List.mem_map.mpr ⟨e, he, e2⟩)
theorem put_kv {es : List (Str × V)} {n : Str} {v : V} (h : n ∉ es.map (·.1)) : putK (kvOf es) (Sum.inr n) v = kvOf (es ++ [(n, v)]) := by
  have : ((kvOf es).any fun kv => decide (kv.1 = Sum.inr n)) = false := by
    rw [List.any_eq_false]
    intro x hx
    obtain ⟨e, he, rfl⟩ := List.mem_map.mp hx
    simp
    intro e2
    exact h (List.mem_map.mpr ⟨e, he, e2⟩)
  unfold putK
  rw [this]
  simp [kvOf]
/-- the letters of the system S -/
def InS (S : Sys) (l : Ltr) : Prop := l.name ∈ S.N ∧ S.at_ l.name = l ∧ LNice l
structure EsOk (K : PySem.W.Frag) (S : Sys) (H0 : Hp) (es : List (Str × V)) : Prop where
  nd : (es.map (·.1)).Nodup
  is : ∀ e ∈ es, IsL K H0 e.2 (S.at_ e.1) ∧ InS S (S.at_ e.1) ∧ (S.at_ e.1).name = e.1
theorem EsOk.few {K : PySem.W.Frag} {S : Sys} {H0 : Hp} {es : List (Str × V)} (h : EsOk K S H0 es) : es.length ≤ 60 := by
  have := List.Nodup.length_le_of_subset h.nd (l₂ := S.N) fun n hn => by
    obtain ⟨e, he, rfl⟩ := List.mem_map.mp hn
    have := (h.is e he).2
    rw [← this.2]; exact this.1.1
  rw [List.length_map] at this
  exact Nat.le_trans this S.few
def spCkF (K : PySem.W.Frag) : Sp := fun vs H Q _ => ∃ v f ps, vs = [v] ∧ Node K H v f ps ∧ Q .non H
def spCkL (K : PySem.W.Frag) : Sp := fun vs H Q _ => ∃ t ps fs S H0, vs = [.ref t] ∧ H t = some (.tup ps) ∧ ps.length ≤ 1000 ∧ Same H0 H ∧ Al (fun p f => ∃ qs, Node K H0 p f qs) ps fs ∧ (∀ f ∈ fs, ∀ l ∈ f.occ, InS S l) ∧
  Pure (fun v' H' => ∃ st lv ls, v' = .ref st ∧ H' st = some (.tup lv) ∧ Al (IsL K H0) lv ls ∧ (ls.map (·.name)).Nodup ∧ sortedS (ls.map (·.name)) = true ∧ ∀ l, l ∈ ls ↔ ∃ f ∈ fs, l ∈ f.occ) H Q
section
variable {P : Program} {w : World} {K : PySem.W.Frag} {mg : Str → Option Value} {base : Heap}
theorem cal_check_formula (T : Txt K mg) : Cal P w K mg base 1 "check_formula" (spCkF K) [] := by
  refine cal_of T.d_check_formula (N := ["value"]) (ps := ["value"]) ⟨rfl, rfl, rfl, by decide +kernel, rfl, by decide +kernel, by decide +kernel⟩ (fun _ _ _ _ _ _ us hl => match us, hl with | [_], _ => rfl) (fun vs H Q E h => ?_) (fun f cdv A outer s H vs Q E hr h => ?_)
  · obtain ⟨v, f, ps, rfl, _⟩ := h; rfl
  have mi := nofree T (x := "isinstance") (by decide +kernel)
  obtain ⟨v, f, ps, rfl, ⟨a, lv, ls, rfl, ⟨dx, fs, rv, cv, pt, st, core, o⟩, _⟩, q⟩ := h
  have F := T.fc f.kd f.kd_mem
  refine ⟨_, pss_one (ps_if (pt_not (pt_val (pe_callB call_isi (by rfl) mi boot_isi (pa_cons (pv 0) (pa_cons (pe_glob (v := .ref (He.ga K "Part")) (by rfl) T.pGlob rfl) pa_nil))))) (pss_one ps_never) pss_nil), ?_⟩
  exact ⟨_, rfl, _, _, _, _, _, rfl, .own _, F.num.ni.own.ty o.at_, F.part, _, rfl, iteF q⟩
abbrev nCkL : List Str := ["formulas", "found", "clashes", "formula", "letter", "name"]
theorem sc_ckL : FnScope nCkL ["formulas"] (defScope (top 50)) := ⟨rfl, rfl, rfl, by decide +kernel, rfl, by decide +kernel, by decide +kernel⟩
theorem cal_check_letters (T : Txt K mg) : Cal P w K mg base 7 "check_letters" (spCkL K) [] := by
  refine cal_of T.d_check_letters sc_ckL (fun _ _ _ _ _ _ us hl => match us, hl with | [_], _ => rfl) (fun vs H Q E h => ?_) (fun f cdv A outer s H vs Q E hr h => ?_)
  · obtain ⟨t, ps, fs, S, H0, rfl, _⟩ := h; rfl
  have mt := nofree T (x := "tuple") (by decide +kernel)
  have mso := nofree T (x := "sorted") (by decide +kernel)
  have hu : ∀ {n : Nat}, n ≤ 64 → A.units + n < A.units + n + 1 := fun _ => Nat.lt_succ_self _
  have hu1 : (A.deeper (envOfC "check_letters" (defScope (top 50)) s.heap.objs.size f cdv)).units + 1 < cLine := by have := hr.units; omega
  refine ⟨_, pss_cons (ps_set (i := 1) sc_ckL.nd rfl (Or.inr rfl) pe_dnewK)
    (pss_cons (ps_set (i := 2) sc_ckL.nd rfl (Or.inl rfl) (pe_lst pa_nil))
    (pss_cons (ps_for PassesOwn.never rfl (tup9 K (pv 0)) (pg_name (i := 3) sc_ckL.nd rfl (Or.inl rfl))
      (pss_one (ps_for PassesOwn.never rfl (tup9 K (pe_prp (prp_letters T) hr (pv 3))) (pg_name (i := 4) sc_ckL.nd rfl (Or.inl rfl))
        (pss_one (ps_if (pt_cmp (pc_dnotin hu1 (pe_prp (prp_lname T) hr (pv 4)) (pv 1)))
          (pss_one (ps_dput hu1 (pv 1) (pe_prp (prp_lname T) hr (pv 4)) (pv 4) rfl))
          (pss_one (ps_if (pt_cmpR (op_neI (opm_lEq T) (fun C h => h ▸ (T.fc qLetter qLetter_mem).ne) hr) (pe_dget hu1 (pv 1) (pe_prp (prp_lname T) hr (pv 4)) (fun _ _ => rfl)) (pv 4) (nomark _)) (pss_one ps_never) pss_nil)))))))
    (pss_cons (ps_if (pt_cmpR (neL09 K hr.units0) (pv 2) (pe_lst pa_nil) (nomark _)) (pss_one ps_never) pss_nil)
    (pss_one (ps_ret (pe_callTy (tupleOf9 K) (by rfl) mt boot_tuple (pa_cons (pe_lc (own := [("name", 5)]) (g := gName 5) (tt := tYes) rfl sc_ckL.nd (lst9 K (pe_callB (call_sortedD rfl) (by rfl) mso boot_sorted (pa_cons (pv 1) pa_nil))) (blkOk_by (N := nCkL) (sc := defScope (top 50)) (by decide +kernel)) (fun _ _ _ _ _ => pg_name (i := 5) sc_ckL.nd rfl (Or.inl rfl)) (fun _ _ _ _ _ => pts_nil)
        (fun _ _ _ _ _ => pe_dget hu1 (pv 1) (pv 5) (fun _ _ => rfl))) pa_nil))))))), ?_⟩
  obtain ⟨t, ps, fs, S, H0, rfl, ht, lps, s0, aP, inS, k⟩ := h
  intro D hD
  have s1 : Same H (upd H D (.dK (kvOf []))) := Same.upd hD
  have hD1 : (upd H D (.dK (kvOf []))) D = some (.dK (kvOf [])) := upd_same
  show (tAsg (tLst tNil) (gName 2)) _ _ (upd H D (.dK (kvOf [])))
  generalize upd H D (.dK (kvOf [])) = H1 at *
  refine ⟨Nat.zero_le _, fun L hL => ?_⟩
  have s2 : Same H (upd H1 L (.lst [])) := Same.updT s1 (Same.free s1 hL)
  have hD2 : (upd H1 L (.lst [])) D = some (.dK (kvOf [])) := Same.upd hL _ _ hD1
  have hL2 : (upd H1 L (.lst [])) L = some (.lst []) := upd_same
  have hL0 : H L = none := Same.free s1 hL
  generalize upd H1 L (.lst []) = H2 at *
  refine ⟨_, rfl, t, rfl, ⟨_, SqT.of (s2 _ _ ht)⟩, ?_⟩
  refine for_tup (xs := ps) (fun i σ H' => ∃ o3 o4 es, σ = [some (.ref t), some (.ref D), some (.ref L), o3, o4, none] ∧ Same H H' ∧ H' D = some (.dK (kvOf es)) ∧ H' L = some (.lst []) ∧ EsOk K S H0 es ∧ ∀ n, n ∈ es.map (·.1) ↔ ∃ f ∈ fs.take i, ∃ l ∈ f.occ, l.name = n)
    ⟨none, none, [], rfl, s2, hD2, hL2, ⟨by simp, fun e he => by cases he⟩, fun n => by simp⟩ (fun i σ H' _ ⟨_, _, _, _, s, _⟩ => SqT.of (s _ _ ht)) ?_ ?_
  · rintro i x σ H3 hx ⟨o3, o4, es, rfl, s3, hD3, hL3, ok3, m3⟩
    obtain ⟨f, hf, qs, hN⟩ := aP.get' hx
    have hf2 := List.mem_of_getElem? hf
    have s03 := Same.trans s0 s3
    have hN' := hN
    obtain ⟨a, lv, ls, rfl, ⟨dx, ffs, rv, cv, pt, st, core, o⟩, hlv, hls⟩ := hN'
    have o3' := s03 _ _ o.at_
    refine ⟨_, rfl, rd_get o3' (fc_of K f) o.fld.s ⟨st, rfl, ⟨_, SqT.of (s03 _ _ o.s)⟩, ?_⟩⟩
    refine for_tup (xs := lv) (fun j σ H' => ∃ o4 es, σ = [some (.ref t), some (.ref D), some (.ref L), some (.ref a), o4, none] ∧ Same H H' ∧ H' D = some (.dK (kvOf es)) ∧ H' L = some (.lst []) ∧ EsOk K S H0 es ∧ ∀ n, n ∈ es.map (·.1) ↔ (∃ f ∈ fs.take i, ∃ l ∈ f.occ, l.name = n) ∨ ∃ l ∈ ls.take j, l.name = n)
      ⟨o4, es, rfl, s3, hD3, hL3, ok3, fun n => by rw [m3]; simp⟩ (fun i σ H' _ ⟨_, _, _, s, _⟩ => SqT.of (s _ _ (s0 _ _ o.s))) ?_ ?_
    · rintro j y σ H4 hy ⟨o4, es, rfl, s4, hD4, hL4, ok4, m4⟩
      obtain ⟨l, hl, hlL⟩ := hlv.get' hy
      have s04 := Same.trans s0 s4
      have hL' := hlL.imm (Same.imm s04)
      have hin : InS S l := inS f hf2 l ((hls.mem l).mp (List.mem_of_getElem? hl))
      have take : ∀ n, (∃ l' ∈ ls.take (j + 1), l'.name = n) ↔ (∃ l' ∈ ls.take j, l'.name = n) ∨ l.name = n := fun n => by
        rw [List.take_succ, hl]
        simp only [Option.toList_some, List.mem_append, List.mem_singleton]
        constructor
        · rintro ⟨l', h | h, e⟩
          · exact .inl ⟨l', h, e⟩
          · subst h; exact .inr e
        · rintro (⟨l', h, e⟩ | e)
          · exact ⟨l', .inl h, e⟩
          · exact ⟨l, .inr rfl, e⟩
      refine ⟨_, rfl, rd_lname hL' ⟨_, rfl, D, _, rfl, DGet.k (k := Sum.inr l.name) hD4, _, rfl, ?_⟩⟩
      by_cases hn : l.name ∈ es.map (·.1)
      · obtain ⟨v, hv, hev⟩ := val_kv hn
        rw [hv]
        refine iteF ?_
        obtain ⟨e1, e2, e3⟩ := ok4.is _ hev
        have hg := DGet.k (k := Sum.inr l.name) hD4
        rw [hv] at hg
        refine ⟨_, rfl, _, rfl, rd_lname hL' ⟨D, v, rfl, hg, _, rfl, ⟨?_, fun H5 hext => ⟨_, rfl, iteF ?_⟩⟩⟩⟩
        · have e1' : IsL K H4 v l := by
            have := e1.imm (Same.imm s04)
            rw [show S.at_ (l.name, v).1 = l from hin.2.1] at this
            exact this
          have e1'' := e1'
          have hL'' := hL'
          obtain ⟨a1, rfl, ⟨dx1, fs1, rv1, cv1, pt1, st1, co1, o1⟩⟩ := e1''
          obtain ⟨a2, rfl, ⟨dx2, fs2, rv2, cv2, pt2, st2, co2, o2⟩⟩ := hL''
          exact ⟨a1, a2, _, dx1, dx2, fs1, fs2, rfl, rfl, o1.at_, o2.at_, rfl, l, hin.2.2, e1', hL'⟩
        · refine ⟨_, es, rfl, Same.trans s4 hext, hext _ _ hD4, hext _ _ hL4, ok4, fun n => ?_⟩
          rw [m4, take]
          constructor
          · rintro (h | h)
            · exact .inl h
            · exact .inr (.inl h)
          · rintro (h | h | h)
            · exact .inl h
            · exact .inr h
            · rw [← h]; exact (m4 _).mp hn
      · rw [val_kv_none hn]
        refine iteT ?_
        refine ⟨_, rfl, _, rfl, _, rfl, rd_lname hL' ⟨D, _, rfl, DPut.k (k := Sum.inr l.name) (v := y) hD4 (by simp [kvOf]; have := ok4.few; exact Nat.lt_of_lt_of_le (show es.length < 1000 by omega) thousand_line), ?_⟩⟩
        rw [put_kv hn]
        have hDH : H D = none := hD
        have nLD : L ≠ D := fun e => by rw [e] at hL4; rw [hD4] at hL4; cases hL4
        refine ⟨_, es ++ [(l.name, y)], rfl, Same.updT s4 hDH, upd_same, by rw [upd_ne nLD]; exact hL4, ⟨?_, ?_⟩, fun n => ?_⟩
        · rw [List.map_append, List.nodup_append]
          exact ⟨ok4.nd, by simp, fun a ha b hb => by simp at hb; subst hb; exact fun e => hn (e ▸ ha)⟩
        · intro e he
          rcases List.mem_append.mp he with he | he
          · exact ok4.is e he
          · rw [List.mem_singleton.mp he]
            show IsL K H0 y (S.at_ l.name) ∧ InS S (S.at_ l.name) ∧ (S.at_ l.name).name = l.name
            rw [hin.2.1]
            exact ⟨hlL, hin, rfl⟩
        · rw [List.map_append, List.mem_append, m4, take]
          simp only [List.map_cons, List.map_nil, List.mem_singleton]
          constructor
          · rintro ((h | h) | h)
            · exact .inl h
            · exact .inr (.inl h)
            · exact .inr (.inr h.symm)
          · rintro (h | h | h)
            · exact .inl (.inl h)
            · exact .inl (.inr h)
            · exact .inr h.symm
    · rintro σ H4 ⟨o4, es, rfl, s4, hD4, hL4, ok4, m4⟩
      refine ⟨_, _, es, rfl, s4, hD4, hL4, ok4, fun n => ?_⟩
      rw [m4, List.take_succ, hf, hlv.len, List.take_length]
      simp only [Option.toList_some, List.mem_append, List.mem_singleton]
      constructor
      · rintro (⟨g, hg, r⟩ | ⟨l, hl, e⟩)
        · exact ⟨g, .inl hg, r⟩
        · exact ⟨f, .inr rfl, l, (hls.mem l).mp hl, e⟩
      · rintro ⟨g, hg | hg, l, hl, e⟩
        · exact .inl ⟨g, hg, l, hl, e⟩
        · subst hg; exact .inr ⟨l, (hls.mem l).mpr hl, e⟩
  · rintro σ H3 ⟨o3, o4, es, rfl, s3, hD3, hL3, ok3, m3⟩
    rw [aP.len, List.take_length] at m3
    refine ⟨_, rfl, Nat.zero_le _, fun p hp => ⟨L, p, [], rfl, rfl, SqL.of (Same.upd hp _ _ hL3), SqL.of upd_same, _, rfl, iteF ?_⟩⟩
    have s4 : Same H (upd H3 p (.lst [])) := Same.updT s3 (Same.free s3 hp)
    have hD4 : (upd H3 p (.lst [])) D = some (.dK (kvOf es)) := Same.upd hp _ _ hD3
    generalize upd H3 p (.lst []) = H4 at *
    refine ⟨_, rfl, D, kvOf es, es.map (·.1), rfl, .inl hD4, by simp [kvOf], by rw [List.length_map]; have := ok3.few; omega, fun ns p4 hperm hsort hp4 => ⟨p4, rfl, ⟨_, SqL.of upd_same⟩, fun D5 hD5 => ?_⟩⟩
    have s5 : Same H (upd H4 p4 (.lst (ns.map V.str))) := Same.updT s4 (Same.free s4 hp4)
    have hD5' : (upd H4 p4 (.lst (ns.map V.str))) D = some (.dK (kvOf es)) := Same.upd hp4 _ _ hD4
    have hp5 : (upd H4 p4 (.lst (ns.map V.str))) p4 = some (.lst (ns.map V.str)) := upd_same
    generalize upd H4 p4 (.lst (ns.map V.str)) = H5 at *
    have lns : ns.length ≤ 60 := by have := hperm.length_eq; have := ok3.few; rw [List.length_map] at *; omega
    have hmem : ∀ n, n ∈ ns ↔ n ∈ es.map (·.1) := fun n => hperm.mem_iff
    refine tup_it (walk_list' (xs := ns.map V.str)) (fun i y _ => ∃ n, ns[i]? = some n ∧ IsL K H0 y (S.at_ n) ∧ InS S (S.at_ n) ∧ (S.at_ n).name = n) (fun _ _ _ _ _ h => h) hD5 (fun _ s => SqL.of (s _ _ hp5)) (by rw [List.length_map]; exact Nat.le_trans (by omega) thousand_line) (fun i x H6 Q6 hi hx s6 q6 => ?_) (fun l ys H6 s6 hl1 hl2 hl3 => ?_)
    · rw [List.getElem?_map] at hx
      obtain ⟨n, hn, rfl⟩ := Option.map_eq_some_iff.mp hx
      obtain ⟨v, hv, hev⟩ := val_kv ((hmem n).mp (List.mem_of_getElem? hn))
      have hg := DGet.k (k := Sum.inr n) (s6 _ _ hD5')
      rw [hv] at hg
      exact ⟨_, rfl, _, rfl, D, v, rfl, hg, q6 _ _ (Same.refl _) ⟨n, hn, ok3.is _ hev⟩⟩
    · have hn2 : ∀ n ∈ ns, (S.at_ n).name = n := fun n hn => by
        obtain ⟨e, he, rfl⟩ := List.mem_map.mp ((hmem n).mp hn)
        exact (ok3.is e he).2.2
      have enm : (ns.map S.at_).map (·.name) = ns := by
        rw [List.map_map]
        exact (List.map_congr_left (g := id) fun n hn => hn2 n hn).trans (List.map_id _)
      refine k _ _ (Same.trans s5 s6) ⟨l, ys, ns.map S.at_, rfl, hl1, ?_, by rw [enm]; exact hperm.nodup_iff.mpr ok3.nd, by rw [enm]; exact hsort, fun l' => ?_⟩
      · refine Al.mk_map (by rw [hl2, List.length_map]) fun j y n e1 e2 => ?_
        obtain ⟨n', h1, h2, _⟩ := hl3 j y e1
        rw [e2] at h1
        cases h1
        exact h2
      · constructor
        · intro h
          obtain ⟨n, hn, rfl⟩ := List.mem_map.mp h
          obtain ⟨f, hf, l, hl, e⟩ := (m3 n).mp ((hmem n).mp hn)
          have := inS f hf l hl
          rw [← e, this.2.1]
          exact ⟨f, hf, hl⟩
        · rintro ⟨f, hf, hl⟩
          have := inS f hf l' hl
          exact List.mem_map.mpr ⟨l'.name, (hmem _).mpr ((m3 _).mpr ⟨f, hf, l', hl, rfl⟩), this.2.1⟩
end
end K9

/-! ## F23 -/
namespace K9
open PySem PySem.Spec PyProof.Rows L2
/-! What holds of formulas that can be made. -/
theorem MatB.hcat {m n k b c : Nat} {A B : List (List Rat)} (h : MatB m n b A) (g : MatB m k c B) (l : n + k ≤ 16) : MatB m (n + k) (max b c) (hcat A B) := by
  have hn := h.n0
  refine ⟨h.m0, h.m1, by omega, l, by simp [K9.hcat, h.len, g.len], fun r hr => ?_, fun r hr x hx => ?_⟩
  · obtain ⟨r1, h1, r2, h2, rfl⟩ := mem_zipWith hr
    simp [h.wid r1 h1, g.wid r2 h2]
  · obtain ⟨r1, h1, r2, h2, rfl⟩ := mem_zipWith hr
    rcases List.mem_append.mp hx with hx | hx
    · exact (h.bd r1 h1 x hx).mono (Nat.le_max_left _ _)
    · exact (g.bd r2 h2 x hx).mono (Nat.le_max_right _ _)
theorem MatB.vcat {m n k b c : Nat} {A B : List (List Rat)} (h : MatB m n b A) (g : MatB k n c B) (l : m + k ≤ 16) : MatB (m + k) n (max b c) (A ++ B) := by
  have hm := h.m0
  refine ⟨by omega, l, h.n0, h.n1, by simp [h.len, g.len], fun r hr => ?_, fun r hr x hx => ?_⟩
  · rcases List.mem_append.mp hr with hr | hr
    · exact h.wid r hr
    · exact g.wid r hr
  · rcases List.mem_append.mp hr with hr | hr
    · exact (h.bd r hr x hx).mono (Nat.le_max_left _ _)
    · exact (g.bd r hr x hx).mono (Nat.le_max_right _ _)
theorem MatB.pow {n b : Nat} {A : List (List Rat)} (h : MatB n n b A) (i : Nat) : MatB n n (Fm.powB n b i) (powM n A i) := by
  induction i with
  | zero => exact h
  | succ i ih => exact ih.mul h
theorem MatB.one {b : Nat} {x : Rat} (h : BdR b x) : MatB 1 1 b [[x]] := ⟨by decide, by decide, by decide, by decide, rfl, fun r hr => by rw [List.mem_singleton.mp hr]; rfl, fun r hr a ha => by
  rw [List.mem_singleton.mp hr] at ha
  rw [List.mem_singleton.mp ha]
  exact h⟩
theorem MatB.at_ {m n b : Nat} {M : List (List Rat)} (h : MatB m n b M) {i j : Nat} (hi : i < m) (hj : j < n) : BdR b ((M.getD i []).getD j 0) := by
  have hi2 : i < M.length := by rw [h.len]; exact hi
  have hj2 : j < M[i].length := by rw [h.wid _ (List.getElem_mem hi2)]; exact hj
  rw [List.getD_eq_getElem?_getD, List.getD_eq_getElem?_getD, List.getElem?_eq_getElem hi2, Option.getD_some, List.getElem?_eq_getElem hj2]
  exact h.bd _ (List.getElem_mem hi2) _ (List.getElem_mem hj2)
theorem SizeN.ok {z : Str} (h : SizeN z) : PyData.strOk z = true := by
  have k : ∀ c ∈ smallS.cps.toList, c < 1114112 := by decide +kernel
  unfold PyData.strOk
  rw [Array.all_eq_true']
  intro c hc
  exact decide_eq_true (k c (h.all c (by simpa using hc)))
theorem SideN.nice {s : List Str} (h : SideN s) : Nice s := fun z hz => (h.all z hz).ok
theorem Ltr.Ok.nice {l : Ltr} (h : l.Ok) : LNice l := ⟨h.r.ok, h.c.ok⟩
namespace Fm
theorem Ok.lim {S : Sys} : ∀ {f : Fm}, f.Ok S → f.Lim
  | letter l, h => ⟨by show 1 ≤ 1000; decide, by show 1 ≤ 60; decide, by show 1 ≤ 16; decide, by show 1 ≤ 16; decide, by show 1 * 1 * 8 ≤ 4000; decide, by show 6 ≤ 100000; decide⟩
  | eye s, h => h.2
  | zero r c, h => h.2.2
  | sum f g, h => h.2.2.2
  | dif f g, h => h.2.2.2
  | sca q f, h => h.2.2
  | pro f g, h => h.2.2.2
  | tra f, h => h.2
  | inv f, h => h.2.2.2
  | pow f e, h => h.2.2.2.2.2
  | b22 a b c d, h => h.2.2.2.2.2.2.2.2
  | b21 a b, h => h.2.2.2
  | b12 a b, h => h.2.2.2
  | cor f i j, h => h.2.2.2
theorem Ok.inS {S : Sys} : ∀ {f : Fm}, f.Ok S → ∀ l ∈ f.occ, InS S l
  | letter l, h, k, hk => by rw [List.mem_singleton.mp hk]; exact ⟨h.2.1, h.2.2, h.1.nice⟩
  | eye s, h, k, hk => by cases hk
  | zero r c, h, k, hk => by cases hk
  | sum f g, h, k, hk => (List.mem_append.mp hk).elim (Ok.inS h.1 k) (Ok.inS h.2.1 k)
  | dif f g, h, k, hk => (List.mem_append.mp hk).elim (Ok.inS h.1 k) (Ok.inS h.2.1 k)
  | sca q f, h, k, hk => Ok.inS (f := f) h.1 k hk
  | pro f g, h, k, hk => (List.mem_append.mp hk).elim (Ok.inS h.1 k) (Ok.inS h.2.1 k)
  | tra f, h, k, hk => Ok.inS (f := f) h.1 k hk
  | inv f, h, k, hk => Ok.inS (f := f) h.1 k hk
  | pow f e, h, k, hk => Ok.inS (f := f) h.1 k hk
  | b22 a b c d, h, k, hk => by
    rcases List.mem_append.mp hk with hk | hk
    · rcases List.mem_append.mp hk with hk | hk
      · exact (List.mem_append.mp hk).elim (Ok.inS h.1 k) (Ok.inS h.2.1 k)
      · exact Ok.inS h.2.2.1 k hk
    · exact Ok.inS h.2.2.2.1 k hk
  | b21 a b, h, k, hk => (List.mem_append.mp hk).elim (Ok.inS h.1 k) (Ok.inS h.2.1 k)
  | b12 a b, h, k, hk => (List.mem_append.mp hk).elim (Ok.inS h.1 k) (Ok.inS h.2.1 k)
  | cor f i j, h, k, hk => Ok.inS (f := f) h.1 k hk
theorem SideApp {r s : List Str} (h : ∀ z ∈ r, SizeN z) (g : ∀ z ∈ s, SizeN z) : ∀ z ∈ r ++ s, SizeN z := fun z hz => (List.mem_append.mp hz).elim (h z) (g z)
theorem Ok.sz {S : Sys} : ∀ {f : Fm}, f.Ok S → (∀ z ∈ f.rows, SizeN z) ∧ (∀ z ∈ f.cols, SizeN z)
  | letter l, h => ⟨fun z hz => by rw [List.mem_singleton.mp hz]; exact h.1.r, fun z hz => by rw [List.mem_singleton.mp hz]; exact h.1.c⟩
  | eye s, h => ⟨h.1.all, h.1.all⟩
  | zero r c, h => ⟨h.1.all, h.2.1.all⟩
  | sum f g, h => Ok.sz (f := f) h.1
  | dif f g, h => Ok.sz (f := f) h.1
  | sca q f, h => Ok.sz (f := f) h.1
  | pro f g, h => ⟨(Ok.sz (f := f) h.1).1, (Ok.sz (f := g) h.2.1).2⟩
  | tra f, h => ⟨(Ok.sz (f := f) h.1).2, (Ok.sz (f := f) h.1).1⟩
  | inv f, h => Ok.sz (f := f) h.1
  | pow f e, h => Ok.sz (f := f) h.1
  | b22 a b c d, h => ⟨SideApp (Ok.sz h.1).1 (Ok.sz h.2.2.1).1, SideApp (Ok.sz h.1).2 (Ok.sz h.2.1).2⟩
  | b21 a b, h => ⟨SideApp (Ok.sz h.1).1 (Ok.sz h.2.1).1, (Ok.sz h.1).2⟩
  | b12 a b, h => ⟨(Ok.sz h.1).1, SideApp (Ok.sz h.1).2 (Ok.sz h.2.1).2⟩
  | cor f i j, h => by
    refine ⟨fun z hz => ?_, fun z hz => ?_⟩
    · have e : z = f.rows.getD i Str.empty := List.mem_singleton.mp hz
      rw [e, List.getD_eq_getElem?_getD, List.getElem?_eq_getElem h.2.1]
      exact (Ok.sz (f := f) h.1).1 _ (List.getElem_mem h.2.1)
    · have e : z = f.cols.getD j Str.empty := List.mem_singleton.mp hz
      rw [e, List.getD_eq_getElem?_getD, List.getElem?_eq_getElem h.2.2.1]
      exact (Ok.sz (f := f) h.1).2 _ (List.getElem_mem h.2.2.1)
theorem Ok.nr {S : Sys} {f : Fm} (h : f.Ok S) : Nice f.rows := fun z hz => (h.sz.1 z hz).ok
theorem Ok.nc {S : Sys} {f : Fm} (h : f.Ok S) : Nice f.cols := fun z hz => (h.sz.2 z hz).ok
theorem Ok.mat {S : Sys} : ∀ {f : Fm}, f.Ok S → MatB f.rows.length f.cols.length f.bits f.mid
  | letter l, h => MatB.one h.1.b
  | eye s, h => MatB.eye h.1.pos h.1.le
  | zero r c, h => MatB.zero h.1.pos h.1.le h.2.1.pos h.2.1.le
  | sum f g, h => by
    have h1 := Ok.mat (f := f) h.1
    have h2 := Ok.mat (f := g) h.2.1
    rw [show g.rows = f.rows from congrArg Prod.fst h.2.2.1.symm, show g.cols = f.cols from congrArg Prod.snd h.2.2.1.symm] at h2
    exact h1.add (.inl rfl) h2
  | dif f g, h => by
    have h1 := Ok.mat (f := f) h.1
    have h2 := Ok.mat (f := g) h.2.1
    rw [show g.rows = f.rows from congrArg Prod.fst h.2.2.1.symm, show g.cols = f.cols from congrArg Prod.snd h.2.2.1.symm] at h2
    exact h1.add (.inr rfl) h2
  | sca q f, h => (Ok.mat (f := f) h.1).scl h.2.1
  | pro f g, h => by
    have h1 := Ok.mat (f := f) h.1
    have h2 := Ok.mat (f := g) h.2.1
    rw [← h.2.2.1] at h2
    exact h1.mul h2
  | tra f, h => (Ok.mat (f := f) h.1).tr
  | inv f, h => by
    have h1 := Ok.mat (f := f) h.1
    have h2 := (Ok.lim (f := f) h.1).b
    show MatB f.rows.length f.cols.length f.bits (midInv f.mid)
    rw [← h.2.1] at h1 h2 ⊢
    refine (h.2.2.1.diag h1 ?_).2.2
    have h3 := Nat.le_mul_of_pos_left f.bits (Nat.mul_pos h1.m0 h1.m0)
    omega
  | pow f e, h => by
    have h1 := Ok.mat (f := f) h.1
    show MatB f.rows.length f.cols.length (powB f.cols.length f.bits (e - 1)) (powM f.cols.length f.mid (e - 1))
    rw [h.2.1] at h1 ⊢
    exact h1.pow _
  | b22 a b c d, h => by
    have h1 := Ok.mat (f := a) h.1
    have h2 := Ok.mat (f := b) h.2.1
    have h3 := Ok.mat (f := c) h.2.2.1
    have h4 := Ok.mat (f := d) h.2.2.2.1
    obtain ⟨_, _, _, _, e1, e2, e3, e4, L⟩ := h
    rw [← e1] at h2
    rw [← e3] at h3
    rw [← e2, ← e4] at h4
    have l1 : (a.rows ++ c.rows).length ≤ 16 := L.r
    have l2 : (a.cols ++ b.cols).length ≤ 16 := L.c
    rw [List.length_append] at l1 l2
    have := (h1.hcat h2 l2).vcat (h3.hcat h4 l2) l1
    rw [← List.length_append, ← List.length_append] at this
    exact this
  | b21 a b, h => by
    have h1 := Ok.mat (f := a) h.1
    have h2 := Ok.mat (f := b) h.2.1
    obtain ⟨_, _, e1, L⟩ := h
    rw [← e1] at h2
    have l1 : (a.rows ++ b.rows).length ≤ 16 := L.r
    rw [List.length_append] at l1
    have := h1.vcat h2 l1
    rw [← List.length_append] at this
    exact this
  | b12 a b, h => by
    have h1 := Ok.mat (f := a) h.1
    have h2 := Ok.mat (f := b) h.2.1
    obtain ⟨_, _, e1, L⟩ := h
    rw [← e1] at h2
    have l1 : (a.cols ++ b.cols).length ≤ 16 := L.c
    rw [List.length_append] at l1
    have := h1.hcat h2 l1
    rw [← List.length_append] at this
    exact this
  | cor f i j, h => MatB.one ((Ok.mat (f := f) h.1).at_ h.2.1 h.2.2.1)
end Fm
/-! ### more checks -/
def spCkSq (K : PySem.W.Frag) : Sp := fun vs H Q _ => ∃ v f ps, vs = [v] ∧ Node K H v f ps ∧ f.rows = f.cols ∧ Nice f.rows ∧ Q .non H
def spSd (K : PySem.W.Frag) : Sp := fun vs H Q _ => ∃ v f ps, vs = [v] ∧ Node K H v f ps ∧ Pure (fun v' H' => IsSd H' v' f.sides) H Q
def spCkT (K : PySem.W.Frag) : Sp := fun vs H Q _ => ∃ v1 v2 f g p1 p2 S H0, vs = [v1, v2] ∧ Same H0 H ∧ Node K H0 v1 f p1 ∧ Node K H0 v2 g p2 ∧ f.Ok S ∧ g.Ok S ∧ f.sides = g.sides ∧
  Pure (fun v' H' => ∃ st lv ls, v' = .ref st ∧ H' st = some (.tup lv) ∧ Al (IsL K H0) lv ls ∧ ∀ f', f'.occ = f.occ ++ g.occ → LetsOk f' ls) H Q
def spLetOf (K : PySem.W.Frag) : Sp := fun vs H Q _ => ∃ v f ps l, vs = [v, .str l.name] ∧ Node K H v f ps ∧ l ∈ f.occ ∧ ∀ lv, IsL K H lv l → Q lv H
def spSpS : Sp := fun vs H Q _ => ∃ v s, vs = [v] ∧ IsS H v s ∧ (s.map (·.length)).sum + s.length * 2 ≤ 100000 ∧ Q (.str (commaS s)) H
section
variable {P : Program} {w : World} {K : PySem.W.Frag} {mg : Str → Option Value} {base : Heap}
theorem cal_check_square (T : Txt K mg) : Cal P w K mg base 3 "check_square" (spCkSq K) [] := by
  refine cal_of T.d_check_square (N := ["formula"]) (ps := ["formula"]) ⟨rfl, rfl, rfl, by decide +kernel, rfl, by decide +kernel, by decide +kernel⟩ (fun _ _ _ _ _ _ us hl => match us, hl with | [_], _ => rfl) (fun vs H Q E h => ?_) (fun f cdv A outer s H vs Q E hr h => ?_)
  · obtain ⟨v, f, ps, rfl, _⟩ := h; rfl
  obtain ⟨v, f, ps, rfl, hN, he, hn, q⟩ := h
  refine ⟨_, pss_one (ps_if (pt_cmpR (op_neD hr.units) (pe_prp (prp_rows T) hr (pv 0)) (pe_prp (prp_columns T) hr (pv 0)) (nomark _)) (pss_one ps_never) pss_nil), ?_⟩
  refine ⟨_, rfl, rd_rows hN fun rv hrv => ⟨_, rfl, rd_cols hN fun cv hcv => ⟨sT f.rows, sT f.rows, dp_sT hrv, by rw [he]; exact dp_sT hcv, sT_shaped hn, sT_shaped hn, _, rfl, ?_⟩⟩⟩
  rw [sT_eqv]
  exact iteF q
theorem cal_sides_of (T : Txt K mg) : Cal P w K mg base 3 "sides_of" (spSd K) [] := by
  refine cal_of T.d_sides_of (N := ["formula"]) (ps := ["formula"]) ⟨rfl, rfl, rfl, by decide +kernel, rfl, by decide +kernel, by decide +kernel⟩ (fun _ _ _ _ _ _ us hl => match us, hl with | [_], _ => rfl) (fun vs H Q E h => ?_) (fun f cdv A outer s H vs Q E hr h => ?_)
  · obtain ⟨v, f, ps, rfl, _⟩ := h; rfl
  obtain ⟨v, f, ps, rfl, hN, k⟩ := h
  refine ⟨_, pss_one (ps_ret (pe_tup (pa_cons (pe_prp (prp_rows T) hr (pv 0)) (pa_cons (pe_prp (prp_columns T) hr (pv 0)) pa_nil)))), ?_⟩
  refine ⟨_, rfl, rd_rows hN fun rv hrv => ⟨_, rfl, rd_cols hN fun cv hcv => ⟨Nat.le_trans (show 2 ≤ 1000 by decide) thousand_line, fun p hp => ?_⟩⟩⟩
  exact k _ _ (Same.upd hp) ⟨p, rv, cv, rfl, upd_same, Same.upd hp _ _ hrv, Same.upd hp _ _ hcv⟩
theorem sc_ckT : FnScope ["formula", "other", "signs"] ["formula", "other"] (defScope (top 52)) := ⟨rfl, rfl, rfl, by decide +kernel, rfl, by decide +kernel, by decide +kernel⟩
theorem cal_checked_terms (T : Txt K mg) : Cal P w K mg base 8 "checked_terms" (spCkT K) [] := by
  refine cal_of T.d_checked_terms sc_ckT (fun _ _ _ _ _ _ us hl => match us, hl with | [_, _], _ => rfl) (fun vs H Q E h => ?_) (fun f cdv A outer s H vs Q E hr h => ?_)
  · obtain ⟨v1, v2, f, g, p1, p2, S, H0, rfl, _⟩ := h; rfl
  obtain ⟨v1, v2, f, g, p1, p2, S, H0, rfl, s0, n1, n2, o1, o2, hs, k⟩ := h
  refine ⟨_, pss_cons (ps_expr (pe_c (cal_check_formula T) hr (pa_cons (pv 0) pa_nil))) (pss_cons (ps_expr (pe_c (cal_check_formula T) hr (pa_cons (pv 1) pa_nil)))
    (pss_cons (ps_set (i := 2) sc_ckT.nd rfl (Or.inl rfl) (pe_c (cal_check_letters T) hr (pa_cons (pe_tup (pa_cons (pv 0) (pa_cons (pv 1) pa_nil))) pa_nil)))
    (pss_cons (ps_if (pt_cmpR (op_neD hr.units) (pe_c (cal_sides_of T) hr (pa_cons (pv 0) pa_nil)) (pe_c (cal_sides_of T) hr (pa_cons (pv 1) pa_nil)) (nomark _)) (pss_one ps_never) pss_nil)
    (pss_one (ps_ret (pv 2)))))), ?_⟩
  have m1 := n1.imm (Same.imm s0)
  have m2 := n2.imm (Same.imm s0)
  refine ⟨_, rfl, v1, f, p1, rfl, m1, ?_⟩
  refine ⟨_, rfl, v2, g, p2, rfl, m2, ?_⟩
  refine ⟨_, rfl, _, rfl, Nat.le_trans (show 2 ≤ 1000 by decide) thousand_line, fun p hp => ?_⟩
  have s1 : Same H (upd H p (.tup [v1, v2])) := Same.upd hp
  have hp1 : (upd H p (.tup [v1, v2])) p = some (.tup [v1, v2]) := upd_same
  generalize upd H p (.tup [v1, v2]) = H1 at *
  refine ⟨p, [v1, v2], [f, g], S, H0, rfl, hp1, by show 2 ≤ 1000; decide, Same.trans s0 s1, .cons ⟨_, n1⟩ (.cons ⟨_, n2⟩ .nil), fun f' hf' => ?_, fun v' H2 s2 hv => ?_⟩
  · rcases List.mem_cons.mp hf' with rfl | hf'
    · exact o1.inS
    · rw [List.mem_singleton.mp hf']; exact o2.inS
  obtain ⟨st, lv, ls, rfl, hst, hal, nd, so, mem⟩ := hv
  have s12 := Same.trans s1 s2
  refine ⟨_, rfl, v1, f, p1, rfl, m1.imm (Same.imm s12), fun w1 H3 s3 hw1 => ?_⟩
  refine ⟨_, rfl, v2, g, p2, rfl, m2.imm (Same.imm (Same.trans s12 s3)), fun w2 H4 s4 hw2 => ?_⟩
  refine ⟨sdT f.sides, sdT f.sides, (hw1.imm (Same.imm s4)).dp, by rw [hs]; exact hw2.dp, sdT_shaped o1.nr o1.nc, sdT_shaped o1.nr o1.nc, _, rfl, ?_⟩
  rw [sdT_eqv]
  refine iteF ⟨_, rfl, ?_⟩
  have s34 := Same.trans s3 s4
  exact k _ _ (Same.trans s12 s34) ⟨st, lv, ls, rfl, s34 _ _ hst, hal, fun f' e => ⟨nd, so, fun l => by rw [mem, e]; simp⟩⟩
theorem sc_letOf : FnScope ["formula", "name", "letter"] ["formula", "name"] (defScope (top 54)) := ⟨rfl, rfl, rfl, by decide +kernel, rfl, by decide +kernel, by decide +kernel⟩
theorem cal_letter_of (T : Txt K mg) : Cal P w K mg base 3 "letter_of" (spLetOf K) [] := by
  refine cal_of T.d_letter_of sc_letOf (fun _ _ _ _ _ _ us hl => match us, hl with | [_, _], _ => rfl) (fun vs H Q E h => ?_) (fun f cdv A outer s H vs Q E hr h => ?_)
  · obtain ⟨v, f, ps, l, rfl, _⟩ := h; rfl
  obtain ⟨v, f, ps, l, rfl, hN, hl, k⟩ := h
  refine ⟨_, pss_cons (ps_for PassesOwn.never rfl (tup9 K (pe_prp (prp_letters T) hr (pv 0))) (pg_name (i := 2) sc_letOf.nd rfl (Or.inl rfl))
    (pss_one (ps_if (pt_cmpR op_eq (pe_prp (prp_lname T) hr (pv 2)) (pv 1) (nomark _)) (pss_one (ps_ret (pv 2))) pss_nil))) (pss_one ps_never), ?_⟩
  refine ⟨_, rfl, rd_letters hN fun st lv ls hst hlv hls => ⟨st, rfl, ⟨_, SqT.of hst⟩, ?_⟩⟩
  obtain ⟨i0, hi0⟩ := List.mem_iff_getElem?.mp ((hls.mem l).mpr hl)
  have li0 : i0 < ls.length := (List.getElem?_eq_some_iff.mp hi0).1
  refine for_tup (xs := lv) (fun i σ H' => ∃ o2, σ = [some v, some (.str l.name), o2] ∧ H' = H ∧ i ≤ i0) ⟨none, rfl, rfl, Nat.zero_le _⟩ (fun i σ H' _ ⟨_, _, e, _⟩ => by rw [e]; exact SqT.of hst) ?_ ?_
  · rintro i x σ H' hx ⟨o2, rfl, rfl, hi⟩
    obtain ⟨m, hm, hmL⟩ := hlv.get' hx
    refine ⟨_, rfl, rd_lname hmL ⟨_, rfl, rfl, _, rfl, ?_⟩⟩
    by_cases e : m.name = l.name
    · have hml : m = l := name_inj hls.nd (List.mem_of_getElem? hm) (List.mem_of_getElem? hi0) e
      subst hml
      rw [decide_eq_true rfl]
      exact iteT ⟨_, rfl, k x hmL⟩
    · rw [decide_eq_false (fun h => e (V.str.inj h))]
      refine iteF ⟨_, rfl, rfl, ?_⟩
      by_cases h2 : i = i0
      · subst h2
        rw [hm] at hi0
        cases hi0
        exact absurd rfl e
      · omega
  · rintro σ H' ⟨o2, rfl, rfl, hi⟩
    have := hlv.len
    omega
theorem sc_ckSide : FnScope ["value", "side"] ["value"] (defScope (top 55)) := ⟨rfl, rfl, rfl, by decide +kernel, rfl, by decide +kernel, by decide +kernel⟩
theorem cal_checked_side (T : Txt K mg) : Cal P w K mg base 5 "checked_side" spAsSide [] := by
  refine cal_of T.d_checked_side sc_ckSide (fun _ _ _ _ _ _ us hl => match us, hl with | [_], _ => rfl) (fun vs H Q E h => ?_) (fun f cdv A outer s H vs Q E hr h => ?_)
  · rcases h with ⟨z, rfl, _⟩ | ⟨v, s, rfl, _⟩ <;> rfl
  refine ⟨_, pss_cons (ps_set (i := 1) sc_ckSide.nd rfl (Or.inl rfl) (pe_c (cal_as_side T) hr (pa_cons (pv 0) pa_nil))) (pss_cons (ps_if (pt_cmpR op_isN (pv 1) pe_non (nomark _)) (pss_one ps_never) pss_nil) (pss_one (ps_ret (pv 1)))), ?_⟩
  rcases h with ⟨z, rfl, hz, k⟩ | ⟨v, z, rfl, hv, hz, k⟩
  · refine ⟨_, rfl, .inl ⟨z, rfl, hz, fun v H' s' hv => ?_⟩⟩
    have hv' := hv
    obtain ⟨t, rfl, _⟩ := hv'
    exact ⟨_, rfl, rfl, _, rfl, iteF ⟨_, rfl, k _ _ s' hv⟩⟩
  · refine ⟨_, rfl, .inr ⟨v, z, rfl, hv, hz, fun v H' s' hv => ?_⟩⟩
    have hv' := hv
    obtain ⟨t, rfl, _⟩ := hv'
    exact ⟨_, rfl, rfl, _, rfl, iteF ⟨_, rfl, k _ _ s' hv⟩⟩
theorem cal_spelled_side (T : Txt K mg) : Cal P w K mg base 1 "spelled_side" spSpS [] := by
  refine cal_of T.d_spelled_side (N := ["side"]) (ps := ["side"]) ⟨rfl, rfl, rfl, by decide +kernel, rfl, by decide +kernel, by decide +kernel⟩ (fun _ _ _ _ _ _ us hl => match us, hl with | [_], _ => rfl) (fun vs H Q E h => ?_) (fun f cdv A outer s H vs Q E hr h => ?_)
  · obtain ⟨v, z, rfl, _⟩ := h; rfl
  obtain ⟨v, z, rfl, ⟨t, rfl, ht⟩, hz, q⟩ := h
  refine ⟨_, pss_one (ps_ret (pe_join pe_str (pv 0))), ?_⟩
  exact ⟨⟨_, rfl⟩, _, rfl, (", " : Str), t, z, rfl, rfl, .inr (SqT.of ht), Nat.le_trans hz (by decide), q⟩
end
end K9

/-! ## F24 -/
namespace K9
open PySem PySem.Spec PyProof.Rows L2
/-! Making formulas. -/
instance : Inhabited Fm := ⟨.eye []⟩
theorem Extr.off {K : PySem.W.Frag} {H H' : Hp} {x C dx : Addr} {fsx fs0 fs' : List (Str × V)} {f : Fm} {ps : List V} (hx : H x = some (.ins C dx fsx)) (hn : fsx.lookup ("numerator_here" : Str) = none) (o : Off x H H')
    (e : ∀ y : Str, (["label", "manner", "near", "factor", "order", "lines", "spot"] : List Str).contains y = true → fs'.lookup y = fs0.lookup y) (h : Extr K H fs0 f ps) : Extr K H' fs' f ps := by
  cases f with
  | letter l => obtain ⟨a, b, nv, c, d⟩ := h; exact ⟨by rw [e _ (by decide +kernel)]; exact a, by rw [e _ (by decide +kernel)]; exact b, nv, by rw [e _ (by decide +kernel)]; exact c, d.off hx hn o⟩
  | sca q f => obtain ⟨nv, c, d⟩ := h; exact ⟨nv, by rw [e _ (by decide +kernel)]; exact c, d.off hx hn o⟩
  | pow f k => exact (e _ (by decide +kernel)).trans h
  | b22 a b c d => obtain ⟨nv, c, d⟩ := h; exact ⟨nv, by rw [e _ (by decide +kernel)]; exact c, d.off hx o⟩
  | b21 a b => obtain ⟨nv, c, d⟩ := h; exact ⟨nv, by rw [e _ (by decide +kernel)]; exact c, d.off hx o⟩
  | b12 a b => obtain ⟨nv, c, d⟩ := h; exact ⟨nv, by rw [e _ (by decide +kernel)]; exact c, d.off hx o⟩
  | cor f i' j => obtain ⟨t, c, d⟩ := h; exact ⟨t, by rw [e _ (by decide +kernel)]; exact c, Off.tup hx o d⟩
  | _ => exact h
/-- the object that is done -/
theorem mkObj {K : PySem.W.Frag} {H H' : Hp} {x dx : Addr} {f : Fm} {core : V} {fs0 : List (Str × V)} {rv cv pt st : Addr} {ps lv : List V}
    (hx : H x = some (.ins (cF K f) dx (pFs fs0 (.ref rv) (.ref cv) (.ref pt) (.ref st) f.wt f.lv))) (h1 : fs0.lookup ("numerator_here" : Str) = none) (h2 : fs0.lookup ("cells" : Str) = none)
    (hr : H rv = some (.tup (f.rows.map V.str))) (hc : H cv = some (.tup (f.cols.map V.str))) (hp : H pt = some (.tup ps)) (hs : H st = some (.tup lv)) (hm : IsM K H core f.mid) (hex : Extr K H fs0 f ps)
    (e : H' = upd H x (.ins (cF K f) dx (putF "core" core (pFs fs0 (.ref rv) (.ref cv) (.ref pt) (.ref st) f.wt f.lv)))) (hno : noMeth fs0 := by first | exact ⟨rfl, rfl, rfl⟩ | (refine ⟨?_, ?_, ?_⟩ <;> (rw [lookup_putF, if_neg (by decide +kernel)]; rfl))) : ObjF K H' x f ps lv := by
  have o : Off x H H' := by rw [e]; exact Off.upd
  have hn : (pFs fs0 (.ref rv) (.ref cv) (.ref pt) (.ref st) f.wt f.lv).lookup ("numerator_here" : Str) = none := by rw [pFs_get _ _ _ _ _ _ _ _ (by decide +kernel)]; exact h1
  have hn2 : (pFs fs0 (.ref rv) (.ref cv) (.ref pt) (.ref st) f.wt f.lv).lookup ("cells" : Str) = none := by rw [pFs_get _ _ _ _ _ _ _ _ (by decide +kernel)]; exact h2
  have P := pFs_ok fs0 (.ref rv) (.ref cv) (.ref pt) (.ref st) f.wt f.lv
  have g : ∀ y : Str, ("core" : Str) ≠ y → (putF "core" core (pFs fs0 (.ref rv) (.ref cv) (.ref pt) (.ref st) f.wt f.lv)).lookup y = (pFs fs0 (.ref rv) (.ref cv) (.ref pt) (.ref st) f.wt f.lv).lookup y := fun y hy => by rw [lookup_putF, if_neg (fun e => hy e.symm)]
  refine ⟨dx, _, rv, cv, pt, st, core, by rw [e]; exact upd_same, ⟨?_, ?_, ?_, ?_, ?_, ?_⟩, by rw [lookup_putF, if_pos rfl], Off.tup hx o hr, Off.tup hx o hc, Off.tup hx o hp, Off.tup hx o hs, hm.off hx hn hn2 o, ?_, ⟨by rw [lookup_putF, if_neg (by decide +kernel), pFs_get _ _ _ _ _ _ _ _ (by decide +kernel)]; exact hno.1, by rw [lookup_putF, if_neg (by decide +kernel), pFs_get _ _ _ _ _ _ _ _ (by decide +kernel)]; exact hno.2.1, by rw [lookup_putF, if_neg (by decide +kernel), pFs_get _ _ _ _ _ _ _ _ (by decide +kernel)]; exact hno.2.2⟩⟩
  · rw [g _ (by decide +kernel)]; exact P.r
  · rw [g _ (by decide +kernel)]; exact P.c
  · rw [g _ (by decide +kernel)]; exact P.p
  · rw [g _ (by decide +kernel)]; exact P.s
  · rw [g _ (by decide +kernel)]; exact P.w
  · rw [g _ (by decide +kernel)]; exact P.l
  · refine hex.off hx hn o fun y hy => ?_
    have hm := List.contains_iff_mem.mp hy
    rw [g y (by intro q; subst q; revert hm; decide +kernel), pFs_get _ _ _ _ _ _ _ _ ?_]
    simp only [List.mem_cons, List.not_mem_nil, or_false] at hm
    rcases hm with rfl | rfl | rfl | rfl | rfl | rfl | rfl <;> decide +kernel
theorem mkNode {K : PySem.W.Frag} {H0 H H' : Hp} {x dx : Addr} {f : Fm} {core : V} {fs0 : List (Str × V)} {rv cv pt st : Addr} {ps lv : List V} {ls : List Ltr} (s0 : Same H0 H) (hx0 : H0 x = none)
    (hx : H x = some (.ins (cF K f) dx (pFs fs0 (.ref rv) (.ref cv) (.ref pt) (.ref st) f.wt f.lv))) (h1 : fs0.lookup ("numerator_here" : Str) = none) (h2 : fs0.lookup ("cells" : Str) = none)
    (hr : H rv = some (.tup (f.rows.map V.str))) (hc : H cv = some (.tup (f.cols.map V.str))) (hp : H pt = some (.tup ps)) (hs : H st = some (.tup lv)) (hm : IsM K H core f.mid) (hex : Extr K H fs0 f ps) (hl : Al (IsL K H0) lv ls) (hlo : LetsOk f ls)
    (e : H' = upd H x (.ins (cF K f) dx (putF "core" core (pFs fs0 (.ref rv) (.ref cv) (.ref pt) (.ref st) f.wt f.lv)))) (hno : noMeth fs0 := by first | exact ⟨rfl, rfl, rfl⟩ | (refine ⟨?_, ?_, ?_⟩ <;> (rw [lookup_putF, if_neg (by decide +kernel)]; rfl))) : Node K H' (.ref x) f ps := by
  have s : Same H0 H' := by rw [e]; exact Same.updT s0 hx0
  exact ⟨x, lv, ls, rfl, mkObj hx h1 h2 hr hc hp hs hm hex e hno, hl.imp fun _ _ h => h.imm (Same.imm s), hlo⟩
/-- a part of a new object at x -/
theorem Node.part {K : PySem.W.Frag} {H0 H : Hp} {x : Addr} {p : V} {g : Fm} {ps : List V} (s0 : Same H0 H) (hx0 : H0 x = none) (h : Node K H0 p g ps) : PartV K x H p (g.wt, g.lv) := by
  obtain ⟨a, lv, ls, rfl, ⟨dx, fs, rv, cv, pt, st, core, o⟩, _⟩ := h
  exact ⟨a, _, dx, fs, rfl, fun e => (by rw [← e, o.at_] at hx0; cases hx0), s0 _ _ o.at_, fc_of K g, o.fld.w, o.fld.l⟩
theorem same_of_off {H0 H H' : Hp} {x : Addr} (s0 : Same H0 H) (hx0 : H0 x = none) (o : Off x H H') : Same H0 H' := fun b u e => o b u (ne_of_none e hx0) (s0 b u e)
theorem rd_mm {K : PySem.W.Frag} {H : Hp} {v1 v2 : V} {M N : List (List Rat)} {nm : String} {sp : Sp} {Q : VK} (h1 : IsM K H v1 M) (h2 : IsM K H v2 N) (q : sp [v1, v2] H Q E0) : rOwn K nm (isMat K) (isMat K) sp v1 v2 H Q := by
  obtain ⟨a, dx, cv, wv, rfl, ha, _⟩ := h1
  obtain ⟨b, dy, cw, ww, rfl, hb, _⟩ := h2
  exact ⟨a, b, _, _, dx, dy, _, _, rfl, rfl, ha, hb, rfl, rfl, q⟩
/-- the promise of an __init__ -/
def spCtor (K : PySem.W.Frag) (A : Hp → List V → Fm → Prop) : Sp := fun vs H Q _ => ∃ x dx H0 us f, vs = .ref x :: us ∧ Same H0 H ∧ H0 x = none ∧ H x = some (.ins (cF K f) dx []) ∧ A H0 us f ∧ ∀ H', Off x H H' → IsF K H' f (.ref x) → Q .non H'
def ASum (K : PySem.W.Frag) (H0 : Hp) (us : List V) (f : Fm) : Prop := ∃ p q g h S, us = [p, q] ∧ f = .sum g h ∧ IsF K H0 g p ∧ IsF K H0 h q ∧ (Fm.sum g h).Ok S
def ADif (K : PySem.W.Frag) (H0 : Hp) (us : List V) (f : Fm) : Prop := ∃ p q g h S, us = [p, q] ∧ f = .dif g h ∧ IsF K H0 g p ∧ IsF K H0 h q ∧ (Fm.dif g h).Ok S
theorem max2 (a b : Nat) : (1 : Int) + maxOr 0 [(a : Int), (b : Int)] = ((1 + max a b : Nat) : Int) := by
  show (1 : Int) + (if (a : Int) < (b : Int) then (b : Int) else (a : Int)) = _
  split <;> omega
section
variable {w : World} {K : PySem.W.Frag} {mg : Str → Option Value} {base : Heap}
abbrev nSum : List Str := ["self", "formula", "other", "__class__", "signs"]
theorem sc_Sum : NdefX.NScope nSum ["self", "formula", "other"] ["__class__"] (defScope (inCls 74 1)) := ⟨rfl, rfl, rfl, by decide +kernel, rfl, by decide +kernel, by decide +kernel, by decide +kernel, by decide +kernel⟩
theorem mak_sum (T : Txt K mg) : Mak Pg w K mg base 12 "Sum" (He.ga K "Sum") (spCtor K (ASum K)) [] := by
  have F := T.fc (Fm.sum default default).kd (Fm.kd_mem _)
  obtain ⟨fa, fd, mk, FS⟩ := F.make
  obtain ⟨ga, gd, SI, FP⟩ := F.sup
  have np := fnk_part (P := Pg) (w := w) (base := base) T FP
  refine ⟨fa, mk, F.glob, fd, ["self", "formula", "other"], [], fn_super FS sc_Sum ⟨rfl, rfl⟩ (nofree T (by decide +kernel)) F.cls T.noTop rfl (fun vs H Q E h => ?_) (fun nf A outer s H vs Q E hq hs hb S hr h => ?_), FS.kp, FS.bindsN (fun _ _ _ _ _ _ _ us hl => match us, hl with | [_, _, _], _ => rfl), .nil⟩
  · obtain ⟨x, dx, H0, us, f, rfl, _, _, _, ⟨p, q, g, h, S, rfl, _⟩, _⟩ := h; rfl
  obtain ⟨nm, qn, pn, bn, sn, cn, c'⟩ := nf
  subst hq hs hb
  refine ⟨_, pas_cons (ps_set (i := 4) sc_Sum.nd rfl (Or.inl rfl) (pe_c (cal_checked_terms T) hr (pa_cons (pv 1) (pa_cons (pv 2) pa_nil))))
    (pas_sup (ps_super (jc := 3) S (ok := fun C => C = He.ga K "Sum") (fun C hC => ⟨ga, hC ▸ SI, np.1⟩) hr (pa_cons (pe_prp (prp_rows T) hr (pv 1)) (pa_cons (pe_prp (prp_columns T) hr (pv 1)) (pa_cons (pe_tup (pa_cons (pv 1) (pa_cons (pv 2) pa_nil))) (pa_cons (pv 4) pa_nil)))) rfl rfl)
    (pas_of (pss_one (ps_fld (pv 0) (pe_op (op_own (ok := isMat K) (ok2 := isMat K) (fun C hC => hC ▸ met_mAdd T) (fun C hC => hC ▸ met_mAdd T) (fun C D hC hD => by subst hC; subst hD; exact T.mBin.1) hr) (pe_prp (prp_middle T) hr (pv 1)) (pe_prp (prp_middle T) hr (pv 2))) rfl)))), ?_⟩
  obtain ⟨x, dx, H0, us, f, rfl, s0, hx0, hx, ⟨p, q, g, h, Sy, rfl, rfl, hg, hh, hok⟩, k⟩ := h
  obtain ⟨pg, ng, kg⟩ := hg.node
  obtain ⟨ph, nh, kh⟩ := hh.node
  obtain ⟨og, oh, es, L⟩ := hok
  refine ⟨_, rfl, _, rfl, p, q, g, h, pg, ph, Sy, H0, rfl, s0, ng, nh, og, oh, es, fun sv H1 s1 hsv => ?_⟩
  obtain ⟨st, lv, ls, rfl, hst, hal, hlo⟩ := hsv
  have s01 := Same.trans s0 s1
  refine ⟨x, _, dx, [], rfl, rfl, s1 _ _ hx, rfl, _, rfl, rd_rows (ng.imm (Same.imm s01)) fun rv hrv => ⟨_, rfl, rd_cols (ng.imm (Same.imm s01)) fun cv hcv => ⟨_, rfl, _, rfl, Nat.le_trans (show 2 ≤ 1000 by decide) thousand_line, fun pt hpt => ?_⟩⟩⟩
  have s12 : Same H1 (upd H1 pt (.tup [p, q])) := Same.upd hpt
  have hpt2 : (upd H1 pt (.tup [p, q])) pt = some (.tup [p, q]) := upd_same
  generalize upd H1 pt (.tup [p, q]) = H2 at *
  have s02 := Same.trans s01 s12
  have hx2 := s12 _ _ (s1 _ _ hx)
  refine ⟨_, rfl, ?_⟩
  refine ⟨x, _, dx, [], rv, cv, pt, .ref st, [p, q], g.rows, g.cols, 1, (Fm.sum g h).wt, (Fm.sum g h).lv, [(g.wt, g.lv), (h.wt, h.lv)], rfl, fc_of K (Fm.sum g h), hx2, by decide, s12 _ _ hrv, s12 _ _ hcv, hpt2, og.lim.r, og.lim.c, (by show 2 ≤ 1000; decide), .cons (ng.part s02 hx0) (.cons (nh.part s02 hx0) .nil), by decide, fun pp hp => ?_, ?_, max2 _ _, L.w, L.l, fun H3 a3 => ?_⟩
  · rcases List.mem_cons.mp hp with rfl | hp
    · exact og.lim.w
    · rw [List.mem_singleton.mp hp]; exact oh.lim.w
  · show (1 : Int) * ([(g.wt : Int), (h.wt : Int)]).sum = ((g.wt + h.wt : Nat) : Int)
    simp
  have s03 := same_of_off s02 hx0 a3.rest
  have hx3 := a3.at_
  refine ⟨_, rfl, rd_middle (ng.imm (Same.imm s03)) fun m1 hm1 => ⟨_, rfl, rd_middle (nh.imm (Same.imm s03)) fun m2 hm2 => rd_mm hm1 hm2 ?_⟩⟩
  have mg' := og.mat
  have mh' := oh.mat
  have e1 : h.rows = g.rows := congrArg Prod.fst es.symm
  have e2 : h.cols = g.cols := congrArg Prod.snd es.symm
  rw [e1, e2] at mh'
  have hb : g.rows.length * g.cols.length * (g.bits + h.bits + 1) ≤ 4000 := L.b
  refine ⟨m1, m2, g.mid, h.mid, _, _, _, _, rfl, hm1, hm2, mg', mh', by omega, fun core H4 s4 hcore => ?_⟩
  have hx4 := s4 _ _ hx3
  refine ⟨_, rfl, x, _, dx, _, rfl, hx4, F.num.ni.own.cl, F.na _ (by decide +kernel), by show 6 < 1000; decide, ?_⟩
  have o24 : Off x H2 H4 := Off.trans a3.rest (Off.of_same s4)
  have s04 := Same.trans s03 s4
  refine k _ (Off.trans (Off.of_same s1) (Off.trans (Off.of_same s12) (Off.trans o24 Off.upd))) ?_
  have node := mkNode (f := Fm.sum g h) (ls := ls) s04 hx0 hx4 rfl rfl (Off.tup hx2 o24 (s12 _ _ hrv)) (Off.tup hx2 o24 (s12 _ _ hcv)) (Off.tup hx2 o24 hpt2) (Off.tup hx2 o24 (s12 _ _ hst)) hcore trivial hal (hlo _ rfl) rfl
  have sF := same_of_off s04 hx0 (Off.upd (x := x) (H := H4) (o := .ins (cF K (Fm.sum g h)) dx (putF "core" core (pFs [] (.ref rv) (.ref cv) (.ref pt) (.ref st) (Fm.sum g h).wt (Fm.sum g h).lv))))
  exact ⟨p, q, node, hg.imm (Same.imm sF), hh.imm (Same.imm sF)⟩
abbrev nDifference : List Str := ["self", "formula", "other", "__class__", "signs"]
theorem sc_Difference : NdefX.NScope nDifference ["self", "formula", "other"] ["__class__"] (defScope (inCls 75 1)) := ⟨rfl, rfl, rfl, by decide +kernel, rfl, by decide +kernel, by decide +kernel, by decide +kernel, by decide +kernel⟩
theorem mak_dif (T : Txt K mg) : Mak Pg w K mg base 12 "Difference" (He.ga K "Difference") (spCtor K (ADif K)) [] := by
  have F := T.fc (Fm.dif default default).kd (Fm.kd_mem _)
  obtain ⟨fa, fd, mk, FS⟩ := F.make
  obtain ⟨ga, gd, SI, FP⟩ := F.sup
  have np := fnk_part (P := Pg) (w := w) (base := base) T FP
  refine ⟨fa, mk, F.glob, fd, ["self", "formula", "other"], [], fn_super FS sc_Difference ⟨rfl, rfl⟩ (nofree T (by decide +kernel)) F.cls T.noTop rfl (fun vs H Q E h => ?_) (fun nf A outer s H vs Q E hq hs hb S hr h => ?_), FS.kp, FS.bindsN (fun _ _ _ _ _ _ _ us hl => match us, hl with | [_, _, _], _ => rfl), .nil⟩
  · obtain ⟨x, dx, H0, us, f, rfl, _, _, _, ⟨p, q, g, h, S, rfl, _⟩, _⟩ := h; rfl
  obtain ⟨nm, qn, pn, bn, sn, cn, c'⟩ := nf
  subst hq hs hb
  refine ⟨_, pas_cons (ps_set (i := 4) sc_Difference.nd rfl (Or.inl rfl) (pe_c (cal_checked_terms T) hr (pa_cons (pv 1) (pa_cons (pv 2) pa_nil))))
    (pas_sup (ps_super (jc := 3) S (ok := fun C => C = He.ga K "Difference") (fun C hC => ⟨ga, hC ▸ SI, np.1⟩) hr (pa_cons (pe_prp (prp_rows T) hr (pv 1)) (pa_cons (pe_prp (prp_columns T) hr (pv 1)) (pa_cons (pe_tup (pa_cons (pv 1) (pa_cons (pv 2) pa_nil))) (pa_cons (pv 4) pa_nil)))) rfl rfl)
    (pas_of (pss_one (ps_fld (pv 0) (pe_op (op_own (ok := isMat K) (ok2 := isMat K) (fun C hC => hC ▸ met_mSub T) (fun C hC => hC ▸ met_mSub T) (fun C D hC hD => by subst hC; subst hD; exact T.mBin.2.1) hr) (pe_prp (prp_middle T) hr (pv 1)) (pe_prp (prp_middle T) hr (pv 2))) rfl)))), ?_⟩
  obtain ⟨x, dx, H0, us, f, rfl, s0, hx0, hx, ⟨p, q, g, h, Sy, rfl, rfl, hg, hh, hok⟩, k⟩ := h
  obtain ⟨pg, ng, kg⟩ := hg.node
  obtain ⟨ph, nh, kh⟩ := hh.node
  obtain ⟨og, oh, es, L⟩ := hok
  refine ⟨_, rfl, _, rfl, p, q, g, h, pg, ph, Sy, H0, rfl, s0, ng, nh, og, oh, es, fun sv H1 s1 hsv => ?_⟩
  obtain ⟨st, lv, ls, rfl, hst, hal, hlo⟩ := hsv
  have s01 := Same.trans s0 s1
  refine ⟨x, _, dx, [], rfl, rfl, s1 _ _ hx, rfl, _, rfl, rd_rows (ng.imm (Same.imm s01)) fun rv hrv => ⟨_, rfl, rd_cols (ng.imm (Same.imm s01)) fun cv hcv => ⟨_, rfl, _, rfl, Nat.le_trans (show 2 ≤ 1000 by decide) thousand_line, fun pt hpt => ?_⟩⟩⟩
  have s12 : Same H1 (upd H1 pt (.tup [p, q])) := Same.upd hpt
  have hpt2 : (upd H1 pt (.tup [p, q])) pt = some (.tup [p, q]) := upd_same
  generalize upd H1 pt (.tup [p, q]) = H2 at *
  have s02 := Same.trans s01 s12
  have hx2 := s12 _ _ (s1 _ _ hx)
  refine ⟨_, rfl, ?_⟩
  refine ⟨x, _, dx, [], rv, cv, pt, .ref st, [p, q], g.rows, g.cols, 1, (Fm.dif g h).wt, (Fm.dif g h).lv, [(g.wt, g.lv), (h.wt, h.lv)], rfl, fc_of K (Fm.dif g h), hx2, by decide, s12 _ _ hrv, s12 _ _ hcv, hpt2, og.lim.r, og.lim.c, (by show 2 ≤ 1000; decide), .cons (ng.part s02 hx0) (.cons (nh.part s02 hx0) .nil), by decide, fun pp hp => ?_, ?_, max2 _ _, L.w, L.l, fun H3 a3 => ?_⟩
  · rcases List.mem_cons.mp hp with rfl | hp
    · exact og.lim.w
    · rw [List.mem_singleton.mp hp]; exact oh.lim.w
  · show (1 : Int) * ([(g.wt : Int), (h.wt : Int)]).sum = ((g.wt + h.wt : Nat) : Int)
    simp
  have s03 := same_of_off s02 hx0 a3.rest
  have hx3 := a3.at_
  refine ⟨_, rfl, rd_middle (ng.imm (Same.imm s03)) fun m1 hm1 => ⟨_, rfl, rd_middle (nh.imm (Same.imm s03)) fun m2 hm2 => rd_mm hm1 hm2 ?_⟩⟩
  have mg' := og.mat
  have mh' := oh.mat
  have e1 : h.rows = g.rows := congrArg Prod.fst es.symm
  have e2 : h.cols = g.cols := congrArg Prod.snd es.symm
  rw [e1, e2] at mh'
  have hb : g.rows.length * g.cols.length * (g.bits + h.bits + 1) ≤ 4000 := L.b
  refine ⟨m1, m2, g.mid, h.mid, _, _, _, _, rfl, hm1, hm2, mg', mh', by omega, fun core H4 s4 hcore => ?_⟩
  have hx4 := s4 _ _ hx3
  refine ⟨_, rfl, x, _, dx, _, rfl, hx4, F.num.ni.own.cl, F.na _ (by decide +kernel), by show 6 < 1000; decide, ?_⟩
  have o24 : Off x H2 H4 := Off.trans a3.rest (Off.of_same s4)
  have s04 := Same.trans s03 s4
  refine k _ (Off.trans (Off.of_same s1) (Off.trans (Off.of_same s12) (Off.trans o24 Off.upd))) ?_
  have node := mkNode (f := Fm.dif g h) (ls := ls) s04 hx0 hx4 rfl rfl (Off.tup hx2 o24 (s12 _ _ hrv)) (Off.tup hx2 o24 (s12 _ _ hcv)) (Off.tup hx2 o24 hpt2) (Off.tup hx2 o24 (s12 _ _ hst)) hcore trivial hal (hlo _ rfl) rfl
  have sF := same_of_off s04 hx0 (Off.upd (x := x) (H := H4) (o := .ins (cF K (Fm.dif g h)) dx (putF "core" core (pFs [] (.ref rv) (.ref cv) (.ref pt) (.ref st) (Fm.dif g h).wt (Fm.dif g h).lv))))
  exact ⟨p, q, node, hg.imm (Same.imm sF), hh.imm (Same.imm sF)⟩
end
end K9

/-! ## F25 -/
namespace K9
open PySem PySem.Spec PyProof.Rows L2
/-! Making formulas: products, transposes, inverses, multiples. -/
theorem mFs_no (cv wv : V) (d : Nat) (m : Str) (h : (["cells", "wholes", "below"] : List Str).contains m = false) : (mFs cv wv d).lookup m = none := by
  have g : ∀ y, (["cells", "wholes", "below"] : List Str).contains y = true → m ≠ y := fun y hy e => by
    rw [e] at h
    rw [h] at hy
    cases hy
  unfold mFs
  rw [lookup_putF, if_neg (g _ (by decide +kernel)), lookup_putF, if_neg (g _ (by decide +kernel)), lookup_putF, if_neg (g _ (by decide +kernel))]
  rfl
def APro (K : PySem.W.Frag) (H0 : Hp) (us : List V) (f : Fm) : Prop := ∃ p q g h S, us = [p, q] ∧ f = .pro g h ∧ IsF K H0 g p ∧ IsF K H0 h q ∧ (Fm.pro g h).Ok S
def ATra (K : PySem.W.Frag) (H0 : Hp) (us : List V) (f : Fm) : Prop := ∃ p g S, us = [p] ∧ f = .tra g ∧ IsF K H0 g p ∧ (Fm.tra g).Ok S
def AInv (K : PySem.W.Frag) (H0 : Hp) (us : List V) (f : Fm) : Prop := ∃ p g S, us = [p] ∧ f = .inv g ∧ IsF K H0 g p ∧ (Fm.inv g).Ok S
def ASca (K : PySem.W.Frag) (H0 : Hp) (us : List V) (f : Fm) : Prop := ∃ n p r g S, us = [n, p] ∧ f = .sca r g ∧ NumV K H0 n r ∧ IsF K H0 g p ∧ (Fm.sca r g).Ok S
theorem max1 (a : Nat) : (1 : Int) + maxOr 0 [(a : Int)] = ((1 + a : Nat) : Int) := by
  show (1 : Int) + (a : Int) = _
  omega
theorem sum1 (a : Nat) : (1 : Int) * ([(a : Int)]).sum = ((a : Nat) : Int) := by simp
section
variable {w : World} {K : PySem.W.Frag} {mg : Str → Option Value} {base : Heap}
abbrev nProduct : List Str := ["self", "formula", "other", "__class__", "signs"]
theorem sc_Product : NdefX.NScope nProduct ["self", "formula", "other"] ["__class__"] (defScope (inCls 77 1)) := ⟨rfl, rfl, rfl, by decide +kernel, rfl, by decide +kernel, by decide +kernel, by decide +kernel, by decide +kernel⟩
theorem mak_Product (T : Txt K mg) : Mak Pg w K mg base 12 "Product" (He.ga K "Product") (spCtor K (APro K)) [] := by
  have F := T.fc (Fm.pro default default).kd (Fm.kd_mem _)
  obtain ⟨fa, fd, mk, FS⟩ := F.make
  obtain ⟨ga, gd, SI, FP⟩ := F.sup
  have np := fnk_part (P := Pg) (w := w) (base := base) T FP
  refine ⟨fa, mk, F.glob, fd, ["self", "formula", "other"], [], fn_super FS sc_Product ⟨rfl, rfl⟩ (nofree T (by decide +kernel)) F.cls T.noTop rfl (fun vs H Q E h => ?_) (fun nf A outer s H vs Q E hq hs hb S hr h => ?_), FS.kp, FS.bindsN (fun _ _ _ _ _ _ _ us hl => match us, hl with | [_, _, _], _ => rfl), .nil⟩
  · obtain ⟨x, dx, H0, us, f, rfl, _, _, _, ⟨p, q, g, h, S, rfl, _⟩, _⟩ := h; rfl
  obtain ⟨nm, qn, pn, bn, sn, cn, c'⟩ := nf
  subst hq hs hb
  refine ⟨_, pas_cons (ps_expr (pe_c (cal_check_formula T) hr (pa_cons (pv 1) pa_nil))) (pas_cons (ps_expr (pe_c (cal_check_formula T) hr (pa_cons (pv 2) pa_nil)))
    (pas_cons (ps_set (i := 4) sc_Product.nd rfl (Or.inl rfl) (pe_c (cal_check_letters T) hr (pa_cons (pe_tup (pa_cons (pv 1) (pa_cons (pv 2) pa_nil))) pa_nil)))
    (pas_cons (ps_if (pt_cmpR (op_neD hr.units) (pe_prp (prp_columns T) hr (pv 1)) (pe_prp (prp_rows T) hr (pv 2)) (nomark _)) (pss_one ps_never) pss_nil)
    (pas_sup (ps_super (jc := 3) S (ok := fun C => C = He.ga K "Product") (fun C hC => ⟨ga, hC ▸ SI, np.1⟩) hr (pa_cons (pe_prp (prp_rows T) hr (pv 1)) (pa_cons (pe_prp (prp_columns T) hr (pv 2)) (pa_cons (pe_tup (pa_cons (pv 1) (pa_cons (pv 2) pa_nil))) (pa_cons (pv 4) pa_nil)))) rfl rfl)
    (pas_of (pss_one (ps_fld (pv 0) (pe_op (op_own (ok := isMat K) (ok2 := isMat K) (fun C hC => hC ▸ met_mMul T) (fun C hC => hC ▸ met_mMul T) (fun C D hC hD => by subst hC; subst hD; exact T.mBin.2.2.1) hr) (pe_prp (prp_middle T) hr (pv 1)) (pe_prp (prp_middle T) hr (pv 2))) rfl))))))), ?_⟩
  obtain ⟨x, dx, H0, us, f, rfl, s0, hx0, hx, ⟨p, q, g, h, Sy, rfl, rfl, hg, hh, hok⟩, k⟩ := h
  obtain ⟨pg, ng, kg⟩ := hg.node
  obtain ⟨ph, nh, kh⟩ := hh.node
  obtain ⟨og, oh, es, L⟩ := hok
  refine ⟨_, rfl, p, g, pg, rfl, ng.imm (Same.imm s0), ?_⟩
  refine ⟨_, rfl, q, h, ph, rfl, nh.imm (Same.imm s0), ?_⟩
  refine ⟨_, rfl, _, rfl, Nat.le_trans (show 2 ≤ 1000 by decide) thousand_line, fun p0 hp0 => ?_⟩
  have sa : Same H (upd H p0 (.tup [p, q])) := Same.upd hp0
  have hpa : (upd H p0 (.tup [p, q])) p0 = some (.tup [p, q]) := upd_same
  generalize upd H p0 (.tup [p, q]) = Ha at *
  refine ⟨p0, [p, q], [g, h], Sy, H0, rfl, hpa, by show 2 ≤ 1000; decide, Same.trans s0 sa, .cons ⟨_, ng⟩ (.cons ⟨_, nh⟩ .nil), fun f' hf' => ?_, fun sv H1 s1 hsv => ?_⟩
  · rcases List.mem_cons.mp hf' with rfl | hf'
    · exact og.inS
    · rw [List.mem_singleton.mp hf']; exact oh.inS
  obtain ⟨st, lv, ls, rfl, hst, hal, nd, so, mem⟩ := hsv
  have s1 := Same.trans sa s1
  have hlo : LetsOk (Fm.pro g h) ls := ⟨nd, so, fun l => by rw [mem]; simp [Fm.occ]⟩
  have s01 := Same.trans s0 s1
  refine ⟨_, rfl, rd_cols (ng.imm (Same.imm s01)) fun c1 hc1 => ⟨_, rfl, rd_rows (nh.imm (Same.imm s01)) fun c2 hc2 => ⟨sT g.cols, sT g.cols, dp_sT hc1, by rw [es]; exact dp_sT hc2, sT_shaped og.nc, sT_shaped og.nc, _, rfl, ?_⟩⟩⟩
  rw [sT_eqv]
  refine iteF ?_
  refine ⟨x, _, dx, [], rfl, rfl, s1 _ _ hx, rfl, _, rfl, rd_rows (ng.imm (Same.imm s01)) fun rv hrv => ⟨_, rfl, rd_cols (nh.imm (Same.imm s01)) fun cv hcv => ⟨_, rfl, _, rfl, Nat.le_trans (show 2 ≤ 1000 by decide) thousand_line, fun pt hpt => ?_⟩⟩⟩
  have s12 : Same H1 (upd H1 pt (.tup [p, q])) := Same.upd hpt
  have hpt2 : (upd H1 pt (.tup [p, q])) pt = some (.tup [p, q]) := upd_same
  generalize upd H1 pt (.tup [p, q]) = H2 at *
  have s02 := Same.trans s01 s12
  have hx2 := s12 _ _ (s1 _ _ hx)
  refine ⟨_, rfl, ?_⟩
  refine ⟨x, _, dx, [], rv, cv, pt, .ref st, [p, q], g.rows, h.cols, 1, (Fm.pro g h).wt, (Fm.pro g h).lv, [(g.wt, g.lv), (h.wt, h.lv)], rfl, fc_of K (Fm.pro g h), hx2, by decide, s12 _ _ hrv, s12 _ _ hcv, hpt2, og.lim.r, oh.lim.c, (by show 2 ≤ 1000; decide), .cons (ng.part s02 hx0) (.cons (nh.part s02 hx0) .nil), by decide, fun pp hp => ?_, ?_, max2 _ _, L.w, L.l, fun H3 a3 => ?_⟩
  · rcases List.mem_cons.mp hp with rfl | hp
    · exact og.lim.w
    · rw [List.mem_singleton.mp hp]; exact oh.lim.w
  · show (1 : Int) * ([(g.wt : Int), (h.wt : Int)]).sum = ((g.wt + h.wt : Nat) : Int)
    simp
  have s03 := same_of_off s02 hx0 a3.rest
  have hx3 := a3.at_
  refine ⟨_, rfl, rd_middle (ng.imm (Same.imm s03)) fun m1 hm1 => ⟨_, rfl, rd_middle (nh.imm (Same.imm s03)) fun m2 hm2 => rd_mm hm1 hm2 ?_⟩⟩
  have mg' := og.mat
  have mh' := oh.mat
  rw [← es] at mh'
  have hb : g.rows.length * h.cols.length * (g.cols.length * (g.bits + h.bits + 1) + 1) ≤ 4000 := L.b
  have hb1 := og.lim.b
  have hb2 := oh.lim.b
  rw [← es] at hb2
  refine .inr ⟨m1, m2, g.mid, h.mid, _, _, _, _, _, rfl, hm1, hm2, mg', mh', by omega, by omega, fun core H4 s4 hcore => ?_⟩
  have hx4 := s4 _ _ hx3
  refine ⟨_, rfl, x, _, dx, _, rfl, hx4, F.num.ni.own.cl, F.na _ (by decide +kernel), by show 6 < 1000; decide, ?_⟩
  have o24 : Off x H2 H4 := Off.trans a3.rest (Off.of_same s4)
  have s04 := Same.trans s03 s4
  refine k _ (Off.trans (Off.of_same s1) (Off.trans (Off.of_same s12) (Off.trans o24 Off.upd))) ?_
  have node := mkNode (f := Fm.pro g h) (ls := ls) s04 hx0 hx4 rfl rfl (Off.tup hx2 o24 (s12 _ _ hrv)) (Off.tup hx2 o24 (s12 _ _ hcv)) (Off.tup hx2 o24 hpt2) (Off.tup hx2 o24 (s12 _ _ hst)) hcore trivial hal hlo rfl
  have sF := same_of_off s04 hx0 (Off.upd (x := x) (H := H4) (o := .ins (cF K (Fm.pro g h)) dx (putF "core" core (pFs [] (.ref rv) (.ref cv) (.ref pt) (.ref st) (Fm.pro g h).wt (Fm.pro g h).lv))))
  exact ⟨p, q, node, hg.imm (Same.imm sF), hh.imm (Same.imm sF)⟩
abbrev nTransposed : List Str := ["self", "formula", "__class__"]
theorem sc_Transposed : NdefX.NScope nTransposed ["self", "formula"] ["__class__"] (defScope (inCls 78 1)) := ⟨rfl, rfl, rfl, by decide +kernel, rfl, by decide +kernel, by decide +kernel, by decide +kernel, by decide +kernel⟩
theorem mak_Transposed (T : Txt K mg) : Mak Pg w K mg base 12 "Transposed" (He.ga K "Transposed") (spCtor K (ATra K)) [] := by
  have F := T.fc (Fm.tra default).kd (Fm.kd_mem _)
  obtain ⟨fa, fd, mk, FS⟩ := F.make
  obtain ⟨ga, gd, SI, FP⟩ := F.sup
  have np := fnk_part (P := Pg) (w := w) (base := base) T FP
  refine ⟨fa, mk, F.glob, fd, ["self", "formula"], [], fn_super FS sc_Transposed ⟨rfl, rfl⟩ (nofree T (by decide +kernel)) F.cls T.noTop rfl (fun vs H Q E h => ?_) (fun nf A outer s H vs Q E hq hs hb S hr h => ?_), FS.kp, FS.bindsN (fun _ _ _ _ _ _ _ us hl => match us, hl with | [_, _], _ => rfl), .nil⟩
  · obtain ⟨x, dx, H0, us, f, rfl, _, _, _, ⟨p, g, S, rfl, _⟩, _⟩ := h; rfl
  obtain ⟨nm, qn, pn, bn, sn, cn, c'⟩ := nf
  subst hq hs hb
  refine ⟨_, pas_cons (ps_expr (pe_c (cal_check_formula T) hr (pa_cons (pv 1) pa_nil)))
    (pas_sup (ps_super (jc := 2) S (ok := fun C => C = He.ga K "Transposed") (fun C hC => ⟨ga, hC ▸ SI, np.1⟩) hr (pa_cons (pe_prp (prp_columns T) hr (pv 1)) (pa_cons (pe_prp (prp_rows T) hr (pv 1)) (pa_cons (pe_tup (pa_cons (pv 1) pa_nil)) (pa_cons (pe_prp (prp_letters T) hr (pv 1)) pa_nil)))) rfl rfl)
    (pas_of (pss_one (ps_fld (pv 0) (pe_prp (prp_mtrans T) hr (pe_prp (prp_middle T) hr (pv 1))) rfl)))), ?_⟩
  obtain ⟨x, dx, H0, us, f, rfl, s0, hx0, hx, ⟨p, g, Sy, rfl, rfl, hg, hok⟩, k⟩ := h
  obtain ⟨pg, ng, kg⟩ := hg.node
  obtain ⟨og, L⟩ := hok
  have ng' := ng
  obtain ⟨ag, lv, ls, rfl, ⟨dxg, fsg, rv, cv, ptg, st, cog, oo⟩, hal, hlo⟩ := ng'
  refine ⟨_, rfl, _, g, pg, rfl, ng.imm (Same.imm s0), ?_⟩
  refine ⟨x, _, dx, [], rfl, rfl, hx, rfl, _, rfl, rd_get (s0 _ _ oo.at_) (fc_of K g) oo.fld.c ⟨_, rfl, rd_get (s0 _ _ oo.at_) (fc_of K g) oo.fld.r ⟨_, rfl, Nat.le_trans (show 1 ≤ 1000 by decide) thousand_line, fun pt hpt => ?_⟩⟩⟩
  have s12 : Same H (upd H pt (.tup [.ref ag])) := Same.upd hpt
  have hpt2 : (upd H pt (.tup [.ref ag])) pt = some (.tup [.ref ag]) := upd_same
  generalize upd H pt (.tup [.ref ag]) = H2 at *
  have s02 := Same.trans s0 s12
  have hx2 := s12 _ _ hx
  refine ⟨_, rfl, rd_get (s02 _ _ oo.at_) (fc_of K g) oo.fld.s ?_⟩
  refine ⟨x, _, dx, [], cv, rv, pt, .ref st, [.ref ag], g.cols, g.rows, 1, (Fm.tra g).wt, (Fm.tra g).lv, [(g.wt, g.lv)], rfl, fc_of K (Fm.tra g), hx2, by decide, s02 _ _ oo.c, s02 _ _ oo.r, hpt2, og.lim.c, og.lim.r, (by show 1 ≤ 1000; decide), .cons (ng.part s02 hx0) .nil, by decide, fun pp hp => by rw [List.mem_singleton.mp hp]; exact og.lim.w, sum1 _, max1 _, L.w, L.l, fun H3 a3 => ?_⟩
  have s03 := same_of_off s02 hx0 a3.rest
  have hx3 := a3.at_
  have hb : g.cols.length * g.rows.length * g.bits ≤ 4000 := L.b
  rw [Nat.mul_comm g.cols.length] at hb
  refine ⟨_, rfl, rd_middle (ng.imm (Same.imm s03)) fun m1 hm1 => rd_isM hm1 ⟨m1, g.mid, _, _, _, rfl, hm1, og.mat, by omega, fun core H4 s4 hcore => ?_⟩⟩
  have hx4 := s4 _ _ hx3
  refine ⟨_, rfl, x, _, dx, _, rfl, hx4, F.num.ni.own.cl, F.na _ (by decide +kernel), by show 6 < 1000; decide, ?_⟩
  have o24 : Off x H2 H4 := Off.trans a3.rest (Off.of_same s4)
  have s04 := Same.trans s03 s4
  refine k _ (Off.trans (Off.of_same s12) (Off.trans o24 Off.upd)) ?_
  have node := mkNode (f := Fm.tra g) (ls := ls) s04 hx0 hx4 rfl rfl (s04 _ _ oo.c) (s04 _ _ oo.r) (Off.tup hx2 o24 hpt2) (s04 _ _ oo.s) hcore trivial hal ⟨hlo.nd, hlo.st, hlo.mem⟩ rfl
  exact ⟨_, node, hg.imm (Same.imm (same_of_off s04 hx0 Off.upd))⟩
abbrev nInverse : List Str := ["self", "formula", "__class__"]
theorem sc_Inverse : NdefX.NScope nInverse ["self", "formula"] ["__class__"] (defScope (inCls 79 1)) := ⟨rfl, rfl, rfl, by decide +kernel, rfl, by decide +kernel, by decide +kernel, by decide +kernel, by decide +kernel⟩
theorem mak_Inverse (T : Txt K mg) : Mak Pg w K mg base 12 "Inverse" (He.ga K "Inverse") (spCtor K (AInv K)) [] := by
  have F := T.fc (Fm.inv default).kd (Fm.kd_mem _)
  obtain ⟨fa, fd, mk, FS⟩ := F.make
  obtain ⟨ga, gd, SI, FP⟩ := F.sup
  have np := fnk_part (P := Pg) (w := w) (base := base) T FP
  refine ⟨fa, mk, F.glob, fd, ["self", "formula"], [], fn_super FS sc_Inverse ⟨rfl, rfl⟩ (nofree T (by decide +kernel)) F.cls T.noTop rfl (fun vs H Q E h => ?_) (fun nf A outer s H vs Q E hq hs hb S hr h => ?_), FS.kp, FS.bindsN (fun _ _ _ _ _ _ _ us hl => match us, hl with | [_, _], _ => rfl), .nil⟩
  · obtain ⟨x, dx, H0, us, f, rfl, _, _, _, ⟨p, g, S, rfl, _⟩, _⟩ := h; rfl
  obtain ⟨nm, qn, pn, bn, sn, cn, c'⟩ := nf
  subst hq hs hb
  refine ⟨_, pas_cons (ps_expr (pe_c (cal_check_formula T) hr (pa_cons (pv 1) pa_nil))) (pas_cons (ps_expr (pe_c (cal_check_square T) hr (pa_cons (pv 1) pa_nil)))
    (pas_sup (ps_super (jc := 2) S (ok := fun C => C = He.ga K "Inverse") (fun C hC => ⟨ga, hC ▸ SI, np.1⟩) hr (pa_cons (pe_prp (prp_rows T) hr (pv 1)) (pa_cons (pe_prp (prp_columns T) hr (pv 1)) (pa_cons (pe_tup (pa_cons (pv 1) pa_nil)) (pa_cons (pe_prp (prp_letters T) hr (pv 1)) pa_nil)))) rfl rfl)
    (pas_of (pss_one (ps_try_thru0 (pss_one (ps_fld (pv 0) (pe_mtP0 (ok := isMat K) (fun C hC => hC ▸ met_mInv T) hr (pe_prp (prp_middle T) hr (pv 1))) rfl))))))), ?_⟩
  obtain ⟨x, dx, H0, us, f, rfl, s0, hx0, hx, ⟨p, g, Sy, rfl, rfl, hg, hok⟩, k⟩ := h
  obtain ⟨pg, ng, kg⟩ := hg.node
  obtain ⟨og, esq, oinv, L⟩ := hok
  have ng' := ng
  obtain ⟨ag, lv, ls, rfl, ⟨dxg, fsg, rv, cv, ptg, st, cog, oo⟩, hal, hlo⟩ := ng'
  refine ⟨_, rfl, _, g, pg, rfl, ng.imm (Same.imm s0), ?_⟩
  refine ⟨_, rfl, _, g, pg, rfl, ng.imm (Same.imm s0), esq, og.nr, ?_⟩
  refine ⟨x, _, dx, [], rfl, rfl, hx, rfl, _, rfl, rd_get (s0 _ _ oo.at_) (fc_of K g) oo.fld.r ⟨_, rfl, rd_get (s0 _ _ oo.at_) (fc_of K g) oo.fld.c ⟨_, rfl, Nat.le_trans (show 1 ≤ 1000 by decide) thousand_line, fun pt hpt => ?_⟩⟩⟩
  have s12 : Same H (upd H pt (.tup [.ref ag])) := Same.upd hpt
  have hpt2 : (upd H pt (.tup [.ref ag])) pt = some (.tup [.ref ag]) := upd_same
  generalize upd H pt (.tup [.ref ag]) = H2 at *
  have s02 := Same.trans s0 s12
  have hx2 := s12 _ _ hx
  refine ⟨_, rfl, rd_get (s02 _ _ oo.at_) (fc_of K g) oo.fld.s ?_⟩
  refine ⟨x, _, dx, [], rv, cv, pt, .ref st, [.ref ag], g.rows, g.cols, 1, (Fm.inv g).wt, (Fm.inv g).lv, [(g.wt, g.lv)], rfl, fc_of K (Fm.inv g), hx2, by decide, s02 _ _ oo.r, s02 _ _ oo.c, hpt2, og.lim.r, og.lim.c, (by show 1 ≤ 1000; decide), .cons (ng.part s02 hx0) .nil, by decide, fun pp hp => by rw [List.mem_singleton.mp hp]; exact og.lim.w, sum1 _, max1 _, L.w, L.l, fun H3 a3 => ?_⟩
  have s03 := same_of_off s02 hx0 a3.rest
  have hx3 := a3.at_
  have hb : g.rows.length * g.cols.length * g.bits ≤ 4000 := L.b
  have hm := og.mat
  rw [← esq] at hm hb
  have hb8 : g.bits ≤ 8000 := by
    have h3 := Nat.le_mul_of_pos_left g.bits (Nat.mul_pos hm.m0 hm.m0)
    omega
  obtain ⟨d1, d2, d3⟩ := oinv.diag hm hb8
  have d3' := d3
  rw [← d2] at d3'
  refine ⟨_, rfl, rd_middle (ng.imm (Same.imm s03)) fun m1 hm1 => ?_⟩
  have hm1' := hm1
  obtain ⟨ma, mdx, mcv, mwv, rfl, hma, _⟩ := hm1'
  refine ⟨ma, _, mdx, _, rfl, hma, rfl, mFs_no _ _ _ _ (by decide +kernel), _, g.mid, _, _, _, rfl, hm1, hm, by omega, d1, d3', by omega, fun core H4 s4 hcore => ?_⟩
  rw [d2] at hcore
  have hx4 := s4 _ _ hx3
  refine ⟨_, rfl, x, _, dx, _, rfl, hx4, F.num.ni.own.cl, F.na _ (by decide +kernel), by show 6 < 1000; decide, ?_⟩
  have o24 : Off x H2 H4 := Off.trans a3.rest (Off.of_same s4)
  have s04 := Same.trans s03 s4
  refine k _ (Off.trans (Off.of_same s12) (Off.trans o24 Off.upd)) ?_
  have node := mkNode (f := Fm.inv g) (ls := ls) s04 hx0 hx4 rfl rfl (s04 _ _ oo.r) (s04 _ _ oo.c) (Off.tup hx2 o24 hpt2) (s04 _ _ oo.s) hcore trivial hal ⟨hlo.nd, hlo.st, hlo.mem⟩ rfl
  exact ⟨_, node, hg.imm (Same.imm (same_of_off s04 hx0 Off.upd))⟩
theorem sc_rMul : FnScope ["self", "other", "factor"] ["self", "other"] (defScope (inCls 33 7)) := ⟨rfl, rfl, rfl, by decide +kernel, rfl, by decide +kernel, by decide +kernel⟩
theorem opm_rMul (T : Txt K mg) : Opm Pg w K mg base 1 (cR K) "__mul__" (fun _ _ _ _ => False) := by
  exact (met_of T.rMul sc_rMul (fun _ _ _ _ _ _ us hl => match us, hl with | [_, _], _ => rfl) (fun vs H Q E h => h.elim) (fun f cdv A outer s H vs Q E hr h => h.elim)).2
theorem rd_mr {H : Hp} {v1 v2 : V} {M : List (List Rat)} {r : Rat} {nm : String} {sp : Sp} {Q : VK} (h1 : IsM K H v1 M) (h2 : IsR K H v2 r) (q : sp [v1, v2] H Q E0) : rOwn K nm (isMat K) (isRat K) sp v1 v2 H Q := by
  obtain ⟨a, dx, cv, wv, rfl, ha, _⟩ := h1
  obtain ⟨b, dy, rfl, hb⟩ := h2
  exact ⟨a, b, _, _, dx, dy, _, _, rfl, rfl, ha, hb, rfl, rfl, q⟩
abbrev nScaled : List Str := ["self", "number", "formula", "__class__"]
theorem sc_Scaled : NdefX.NScope nScaled ["self", "number", "formula"] ["__class__"] (defScope (inCls 76 1)) := ⟨rfl, rfl, rfl, by decide +kernel, rfl, by decide +kernel, by decide +kernel, by decide +kernel, by decide +kernel⟩
theorem mak_Scaled (T : Txt K mg) : Mak Pg w K mg base 12 "Scaled" (He.ga K "Scaled") (spCtor K (ASca K)) [] := by
  have F := T.fc (Fm.sca 0 default).kd (Fm.kd_mem _)
  obtain ⟨fa, fd, mk, FS⟩ := F.make
  obtain ⟨ga, gd, SI, FP⟩ := F.sup
  have np := fnk_part (P := Pg) (w := w) (base := base) T FP
  refine ⟨fa, mk, F.glob, fd, ["self", "number", "formula"], [], fn_super FS sc_Scaled ⟨rfl, rfl⟩ (nofree T (by decide +kernel)) F.cls T.noTop rfl (fun vs H Q E h => ?_) (fun nf A outer s H vs Q E hq hs hb S hr h => ?_), FS.kp, FS.bindsN (fun _ _ _ _ _ _ _ us hl => match us, hl with | [_, _, _], _ => rfl), .nil⟩
  · obtain ⟨x, dx, H0, us, f, rfl, _, _, _, ⟨n, p, r, g, S, rfl, _⟩, _⟩ := h; rfl
  obtain ⟨nm, qn, pn, bn, sn, cn, c'⟩ := nf
  subst hq hs hb
  refine ⟨_, pas_cons (ps_if (pt_not (pt_val (pe_c (cal_is_number T) hr (pa_cons (pv 1) pa_nil)))) (pss_one ps_never) pss_nil) (pas_cons (ps_expr (pe_c (cal_check_formula T) hr (pa_cons (pv 2) pa_nil)))
    (pas_cons (ps_fld (pv 0) (pe_c (cal_as_ratio T) hr (pa_cons (pv 1) pa_nil)) rfl)
    (pas_sup (ps_super (jc := 3) S (ok := fun C => C = He.ga K "Scaled") (fun C hC => ⟨ga, hC ▸ SI, np.1⟩) hr (pa_cons (pe_prp (prp_rows T) hr (pv 2)) (pa_cons (pe_prp (prp_columns T) hr (pv 2)) (pa_cons (pe_tup (pa_cons (pv 2) pa_nil)) (pa_cons (pe_prp (prp_letters T) hr (pv 2)) pa_nil)))) rfl rfl)
    (pas_of (pss_one (ps_fld (pv 0) (pe_op (op_own (ok := isMat K) (ok2 := isRat K) (fun C hC => hC ▸ met_mMul T) (fun C hC => hC ▸ opm_rMul T) (fun C D hC hD => by subst hC; subst hD; exact T.mBin.2.2.2) hr) (pe_prp (prp_middle T) hr (pv 2)) (pe_fld (pv 0) rfl)) rfl)))))), ?_⟩
  obtain ⟨x, dx, H0, us, f, rfl, s0, hx0, hx, ⟨n, p, r, g, Sy, rfl, rfl, hn, hg, hok⟩, k⟩ := h
  obtain ⟨pg, ng, kg⟩ := hg.node
  obtain ⟨og, oq, L⟩ := hok
  have ng' := ng
  obtain ⟨ag, lv, ls, rfl, ⟨dxg, fsg, rv, cv, ptg, st, cog, oo⟩, hal, hlo⟩ := ng'
  refine ⟨_, rfl, .inl ⟨n, r, rfl, hn.imm (Same.imm s0), _, rfl, iteF ?_⟩⟩
  refine ⟨_, rfl, _, g, pg, rfl, ng.imm (Same.imm s0), ?_⟩
  refine ⟨_, rfl, n, r, rfl, hn.imm (Same.imm s0), fun nv H1 s1 hnv => ?_⟩
  have hx1 := s1 _ _ hx
  refine ⟨_, rfl, x, _, dx, [], rfl, hx1, F.num.ni.own.cl, F.na _ (by decide +kernel), by decide, ?_⟩
  have o1b : Off x H1 (upd H1 x (.ins (cF K (Fm.sca r g)) dx (putF "factor" nv []))) := Off.upd
  have hxb : (upd H1 x (.ins (cF K (Fm.sca r g)) dx (putF "factor" nv []))) x = some (.ins (cF K (Fm.sca r g)) dx (putF "factor" nv [])) := upd_same
  have hnb := hnv.off hx1 rfl o1b
  have s0b := same_of_off (Same.trans s0 s1) hx0 o1b
  show (tSeq _ _) _ _ (upd H1 x (.ins (cF K (Fm.sca r g)) dx (putF "factor" nv [])))
  generalize upd H1 x (.ins (cF K (Fm.sca r g)) dx (putF "factor" nv [])) = Hb at *
  refine ⟨x, _, dx, _, rfl, rfl, hxb, rfl, _, rfl, rd_get (s0b _ _ oo.at_) (fc_of K g) oo.fld.r ⟨_, rfl, rd_get (s0b _ _ oo.at_) (fc_of K g) oo.fld.c ⟨_, rfl, Nat.le_trans (show 1 ≤ 1000 by decide) thousand_line, fun pt hpt => ?_⟩⟩⟩
  have s12 : Same Hb (upd Hb pt (.tup [.ref ag])) := Same.upd hpt
  have hpt2 : (upd Hb pt (.tup [.ref ag])) pt = some (.tup [.ref ag]) := upd_same
  generalize upd Hb pt (.tup [.ref ag]) = H2 at *
  have s02 := Same.trans s0b s12
  have hx2 := s12 _ _ hxb
  refine ⟨_, rfl, rd_get (s02 _ _ oo.at_) (fc_of K g) oo.fld.s ?_⟩
  refine ⟨x, _, dx, _, rv, cv, pt, .ref st, [.ref ag], g.rows, g.cols, 1, (Fm.sca r g).wt, (Fm.sca r g).lv, [(g.wt, g.lv)], rfl, fc_of K (Fm.sca r g), hx2, by show 1 ≤ 900; decide, s02 _ _ oo.r, s02 _ _ oo.c, hpt2, og.lim.r, og.lim.c, (by show 1 ≤ 1000; decide), .cons (ng.part s02 hx0) .nil, by decide, fun pp hp => by rw [List.mem_singleton.mp hp]; exact og.lim.w, sum1 _, max1 _, L.w, L.l, fun H3 a3 => ?_⟩
  have s03 := same_of_off s02 hx0 a3.rest
  have hx3 := a3.at_
  have glk : (putF "factor" nv []).lookup ("factor" : Str) = some nv := by rw [lookup_putF, if_pos rfl]
  have hf3 := hnb.imm (Same.imm s12)
  have hf3 : IsR K H3 nv r := hf3.off hx2 (by rw [lookup_putF, if_neg (by decide +kernel)]; rfl) a3.rest
  have hb : g.rows.length * g.cols.length * (8 + g.bits) ≤ 4000 := L.b
  refine ⟨_, rfl, rd_middle (ng.imm (Same.imm s03)) fun m1 hm1 => ⟨_, rfl, x, _, dx, _, nv, rfl, hx3, F.num.ni.own.cl, F.na _ (by decide +kernel), (by rw [pFs_get _ _ _ _ _ _ _ _ (by decide +kernel)]; exact glk), rd_mr hm1 hf3 (.inl ⟨m1, nv, g.mid, r, _, _, _, _, rfl, hm1, hf3, og.mat, oq, by omega, by decide, fun core H4 s4 hcore => ?_⟩)⟩⟩
  have hx4 := s4 _ _ hx3
  refine ⟨_, rfl, x, _, dx, _, rfl, hx4, F.num.ni.own.cl, F.na _ (by decide +kernel), by show 7 < 1000; decide, ?_⟩
  have o24 : Off x H2 H4 := Off.trans a3.rest (Off.of_same s4)
  have s04 := Same.trans s03 s4
  refine k _ (Off.trans (Off.of_same s1) (Off.trans o1b (Off.trans (Off.of_same s12) (Off.trans o24 Off.upd)))) ?_
  have node := mkNode (f := Fm.sca r g) (ls := ls) s04 hx0 hx4 (by rw [lookup_putF, if_neg (by decide +kernel)]; rfl) (by rw [lookup_putF, if_neg (by decide +kernel)]; rfl) (s04 _ _ oo.r) (s04 _ _ oo.c) (Off.tup hx2 o24 hpt2) (s04 _ _ oo.s) hcore ⟨nv, glk, hf3.imm (Same.imm s4)⟩ hal ⟨hlo.nd, hlo.st, hlo.mem⟩ rfl
  exact ⟨_, node, hg.imm (Same.imm (same_of_off s04 hx0 Off.upd))⟩
end
end K9

/-! ## F26 -/
namespace K9
open PySem PySem.Spec PyProof.Rows L2
/-! Making formulas: powers, corners, identities, zeros. -/
theorem putF_putF (y : Str) (u v : V) (fs : List (Str × V)) : putF y v (putF y u fs) = putF y v fs := by
  induction fs with
  | nil => simp [putF]
  | cons p l ih =>
    obtain ⟨z, t⟩ := p
    by_cases h : z = y
    · simp [putF, h]
    · simp [putF, h, ih]
theorem Off.refl {x : Addr} {H : Hp} : Off x H H := fun _ _ _ h => h
theorem mkObj2 {K : PySem.W.Frag} {H' : Hp} {x dx : Addr} {f : Fm} {core : V} {fs0 : List (Str × V)} {rv cv pt st : Addr} {ps lv : List V}
    (hx : H' x = some (.ins (cF K f) dx (putF "core" core (pFs fs0 (.ref rv) (.ref cv) (.ref pt) (.ref st) f.wt f.lv)))) (h1 : fs0.lookup ("numerator_here" : Str) = none)
    (hr : H' rv = some (.tup (f.rows.map V.str))) (hc : H' cv = some (.tup (f.cols.map V.str))) (hp : H' pt = some (.tup ps)) (hs : H' st = some (.tup lv)) (hm : IsM K H' core f.mid) (hex : Extr K H' fs0 f ps) (hno : noMeth fs0 := by first | exact ⟨rfl, rfl, rfl⟩ | (refine ⟨?_, ?_, ?_⟩ <;> (rw [lookup_putF, if_neg (by decide +kernel)]; rfl))) : ObjF K H' x f ps lv := by
  have hn : (pFs fs0 (.ref rv) (.ref cv) (.ref pt) (.ref st) f.wt f.lv).lookup ("numerator_here" : Str) = none := by rw [pFs_get _ _ _ _ _ _ _ _ (by decide +kernel)]; exact h1
  have P := pFs_ok fs0 (.ref rv) (.ref cv) (.ref pt) (.ref st) f.wt f.lv
  have g : ∀ y : Str, ("core" : Str) ≠ y → (putF "core" core (pFs fs0 (.ref rv) (.ref cv) (.ref pt) (.ref st) f.wt f.lv)).lookup y = (pFs fs0 (.ref rv) (.ref cv) (.ref pt) (.ref st) f.wt f.lv).lookup y := fun y hy => by rw [lookup_putF, if_neg (fun e => hy e.symm)]
  refine ⟨dx, _, rv, cv, pt, st, core, hx, ⟨?_, ?_, ?_, ?_, ?_, ?_⟩, by rw [lookup_putF, if_pos rfl], hr, hc, hp, hs, hm, ?_, ⟨by rw [lookup_putF, if_neg (by decide +kernel), pFs_get _ _ _ _ _ _ _ _ (by decide +kernel)]; exact hno.1, by rw [lookup_putF, if_neg (by decide +kernel), pFs_get _ _ _ _ _ _ _ _ (by decide +kernel)]; exact hno.2.1, by rw [lookup_putF, if_neg (by decide +kernel), pFs_get _ _ _ _ _ _ _ _ (by decide +kernel)]; exact hno.2.2⟩⟩
  · rw [g _ (by decide +kernel)]; exact P.r
  · rw [g _ (by decide +kernel)]; exact P.c
  · rw [g _ (by decide +kernel)]; exact P.p
  · rw [g _ (by decide +kernel)]; exact P.s
  · rw [g _ (by decide +kernel)]; exact P.w
  · rw [g _ (by decide +kernel)]; exact P.l
  · refine hex.off hx (by rw [g _ (by decide +kernel)]; exact hn) Off.refl fun y hy => ?_
    have hm := List.contains_iff_mem.mp hy
    rw [g y (by intro q; subst q; revert hm; decide +kernel), pFs_get _ _ _ _ _ _ _ _ ?_]
    simp only [List.mem_cons, List.not_mem_nil, or_false] at hm
    rcases hm with rfl | rfl | rfl | rfl | rfl | rfl | rfl <;> decide +kernel
theorem mkNode2 {K : PySem.W.Frag} {H0 H' : Hp} {x dx : Addr} {f : Fm} {core : V} {fs0 : List (Str × V)} {rv cv pt st : Addr} {ps lv : List V} {ls : List Ltr} (s0 : Same H0 H')
    (hx : H' x = some (.ins (cF K f) dx (putF "core" core (pFs fs0 (.ref rv) (.ref cv) (.ref pt) (.ref st) f.wt f.lv)))) (h1 : fs0.lookup ("numerator_here" : Str) = none)
    (hr : H' rv = some (.tup (f.rows.map V.str))) (hc : H' cv = some (.tup (f.cols.map V.str))) (hp : H' pt = some (.tup ps)) (hs : H' st = some (.tup lv)) (hm : IsM K H' core f.mid) (hex : Extr K H' fs0 f ps) (hl : Al (IsL K H0) lv ls) (hlo : LetsOk f ls) (hno : noMeth fs0 := by first | exact ⟨rfl, rfl, rfl⟩ | (refine ⟨?_, ?_, ?_⟩ <;> (rw [lookup_putF, if_neg (by decide +kernel)]; rfl))) : Node K H' (.ref x) f ps :=
  ⟨x, lv, ls, rfl, mkObj2 hx h1 hr hc hp hs hm hex hno, hl.imp fun _ _ h => h.imm (Same.imm s0), hlo⟩
def APow (K : PySem.W.Frag) (H0 : Hp) (us : List V) (f : Fm) : Prop := ∃ p e g S, us = [p, .int (e : Nat)] ∧ f = .pow g e ∧ IsF K H0 g p ∧ (Fm.pow g e).Ok S
def ACor (K : PySem.W.Frag) (H0 : Hp) (us : List V) (f : Fm) : Prop := ∃ p i j g S, us = [p, .int (i : Nat), .int (j : Nat)] ∧ f = .cor g i j ∧ IsF K H0 g p ∧ (Fm.cor g i j).Ok S
/-- a side as it may be given -/
def SdV (H0 : Hp) (v : V) (s : List Str) : Prop := (∃ z, v = .str z ∧ s = [z] ∧ SizeN z) ∨ (IsS H0 v s ∧ SideN s)
def AEye (K : PySem.W.Frag) (H0 : Hp) (us : List V) (f : Fm) : Prop := ∃ v s S, us = [v] ∧ f = .eye s ∧ SdV H0 v s ∧ (Fm.eye s).Ok S
def AZero (K : PySem.W.Frag) (H0 : Hp) (us : List V) (f : Fm) : Prop := ∃ v u r c S, us = [v, u] ∧ f = .zero r c ∧ SdV H0 v r ∧ SdV H0 u c ∧ (Fm.zero r c).Ok S
theorem SdV.sp {H0 H : Hp} {v : V} {s : List Str} {Q : VK} (h : SdV H0 v s) (s0 : Same H0 H) (k : Pure (fun v' H' => IsS H' v' s) H Q) : spAsSide [v] H Q E0 := by
  rcases h with ⟨z, rfl, rfl, hz⟩ | ⟨h1, h2⟩
  · exact .inl ⟨z, rfl, hz, k⟩
  · exact .inr ⟨v, s, rfl, h1.imm (Same.imm s0), h2, k⟩
theorem made_mat {K : PySem.W.Frag} {H1 H' : Hp} {x dx : Addr} {M : List (List Rat)} {cv wv : V} (hx : H1 x = none) (hd : H1 dx = none) (a : At1 (upd (upd H1 dx (.own x)) x (.ins (cM K) dx [])) H' x (.ins (cM K) dx (mFs cv wv (denM M)))) (h1 : TabOf (IsR K H') H' cv M) (h2 : TabOf isI H' wv (whM M)) : Same H1 H' ∧ IsM K H' (.ref x) M :=
  ⟨At1.same hx hd a, x, dx, cv, wv, rfl, a.at_, h1, h2⟩
theorem new_same {K : PySem.W.Frag} {H1 : Hp} {x dx C : Addr} (hx : H1 x = none) (hd : H1 dx = none) : Same H1 (upd (upd H1 dx (.own x)) x (.ins C dx [])) := fun b u e => by
  rw [upd_ne (ne_of_none e hx), upd_ne (ne_of_none e hd)]; exact e
theorem lets_nil {f : Fm} (h : f.occ = []) : LetsOk f [] := ⟨by simp, rfl, fun l => by rw [h]⟩
section
variable {w : World} {K : PySem.W.Frag} {mg : Str → Option Value} {base : Heap}
abbrev ncPower : List Str := ["self", "formula", "exponent", "__class__", "turn"]
theorem sc_Power : NdefX.NScope ncPower ["self", "formula", "exponent"] ["__class__"] (defScope (inCls 80 1)) := ⟨rfl, rfl, rfl, by decide +kernel, rfl, by decide +kernel, by decide +kernel, by decide +kernel, by decide +kernel⟩
theorem mak_Power (T : Txt K mg) : Mak Pg w K mg base 12 "Power" (He.ga K "Power") (spCtor K (APow K)) [] := by
  have F := T.fc (Fm.pow default 0).kd (Fm.kd_mem _)
  obtain ⟨fa, fd, mk, FS⟩ := F.make
  obtain ⟨ga, gd, SI, FP⟩ := F.sup
  have np := fnk_part (P := Pg) (w := w) (base := base) T FP
  refine ⟨fa, mk, F.glob, fd, ["self", "formula", "exponent"], [], fn_super FS sc_Power ⟨rfl, rfl⟩ (nofree T (by decide +kernel)) F.cls T.noTop rfl (fun vs H Q E h => ?_) (fun nf A outer s H vs Q E hq hs hb S hr h => ?_), FS.kp, FS.bindsN (fun _ _ _ _ _ _ _ us hl => match us, hl with | [_, _, _], _ => rfl), .nil⟩
  · obtain ⟨x, dx, H0, us, f, rfl, _, _, _, ⟨p, e, g, S, rfl, _⟩, _⟩ := h; rfl
  obtain ⟨nm, qn, pn, bn, sn, cn, c'⟩ := nf
  subst hq hs hb
  have mr := nofree T (x := "range") (by decide +kernel)
  obtain ⟨tP, gP⟩ := T.kPOWER
  refine ⟨_, pas_cons (ps_expr (pe_c (cal_check_formula T) hr (pa_cons (pv 1) pa_nil)))
    (pas_cons (ps_if (PW.pt (pw_or (pt_not (pt_val (pe_c (cal_is_integer T) hr (pa_cons (pv 2) pa_nil)))) (pw_or1 (pt_not (pt_chain op_lt op_le pe_int (pv 2) (pe_glob (v := .int 9) (by rfl) gP ⟨_, rfl⟩)))))) (pss_one ps_never) pss_nil)
    (pas_cons (ps_expr (pe_c (cal_check_square T) hr (pa_cons (pv 1) pa_nil)))
    (pas_cons (ps_fld (pv 0) (pv 2) rfl)
    (pas_sup (ps_super (jc := 3) S (ok := fun C => C = He.ga K "Power") (fun C hC => ⟨ga, hC ▸ SI, np.2⟩) hr (pa_cons (pe_prp (prp_rows T) hr (pv 1)) (pa_cons (pe_prp (prp_columns T) hr (pv 1)) (pa_cons (pe_tup (pa_cons (pv 1) pa_nil)) (pa_cons (pe_prp (prp_letters T) hr (pv 1)) (pa_cons (pv 2) pa_nil))))) rfl rfl)
    (pas_of (pss_cons (ps_fld (pv 0) (pe_prp (prp_middle T) hr (pv 1)) rfl)
      (pss_one (ps_for PassesOwn.never rfl (pi_range1 (by rfl) mr (pa_cons (pe_op op_sub (pv 2) pe_int) pa_nil)) (pg_name (i := 4) sc_Power.nd rfl (Or.inl rfl))
        (pss_one (ps_fld (pv 0) (pe_op (op_own (ok := isMat K) (ok2 := isMat K) (fun C hC => hC ▸ met_mMul T) (fun C hC => hC ▸ met_mMul T) (fun C D hC hD => by subst hC; subst hD; exact T.mBin.2.2.1) hr) (pe_fld (pv 0) rfl) (pe_prp (prp_middle T) hr (pv 1))) rfl)))))))))), ?_⟩
  obtain ⟨x, dx, H0, us, f, rfl, s0, hx0, hx, ⟨p, e, g, Sy, rfl, rfl, hg, hok⟩, k⟩ := h
  obtain ⟨pg, ng, kg⟩ := hg.node
  obtain ⟨og, esq, e0, e9, lims, L⟩ := hok
  have ng' := ng
  obtain ⟨ag, lv, ls, rfl, ⟨dxg, fsg, rv, cv, ptg, st, cog, oo⟩, hal, hlo⟩ := ng'
  refine ⟨_, rfl, _, g, pg, rfl, ng.imm (Same.imm s0), ?_⟩
  refine ⟨_, rfl, .inl ⟨_, rfl, _, rfl, iteF ?_⟩⟩
  refine ⟨_, rfl, _, _, rfl, rfl, _, rfl, ?_⟩
  rw [show decide ((0 : Int) < (e : Int)) = true from decide_eq_true (by omega)]
  refine iteT ⟨_, _, rfl, rfl, _, rfl, ?_⟩
  rw [show decide ((e : Int) ≤ 9) = true from decide_eq_true (by omega)]
  refine iteF ?_
  refine ⟨_, rfl, _, g, pg, rfl, ng.imm (Same.imm s0), esq, og.nr, ?_⟩
  refine ⟨_, rfl, _, rfl, x, _, dx, [], rfl, hx, F.num.ni.own.cl, F.na _ (by decide +kernel), by decide, ?_⟩
  have o1b : Off x H (upd H x (.ins (cF K (Fm.pow g e)) dx (putF "order" (.int e) []))) := Off.upd
  have hxb : (upd H x (.ins (cF K (Fm.pow g e)) dx (putF "order" (.int e) []))) x = some (.ins (cF K (Fm.pow g e)) dx (putF "order" (.int e) [])) := upd_same
  have s0b := same_of_off s0 hx0 o1b
  show (tSeq _ _) _ _ (upd H x (.ins (cF K (Fm.pow g e)) dx (putF "order" (.int e) [])))
  generalize upd H x (.ins (cF K (Fm.pow g e)) dx (putF "order" (.int e) [])) = Hb at *
  refine ⟨x, _, dx, _, rfl, rfl, hxb, rfl, _, rfl, rd_get (s0b _ _ oo.at_) (fc_of K g) oo.fld.r ⟨_, rfl, rd_get (s0b _ _ oo.at_) (fc_of K g) oo.fld.c ⟨_, rfl, Nat.le_trans (show 1 ≤ 1000 by decide) thousand_line, fun pt hpt => ?_⟩⟩⟩
  have s12 : Same Hb (upd Hb pt (.tup [.ref ag])) := Same.upd hpt
  have hpt2 : (upd Hb pt (.tup [.ref ag])) pt = some (.tup [.ref ag]) := upd_same
  generalize upd Hb pt (.tup [.ref ag]) = H2 at *
  have s02 := Same.trans s0b s12
  have hx2 := s12 _ _ hxb
  refine ⟨_, rfl, rd_get (s02 _ _ oo.at_) (fc_of K g) oo.fld.s ⟨_, rfl, ?_⟩⟩
  refine ⟨x, _, dx, _, rv, cv, pt, .ref st, [.ref ag], g.rows, g.cols, e, (Fm.pow g e).wt, (Fm.pow g e).lv, [(g.wt, g.lv)], rfl, fc_of K (Fm.pow g e), hx2, by show 1 ≤ 900; decide, s02 _ _ oo.r, s02 _ _ oo.c, hpt2, og.lim.r, og.lim.c, (by show 1 ≤ 1000; decide), .cons (ng.part s02 hx0) .nil, e9, fun pp hp => by rw [List.mem_singleton.mp hp]; exact og.lim.w, ?_, max1 _, L.w, L.l, fun H3 a3 => ?_⟩
  · show (e : Int) * ([(g.wt : Int)]).sum = ((e * g.wt : Nat) : Int)
    simp
  have s03 := same_of_off s02 hx0 a3.rest
  have hx3 := a3.at_
  have hm := og.mat
  rw [esq] at hm lims
  refine ⟨_, rfl, rd_middle (ng.imm (Same.imm s03)) fun m1 hm1 => ⟨_, rfl, x, _, dx, _, rfl, hx3, F.num.ni.own.cl, F.na _ (by decide +kernel), by show 7 < 1000; decide, ?_⟩⟩
  have hn3 : (pFs (putF "order" (.int e) []) (.ref rv) (.ref cv) (.ref pt) (.ref st) (Fm.pow g e).wt (Fm.pow g e).lv).lookup ("numerator_here" : Str) = none := by rw [pFs_get _ _ _ _ _ _ _ _ (by decide +kernel), lookup_putF, if_neg (by decide +kernel)]; rfl
  have hc3 : (pFs (putF "order" (.int e) []) (.ref rv) (.ref cv) (.ref pt) (.ref st) (Fm.pow g e).wt (Fm.pow g e).lv).lookup ("cells" : Str) = none := by rw [pFs_get _ _ _ _ _ _ _ _ (by decide +kernel), lookup_putF, if_neg (by decide +kernel)]; rfl
  have glk : (putF "order" (V.int e) []).lookup ("order" : Str) = some (.int e) := by rw [lookup_putF, if_pos rfl]
  have key : ∀ c, (putF "core" c (pFs (putF "order" (.int e) []) (.ref rv) (.ref cv) (.ref pt) (.ref st) (Fm.pow g e).wt (Fm.pow g e).lv)).lookup ("core" : Str) = some c := fun c => by rw [lookup_putF, if_pos rfl]
  have hnc : ∀ c, (putF "core" c (pFs (putF "order" (.int e) []) (.ref rv) (.ref cv) (.ref pt) (.ref st) (Fm.pow g e).wt (Fm.pow g e).lv)).lookup ("numerator_here" : Str) = none := fun c => by rw [lookup_putF, if_neg (by decide +kernel)]; exact hn3
  have hcc : ∀ c, (putF "core" c (pFs (putF "order" (.int e) []) (.ref rv) (.ref cv) (.ref pt) (.ref st) (Fm.pow g e).wt (Fm.pow g e).lv)).lookup ("cells" : Str) = none := fun c => by rw [lookup_putF, if_neg (by decide +kernel)]; exact hc3
  have o23 := a3.rest
  have o34 : Off x H3 (upd H3 x (.ins (cF K (Fm.pow g e)) dx (putF "core" m1 (pFs (putF "order" (.int e) []) (.ref rv) (.ref cv) (.ref pt) (.ref st) (Fm.pow g e).wt (Fm.pow g e).lv)))) := Off.upd
  have hx4 : (upd H3 x (.ins (cF K (Fm.pow g e)) dx (putF "core" m1 (pFs (putF "order" (.int e) []) (.ref rv) (.ref cv) (.ref pt) (.ref st) (Fm.pow g e).wt (Fm.pow g e).lv)))) x = some (.ins (cF K (Fm.pow g e)) dx (putF "core" m1 (pFs (putF "order" (.int e) []) (.ref rv) (.ref cv) (.ref pt) (.ref st) (Fm.pow g e).wt (Fm.pow g e).lv))) := upd_same
  have hm4 := hm1.off hx3 hn3 hc3 o34
  generalize upd H3 x (.ins (cF K (Fm.pow g e)) dx (putF "core" m1 (pFs (putF "order" (.int e) []) (.ref rv) (.ref cv) (.ref pt) (.ref st) (Fm.pow g e).wt (Fm.pow g e).lv))) = H4 at *
  have o24 := Off.trans o23 o34
  have ee : ((e : Int) - 1).toNat = e - 1 := by omega
  have b62 := thousand_62 (show e ≤ 1000 by omega)
  refine ⟨_, rfl, _, _, rfl, rfl, _, rfl, by omega, by omega, ?_⟩
  rw [ee]
  refine for_range (lo := 0) (n := e - 1) (fun i σ H' => ∃ o4 ci, σ = [some (.ref x), some (.ref ag), some (.int e), some (.ref (He.ga K "Power")), o4] ∧ Off x H2 H' ∧ H' x = some (.ins (cF K (Fm.pow g e)) dx (putF "core" ci (pFs (putF "order" (.int e) []) (.ref rv) (.ref cv) (.ref pt) (.ref st) (Fm.pow g e).wt (Fm.pow g e).lv))) ∧ IsM K H' ci (powM g.cols.length g.mid i))
    ⟨none, m1, rfl, o24, hx4, hm4⟩ ?_ ?_
  · rintro i σ H5 hi ⟨o4, ci, rfl, o25, hx5, hci⟩
    have s05 := same_of_off s02 hx0 o25
    have l1 := lims (i + 1) (by omega)
    have l0 := lims i (by omega)
    have lb := og.lim.b
    rw [esq] at lb
    refine ⟨_, rfl, x, _, dx, _, _, rfl, hx5, F.num.ni.own.cl, F.na _ (by decide +kernel), key ci, _, rfl, rd_middle (ng.imm (Same.imm s05)) fun m2 hm2 => rd_mm hci hm2 (.inr ⟨ci, m2, _, g.mid, _, _, _, _, _, rfl, hci, hm2, hm.pow i, hm, ?_, by omega, fun core H6 s6 hcore => ?_⟩)⟩
    · have : Fm.powB g.cols.length g.bits (i + 1) = g.cols.length * (Fm.powB g.cols.length g.bits i + g.bits + 1) + 1 := rfl
      rw [this] at l1
      omega
    have hx6 := s6 _ _ hx5
    refine ⟨_, rfl, x, _, dx, _, rfl, hx6, F.num.ni.own.cl, F.na _ (by decide +kernel), ?_, ?_⟩
    · exact Nat.lt_of_le_of_lt (putF_len _ _ _) (show 7 + 1 < 1000 by decide)
    · rw [putF_putF]
      exact ⟨_, core, rfl, Off.trans o25 (Off.trans (Off.of_same s6) Off.upd), upd_same, hcore.off hx6 (hnc ci) (hcc ci) Off.upd⟩
  · rintro σ H5 ⟨o4, ci, rfl, o25, hx5, hci⟩
    have s05 := same_of_off s02 hx0 o25
    refine k _ (Off.trans o1b (Off.trans (Off.of_same s12) o25)) ?_
    have node := mkNode2 (f := Fm.pow g e) (ls := ls) s05 hx5 (by rw [lookup_putF, if_neg (by decide +kernel)]; rfl) (s05 _ _ oo.r) (s05 _ _ oo.c) (Off.tup hx2 o25 hpt2) (s05 _ _ oo.s) hci glk hal ⟨hlo.nd, hlo.st, hlo.mem⟩
    exact ⟨_, node, hg.imm (Same.imm s05)⟩
abbrev ncCorner : List Str := ["self", "formula", "row", "column", "__class__"]
theorem sc_Corner : NdefX.NScope ncCorner ["self", "formula", "row", "column"] ["__class__"] (defScope (inCls 82 1)) := ⟨rfl, rfl, rfl, by decide +kernel, rfl, by decide +kernel, by decide +kernel, by decide +kernel, by decide +kernel⟩
theorem mak_Corner (T : Txt K mg) : Mak Pg w K mg base 12 "Corner" (He.ga K "Corner") (spCtor K (ACor K)) [] := by
  have F := T.fc (Fm.cor default 0 0).kd (Fm.kd_mem _)
  obtain ⟨fa, fd, mk, FS⟩ := F.make
  obtain ⟨ga, gd, SI, FP⟩ := F.sup
  have np := fnk_part (P := Pg) (w := w) (base := base) T FP
  refine ⟨fa, mk, F.glob, fd, ["self", "formula", "row", "column"], [], fn_super FS sc_Corner ⟨rfl, rfl⟩ (nofree T (by decide +kernel)) F.cls T.noTop rfl (fun vs H Q E h => ?_) (fun nf A outer s H vs Q E hq hs hb S hr h => ?_), FS.kp, FS.bindsN (fun _ _ _ _ _ _ _ us hl => match us, hl with | [_, _, _, _], _ => rfl), .nil⟩
  · obtain ⟨x, dx, H0, us, f, rfl, _, _, _, ⟨p, i, j, g, S, rfl, _⟩, _⟩ := h; rfl
  obtain ⟨nm, qn, pn, bn, sn, cn, c'⟩ := nf
  subst hq hs hb
  have ml := nofree T (x := "len") (by decide +kernel)
  refine ⟨_, pas_cons (ps_expr (pe_c (cal_check_formula T) hr (pa_cons (pv 1) pa_nil)))
    (pas_cons (ps_if (pt_not (pt_val (pe_c (cal_is_index T) hr (pa_cons (pv 2) (pa_cons (pe_callB (len9 K) (by rfl) ml PySem.boot_len (pa_cons (pe_prp (prp_rows T) hr (pv 1)) pa_nil)) pa_nil))))) (pss_one ps_never) pss_nil)
    (pas_cons (ps_if (pt_not (pt_val (pe_c (cal_is_index T) hr (pa_cons (pv 3) (pa_cons (pe_callB (len9 K) (by rfl) ml PySem.boot_len (pa_cons (pe_prp (prp_columns T) hr (pv 1)) pa_nil)) pa_nil))))) (pss_one ps_never) pss_nil)
    (pas_cons (ps_fld (pv 0) (pe_tup (pa_cons (pv 2) (pa_cons (pv 3) pa_nil))) rfl)
    (pas_sup (ps_super (jc := 4) S (ok := fun C => C = He.ga K "Corner") (fun C hC => ⟨ga, hC ▸ SI, np.1⟩) hr (pa_cons (pe_tup (pa_cons (pe_ix (ixT9 K) (pe_prp (prp_rows T) hr (pv 1)) (pv 2) (fun _ _ => rfl)) pa_nil)) (pa_cons (pe_tup (pa_cons (pe_ix (ixT9 K) (pe_prp (prp_columns T) hr (pv 1)) (pv 3) (fun _ _ => rfl)) pa_nil)) (pa_cons (pe_tup (pa_cons (pv 1) pa_nil)) (pa_cons (pe_prp (prp_letters T) hr (pv 1)) pa_nil)))) rfl rfl)
    (pas_of (pss_one (ps_fld (pv 0) (pe_mk (mak_matrix T) hr (pa_cons (pe_tup (pa_cons (pe_tup (pa_cons (pe_item (ok := isMat K) (fun C hC => hC ▸ met_mItem T) hr (pe_prp (prp_middle T) hr (pv 1)) (pe_tup (pa_cons (pv 2) (pa_cons (pv 3) pa_nil)))) pa_nil)) pa_nil)) pa_nil)) rfl))))))), ?_⟩
  obtain ⟨x, dx, H0, us, f, rfl, s0, hx0, hx, ⟨p, i, j, g, Sy, rfl, rfl, hg, hok⟩, k⟩ := h
  obtain ⟨pg, ng, kg⟩ := hg.node
  obtain ⟨og, hi, hj, L⟩ := hok
  have ng' := ng
  obtain ⟨ag, lv, ls, rfl, ⟨dxg, fsg, rv, cv, ptg, st, cog, oo⟩, hal, hlo⟩ := ng'
  have one : 1 ≤ sizeLine := Nat.le_trans (show 1 ≤ 1000 by decide) thousand_line
  have two : 2 ≤ sizeLine := Nat.le_trans (show 2 ≤ 1000 by decide) thousand_line
  refine ⟨_, rfl, _, g, pg, rfl, ng.imm (Same.imm s0), ?_⟩
  refine ⟨_, rfl, _, rfl, rd_get (s0 _ _ oo.at_) (fc_of K g) oo.fld.r ⟨rv, _, rfl, .inr (SqT.of (s0 _ _ oo.r)), _, _, rfl, by omega, by rw [List.length_map]; omega, _, rfl, iteF ?_⟩⟩
  refine ⟨_, rfl, _, rfl, rd_get (s0 _ _ oo.at_) (fc_of K g) oo.fld.c ⟨cv, _, rfl, .inr (SqT.of (s0 _ _ oo.c)), _, _, rfl, by omega, by rw [List.length_map]; omega, _, rfl, iteF ?_⟩⟩
  refine ⟨_, rfl, _, rfl, two, fun sp hsp => ?_⟩
  have ssp : Same H (upd H sp (.tup [.int i, .int j])) := Same.upd hsp
  have hspx : (upd H sp (.tup [.int i, .int j])) sp = some (.tup [.int i, .int j]) := upd_same
  generalize upd H sp (.tup [.int i, .int j]) = Ha at *
  have hxa := ssp _ _ hx
  refine ⟨_, rfl, x, _, dx, [], rfl, hxa, F.num.ni.own.cl, F.na _ (by decide +kernel), by decide, ?_⟩
  have o1b : Off x Ha (upd Ha x (.ins (cF K (Fm.cor g i j)) dx (putF "spot" (.ref sp) []))) := Off.upd
  have hxb : (upd Ha x (.ins (cF K (Fm.cor g i j)) dx (putF "spot" (.ref sp) []))) x = some (.ins (cF K (Fm.cor g i j)) dx (putF "spot" (.ref sp) [])) := upd_same
  have s0b := same_of_off (Same.trans s0 ssp) hx0 o1b
  have hspb := Off.tup hxa o1b hspx
  show (tSeq _ _) _ _ (upd Ha x (.ins (cF K (Fm.cor g i j)) dx (putF "spot" (.ref sp) [])))
  generalize upd Ha x (.ins (cF K (Fm.cor g i j)) dx (putF "spot" (.ref sp) [])) = Hb at *
  have hri : (g.rows.map V.str)[i]? = some (.str (g.rows.getD i Str.empty)) := by rw [List.getElem?_map, List.getElem?_eq_getElem hi, List.getD_eq_getElem?_getD, List.getElem?_eq_getElem hi]; rfl
  have hcj : (g.cols.map V.str)[j]? = some (.str (g.cols.getD j Str.empty)) := by rw [List.getElem?_map, List.getElem?_eq_getElem hj, List.getD_eq_getElem?_getD, List.getElem?_eq_getElem hj]; rfl
  refine ⟨x, _, dx, _, rfl, rfl, hxb, rfl, _, rfl, rd_get (s0b _ _ oo.at_) (fc_of K g) oo.fld.r ⟨_, rfl, rv, _, i, _, rfl, rfl, SqT.of (s0b _ _ oo.r), atI_nat hri, one, fun r1 hr1 => ?_⟩⟩
  have sb1 : Same Hb (upd Hb r1 (.tup [.str (g.rows.getD i Str.empty)])) := Same.upd hr1
  have hr1x : (upd Hb r1 (.tup [.str (g.rows.getD i Str.empty)])) r1 = some (.tup [.str (g.rows.getD i Str.empty)]) := upd_same
  generalize upd Hb r1 (.tup [.str (g.rows.getD i Str.empty)]) = H1 at *
  have s01 := Same.trans s0b sb1
  refine ⟨_, rfl, rd_get (s01 _ _ oo.at_) (fc_of K g) oo.fld.c ⟨_, rfl, cv, _, j, _, rfl, rfl, SqT.of (s01 _ _ oo.c), atI_nat hcj, one, fun c1 hc1 => ?_⟩⟩
  have s1c : Same H1 (upd H1 c1 (.tup [.str (g.cols.getD j Str.empty)])) := Same.upd hc1
  have hc1x : (upd H1 c1 (.tup [.str (g.cols.getD j Str.empty)])) c1 = some (.tup [.str (g.cols.getD j Str.empty)]) := upd_same
  generalize upd H1 c1 (.tup [.str (g.cols.getD j Str.empty)]) = H1c at *
  refine ⟨_, rfl, one, fun pt hpt => ?_⟩
  have scp : Same H1c (upd H1c pt (.tup [.ref ag])) := Same.upd hpt
  have hpt2 : (upd H1c pt (.tup [.ref ag])) pt = some (.tup [.ref ag]) := upd_same
  generalize upd H1c pt (.tup [.ref ag]) = H2 at *
  have s12 : Same Hb H2 := Same.trans sb1 (Same.trans s1c scp)
  have s02 := Same.trans s0b s12
  have hx2 := s12 _ _ hxb
  have hr2 : H2 r1 = some (.tup [.str (g.rows.getD i Str.empty)]) := scp _ _ (s1c _ _ hr1x)
  have hc2 : H2 c1 = some (.tup [.str (g.cols.getD j Str.empty)]) := scp _ _ hc1x
  have hsp2 := s12 _ _ hspb
  refine ⟨_, rfl, rd_get (s02 _ _ oo.at_) (fc_of K g) oo.fld.s ?_⟩
  refine ⟨x, _, dx, _, r1, c1, pt, .ref st, [.ref ag], (Fm.cor g i j).rows, (Fm.cor g i j).cols, 1, (Fm.cor g i j).wt, (Fm.cor g i j).lv, [(g.wt, g.lv)], rfl, fc_of K (Fm.cor g i j), hx2, by show 1 ≤ 900; decide, hr2, hc2, hpt2, (by show 1 ≤ 16; decide), (by show 1 ≤ 16; decide), (by show 1 ≤ 1000; decide), .cons (ng.part s02 hx0) .nil, by decide, fun pp hp => by rw [List.mem_singleton.mp hp]; exact og.lim.w, sum1 _, max1 _, L.w, L.l, fun H3 a3 => ?_⟩
  have s03 := same_of_off s02 hx0 a3.rest
  have hx3 := a3.at_
  have hb : 1 * 1 * g.bits ≤ 4000 := L.b
  refine ⟨_, rfl, rd_middle (ng.imm (Same.imm s03)) fun m1 hm1 => ⟨_, rfl, _, rfl, two, fun tq htq => ?_⟩⟩
  have s3q : Same H3 (upd H3 tq (.tup [.int i, .int j])) := Same.upd htq
  have htqx : (upd H3 tq (.tup [.int i, .int j])) tq = some (.tup [.int i, .int j]) := upd_same
  generalize upd H3 tq (.tup [.int i, .int j]) = Hq at *
  have hm1q := hm1.imm (Same.imm s3q)
  have hm1q' := hm1q
  obtain ⟨ma, mdx, mcv, mwv, rfl, hma, _⟩ := hm1q'
  refine ⟨ma, _, mdx, _, rfl, hma, rfl, _, tq, g.mid, _, _, _, i, j, _, rfl, htqx, hm1q, og.mat, hi, hj, rfl, fun xv hxv => ⟨one, fun ta hta => ⟨one, fun tb htb => ?_⟩⟩⟩
  have sq2 : Same Hq (upd (upd Hq ta (.tup [xv])) tb (.tup [.ref ta])) := Same.trans (Same.upd hta) (Same.upd htb)
  have hta2 : (upd (upd Hq ta (.tup [xv])) tb (.tup [.ref ta])) ta = some (.tup [xv]) := Same.upd htb _ _ upd_same
  have htb2 : (upd (upd Hq ta (.tup [xv])) tb (.tup [.ref ta])) tb = some (.tup [.ref ta]) := upd_same
  generalize upd (upd Hq ta (.tup [xv])) tb (.tup [.ref ta]) = Hr at *
  have hxv2 := hxv.imm (Same.imm sq2)
  intro xm dm hxm hdm hnm
  have snm : Same Hr (upd (upd Hr dm (.own xm)) xm (.ins (cM K) dm [])) := new_same (K := K) hxm hdm
  refine ⟨xm, dm, .ref tb, (Fm.cor g i j).mid, 1, 1, g.bits, rfl, ⟨[[xv]], ⟨tb, _, rfl, snm _ _ htb2, .cons ⟨ta, rfl, snm _ _ hta2⟩ .nil⟩, .cons (.cons (.inr (hxv2.imm (Same.imm snm))) .nil) .nil⟩, MatB.one (og.mat.at_ hi hj), by omega, upd_same, fun H4 cvm wvm am t1 t2 => ⟨rfl, ?_⟩⟩
  obtain ⟨s4, hcore⟩ := made_mat hxm hdm am t1 t2
  have s34 := Same.trans s3q (Same.trans sq2 s4)
  have hx4 := s34 _ _ hx3
  refine ⟨_, rfl, x, _, dx, _, rfl, hx4, F.num.ni.own.cl, F.na _ (by decide +kernel), by show 7 < 1000; decide, ?_⟩
  have o24 : Off x H2 H4 := Off.trans a3.rest (Off.of_same s34)
  have s04 := Same.trans s03 s34
  refine k _ (Off.trans (Off.of_same ssp) (Off.trans o1b (Off.trans (Off.of_same s12) (Off.trans o24 Off.upd)))) ?_
  have node := mkNode (f := Fm.cor g i j) (ls := ls) s04 hx0 hx4 (by rw [lookup_putF, if_neg (by decide +kernel)]; rfl) (by rw [lookup_putF, if_neg (by decide +kernel)]; rfl) (Off.tup hx2 o24 hr2) (Off.tup hx2 o24 hc2) (Off.tup hx2 o24 hpt2) (s04 _ _ oo.s) hcore ⟨sp, by rw [lookup_putF, if_pos rfl], Off.tup hx2 o24 hsp2⟩ hal ⟨hlo.nd, hlo.st, hlo.mem⟩ rfl
  exact ⟨_, node, hg.imm (Same.imm (same_of_off s04 hx0 Off.upd))⟩
abbrev ncEye : List Str := ["self", "side", "__class__", "names"]
theorem sc_Eye : NdefX.NScope ncEye ["self", "side"] ["__class__"] (defScope (inCls 72 1)) := ⟨rfl, rfl, rfl, by decide +kernel, rfl, by decide +kernel, by decide +kernel, by decide +kernel, by decide +kernel⟩
theorem mak_Eye (T : Txt K mg) : Mak Pg w K mg base 12 "Eye" (He.ga K "Eye") (spCtor K (AEye K)) [] := by
  have F := T.fc (Fm.eye default).kd (Fm.kd_mem _)
  obtain ⟨fa, fd, mk, FS⟩ := F.make
  obtain ⟨ga, gd, SI, FP⟩ := F.sup
  have np := fnk_part (P := Pg) (w := w) (base := base) T FP
  refine ⟨fa, mk, F.glob, fd, ["self", "side"], [], fn_super FS sc_Eye ⟨rfl, rfl⟩ (nofree T (by decide +kernel)) F.cls T.noTop rfl (fun vs H Q E h => ?_) (fun nf A outer s H vs Q E hq hs hb S hr h => ?_), FS.kp, FS.bindsN (fun _ _ _ _ _ _ _ us hl => match us, hl with | [_, _], _ => rfl), .nil⟩
  · obtain ⟨x, dx, H0, us, f, rfl, _, _, _, ⟨v, z, S, rfl, _⟩, _⟩ := h; rfl
  obtain ⟨nm, qn, pn, bn, sn, cn, c'⟩ := nf
  subst hq hs hb
  have ml := nofree T (x := "len") (by decide +kernel)
  obtain ⟨mc, CR, ⟨pe, ge, fe, CM, FE⟩, _⟩ := T.mRead
  refine ⟨_, pas_cons (ps_set (i := 3) sc_Eye.nd rfl (Or.inl rfl) (pe_c (cal_checked_side T) hr (pa_cons (pv 1) pa_nil)))
    (pas_sup (ps_super (jc := 2) S (ok := fun C => C = He.ga K "Eye") (fun C hC => ⟨ga, hC ▸ SI, np.1⟩) hr (pa_cons (pv 3) (pa_cons (pv 3) (pa_cons (pe_tup pa_nil) (pa_cons (pe_tup pa_nil) pa_nil)))) rfl rfl)
    (pas_of (pss_one (ps_fld (pv 0) (ClX.pe_cmeth (pe_glob (v := .ref (cM K)) (by rfl) T.mGlob rfl) CR CM ((fnk_eye T FE).fnr) (hr.mono (by decide)) pass0 (pa_cons (pe_callB (len9 K) (by rfl) ml PySem.boot_len (pa_cons (pv 3) pa_nil)) pa_nil)) rfl)))), ?_⟩
  obtain ⟨x, dx, H0, us, f, rfl, s0, hx0, hx, ⟨v, z, Sy, rfl, rfl, hv, hok⟩, k⟩ := h
  obtain ⟨og, L⟩ := hok
  refine ⟨_, rfl, hv.sp s0 fun nv H1 s1 hnv => ?_⟩
  obtain ⟨rv, rfl, hrv⟩ := hnv
  have hx1 := s1 _ _ hx
  refine ⟨x, _, dx, [], rfl, rfl, hx1, rfl, _, rfl, _, rfl, Nat.zero_le _, fun pt hpt => ?_⟩
  have s12 : Same H1 (upd H1 pt (.tup [])) := Same.upd hpt
  have hpt2 : (upd H1 pt (.tup [])) pt = some (.tup []) := upd_same
  generalize upd H1 pt (.tup []) = H2 at *
  refine ⟨Nat.zero_le _, fun st hst => ?_⟩
  have s23 : Same H2 (upd H2 st (.tup [])) := Same.upd hst
  have hst2 : (upd H2 st (.tup [])) st = some (.tup []) := upd_same
  generalize upd H2 st (.tup []) = H3 at *
  have s13 := Same.trans s12 s23
  have s03 := Same.trans s0 (Same.trans s1 s13)
  have hx3 := s13 _ _ hx1
  refine ⟨x, _, dx, [], rv, rv, pt, .ref st, [], z, z, 1, 1, 1, [], rfl, fc_of K (Fm.eye z), hx3, by decide, s13 _ _ hrv, s13 _ _ hrv, s23 _ _ hpt2, og.le, og.le, by decide, .nil, by decide, (fun pp hp => by cases hp), rfl, rfl, by decide, by decide, fun H4 a4 => ?_⟩
  have s04 := same_of_off s03 hx0 a4.rest
  have hx4 := a4.at_
  have hrv4 := Off.tup hx3 a4.rest (s13 _ _ hrv)
  refine ⟨rfl, _, rfl, rv, _, rfl, .inr (SqT.of hrv4), _, z.length, by rw [List.length_map], og.pos, og.le, fun core H5 s5 hcore => ?_⟩
  have hx5 := s5 _ _ hx4
  refine ⟨_, rfl, x, _, dx, _, rfl, hx5, F.num.ni.own.cl, F.na _ (by decide +kernel), by show 6 < 1000; decide, ?_⟩
  have o35 : Off x H3 H5 := Off.trans a4.rest (Off.of_same s5)
  have s05 := Same.trans s04 s5
  refine k _ (Off.trans (Off.of_same s1) (Off.trans (Off.of_same s13) (Off.trans o35 Off.upd))) ?_
  exact mkNode (f := Fm.eye z) (ls := []) (ps := []) s05 hx0 hx5 rfl rfl (Off.tup hx3 o35 (s13 _ _ hrv)) (Off.tup hx3 o35 (s13 _ _ hrv)) (Off.tup hx3 o35 (s23 _ _ hpt2)) (Off.tup hx3 o35 hst2) hcore trivial .nil (lets_nil rfl) rfl
abbrev ncZero : List Str := ["self", "rows", "columns", "__class__", "row_names", "column_names"]
theorem sc_Zero : NdefX.NScope ncZero ["self", "rows", "columns"] ["__class__"] (defScope (inCls 73 1)) := ⟨rfl, rfl, rfl, by decide +kernel, rfl, by decide +kernel, by decide +kernel, by decide +kernel, by decide +kernel⟩
theorem mak_Zero (T : Txt K mg) : Mak Pg w K mg base 12 "Zero" (He.ga K "Zero") (spCtor K (AZero K)) [] := by
  have F := T.fc (Fm.zero default default).kd (Fm.kd_mem _)
  obtain ⟨fa, fd, mk, FS⟩ := F.make
  obtain ⟨ga, gd, SI, FP⟩ := F.sup
  have np := fnk_part (P := Pg) (w := w) (base := base) T FP
  refine ⟨fa, mk, F.glob, fd, ["self", "rows", "columns"], [], fn_super FS sc_Zero ⟨rfl, rfl⟩ (nofree T (by decide +kernel)) F.cls T.noTop rfl (fun vs H Q E h => ?_) (fun nf A outer s H vs Q E hq hs hb S hr h => ?_), FS.kp, FS.bindsN (fun _ _ _ _ _ _ _ us hl => match us, hl with | [_, _, _], _ => rfl), .nil⟩
  · obtain ⟨x, dx, H0, us, f, rfl, _, _, _, ⟨v, u, r, c, S, rfl, _⟩, _⟩ := h; rfl
  obtain ⟨nm, qn, pn, bn, sn, cn, c'⟩ := nf
  subst hq hs hb
  have ml := nofree T (x := "len") (by decide +kernel)
  obtain ⟨mc, CR, _, ⟨pe, ge, fe, CM, FE⟩⟩ := T.mRead
  refine ⟨_, pas_cons (ps_par (i := 4) (j := 5) (by rfl) sc_Zero.nd rfl rfl (by decide) rfl rfl (pa_cons (pe_c (cal_checked_side T) hr (pa_cons (pv 1) pa_nil)) (pa_cons (pe_c (cal_checked_side T) hr (pa_cons (pv 2) pa_nil)) pa_nil)) (by rfl))
    (pas_sup (ps_super (jc := 3) S (ok := fun C => C = He.ga K "Zero") (fun C hC => ⟨ga, hC ▸ SI, np.1⟩) hr (pa_cons (pv 4) (pa_cons (pv 5) (pa_cons (pe_tup pa_nil) (pa_cons (pe_tup pa_nil) pa_nil)))) rfl rfl)
    (pas_of (pss_one (ps_fld (pv 0) (ClX.pe_cmeth (pe_glob (v := .ref (cM K)) (by rfl) T.mGlob rfl) CR CM ((fnk_zero T FE).fnr) (hr.mono (by decide)) pass0 (pa_cons (pe_callB (len9 K) (by rfl) ml PySem.boot_len (pa_cons (pv 4) pa_nil)) (pa_cons (pe_callB (len9 K) (by rfl) ml PySem.boot_len (pa_cons (pv 5) pa_nil)) pa_nil))) rfl)))), ?_⟩
  obtain ⟨x, dx, H0, us, f, rfl, s0, hx0, hx, ⟨v, u, r, c, Sy, rfl, rfl, hv, hu, hok⟩, k⟩ := h
  obtain ⟨og, oc, L⟩ := hok
  refine ⟨_, rfl, hv.sp s0 fun nv H1 s1 hnv => ?_⟩
  obtain ⟨rv, rfl, hrv⟩ := hnv
  refine ⟨_, rfl, hu.sp (Same.trans s0 s1) fun nv H1b s1b hnv => ?_⟩
  obtain ⟨cv, rfl, hcv⟩ := hnv
  refine ⟨_, _, rfl, ?_⟩
  have hrv := s1b _ _ hrv
  have s1 := Same.trans s1 s1b
  have hx1 := s1 _ _ hx
  refine ⟨x, _, dx, [], rfl, rfl, hx1, rfl, _, rfl, _, rfl, Nat.zero_le _, fun pt hpt => ?_⟩
  have s12 : Same H1b (upd H1b pt (.tup [])) := Same.upd hpt
  have hpt2 : (upd H1b pt (.tup [])) pt = some (.tup []) := upd_same
  generalize upd H1b pt (.tup []) = H2 at *
  refine ⟨Nat.zero_le _, fun st hst => ?_⟩
  have s23 : Same H2 (upd H2 st (.tup [])) := Same.upd hst
  have hst2 : (upd H2 st (.tup [])) st = some (.tup []) := upd_same
  generalize upd H2 st (.tup []) = H3 at *
  have s13 := Same.trans s12 s23
  have s03 := Same.trans s0 (Same.trans s1 s13)
  have hx3 := s13 _ _ hx1
  refine ⟨x, _, dx, [], rv, cv, pt, .ref st, [], r, c, 1, 1, 1, [], rfl, fc_of K (Fm.zero r c), hx3, by decide, s13 _ _ hrv, s13 _ _ hcv, s23 _ _ hpt2, og.le, oc.le, by decide, .nil, by decide, (fun pp hp => by cases hp), rfl, rfl, by decide, by decide, fun H4 a4 => ?_⟩
  have s04 := same_of_off s03 hx0 a4.rest
  have hx4 := a4.at_
  have hrv4 := Off.tup hx3 a4.rest (s13 _ _ hrv)
  have hcv4 := Off.tup hx3 a4.rest (s13 _ _ hcv)
  refine ⟨rfl, _, rfl, rv, _, rfl, .inr (SqT.of hrv4), _, rfl, cv, _, rfl, .inr (SqT.of hcv4), _, r.length, c.length, by rw [List.length_map, List.length_map], og.pos, og.le, oc.pos, oc.le, fun core H5 s5 hcore => ?_⟩
  have hx5 := s5 _ _ hx4
  refine ⟨_, rfl, x, _, dx, _, rfl, hx5, F.num.ni.own.cl, F.na _ (by decide +kernel), by show 6 < 1000; decide, ?_⟩
  have o35 : Off x H3 H5 := Off.trans a4.rest (Off.of_same s5)
  have s05 := Same.trans s04 s5
  refine k _ (Off.trans (Off.of_same s1) (Off.trans (Off.of_same s13) (Off.trans o35 Off.upd))) ?_
  exact mkNode (f := Fm.zero r c) (ls := []) (ps := []) s05 hx0 hx5 rfl rfl (Off.tup hx3 o35 (s13 _ _ hrv)) (Off.tup hx3 o35 (s13 _ _ hcv)) (Off.tup hx3 o35 (s23 _ _ hpt2)) (Off.tup hx3 o35 hst2) hcore trivial .nil (lets_nil rfl) rfl
end
end K9

/-! ## F27 -/
namespace K9
open PySem PySem.Spec PyProof.Rows L2
/-! [e for x in xs for y in ys] as a list of lists, flat. -/
theorem Al.append {β α : Type} {R : β → α → Prop} {vs ws : List β} {xs ys : List α} (h : Al R vs xs) (g : Al R ws ys) : Al R (vs ++ ws) (xs ++ ys) := ⟨by simp [h.len, g.len], fun i v x a b => by
  by_cases hi : i < vs.length
  · rw [List.getElem?_append_left hi] at a
    rw [List.getElem?_append_left (by rw [← h.len]; exact hi)] at b
    exact h.at_ i v x a b
  · rw [List.getElem?_append_right (by omega)] at a
    rw [List.getElem?_append_right (by rw [← h.len]; omega), ← h.len] at b
    exact g.at_ _ v x a b⟩
section
variable {β : Type} {J : It} {n1 n2 : Nat} {vs : List Nat} {wi1 : TI} {te : TE} {σ : L2.St} {H1 : Hp} {D : Addr} {Qd : Hp → Prop} {L : List (List β)} {G : Hp → Prop} {Yp : Nat → V → Prop}
theorem flat_it (w : Walk J L.length G (fun i H x H' => H' = H ∧ Yp i x)) (R : β → V → Hp → Prop) (hm : ∀ b y H H', Imm H H' → R b y H → R b y H') (hD : H1 D = none) (hG : ∀ H', Same H1 H' → G H') (hl : L.flatten.length ≤ sizeLine)
    (hw : ∀ x, wipe ((wipe σ vs).set n1 (some x)) vs = wipe σ vs) (hw2 : ∀ x y, wipe ((wipe ((wipe σ vs).set n1 (some x)) [n2]).set n2 (some y)) [n2] = wipe ((wipe σ vs).set n1 (some x)) [n2])
    (inner : ∀ i x row H' (Qj : It → Hp → Prop), Yp i x → L[i]? = some row → Same H1 H' → (∀ (J1 : It) (G1 : Hp → Prop) (Yp1 : Nat → V → Prop), Walk J1 row.length G1 (fun j H x H' => H' = H ∧ Yp1 j x) → (∀ H'', Same H1 H'' → G1 H'') →
        (∀ j y b H'' (Q' : VK), Yp1 j y → row[j]? = some b → Same H1 H'' → (∀ z H3, Same H'' H3 → R b z H3 → Q' z H3) → te ((wipe ((wipe σ vs).set n1 (some x)) [n2]).set n2 (some y)) H'' Q') → Qj J1 H') → wi1 ((wipe σ vs).set n1 (some x)) H' Qj)
    (fin : ∀ zs H', Same H1 H' → H' D = some (.lst zs) → Al (fun z b => R b z H') zs L.flatten → Qd H') :
    ∃ W : Nat → Nat → Hp → Prop, (∃ m, W 0 m (upd H1 D (HO.lst []))) ∧ ∀ (i m : Nat) (H : Hp), W i m H →
      J.stop i H ∧ Qd H ∨ J.go i H ∧ ∃ Nx : Hp → Prop, (∀ H', Nx H' → ∃ m', m' < m ∧ W (i + 1) m' H') ∧ ∀ (x : V) (H' : Hp), J.yld i H x H' →
        gName n1 x (wipe σ vs) H' fun σ2 H2 => wipe σ2 vs = wipe σ vs ∧ tYes σ2 H2 fun b H3 => if b = true then
          wi1 σ2 H3 fun J1 H4 => ∃ W1 : Nat → Nat → Hp → Prop, (∃ m, W1 0 m H4) ∧ ∀ (j k : Nat) (H : Hp), W1 j k H →
            J1.stop j H ∧ Nx H ∨ J1.go j H ∧ ∃ Nx1 : Hp → Prop, (∀ H', Nx1 H' → ∃ k', k' < k ∧ W1 (j + 1) k' H') ∧ ∀ (x : V) (H' : Hp), J1.yld j H x H' →
              gName n2 x (wipe σ2 [n2]) H' fun σ3 H5 => wipe σ3 [n2] = wipe σ2 [n2] ∧ tYes σ3 H5 fun b H6 => if b = true then te σ3 H6 fun y H7 => ∃ acc, H7 D = some (HO.lst acc) ∧ acc.length < sizeLine ∧ Nx1 (upd H7 D (HO.lst (acc ++ [y]))) else Nx1 H6
          else Nx H3 := by
  refine ⟨fun i m H => i + m = L.length ∧ Same H1 H ∧ ∃ zs, H D = some (.lst zs) ∧ Al (fun z b => R b z H) zs (L.take i).flatten, ⟨L.length, by omega, Same.upd hD, [], upd_same, by simpa using Al.nil⟩, fun i m H ⟨him, s1, zs, hzs, al⟩ => ?_⟩
  by_cases hi : i < L.length
  · right
    refine ⟨w.1 i H hi (hG H s1), fun H' => Same H1 H' ∧ ∃ zs, H' D = some (.lst zs) ∧ Al (fun z b => R b z H') zs (L.take (i + 1)).flatten, fun H' h => ⟨m - 1, by omega, by omega, h⟩, fun x H' hy => ?_⟩
    obtain ⟨rfl, hyp⟩ := w.3 i H x H' hi (hG H s1) hy
    have hrow := List.getElem?_eq_getElem hi
    have etake : (L.take (i + 1)).flatten = (L.take i).flatten ++ L[i] := by
      rw [List.take_succ, hrow, List.flatten_append]
      congr 1
      exact List.append_nil _
    refine ⟨hw x, ?_⟩
    unfold tYes
    dsimp only
    rw [if_pos rfl]
    refine inner i x L[i] H' _ hyp hrow s1 fun J1 G1 Yp1 w1 hG1 step => ?_
    refine ⟨fun j k H => j + k = L[i].length ∧ Same H1 H ∧ ∃ zs, H D = some (.lst zs) ∧ Al (fun z b => R b z H) zs ((L.take i).flatten ++ L[i].take j), ⟨L[i].length, by omega, s1, zs, hzs, by simpa using al⟩, fun j k H ⟨hjk, s2, zs, hzs, al⟩ => ?_⟩
    by_cases hj : j < L[i].length
    · right
      refine ⟨w1.1 j H hj (hG1 H s2), fun H' => Same H1 H' ∧ ∃ zs, H' D = some (.lst zs) ∧ Al (fun z b => R b z H') zs ((L.take i).flatten ++ L[i].take (j + 1)), fun H' h => ⟨k - 1, by omega, by omega, h⟩, fun y H3 hy => ?_⟩
      obtain ⟨rfl, hyp1⟩ := w1.3 j H y H3 hj (hG1 H s2) hy
      refine ⟨hw2 x y, ?_⟩
      dsimp only
      rw [if_pos rfl]
      refine step j y L[i][j] H3 _ hyp1 (List.getElem?_eq_getElem hj) s2 fun z H4 s4 hz => ?_
      have hD4 := s4 _ _ hzs
      have lz : zs.length < sizeLine := by
        have h1 := al.len
        rw [List.length_append, List.length_take] at h1
        have h2 : ((L.take i).flatten ++ L[i]).length ≤ L.flatten.length := by
          rw [← etake]
          have : L.flatten = (L.take (i + 1)).flatten ++ (L.drop (i + 1)).flatten := by rw [← List.flatten_append, List.take_append_drop]
          rw [this, List.length_append]
          omega
        rw [List.length_append] at h2
        omega
      have keep : Imm H4 (upd H4 D (.lst (zs ++ [z]))) := Imm.lst hD4
      refine ⟨zs, hD4, lz, Same.updT (Same.trans s2 s4) hD, zs ++ [z], upd_same, ?_⟩
      rw [List.take_succ, List.getElem?_eq_getElem hj, ← List.append_assoc]
      exact (al.imp fun v b h => hm _ _ _ _ keep (hm _ _ _ _ (Same.imm s4) h)).append (.cons (hm _ _ _ _ keep hz) .nil)
    · left
      have ej : j = L[i].length := by omega
      subst ej
      refine ⟨w1.2 H (hG1 H s2), s2, zs, hzs, ?_⟩
      rw [etake]
      simpa using al
  · left
    have ei : i = L.length := by omega
    subst ei
    refine ⟨w.2 H (hG H s1), fin zs H s1 hzs (by simpa using al)⟩
end
end K9

/-! ## F28 -/
namespace K9
open PySem PySem.Spec PyProof.Rows L2
/-! Tables of formulas. -/
/-- a value is a formula's object -/
def IsFc (K : PySem.W.Frag) (H : Hp) (p : V) : Prop := ∃ a C dx fs, p = .ref a ∧ H a = some (.ins C dx fs) ∧ FC K C
theorem IsFc.imm {K : PySem.W.Frag} {H H' : Hp} {p : V} (i : Imm H H') (h : IsFc K H p) : IsFc K H' p := by
  obtain ⟨a, C, dx, fs, e, h, r⟩ := h
  exact ⟨a, C, dx, fs, e, i _ _ rfl h, r⟩
theorem Node.fc {K : PySem.W.Frag} {H : Hp} {p : V} {f : Fm} {ps : List V} (h : Node K H p f ps) : IsFc K H p := by
  obtain ⟨a, lv, ls, rfl, ⟨dx, fs, rv, cv, pt, st, core, o⟩, _⟩ := h
  exact ⟨a, _, dx, fs, rfl, o.at_, fc_of K f⟩
def spIsTab (K : PySem.W.Frag) : Sp := fun vs H Q _ => ∃ (v : V) (vss : List (List V)) (n : Nat), vs = [v] ∧ TabV H v vss ∧ vss ≠ [] ∧ 0 < n ∧ (∀ r ∈ vss, r.length = n) ∧ (∀ r ∈ vss, ∀ p ∈ r, IsFc K H p) ∧ vss.length ≤ 1000 ∧ n ≤ 1000 ∧ Pure (fun v' _ => v' = .bl true) H Q
/-- v holds the tuple of these numbers -/
def RowV (K : PySem.W.Frag) (b : List Rat) (y : V) (H : Hp) : Prop := ∃ t cs, y = .ref t ∧ H t = some (.tup cs) ∧ Al (IsR K H) cs b
theorem RowV.imm {K : PySem.W.Frag} (b : List Rat) (y : V) (H H' : Hp) (i : Imm H H') (h : RowV K b y H) : RowV K b y H' := by
  obtain ⟨t, cs, e, h1, h2⟩ := h
  exact ⟨t, cs, e, i _ _ rfl h1, h2.imp fun _ _ h => h.imm i⟩
def spJoin (K : PySem.W.Frag) : Sp := fun vs H Q _ => ∃ (t : Addr) (ps : List V) (gs : List Fm) (m i : Nat), vs = [.ref t, .int i] ∧ H t = some (.tup ps) ∧ Al (fun p g => ∃ qs, Node K H p g qs) ps gs ∧ i < m ∧ (∀ g ∈ gs, ∃ n b, MatB m n b g.mid) ∧ ps.length ≤ 16 ∧
  Pure (fun v' H' => RowV K (gs.map fun g => g.mid.getD i []).flatten v' H') H Q
section
variable {P : Program} {w : World} {K : PySem.W.Frag} {mg : Str → Option Value} {base : Heap}
abbrev nIsTab : List Str := ["value", "row", "part"]
theorem sc_isTab : FnScope nIsTab ["value"] (defScope (top 83)) := ⟨rfl, rfl, rfl, by decide +kernel, rfl, by decide +kernel, by decide +kernel⟩
theorem cal_is_table (T : Txt K mg) : Cal P w K mg base 1 "is_table" (spIsTab K) [] := by
  refine cal_of T.d_is_table sc_isTab (fun _ _ _ _ _ _ us hl => match us, hl with | [_], _ => rfl) (fun vs H Q E h => ?_) (fun f cdv A outer s H vs Q E hr h => ?_)
  · obtain ⟨v, M, n, rfl, _⟩ := h; rfl
  have mi := nofree T (x := "isinstance") (by decide +kernel)
  have mt := nofree T (x := "tuple") (by decide +kernel)
  have ml := nofree T (x := "len") (by decide +kernel)
  have ma := nofree T (x := "all") (by decide +kernel)
  refine ⟨_, pss_cons (ps_if (PW.pt (pw_or (pt_not (pt_val (pe_callB call_isi (by rfl) mi boot_isi (pa_cons (pv 0) (pa_cons (pe_bltn (v := .ty "tuple") (by rfl) mt boot_tuple rfl) pa_nil))))) (pw_or1 (pt_cmpR (eqT09 K hr.units0) (pv 0) (pe_tup pa_nil) (nomark _))))) (pss_one ps_never) pss_nil)
    (pss_cons (ps_for PassesOwn.never rfl (tup9 K (pv 0)) (pg_name (i := 1) sc_isTab.nd rfl (Or.inl rfl))
      (pss_one (ps_if (PW.pt (pw_or (pt_not (pt_val (pe_callB call_isi (by rfl) mi boot_isi (pa_cons (pv 1) (pa_cons (pe_bltn (v := .ty "tuple") (by rfl) mt boot_tuple rfl) pa_nil))))) (pw_or (pt_cmpR (eqT09 K hr.units0) (pv 1) (pe_tup pa_nil) (nomark _))
        (pw_or1 (pt_not (pt_val (pe_callB (all9 K) (by rfl) ma boot_all (pa_cons (pe_lc (own := [("part", 2)]) (g := gName 2) (tt := tYes) rfl sc_isTab.nd (tup9 K (pv 1)) (blkOk_by (N := nIsTab) (sc := defScope (top 83)) (by decide +kernel)) (fun _ _ _ _ _ => pg_name (i := 2) sc_isTab.nd rfl (Or.inl rfl)) (fun _ _ _ _ _ => pts_nil)
          (fun _ _ _ _ _ => pe_callB (isi9 K) (by rfl) mi boot_isi (pa_cons (pv 2) (pa_cons (pe_glob (v := .ref (He.ga K "Formula")) (by rfl) T.fGlob rfl) pa_nil)))) pa_nil)))))))) (pss_one ps_never) pss_nil)))
    (pss_one (ps_ret (pe_callB (all9 K) (by rfl) ma boot_all (pa_cons (pe_lc (own := [("row", 1)]) (g := gName 1) (tt := tYes) rfl sc_isTab.nd (tup9 K (pv 0)) (blkOk_by (N := nIsTab) (sc := defScope (top 83)) (by decide +kernel)) (fun _ _ _ _ _ => pg_name (i := 1) sc_isTab.nd rfl (Or.inl rfl)) (fun _ _ _ _ _ => pts_nil)
          (fun _ _ _ _ _ => pe_cmpR op_eq (pe_callB (len9 K) (by rfl) ml PySem.boot_len (pa_cons (pv 1) pa_nil)) (pe_callB (len9 K) (by rfl) ml PySem.boot_len (pa_cons (pe_ix (ixT9 K) (pv 0) pe_int (fun _ _ => rfl)) pa_nil)) (nomark _))) pa_nil))))), ?_⟩
  obtain ⟨v, rows, n, rfl, ⟨t, rvs, rfl, ht, hrv⟩, hne, hn0, hn, hF, lM, ln, k⟩ := h
  obtain ⟨cs0, hcs0⟩ : ∃ r0, rows[0]? = some r0 := by
    cases rows with
    | nil => exact absurd rfl hne
    | cons a l => exact ⟨a, rfl⟩
  obtain ⟨rv0, hrv0, t0, rfl, ht0⟩ := hrv.get hcs0
  have lcs0 : cs0.length = n := hn cs0 (List.mem_of_getElem? hcs0)
  refine ⟨_, rfl, _, _, _, _, _, rfl, .ty _, .base (.tup ht), kit_tt, _, rfl, iteF ?_⟩
  refine ⟨_, rfl, Nat.zero_le _, fun p hp => ⟨t, p, rvs, rfl, rfl, SqT.of (Same.upd hp _ _ ht), SqT.of upd_same, _, rfl, ?_⟩⟩
  have hem : rvs.isEmpty = false := by
    cases rvs with
    | nil => simp at hrv0
    | cons a l => rfl
  rw [hem]
  refine iteF ?_
  have s0 : Same H (upd H p (.tup [])) := Same.upd hp
  generalize upd H p (.tup []) = H1 at *
  refine ⟨_, rfl, t, rfl, ⟨_, SqT.of (s0 _ _ ht)⟩, for_tup (xs := rvs) (fun i σ H' => ∃ o1, σ = [some (.ref t), o1, none] ∧ Same H H') ⟨none, rfl, s0⟩ (fun i σ H' _ ⟨_, _, s⟩ => SqT.of (s _ _ ht)) ?_ ?_⟩
  · rintro i x σ H2 hx ⟨o1, rfl, s2⟩
    obtain ⟨cs, hcs, t', rfl, ht'⟩ := hrv.get' hx
    have hcm := List.mem_of_getElem? hcs
    have lcs : cs.length = n := hn cs hcm
    refine ⟨_, rfl, _, _, _, _, _, rfl, .ty _, .base (.tup (s2 _ _ ht')), kit_tt, _, rfl, iteF ?_⟩
    refine ⟨_, rfl, Nat.zero_le _, fun p2 hp2 => ⟨t', p2, cs, rfl, rfl, SqT.of (Same.upd hp2 _ _ (s2 _ _ ht')), SqT.of upd_same, _, rfl, ?_⟩⟩
    have hem2 : cs.isEmpty = false := by
      cases cs with
      | nil => simp at lcs; omega
      | cons a l => rfl
    rw [hem2]
    refine iteF ?_
    have s3 : Same H (upd H2 p2 (.tup [])) := Same.updT s2 (Same.free s2 hp2)
    generalize upd H2 p2 (.tup []) = H3 at *
    refine ⟨_, rfl, t', rfl, ⟨_, SqT.of (s3 _ _ ht')⟩, fun D hD => ?_⟩
    refine map_it (walk_tup' (xs := cs)) (fun _ y _ => y = .bl true) (fun _ _ _ _ _ h => h) hD (fun _ s4 => SqT.of (s4 _ _ (s3 _ _ ht'))) (by rw [lcs]; exact Nat.le_trans ln thousand_line) (fun j x H4 Q4 hj hx m q => ?_) (fun ys H4 s4 hl1 hl2 hl3 => ?_)
    · obtain ⟨a, C, dx, fs, rfl, ha, q', hq', rfl⟩ := (hF cs hcm x (List.mem_of_getElem? hx)).imm (Same.imm (Same.trans s3 m.same))
      have F := T.fc q' hq'
      exact ⟨_, rfl, _, _, _, _, _, rfl, .own _, F.num.ni.own.ty ha, F.form, q _ _ (Same.refl _) rfl⟩
    · refine nil_all (rd_all hl1 hl3 ?_)
      exact ⟨_, rfl, iteF ⟨_, rfl, Same.trans s3 s4⟩⟩
  · rintro σ H2 ⟨o1, rfl, s2⟩
    refine ⟨_, rfl, t, rfl, ⟨_, SqT.of (s2 _ _ ht)⟩, fun D hD => ?_⟩
    refine map_it (walk_tup' (xs := rvs)) (fun _ y _ => y = .bl true) (fun _ _ _ _ _ h => h) hD (fun _ s4 => SqT.of (s4 _ _ (s2 _ _ ht))) (by rw [hrv.len]; exact Nat.le_trans lM thousand_line) (fun j x H4 Q4 hj hx m q => ?_) (fun ys H4 s4 hl1 hl2 hl3 => ?_)
    · obtain ⟨cs, hcs, t', rfl, ht'⟩ := hrv.get' hx
      have lcs : cs.length = n := hn cs (List.mem_of_getElem? hcs)
      have s5 : Same H H4 := Same.trans s2 m.same
      refine ⟨_, rfl, t', cs, rfl, .inr (SqT.of (s5 _ _ ht')), _, rfl, t, rvs, 0, _, rfl, rfl, SqT.of (s5 _ _ ht), atI_nat (j := 0) hrv0, t0, cs0, rfl, .inr (SqT.of (s5 _ _ ht0)), rfl, ?_⟩
      refine q _ _ (Same.refl _) ?_
      rw [lcs, lcs0, decide_eq_true rfl]
    · exact rd_all hl1 hl3 (k _ _ (Same.trans s2 s4) rfl)
abbrev nJoin : List Str := ["row", "index", "part", "cell"]
theorem sc_join : FnScope nJoin ["row", "index"] (defScope (top 84)) := ⟨rfl, rfl, rfl, by decide +kernel, rfl, by decide +kernel, by decide +kernel⟩
theorem cal_joined (T : Txt K mg) : Cal P w K mg base 3 "joined_row" (spJoin K) [] := by
  refine cal_of T.d_joined_row sc_join (fun _ _ _ _ _ _ us hl => match us, hl with | [_, _], _ => rfl) (fun vs H Q E h => ?_) (fun f cdv A outer s H vs Q E hr h => ?_)
  · obtain ⟨t, ps, gs, m, i, rfl, _⟩ := h; rfl
  have mt := nofree T (x := "tuple") (by decide +kernel)
  refine ⟨_, pss_one (ps_ret (pe_callTy (tupleOf9 K) (by rfl) mt boot_tuple (pa_cons (pe_lc2 (own := [("part", 2), ("cell", 3)]) (vs1 := [3]) (g := gName 2) (g1 := gName 3) (tt := tYes) (tt1 := tYes) rfl sc_join.nd (tup9 K (pv 0)) (blkOk_by (N := nJoin) (sc := defScope (top 84)) (by decide +kernel)) (by decide) (fun _ _ _ _ _ => pg_name (i := 2) sc_join.nd rfl (Or.inl rfl)) (fun _ _ _ _ _ => pts_nil)
      (fun _ _ _ _ _ => tup9 K (pe_ix (ixT9 K) (pe_prp (prp_entries T) hr (pe_prp (prp_middle T) hr (pv 2))) (pv 1) (fun _ _ => rfl))) (fun _ _ _ _ _ => pg_name (i := 3) sc_join.nd rfl (Or.inl rfl)) (fun _ _ _ _ _ => pts_nil) (fun _ _ _ _ _ => pv 3)) pa_nil))), ?_⟩
  obtain ⟨t, ps, gs, m, i, rfl, ht, aP, hi, hM, lps, k⟩ := h
  refine ⟨_, rfl, t, rfl, ⟨_, SqT.of ht⟩, fun D hD => ?_⟩
  have lgs : ps.length = gs.length := aP.len
  have hlen : (gs.map fun g => g.mid.getD i []).length = ps.length := by rw [List.length_map, lgs]
  have bound : ∀ l : List Fm, (∀ g ∈ l, ∃ n b, MatB m n b g.mid) → (l.map fun g => g.mid.getD i []).flatten.length ≤ 16 * l.length := by
    intro l hl
    induction l with
    | nil => simp
    | cons g l ih =>
      have h1 := ih fun x hx => hl x (List.mem_cons_of_mem _ hx)
      obtain ⟨n, b, hg⟩ := hl g List.mem_cons_self
      have h2 : (g.mid.getD i []).length ≤ 16 := by
        have hi2 : i < g.mid.length := by rw [hg.len]; exact hi
        rw [List.getD_eq_getElem?_getD, List.getElem?_eq_getElem hi2, Option.getD_some, hg.wid _ (List.getElem_mem hi2)]
        exact hg.n1
      rw [List.map_cons, List.flatten_cons, List.length_append, List.length_cons]
      omega
  refine flat_it (L := gs.map fun g => g.mid.getD i []) (J := Itt K t) (G := fun H => SqT K H t ps) (Yp := fun j x => ps[j]? = some x) (by rw [hlen]; exact walk_tup') (fun r y H => IsR K H y r) (fun b y H H' i h => h.imm i) hD (fun _ s => SqT.of (s _ _ ht)) (by have := bound gs hM; exact Nat.le_trans (show _ ≤ 1000 by omega) thousand_line) (fun x => rfl) (fun x y => rfl) (fun j x row H2 Qj hx hrow s2 q => ?_) (fun zs H2 s2 hl1 al => ?_)
  · obtain ⟨g, hg, qs, hN⟩ := aP.get' hx
    rw [List.getElem?_map, hg] at hrow
    have erow : row = g.mid.getD i [] := (Option.some.inj hrow).symm
    obtain ⟨n, b, hB⟩ := hM g (List.mem_of_getElem? hg)
    have hN' := hN
    obtain ⟨ag, lv, ls, rfl, ⟨dxg, fsg, rvg, cvg, ptg, stg, cog, oo⟩, _⟩ := hN'
    have hm := oo.m
    obtain ⟨ma, mdx, mcv, mwv, rfl, hma, ⟨rows, ⟨tc, rvs, rfl, htc, hrv⟩, aM⟩, _⟩ := hm
    have hi2 : i < g.mid.length := by rw [hB.len]; exact hi
    obtain ⟨cs, hcs, aR⟩ := aM.get (List.getElem?_eq_getElem hi2)
    obtain ⟨rv, hrv1, tr, rfl, htr⟩ := hrv.get hcs
    have er : g.mid.getD i [] = g.mid[i] := by rw [List.getD_eq_getElem?_getD, List.getElem?_eq_getElem hi2]; rfl
    rw [er] at erow
    subst erow
    refine ⟨_, rfl, rd_get (s2 _ _ oo.at_) (fc_of K g) oo.co ⟨ma, _, mdx, _, rfl, s2 _ _ hma, rfl, ma, mdx, _, _, _, rfl, s2 _ _ hma, ?_⟩⟩
    refine ⟨_, rfl, tc, rvs, i, .ref tr, rfl, rfl, SqT.of (s2 _ _ htc), atI_nat hrv1, tr, rfl, ⟨_, SqT.of (s2 _ _ htr)⟩, ?_⟩
    refine q (Itt K tr) (fun H => SqT K H tr cs) (fun j x => cs[j]? = some x) (by rw [← aR.len]; exact walk_tup') (fun _ s => SqT.of (s _ _ htr)) fun j y b H3 Q3 hy hb s3 q3 => ?_
    exact ⟨_, rfl, q3 y H3 (Same.refl _) ((aR.at_ j y b hy hb).imm (Same.imm s3))⟩
  · exact ⟨D, zs, rfl, .inl ⟨SqL.of hl1, fun l hl => k _ _ (Same.updT s2 (Same.free s2 hl)) ⟨l, zs, rfl, upd_same, al.imp fun _ _ h => h.imm (Imm.new hl)⟩⟩⟩
end
end K9

/-! ## F29 -/
namespace K9
open PySem PySem.Spec PyProof.Rows L2
/-! Blocks. -/
theorem Al.flatten {β α : Type} {R : β → α → Prop} : ∀ {vss : List (List β)} {xss : List (List α)}, Al (Al R) vss xss → Al R vss.flatten xss.flatten
  | [], [], _ => Al.nil
  | [], x :: xs, h => by have := h.len; simp at this
  | v :: vs, [], h => by have := h.len; simp at this
  | v :: vs, x :: xs, h => by
    rw [List.flatten_cons, List.flatten_cons]
    exact (h.at_ 0 v x rfl rfl).append (Al.flatten ⟨by have := h.len; simp at this; exact this, fun i a b e1 e2 => h.at_ (i + 1) a b (by simpa using e1) (by simpa using e2)⟩)
theorem Al.imm' {K : PySem.W.Frag} {H : Hp} {lt : Addr} {o : HO} {cs : List V} {b : List Rat} (h : Al (IsR K H) cs b) (hl : H lt = none) : Al (NumV K (upd H lt o)) cs b := h.imp fun _ _ h => .inr (h.imm (Imm.new hl))
namespace Fm
def hd (row : List Fm) : Fm := row.headD default
structure TabOk (S : Sys) (f : Fm) (n : Nat) (T : List (List Fm)) : Prop where
  ne : T ≠ []
  n0 : 0 < n
  n2 : n ≤ 2
  l2 : T.length ≤ 2
  wid : ∀ row ∈ T, row.length = n
  ok : ∀ row ∈ T, ∀ g ∈ row, g.Ok S
  er : ∀ row ∈ T, ∀ g ∈ row, g.rows = (hd row).rows
  ec : ∀ row ∈ T, ∀ (j : Nat) g h, row[j]? = some g → (T.headD [])[j]? = some h → g.cols = h.cols
  rows : f.rows = (T.map fun row => (hd row).rows).flatten
  cols : f.cols = ((T.headD []).map fun g => g.cols).flatten
  wt : (1 : Int) * ((T.flatten.map fun g => (g.wt, g.lv)).map fun p => (p.1 : Int)).sum = (f.wt : Int)
  lv : (1 : Int) + maxOr 0 ((T.flatten.map fun g => (g.wt, g.lv)).map fun p => (p.2 : Int)) = (f.lv : Int)
  mid : f.mid = (T.map fun row => (List.range (hd row).rows.length).map fun i => (row.map fun g => g.mid.getD i []).flatten).flatten
  occ : ∀ l, l ∈ f.occ ↔ ∃ g ∈ T.flatten, l ∈ g.occ
  lim : f.Lim
  mat : MatB f.rows.length f.cols.length f.bits f.mid
theorem TabOk.cell {S : Sys} {f : Fm} {n : Nat} {T : List (List Fm)} (h : TabOk S f n T) {i : Nat} {row : List Fm} (hr : T[i]? = some row) : ∃ g0, row[0]? = some g0 ∧ hd row = g0 := by
  have hl := h.wid row (List.mem_of_getElem? hr)
  cases row with
  | nil => simp at hl; have := h.n0; omega
  | cons a l => exact ⟨a, rfl, rfl⟩
end Fm
def ABlo (K : PySem.W.Frag) (H0 : Hp) (us : List V) (f : Fm) : Prop := ∃ tv vss T n S, us = [tv] ∧ TabV H0 tv vss ∧ Al (Al (fun p g => IsF K H0 g p)) vss T ∧ Fm.TabOk S f n T ∧ f.kd.nm = "Blocks" ∧
  (∀ (H : Hp) fs, List.lookup ("lines" : Str) fs = some tv → TabV H tv vss → Extr K H fs f vss.flatten) ∧ (∀ (H : Hp) v, Same H0 H → Node K H v f vss.flatten → IsF K H f v)
section
variable {w : World} {K : PySem.W.Frag} {mg : Str → Option Value} {base : Heap}
abbrev ncBlocks : List Str := ["self", "table", "__class__", "made_of", "signs", "row", "part", "first", "row_side", "column_side", "name", "i"]
theorem sc_Blocks : NdefX.NScope ncBlocks ["self", "table"] ["__class__"] (defScope (inCls 81 1)) := ⟨rfl, rfl, rfl, by decide +kernel, rfl, by decide +kernel, by decide +kernel, by decide +kernel, by decide +kernel⟩
theorem mak_Blocks (T : Txt K mg) : Mak Pg w K mg base 12 "Blocks" (He.ga K "Blocks") (spCtor K (ABlo K)) [] := by
  have F := T.fc (Fm.b21 default default).kd (Fm.kd_mem _)
  obtain ⟨fa, fd, mk, FS⟩ := F.make
  obtain ⟨ga, gd, SI, FP⟩ := F.sup
  have np := fnk_part (P := Pg) (w := w) (base := base) T FP
  refine ⟨fa, mk, F.glob, fd, ["self", "table"], [], fn_super FS sc_Blocks ⟨rfl, rfl⟩ (nofree T (by decide +kernel)) F.cls T.noTop rfl (fun vs H Q E h => ?_) (fun nf A outer s H vs Q E hq hs hb S hr h => ?_), FS.kp, FS.bindsN (fun _ _ _ _ _ _ _ us hl => match us, hl with | [_, _], _ => rfl), .nil⟩
  · obtain ⟨x, dx, H0, us, f, rfl, _, _, _, ⟨tv, vss, T, n, S, rfl, _⟩, _⟩ := h; rfl
  obtain ⟨nm, qn, pn, bn, sn, cn, c'⟩ := nf
  subst hq hs hb
  have mt := nofree T (x := "tuple") (by decide +kernel)
  have ml := nofree T (x := "len") (by decide +kernel)
  have mz := nofree T (x := "zip") (by decide +kernel)
  have mr := nofree T (x := "range") (by decide +kernel)
  refine ⟨_, pas_cons (ps_if (pt_not (pt_val (pe_c (cal_is_table T) hr (pa_cons (pv 1) pa_nil)))) (pss_one ps_never) pss_nil)
    (pas_cons (ps_set (i := 3) sc_Blocks.nd rfl (Or.inl rfl) (pe_callTy (tupleOf9 K) (by rfl) mt boot_tuple (pa_cons (pe_lc2 (own := [("row", 5), ("part", 6)]) (vs1 := [6]) (g := gName 5) (g1 := gName 6) (tt := tYes) (tt1 := tYes) rfl sc_Blocks.nd (tup9 K (pv 1)) (blkOk_by (N := ncBlocks) (sc := defScope (inCls 81 1)) (by decide +kernel)) (by decide) (fun _ _ _ _ _ => pg_name (i := 5) sc_Blocks.nd rfl (Or.inl rfl)) (fun _ _ _ _ _ => pts_nil) (fun _ _ _ _ _ => tup9 K (pv 5)) (fun _ _ _ _ _ => pg_name (i := 6) sc_Blocks.nd rfl (Or.inl rfl)) (fun _ _ _ _ _ => pts_nil) (fun _ _ _ _ _ => pv 6)) pa_nil)))
    (pas_cons (ps_set (i := 4) sc_Blocks.nd rfl (Or.inl rfl) (pe_c (cal_check_letters T) hr (pa_cons (pv 3) pa_nil)))
    (pas_cons (ps_for PassesOwn.never rfl (tup9 K (pv 1)) (pg_name (i := 5) sc_Blocks.nd rfl (Or.inl rfl)) (pss_one (ps_for PassesOwn.never rfl (tup9 K (pv 5)) (pg_name (i := 6) sc_Blocks.nd rfl (Or.inl rfl))
        (pss_one (ps_if (pt_cmpR (op_neD hr.units) (pe_prp (prp_rows T) hr (pv 6)) (pe_prp (prp_rows T) hr (pe_ix (ixT9 K) (pv 5) pe_int (fun _ _ => rfl))) (nomark _)) (pss_one ps_never) pss_nil)))))
    (pas_cons (ps_for PassesOwn.never rfl (tup9 K (pv 1)) (pg_name (i := 5) sc_Blocks.nd rfl (Or.inl rfl)) (pss_one (ps_for PassesOwn.never rfl (zip9 K mz (pa_cons (pe_ix (ixT9 K) (pv 1) pe_int (fun _ _ => rfl)) (pa_cons (pv 5) pa_nil))) (gtup9 K (pgs_cons (pg_name (i := 7) sc_Blocks.nd rfl (Or.inl rfl)) (pgs_cons (pg_name (i := 6) sc_Blocks.nd rfl (Or.inl rfl)) pgs_nil)))
        (pss_one (ps_if (pt_cmpR (op_neD hr.units) (pe_prp (prp_columns T) hr (pv 6)) (pe_prp (prp_columns T) hr (pv 7)) (nomark _)) (pss_one ps_never) pss_nil)))))
    (pas_cons (ps_fld (pv 0) (pv 1) rfl)
    (pas_cons (ps_set (i := 8) sc_Blocks.nd rfl (Or.inl rfl) (pe_callTy (tupleOf9 K) (by rfl) mt boot_tuple (pa_cons (pe_lc2 (own := [("row", 5), ("name", 10)]) (vs1 := [10]) (g := gName 5) (g1 := gName 10) (tt := tYes) (tt1 := tYes) rfl sc_Blocks.nd (tup9 K (pv 1)) (blkOk_by (N := ncBlocks) (sc := defScope (inCls 81 1)) (by decide +kernel)) (by decide) (fun _ _ _ _ _ => pg_name (i := 5) sc_Blocks.nd rfl (Or.inl rfl)) (fun _ _ _ _ _ => pts_nil) (fun _ _ _ _ _ => tup9 K (pe_prp (prp_rows T) hr (pe_ix (ixT9 K) (pv 5) pe_int (fun _ _ => rfl)))) (fun _ _ _ _ _ => pg_name (i := 10) sc_Blocks.nd rfl (Or.inl rfl)) (fun _ _ _ _ _ => pts_nil) (fun _ _ _ _ _ => pv 10)) pa_nil)))
    (pas_cons (ps_set (i := 9) sc_Blocks.nd rfl (Or.inl rfl) (pe_callTy (tupleOf9 K) (by rfl) mt boot_tuple (pa_cons (pe_lc2 (own := [("part", 6), ("name", 10)]) (vs1 := [10]) (g := gName 6) (g1 := gName 10) (tt := tYes) (tt1 := tYes) rfl sc_Blocks.nd (tup9 K (pe_ix (ixT9 K) (pv 1) pe_int (fun _ _ => rfl))) (blkOk_by (N := ncBlocks) (sc := defScope (inCls 81 1)) (by decide +kernel)) (by decide) (fun _ _ _ _ _ => pg_name (i := 6) sc_Blocks.nd rfl (Or.inl rfl)) (fun _ _ _ _ _ => pts_nil) (fun _ _ _ _ _ => tup9 K (pe_prp (prp_columns T) hr (pv 6))) (fun _ _ _ _ _ => pg_name (i := 10) sc_Blocks.nd rfl (Or.inl rfl)) (fun _ _ _ _ _ => pts_nil) (fun _ _ _ _ _ => pv 10)) pa_nil)))
    (pas_sup (ps_super (jc := 2) S (ok := fun C => C = He.ga K "Blocks") (fun C hC => ⟨ga, hC ▸ SI, np.1⟩) hr (pa_cons (pv 8) (pa_cons (pv 9) (pa_cons (pv 3) (pa_cons (pv 4) pa_nil)))) rfl rfl)
    (pas_of (pss_one (ps_fld (pv 0) (pe_mk (mak_matrix T) hr (pa_cons (pe_callTy (tupleOf9 K) (by rfl) mt boot_tuple (pa_cons (pe_lc2 (own := [("row", 5), ("i", 11)]) (vs1 := [11]) (g := gName 5) (g1 := gName 11) (tt := tYes) (tt1 := tYes) rfl sc_Blocks.nd (tup9 K (pv 1)) (blkOk_by (N := ncBlocks) (sc := defScope (inCls 81 1)) (by decide +kernel)) (by decide) (fun _ _ _ _ _ => pg_name (i := 5) sc_Blocks.nd rfl (Or.inl rfl)) (fun _ _ _ _ _ => pts_nil) (fun _ _ _ _ _ => pi_range1 (by rfl) mr (pa_cons (pe_callB (len9 K) (by rfl) ml PySem.boot_len (pa_cons (pe_prp (prp_rows T) hr (pe_ix (ixT9 K) (pv 5) pe_int (fun _ _ => rfl))) pa_nil)) pa_nil)) (fun _ _ _ _ _ => pg_name (i := 11) sc_Blocks.nd rfl (Or.inl rfl)) (fun _ _ _ _ _ => pts_nil) (fun _ _ _ _ _ => pe_c (cal_joined T) hr (pa_cons (pv 5) (pa_cons (pv 11) pa_nil)))) pa_nil)) pa_nil)) rfl))))))))))), ?_⟩
  obtain ⟨x, dx, H0, us, f, rfl, s0, hx0, hx, ⟨tv, vss, Tb, n, Sy, rfl, hTV, aT, ok, hk, hEx, hFin⟩, k⟩ := h
  have hCF : cF K f = He.ga K "Blocks" := congrArg (He.ga K) hk
  have hTV' := hTV
  obtain ⟨t, rvs, rfl, ht, hrv⟩ := hTV'
  have lv : vss.length = Tb.length := aT.len
  have lr : rvs.length = vss.length := hrv.len
  have l2 := ok.l2
  have n2 := ok.n2
  have n0 := ok.n0
  have rowL : ∀ {j : Nat} {cs : List V}, vss[j]? = some cs → ∃ row, Tb[j]? = some row ∧ Al (fun p g => IsF K H0 g p) cs row ∧ cs.length = n ∧ row.length = n := fun {j cs} hj => by
    obtain ⟨row, h1, h2⟩ := aT.get' hj
    have := ok.wid row (List.mem_of_getElem? h1)
    exact ⟨row, h1, h2, by rw [h2.len]; exact this, this⟩
  have line : ∀ {m : Nat}, m ≤ 1000 → m ≤ sizeLine := fun h => Nat.le_trans h thousand_line
  have tup0 : ∀ {a : Addr} {xs : List V} {H' : Hp}, Same H0 H' → H0 a = some (.tup xs) → H' a = some (.tup xs) := fun s h => s _ _ h
  -- the table
  refine ⟨_, rfl, .ref t, vss, n, rfl, hTV.imm (Same.imm s0), fun e => ok.ne (List.length_eq_zero_iff.mp (by rw [← lv, e]; rfl)), n0, fun r hr => ?_, fun r hr p hp => ?_, by omega, by omega, fun v0 H1 s1 e0 => ?_⟩
  · obtain ⟨j, hj⟩ := List.mem_iff_getElem?.mp hr
    exact (rowL hj).choose_spec.2.2.1
  · obtain ⟨j, hj⟩ := List.mem_iff_getElem?.mp hr
    obtain ⟨row, h1, h2, _⟩ := rowL hj
    obtain ⟨i, hi⟩ := List.mem_iff_getElem?.mp hp
    obtain ⟨g, hg, hF⟩ := h2.get' hi
    obtain ⟨qs, hN, _⟩ := hF.node
    exact (hN.imm (Same.imm s0)).fc
  subst e0
  refine ⟨_, rfl, iteF ?_⟩
  have s01 := Same.trans s0 s1
  have lenF : ∀ (l : List (List V)), (∀ r ∈ l, r.length = n) → l.flatten.length ≤ 2 * l.length := by
    intro l hl
    induction l with
    | nil => simp
    | cons a l ih =>
      have h1 := ih fun x hx => hl x (List.mem_cons_of_mem _ hx)
      have h2 := hl a List.mem_cons_self
      rw [List.flatten_cons, List.length_append, List.length_cons]
      omega
  have lvf : vss.flatten.length ≤ 4 := by
    have := lenF vss fun r hr => by
      obtain ⟨j, hj⟩ := List.mem_iff_getElem?.mp hr
      exact (rowL hj).choose_spec.2.2.1
    omega
  -- made_of
  refine ⟨_, rfl, t, rfl, ⟨_, SqT.of (s01 _ _ ht)⟩, fun D hD => ?_⟩
  refine flat_it (L := vss) (J := Itt K t) (G := fun H => SqT K H t rvs) (Yp := fun j x => rvs[j]? = some x) (by rw [← lr]; exact walk_tup') (fun r y _ => y = r) (fun b y H H' i h => h) hD (fun _ s => SqT.of (s _ _ (s01 _ _ ht))) (line (by omega)) (fun x => rfl) (fun x y => rfl) (fun j x row H2 Qj hx hrow s2 q => ?_) (fun zs H2 s2 hl1 al => ?_)
  · obtain ⟨cs, hcs, t', rfl, ht'⟩ := hrv.get' hx
    rw [hrow] at hcs
    cases hcs
    refine ⟨_, rfl, t', rfl, ⟨_, SqT.of (s2 _ _ (s01 _ _ ht'))⟩, ?_⟩
    refine q (Itt K t') (fun H => SqT K H t' row) (fun j x => row[j]? = some x) walk_tup' (fun _ s => SqT.of (s _ _ (s01 _ _ ht'))) fun j y b H3 Q3 hy hb s3 q3 => ?_
    rw [hy] at hb
    exact ⟨_, rfl, q3 y H3 (Same.refl _) (Option.some.inj hb)⟩
  have ez : zs = vss.flatten := Al.eq al
  subst ez
  refine ⟨D, _, rfl, .inl ⟨SqL.of hl1, fun pt hpt => ?_⟩⟩
  have s12 : Same H1 (upd H2 pt (.tup vss.flatten)) := Same.updT s2 (Same.free s2 hpt)
  have hpt1 : (upd H2 pt (.tup vss.flatten)) pt = some (.tup vss.flatten) := upd_same
  generalize upd H2 pt (.tup vss.flatten) = H3 at *
  have s03 := Same.trans s01 s12
  have aN : Al (fun p g => ∃ qs, Node K H0 p g qs) vss.flatten Tb.flatten := (Al.flatten aT).imp fun p g h => let ⟨qs, a, _⟩ := h.node; ⟨qs, a⟩
  have okF : ∀ g ∈ Tb.flatten, g.Ok Sy := fun g hg => by
    obtain ⟨row, h1, h2⟩ := List.mem_flatten.mp hg
    exact ok.ok row h1 g h2
  refine ⟨_, rfl, pt, vss.flatten, Tb.flatten, Sy, H0, rfl, hpt1, by omega, s03, aN, fun g hg => (okF g hg).inS, fun sv H4 s4 hsv => ?_⟩
  obtain ⟨st, lvv, ls, rfl, hst, hal, nd, so, mem⟩ := hsv
  have hlo : LetsOk f ls := ⟨nd, so, fun l => by rw [mem, ok.occ]⟩
  have s04 := Same.trans s03 s4
  have hpt4 := s4 _ _ hpt1
  -- cells of a row
  have cell0 : ∀ {j : Nat} {cs : List V} {row : List Fm}, Tb[j]? = some row → Al (fun p g => IsF K H0 g p) cs row → ∃ p0 g0 q0, cs[0]? = some p0 ∧ row[0]? = some g0 ∧ Fm.hd row = g0 ∧ Node K H0 p0 g0 q0 ∧ g0.Ok Sy := fun {j cs row} h1 h2 => by
    obtain ⟨g0, h3, h4⟩ := ok.cell h1
    obtain ⟨p0, h5, h6⟩ := h2.get h3
    obtain ⟨q0, h7, _⟩ := h6.node
    exact ⟨p0, g0, q0, h5, h3, h4, h7, ok.ok row (List.mem_of_getElem? h1) g0 (List.mem_of_getElem? h3)⟩
  -- rows agree
  refine ⟨_, rfl, t, rfl, ⟨_, SqT.of (s04 _ _ ht)⟩, ?_⟩
  refine for_tup (xs := rvs) (fun i σ H' => ∃ o5 o6, σ = [some (.ref x), some (.ref t), some (.ref (He.ga K "Blocks")), some (.ref pt), some (.ref st), o5, o6, none, none, none, none, none] ∧ Same H4 H') ⟨none, none, rfl, Same.refl _⟩ (fun i σ H' _ ⟨_, _, _, s⟩ => SqT.of (s _ _ (s04 _ _ ht))) ?_ ?_
  · rintro i y σ H5 hy ⟨o5, o6, rfl, s5⟩
    obtain ⟨cs, hcs, t', rfl, ht'⟩ := hrv.get' hy
    obtain ⟨row, hrow, aR, lcs, lrow⟩ := rowL hcs
    obtain ⟨p0, g0, q0, hp0, hg0, ehd, n0', ok0⟩ := cell0 hrow aR
    have s05 := Same.trans s04 s5
    refine ⟨_, rfl, t', rfl, ⟨_, SqT.of (s05 _ _ ht')⟩, ?_⟩
    refine for_tup (xs := cs) (fun j σ H' => ∃ o6, σ = [some (.ref x), some (.ref t), some (.ref (He.ga K "Blocks")), some (.ref pt), some (.ref st), some (.ref t'), o6, none, none, none, none, none] ∧ Same H4 H') ⟨o6, rfl, s5⟩ (fun j σ H' _ ⟨_, _, s⟩ => SqT.of (s _ _ (s04 _ _ ht'))) ?_ ?_
    · rintro j p σ H6 hp ⟨o6, rfl, s6⟩
      obtain ⟨g, hg, hF⟩ := aR.get' hp
      obtain ⟨qg, ng, _⟩ := hF.node
      have og := ok.ok row (List.mem_of_getElem? hrow) g (List.mem_of_getElem? hg)
      have s06 := Same.imm (Same.trans s04 s6)
      have er := ok.er row (List.mem_of_getElem? hrow) g (List.mem_of_getElem? hg)
      rw [ehd] at er
      refine ⟨_, rfl, rd_rows (ng.imm s06) fun r1 hr1 => ⟨_, rfl, t', cs, 0, p0, rfl, rfl, SqT.of (s6 _ _ (s04 _ _ ht')), atI_nat (j := 0) hp0, rd_rows (n0'.imm s06) fun r2 hr2 => ⟨sT g.rows, sT g.rows, dp_sT hr1, by rw [er]; exact dp_sT hr2, sT_shaped og.nr, sT_shaped og.nr, _, rfl, ?_⟩⟩⟩
      rw [sT_eqv]
      exact iteF ⟨_, rfl, s6⟩
    · rintro σ H6 ⟨o6, rfl, s6⟩
      exact ⟨_, _, rfl, s6⟩
  rintro σ H5 ⟨o5, o6, rfl, s5⟩
  -- columns agree
  have s05 := Same.trans s04 s5
  obtain ⟨row0, hrow0⟩ : ∃ r, Tb[0]? = some r := by
    cases hT : Tb with
    | nil => exact absurd hT ok.ne
    | cons a l => exact ⟨a, rfl⟩
  have ehd0 : Tb.headD [] = row0 := by
    cases hT : Tb with
    | nil => exact absurd hT ok.ne
    | cons a l => rw [hT] at hrow0; cases hrow0; rfl
  obtain ⟨cs0, hcs0, aR0⟩ := aT.get hrow0
  obtain ⟨rv0, hrv0, t0, rfl, ht0⟩ := hrv.get hcs0
  have lrow0 := ok.wid row0 (List.mem_of_getElem? hrow0)
  have lcs0 : cs0.length = n := by rw [aR0.len]; exact lrow0
  refine ⟨_, rfl, t, rfl, ⟨_, SqT.of (s05 _ _ ht)⟩, ?_⟩
  refine for_tup (xs := rvs) (fun i σ H' => ∃ o5 o6 o7, σ = [some (.ref x), some (.ref t), some (.ref (He.ga K "Blocks")), some (.ref pt), some (.ref st), o5, o6, o7, none, none, none, none] ∧ Same H4 H') ⟨o5, o6, none, rfl, s5⟩ (fun i σ H' _ ⟨_, _, _, _, s⟩ => SqT.of (s _ _ (s04 _ _ ht))) ?_ ?_
  · rintro i y σ H6 hy ⟨o5, o6, o7, rfl, s6⟩
    obtain ⟨cs, hcs, t', rfl, ht'⟩ := hrv.get' hy
    obtain ⟨row, hrow, aR, lcs, lrow⟩ := rowL hcs
    have s06 := Same.trans s04 s6
    refine ⟨_, rfl, t, rvs, 0, .ref t0, rfl, rfl, SqT.of (s06 _ _ ht), atI_nat (j := 0) hrv0, _, rfl, t0, t', cs0, cs, rfl, .inr ⟨SqT.of (s06 _ _ ht0), SqT.of (s06 _ _ ht'), ?_⟩⟩
    refine for_it (walk_zipT (K := K) (a := t0) (b := t') (show cs0.length = cs.length by omega)) (fun j σ H' => ∃ o6 o7, σ = [some (.ref x), some (.ref t), some (.ref (He.ga K "Blocks")), some (.ref pt), some (.ref st), some (.ref t'), o6, o7, none, none, none, none] ∧ Same H4 H')
      ⟨o6, o7, rfl, s6⟩ (fun j σ H' _ ⟨_, _, _, s⟩ => ⟨SqT.of (s _ _ (s04 _ _ ht0)), SqT.of (s _ _ (s04 _ _ ht'))⟩) ?_ ?_
    · rintro j z σ H7 H8 hj ⟨o6, o7, rfl, s7⟩ ⟨Tp, u, v, rfl, hTp, rfl, hu, hv⟩
      have s8 : Same H4 (upd H7 Tp (.tup [u, v])) := Same.updT s7 (Same.free s7 hTp)
      refine ⟨Tp, _, rfl, SqT.of upd_same, rfl, u, [v], rfl, v, [], rfl, rfl, ?_⟩
      generalize upd H7 Tp (.tup [u, v]) = H8 at *
      obtain ⟨g, hg, hgF⟩ := aR0.get' hu
      obtain ⟨g', hg', hgF'⟩ := aR.get' hv
      obtain ⟨qg, ng, _⟩ := hgF.node
      obtain ⟨qg', ng', _⟩ := hgF'.node
      have og := ok.ok row0 (List.mem_of_getElem? hrow0) g (List.mem_of_getElem? hg)
      have ec := ok.ec row (List.mem_of_getElem? hrow) j g' g hg' (by rw [ehd0]; exact hg)
      have s08 := Same.imm (Same.trans s04 s8)
      refine ⟨_, rfl, rd_cols (ng'.imm s08) fun r1 hr1 => ⟨_, rfl, rd_cols (ng.imm s08) fun r2 hr2 => ⟨sT g.cols, sT g.cols, by rw [← ec]; exact dp_sT hr1, dp_sT hr2, sT_shaped og.nc, sT_shaped og.nc, _, rfl, ?_⟩⟩⟩
      rw [sT_eqv]
      exact iteF ⟨_, _, rfl, s8⟩
    · rintro σ H7 ⟨o6, o7, rfl, s7⟩
      exact ⟨_, _, _, rfl, s7⟩
  rintro σ H6 ⟨o5, o6, o7, rfl, s6⟩
  have s06 := Same.trans s04 s6
  have s14 := Same.trans s12 s4
  have hx6 := s6 _ _ (s14 _ _ (s1 _ _ hx))
  rw [hCF] at hx6
  -- lines
  refine ⟨_, rfl, _, rfl, x, _, dx, [], rfl, hx6, F.num.ni.own.cl, F.na _ (by decide +kernel), by decide, ?_⟩
  have o6b : Off x H6 (upd H6 x (.ins (He.ga K "Blocks") dx (putF "lines" (.ref t) []))) := Off.upd
  have hxb : (upd H6 x (.ins (He.ga K "Blocks") dx (putF "lines" (.ref t) []))) x = some (.ins (He.ga K "Blocks") dx (putF "lines" (.ref t) [])) := upd_same
  have s0b := same_of_off s06 hx0 o6b
  have hptb := Off.tup hx6 o6b (s6 _ _ hpt4)
  have hstb := Off.tup hx6 o6b (s6 _ _ hst)
  generalize upd H6 x (.ins (He.ga K "Blocks") dx (putF "lines" (.ref t) [])) = Hb at *
  -- row_side
  have rowObj : ∀ {j : Nat} {cs : List V}, vss[j]? = some cs → ∃ row p0 g0 q0, Tb[j]? = some row ∧ cs[0]? = some p0 ∧ Fm.hd row = g0 ∧ Node K H0 p0 g0 q0 ∧ g0.Ok Sy ∧ Al (fun p g => IsF K H0 g p) cs row ∧ cs.length = n := fun {j cs} hj => by
    obtain ⟨row, h1, h2, h3, _⟩ := rowL hj
    obtain ⟨p0, g0, q0, a, b, c, d, e⟩ := cell0 h1 h2
    exact ⟨row, p0, g0, q0, h1, a, c, d, e, h2, h3⟩
  have lR : (Tb.map fun row => (Fm.hd row).rows).flatten.length ≤ 16 := by rw [← ok.rows]; exact ok.lim.r
  have lC : ((Tb.headD []).map fun g => g.cols).flatten.length ≤ 16 := by rw [← ok.cols]; exact ok.lim.c
  refine ⟨_, rfl, t, rfl, ⟨_, SqT.of (s0b _ _ ht)⟩, fun D2 hD2 => ?_⟩
  refine flat_it (L := Tb.map fun row => (Fm.hd row).rows) (J := Itt K t) (G := fun H => SqT K H t rvs) (Yp := fun j x => rvs[j]? = some x) (by rw [List.length_map, ← lv, ← lr]; exact walk_tup') (fun r y _ => y = V.str r) (fun b y H H' i h => h) hD2 (fun _ s => SqT.of (s _ _ (s0b _ _ ht))) (line (by omega)) (fun x => rfl) (fun x y => rfl) (fun j y rw' H7 Qj hy hrw s7 q => ?_) (fun zs H7 s7 hl1 al => ?_)
  · obtain ⟨cs, hcs, t', rfl, ht'⟩ := hrv.get' hy
    obtain ⟨row, p0, g0, q0, h1, h2, h3, h4, h5, _⟩ := rowObj hcs
    rw [List.getElem?_map, h1] at hrw
    have e : rw' = g0.rows := by rw [← h3]; exact (Option.some.inj hrw).symm
    subst e
    obtain ⟨a0, lv0, ls0, rfl, ⟨dx0, fs0, rv, cv, ptg, stg, cog, oo⟩, _⟩ := h4
    have s07 := Same.trans s0b s7
    refine ⟨_, rfl, t', cs, 0, .ref a0, rfl, rfl, SqT.of (s07 _ _ ht'), atI_nat (j := 0) h2, rd_get (s07 _ _ oo.at_) (fc_of K g0) oo.fld.r ⟨rv, rfl, ⟨_, SqT.of (s07 _ _ oo.r)⟩, ?_⟩⟩
    refine q (Itt K rv) (fun H => SqT K H rv (g0.rows.map V.str)) (fun j x => (g0.rows.map V.str)[j]? = some x) (by have := walk_tup' (K := K) (a := rv) (xs := g0.rows.map V.str); rw [List.length_map] at this; exact this) (fun _ s => SqT.of (s _ _ (s0b _ _ oo.r))) fun j z b H8 Q8 hz hb s8 q8 => ?_
    rw [List.getElem?_map, hb] at hz
    cases hz
    exact ⟨_, rfl, q8 _ H8 (Same.refl _) rfl⟩
  have ez : zs = f.rows.map V.str := by
    rw [ok.rows]
    have al' : Al (fun z b => z = b) zs ((Tb.map fun row => (Fm.hd row).rows).flatten.map V.str) := ⟨by rw [al.len, List.length_map], fun i v b h1 h2 => by
      rw [List.getElem?_map] at h2
      obtain ⟨s', h3, rfl⟩ := Option.map_eq_some_iff.mp h2
      exact al.at_ i v s' h1 h3⟩
    exact Al.eq al'
  subst ez
  refine ⟨D2, _, rfl, .inl ⟨SqL.of hl1, fun rsd hrsd => ?_⟩⟩
  have sb7 : Same Hb (upd H7 rsd (.tup (f.rows.map V.str))) := Same.updT s7 (Same.free s7 hrsd)
  have hrs : (upd H7 rsd (.tup (f.rows.map V.str))) rsd = some (.tup (f.rows.map V.str)) := upd_same
  generalize upd H7 rsd (.tup (f.rows.map V.str)) = H8 at *
  have s08 := Same.trans s0b sb7
  -- column_side
  refine ⟨_, rfl, t, rvs, 0, .ref t0, rfl, rfl, SqT.of (s08 _ _ ht), atI_nat (j := 0) hrv0, t0, rfl, ⟨_, SqT.of (s08 _ _ ht0)⟩, fun D3 hD3 => ?_⟩
  refine flat_it (L := (Tb.headD []).map fun g => g.cols) (J := Itt K t0) (G := fun H => SqT K H t0 cs0) (Yp := fun j x => cs0[j]? = some x) (by rw [List.length_map, ehd0, ← aR0.len]; exact walk_tup') (fun r y _ => y = V.str r) (fun b y H H' i h => h) hD3 (fun _ s => SqT.of (s _ _ (s08 _ _ ht0))) (line (by omega)) (fun x => rfl) (fun x y => rfl) (fun j y rw' H9 Qj hy hrw s9 q => ?_) (fun zs H9 s9 hl1 al => ?_)
  · obtain ⟨g, hg, hF⟩ := aR0.get' hy
    rw [List.getElem?_map, ehd0, hg] at hrw
    have e : rw' = g.cols := (Option.some.inj hrw).symm
    subst e
    obtain ⟨qg, ng, _⟩ := hF.node
    obtain ⟨a0, lv0, ls0, rfl, ⟨dx0, fs0, rv, cv, ptg, stg, cog, oo⟩, _⟩ := ng
    have s09 := Same.trans s08 s9
    refine ⟨_, rfl, rd_get (s09 _ _ oo.at_) (fc_of K g) oo.fld.c ⟨cv, rfl, ⟨_, SqT.of (s09 _ _ oo.c)⟩, ?_⟩⟩
    refine q (Itt K cv) (fun H => SqT K H cv (g.cols.map V.str)) (fun j x => (g.cols.map V.str)[j]? = some x) (by have := walk_tup' (K := K) (a := cv) (xs := g.cols.map V.str); rw [List.length_map] at this; exact this) (fun _ s => SqT.of (s _ _ (s08 _ _ oo.c))) fun j z b Ha Qa hz hb sa qa => ?_
    rw [List.getElem?_map, hb] at hz
    cases hz
    exact ⟨_, rfl, qa _ Ha (Same.refl _) rfl⟩
  have ez : zs = f.cols.map V.str := by
    rw [ok.cols]
    have al' : Al (fun z b => z = b) zs (((Tb.headD []).map fun g => g.cols).flatten.map V.str) := ⟨by rw [al.len, List.length_map], fun i v b h1 h2 => by
      rw [List.getElem?_map] at h2
      obtain ⟨s', h3, rfl⟩ := Option.map_eq_some_iff.mp h2
      exact al.at_ i v s' h1 h3⟩
    exact Al.eq al'
  subst ez
  refine ⟨D3, _, rfl, .inl ⟨SqL.of hl1, fun csd hcsd => ?_⟩⟩
  have s89 : Same H8 (upd H9 csd (.tup (f.cols.map V.str))) := Same.updT s9 (Same.free s9 hcsd)
  have hcs' : (upd H9 csd (.tup (f.cols.map V.str))) csd = some (.tup (f.cols.map V.str)) := upd_same
  generalize upd H9 csd (.tup (f.cols.map V.str)) = Ha at *
  have sba := Same.trans sb7 s89
  have s0a := Same.trans s0b sba
  have hxa := sba _ _ hxb
  -- super
  refine ⟨x, _, dx, _, rfl, rfl, hxa, rfl, _, rfl, _, rfl, _, rfl, _, rfl, ?_⟩
  have hf0 : (putF "lines" (V.ref t) []).lookup ("numerator_here" : Str) = none := by rw [lookup_putF, if_neg (by decide +kernel)]; rfl
  refine ⟨x, _, dx, _, rsd, csd, pt, .ref st, vss.flatten, f.rows, f.cols, 1, f.wt, f.lv, Tb.flatten.map fun g => (g.wt, g.lv), rfl, ⟨_, Fm.kd_mem (Fm.b21 default default), rfl⟩, hxa, by show 1 ≤ 900; decide, s89 _ _ hrs, hcs', sba _ _ hptb, ok.lim.r, ok.lim.c, by omega, ?_, by decide, fun pp hp => ?_, ?_, ok.lv, ok.lim.w, ok.lim.l, fun Hc ac => ?_⟩
  · exact Al.mk_map aN.len fun i y g h1 h2 => by
      obtain ⟨qs, hN⟩ := aN.at_ i y g h1 h2
      exact hN.part s0a hx0
  · obtain ⟨g, hg, rfl⟩ := List.mem_map.mp hp
    exact (okF g hg).lim.w
  · have hne : vss.flatten.isEmpty = false := by
      obtain ⟨p0, g0, q0, a, _⟩ := cell0 hrow0 aR0
      have : p0 ∈ vss.flatten := List.mem_flatten.mpr ⟨cs0, List.mem_of_getElem? hcs0, List.mem_of_getElem? a⟩
      cases hv : vss.flatten with
      | nil => rw [hv] at this; cases this
      | cons a l => rfl
    rw [hne]
    exact ok.wt
  have s0c := same_of_off s0a hx0 ac.rest
  have hxc := ac.at_
  -- core
  refine ⟨_, rfl, t, rfl, ⟨_, SqT.of (s0c _ _ ht)⟩, fun D4 hD4 => ?_⟩
  have hMat := ok.mat
  have lM : ((Tb.map fun row => (List.range (Fm.hd row).rows.length).map fun i => (row.map fun g => g.mid.getD i []).flatten).flatten).length ≤ 16 := by rw [← ok.mid, hMat.len]; exact hMat.m1
  refine flat_it (L := Tb.map fun row => (List.range (Fm.hd row).rows.length).map fun i => (row.map fun g => g.mid.getD i []).flatten) (J := Itt K t) (G := fun H => SqT K H t rvs) (Yp := fun j x => rvs[j]? = some x) (by rw [List.length_map, ← lv, ← lr]; exact walk_tup') (RowV K) RowV.imm hD4 (fun _ s => SqT.of (s _ _ (s0c _ _ ht))) (line (by omega)) (fun x => rfl) (fun x y => rfl) (fun j y rw' Hd Qj hy hrw sd q => ?_) (fun zs Hd sd hl1 al => ?_)
  · obtain ⟨cs, hcs, t', rfl, ht'⟩ := hrv.get' hy
    obtain ⟨row, p0, g0, q0, h1, h2, h3, h4, h5, aR, lcs⟩ := rowObj hcs
    rw [List.getElem?_map, h1] at hrw
    have e : rw' = (List.range g0.rows.length).map fun i => (row.map fun g => g.mid.getD i []).flatten := by rw [← h3]; exact (Option.some.inj hrw).symm
    subst e
    obtain ⟨a0, lv0, ls0, rfl, ⟨dx0, fs0, rv, cv, ptg, stg, cog, oo⟩, _⟩ := h4
    have s0d := Same.trans s0c sd
    have l16 := h5.lim.r
    have r62 := thousand_62 (show g0.rows.length ≤ 1000 by omega)
    refine ⟨_, rfl, t', cs, 0, .ref a0, rfl, rfl, SqT.of (s0d _ _ ht'), atI_nat (j := 0) h2, rd_get (s0d _ _ oo.at_) (fc_of K g0) oo.fld.r ⟨rv, _, rfl, .inr (SqT.of (s0d _ _ oo.r)), ?_⟩⟩
    rw [List.length_map]
    refine ⟨_, rfl, r62.1, r62.2, ?_⟩
    have ecast : ((g0.rows.length : Nat) : Int).toNat = g0.rows.length := by simp
    rw [ecast]
    refine q (Itr 0 g0.rows.length) (fun _ => True) (fun j x => x = .int (0 + (j : Nat))) (by rw [List.length_map, List.length_range]; exact walk_range') (fun _ _ => trivial) fun j z b He' Qe hz hb se qe => ?_
    subst hz
    have hj : j < g0.rows.length := by
      have := (List.getElem?_eq_some_iff.mp hb).1
      simpa using this
    rw [List.getElem?_map, List.getElem?_range hj] at hb
    cases hb
    have s0e := Same.imm (Same.trans s0c se)
    refine ⟨_, rfl, _, rfl, t', cs, row, g0.rows.length, j, by rw [Int.zero_add]; rfl, se _ _ (s0c _ _ ht'), aR.imp fun p g h => ?_, hj, fun g hg => ?_, by omega, fun v' Hf sf hv => qe v' Hf sf hv⟩
    · obtain ⟨qs, hN, _⟩ := h.node
      exact ⟨qs, hN.imm s0e⟩
    · have := (ok.ok row (List.mem_of_getElem? h1) g hg).mat
      rw [ok.er row (List.mem_of_getElem? h1) g hg, h3] at this
      exact ⟨_, _, this⟩
  rw [← ok.mid] at al
  refine ⟨D4, zs, rfl, .inl ⟨SqL.of hl1, fun lt hlt => ?_⟩⟩
  have hRow : ∀ j y, zs[j]? = some y → RowR (NumV K) f.mid j y (upd Hd lt (.tup zs)) := fun j y hj => by
    obtain ⟨row, h1, t', cs, h2, h3, h4⟩ := al.get' hj
    exact ⟨t', cs, row, h2, h1, Same.upd hlt _ _ h3, h4.imm' hlt⟩
  have hTab := tab_fin (tb := f.mid) (R := NumV K) (H' := upd Hd lt (.tup zs)) (l := lt) upd_same al.len hRow
  have scd : Same Hc (upd Hd lt (.tup zs)) := Same.updT sd (Same.free sd hlt)
  generalize upd Hd lt (.tup zs) = Hg at *
  intro xm dm hxm hdm hnm
  have snm : Same Hg (upd (upd Hg dm (.own xm)) xm (.ins (cM K) dm [])) := new_same (K := K) hxm hdm
  have hlb := ok.lim.b
  refine ⟨xm, dm, .ref lt, f.mid, _, _, f.bits, rfl, hTab.imm (Same.imm snm) fun _ _ h => h.imm (Same.imm snm), hMat, by omega, upd_same, fun Hh cvm wvm am t1 t2 => ⟨rfl, ?_⟩⟩
  obtain ⟨sgh, hcore⟩ := made_mat hxm hdm am t1 t2
  have sch := Same.trans scd sgh
  have hxh := sch _ _ hxc
  refine ⟨_, rfl, x, _, dx, _, rfl, hxh, F.num.ni.own.cl, F.na _ (by decide +kernel), by show 7 < 1000; decide, ?_⟩
  have oah : Off x Ha Hh := Off.trans ac.rest (Off.of_same sch)
  have s0h := Same.trans s0c sch
  refine k _ (Off.trans (Off.of_same (Same.trans s1 (Same.trans s14 s6))) (Off.trans o6b (Off.trans (Off.of_same sba) (Off.trans oah Off.upd)))) ?_
  have hCF2 : He.ga K (Fm.b21 default default).kd.nm = cF K f := hCF.symm
  rw [hCF2] at hxh
  rw [hCF2]
  have hTVh : TabV Hh (.ref t) vss := hTV.imm (Same.imm s0h)
  have node := mkNode (f := f) (ls := ls) s0h hx0 hxh hf0 (by rw [lookup_putF, if_neg (by decide +kernel)]; rfl) (Off.tup hxa oah (s89 _ _ hrs)) (Off.tup hxa oah hcs') (Off.tup hxa oah (sba _ _ hptb)) (Off.tup hxa oah (sba _ _ hstb)) hcore (hEx Hh _ (by rw [lookup_putF, if_pos rfl]) hTVh) hal hlo rfl
  exact hFin _ _ (same_of_off s0h hx0 Off.upd) node
end
end K9

/-! ## F30 -/
namespace K9
open PySem PySem.Spec PyProof.Rows L2
/-! Letter. -/
theorem putF_comm {x y : Str} {u v : V} (hxy : x ≠ y) : ∀ {fs : List (Str × V)} {z : V}, fs.lookup x = some z → putF x v (putF y u fs) = putF y u (putF x v fs)
  | [], z, h => by simp at h
  | (k, t) :: fs, z, h => by
    by_cases hk : k = x
    · subst hk
      have h2 : ¬ k = y := hxy
      simp [putF, h2]
    · have hx : fs.lookup x = some z := by
        rw [List.lookup_cons] at h
        have : (x == k) = false := by simpa using fun e => hk e.symm
        rw [this] at h
        exact h
      by_cases hky : k = y
      · subst hky
        simp [putF, hk]
      · simp [putF, hk, hky, putF_comm hxy hx]
theorem pFs_signs (fs0 : List (Str × V)) (rv cv pv sv v : V) (w l : Nat) : putF "signs" v (pFs fs0 rv cv pv sv w l) = pFs fs0 rv cv pv v w l := by
  have h1 : (putF "load" (V.int w) (putF "signs" sv (putF "made_of" pv (putF "column_side" cv (putF "row_side" rv fs0))))).lookup ("signs" : Str) = some sv := by rw [lookup_putF, if_neg (by decide +kernel), lookup_putF, if_pos rfl]
  have h2 : (putF "signs" sv (putF "made_of" pv (putF "column_side" cv (putF "row_side" rv fs0)))).lookup ("signs" : Str) = some sv := by rw [lookup_putF, if_pos rfl]
  unfold pFs
  rw [putF_comm (by decide +kernel) h1, putF_comm (by decide +kernel) h2, putF_putF]
def spLetter (K : PySem.W.Frag) : Sp := fun vs H Q _ => ∃ x dx H0 l nv, vs = [.ref x, .str l.name, .str l.rows, .str l.cols, .str l.sym, nv] ∧ Same H0 H ∧ H0 x = none ∧ H x = some (.ins (He.ga K "Letter") dx []) ∧ NumV K H0 nv l.about ∧ l.Ok ∧ ∀ H', Off x H H' → IsL K H' (.ref x) l → Q .non H'
/-- Letter(a, b, c, symmetry=d, about=e) -/
structure MakL (w : World) (K : PySem.W.Frag) (mg : Str → Option Value) (base : Heap) : Prop where
  ex : ∃ f fd, Mk K (He.ga K "Letter") f ∧ mg "Letter" = some (.ref (He.ga K "Letter")) ∧ FnOk Pg w K mg base CX0 12 f fd ["self", "name", "rows", "columns", "symmetry", "about"] (spLetter K) ∧ L2.KBn K fd ["self", "name", "rows", "columns", "symmetry", "about"] 4 ["symmetry", "about"] (fun us ws => us ++ ws) (fun vs zs => vs ++ zs)
/-- what follows an if, said once -/
theorem if_key {c : TT} {t u w : TS} {D : Ends} {σ : L2.St} {H : Hp} (G : Hp → Prop) (rest : ∀ H', G H' → u { D with nx := w D } σ H') (h : (∀ H', G H' → u { D with nx := w D } σ H') → tIfS c t u { D with nx := w D } σ H) : tSeq (tIfS c t u) w D σ H := h rest
section
variable {w : World} {K : PySem.W.Frag} {mg : Str → Option Value} {base : Heap}
theorem dec_ne_str {a b : Str} (h : a ≠ b) : decide (V.str a = V.str b) = false := decide_eq_false fun e => h (V.str.inj e)
abbrev ncLetter : List Str := ["self", "name", "rows", "columns", "symmetry", "about", "__class__", "side"]
theorem sc_Letter : NdefX.NScope ncLetter ["self", "name", "rows", "columns", "symmetry", "about"] ["__class__"] (defScope (inCls 71 1)) := ⟨rfl, rfl, rfl, by decide +kernel, rfl, by decide +kernel, by decide +kernel, by decide +kernel, by decide +kernel⟩
theorem mak_Letter (T : Txt K mg) : MakL w K mg base := by
  have F := T.fc qLetter qLetter_mem
  obtain ⟨fa, fd, mk, FS⟩ := F.make
  obtain ⟨ga, gd, SI, FP⟩ := F.sup
  have np := fnk_part (P := Pg) (w := w) (base := base) T FP
  refine ⟨fa, fd, mk, F.glob, fn_super FS sc_Letter ⟨rfl, rfl⟩ (nofree T (by decide +kernel)) F.cls T.noTop rfl (fun vs H Q E h => ?_) (fun nf A outer s H vs Q E hq hs hb S hr h => ?_), ?_⟩
  · obtain ⟨x, dx, H0, l, nv, rfl, _⟩ := h; rfl
  · obtain ⟨nm, qn, pn, bn, sn, cn, c'⟩ := nf
    subst hq hs hb
    have mi := nofree T (x := "isinstance") (by decide +kernel)
    have ms := nofree T (x := "str") (by decide +kernel)
    refine ⟨_, pas_cons (ps_if (pt_not (pt_val (pe_c (cal_is_let T) hr (pa_cons (pv 1) pa_nil)))) (pss_one ps_never) pss_nil)
      (pas_cons (ps_for PassesOwn.never rfl (tup9 K (pe_tup (pa_cons (pv 2) (pa_cons (pv 3) pa_nil)))) (pg_name (i := 7) sc_Letter.nd rfl (Or.inl rfl)) (pss_one (ps_if (pt_not (pt_val (pe_c (cal_is_size T) hr (pa_cons (pv 7) pa_nil)))) (pss_one ps_never) pss_nil)))
      (pas_cons (ps_if (PW.pt (pw_or (pt_not (pt_val (pe_callB call_isi (by rfl) mi boot_isi (pa_cons (pv 4) (pa_cons (pe_bltn (v := .ty "str") (by rfl) ms boot_str rfl) pa_nil))))) (pw_or1 (pt_cmpR op_notIn_seq (pv 4) (pe_tup (pa_cons pe_str (pa_cons pe_str (pa_cons pe_str pa_nil)))) rfl)))) (pss_one ps_never) pss_nil)
      (pas_cons (ps_if (PW.pt (pw_and (pt_cmpR op_ne (pv 4) pe_str (nomark _)) (pw_and1 (pt_cmpR op_ne (pv 2) (pv 3) (nomark _))))) (pss_one ps_never) pss_nil)
      (pas_cons (ps_if (PW.pt (pw_or (pt_not (pt_val (pe_c (cal_is_number T) hr (pa_cons (pv 5) pa_nil)))) (pw_or1 (PW.pt (pw_and (PW.pt (pw_or (pt_cmpR op_ne (pv 2) (pv 3) (nomark _)) (pw_or1 (pt_cmpR op_eq (pv 4) pe_str (nomark _))))) (pw_and1 (pt_cmpR op_ne (pe_prp (prpT T) hr (pe_c (cal_as_ratio T) hr (pa_cons (pv 5) pa_nil))) pe_int (nomark _)))))))) (pss_one ps_never) pss_nil)
      (pas_cons (ps_fld (pv 0) (pv 1) rfl) (pas_cons (ps_fld (pv 0) (pv 4) rfl) (pas_cons (ps_fld (pv 0) (pe_c (cal_as_ratio T) hr (pa_cons (pv 5) pa_nil)) rfl)
      (pas_sup (ps_super (jc := 6) S (ok := fun C => C = He.ga K "Letter") (fun C hC => ⟨ga, hC ▸ SI, np.1⟩) hr (pa_cons (pe_tup (pa_cons (pv 2) pa_nil)) (pa_cons (pe_tup (pa_cons (pv 3) pa_nil)) (pa_cons (pe_tup pa_nil) (pa_cons (pe_tup pa_nil) pa_nil)))) rfl rfl)
      (pas_of (pss_cons (ps_fld (pv 0) (pe_tup (pa_cons (pv 0) pa_nil)) rfl)
        (pss_one (ps_fld (pv 0) (pe_mk (mak_matrix T) hr (pa_cons (pe_tup (pa_cons (pe_tup (pa_cons (pe_fld (pv 0) rfl) pa_nil)) pa_nil)) pa_nil)) rfl)))))))))))), ?_⟩
    obtain ⟨x, dx, H0, l, nv, rfl, s0, hx0, hx, hnv, hok, k⟩ := h
    have line : ∀ {m : Nat}, m ≤ 1000 → m ≤ sizeLine := fun h => Nat.le_trans h thousand_line
    have ld : ∀ z : Str, decide (V.str z = V.str z) = true := fun z => decide_eq_true rfl
    refine ⟨_, rfl, l.name, rfl, hok.n, fun v0 H1 s1 e0 => ?_⟩
    subst e0
    refine ⟨_, rfl, iteF ?_⟩
    -- the sides
    refine ⟨_, rfl, _, rfl, line (by show 2 ≤ 1000; decide), fun tp htp => ?_⟩
    have s2 : Same H (upd H1 tp (.tup [.str l.rows, .str l.cols])) := Same.updT s1 (Same.free s1 htp)
    have htp2 : (upd H1 tp (.tup [.str l.rows, .str l.cols])) tp = some (.tup [.str l.rows, .str l.cols]) := upd_same
    generalize upd H1 tp (.tup [.str l.rows, .str l.cols]) = H2 at *
    refine ⟨tp, rfl, ⟨_, SqT.of htp2⟩, ?_⟩
    refine for_tup (xs := [V.str l.rows, .str l.cols]) (fun i σ H' => ∃ o7, σ = [some (.ref x), some (.str l.name), some (.str l.rows), some (.str l.cols), some (.str l.sym), some nv, some (.ref (He.ga K "Letter")), o7] ∧ Same H2 H') ⟨none, rfl, Same.refl _⟩ (fun i σ H' _ ⟨_, _, s⟩ => SqT.of (s _ _ htp2)) ?_ ?_
    · rintro i y σ H3 hy ⟨o7, rfl, s3⟩
      have : ∃ z, y = .str z ∧ SizeN z := by
        match i, hy with
        | 0, hy => cases hy; exact ⟨_, rfl, hok.r⟩
        | 1, hy => cases hy; exact ⟨_, rfl, hok.c⟩
        | i + 2, hy => simp at hy
      obtain ⟨z, rfl, hz⟩ := this
      refine ⟨_, rfl, .inl ⟨z, rfl, hz, fun v4 H4 s4 e4 => ?_⟩⟩
      subst e4
      exact ⟨_, rfl, iteF ⟨_, rfl, Same.trans s3 s4⟩⟩
    rintro σ H3 ⟨o7, rfl, s3⟩
    have s23 := Same.trans s2 s3
    -- the symmetry
    refine ⟨_, rfl, _, _, _, _, _, rfl, .ty _, .base (.str l.sym), kit_ss, _, rfl, iteF ?_⟩
    refine ⟨_, rfl, line (by show 3 ≤ 1000; decide), fun t3 ht3 => ⟨t3, _, rfl, .inr (SqT.of upd_same), rfl, rfl, _, rfl, ?_⟩⟩
    have hin : inV (V.str l.sym) [.str "plain", .str "symmetric", .str "skew"] = true := by
      rcases hok.s with e | e | e <;> rw [e] <;> decide +kernel
    rw [hin]
    refine iteF ?_
    have s4 : Same H (upd H3 t3 (.tup [.str "plain", .str "symmetric", .str "skew"])) := Same.updT s23 (Same.free s23 ht3)
    generalize upd H3 t3 (.tup [.str "plain", .str "symmetric", .str "skew"]) = H4 at *
    have s04 := Same.trans s0 s4
    dsimp only [tNext]
    refine if_key (w := _) (fun H' => Same H H') (fun H5 s5 => ?_) fun rest => ?_
    rotate_left
    · by_cases hp : l.sym = ("plain" : Str)
      · refine ⟨_, rfl, rfl, _, rfl, ?_⟩
        rw [hp, ld]
        rw [hp] at rest
        exact iteF (iteF (rest _ s4))
      · refine ⟨_, rfl, rfl, _, rfl, ?_⟩
        rw [dec_ne_str hp]
        refine iteT ⟨_, rfl, _, rfl, rfl, _, rfl, ?_⟩
        rw [hok.q hp, ld]
        rw [hok.q hp] at rest
        exact iteF (rest _ s4)
    dsimp only [tNext]
    refine if_key (w := _) (fun H' => Same H H') (fun H6 s6 => ?_) fun rest => ?_
    rotate_left
    · have s05 := Same.trans s0 s5
      refine ⟨_, rfl, .inl ⟨nv, l.about, rfl, hnv.imm (Same.imm s05), _, rfl, iteF ?_⟩⟩
      have hq0 : l.about = 0 → (!decide (V.int l.about.num = V.int 0)) = false := fun h0 => by rw [h0]; rfl
      by_cases hrc : l.rows = l.cols
      · refine ⟨_, rfl, _, rfl, rfl, _, rfl, ?_⟩
        rw [show decide (V.str l.rows = V.str l.cols) = true from decide_eq_true (congrArg V.str hrc)]
        refine iteF ⟨_, rfl, rfl, _, rfl, ?_⟩
        by_cases hs : l.sym = ("skew" : Str)
        · rw [show decide (V.str l.sym = V.str (Str.ofString "skew")) = true from decide_eq_true (congrArg V.str hs)]
          refine iteT ⟨_, rfl, nv, l.about, rfl, hnv.imm (Same.imm s05), fun av H7 s7 hav => rd_top hav ⟨rfl, _, rfl, ?_⟩⟩
          rw [hq0 (hok.a (.inr hs))]
          exact iteF (rest _ (Same.trans s5 s7))
        · rw [dec_ne_str hs]
          exact iteF (iteF (rest _ s5))
      · refine ⟨_, rfl, _, rfl, rfl, _, rfl, ?_⟩
        rw [dec_ne_str hrc]
        refine iteT (iteT ⟨_, rfl, nv, l.about, rfl, hnv.imm (Same.imm s05), fun av H7 s7 hav => rd_top hav ⟨rfl, _, rfl, ?_⟩⟩)
        rw [hq0 (hok.a (.inl hrc))]
        exact iteF (rest _ (Same.trans s5 s7))
    have s06 := Same.trans s0 s6
    have hx6 := s6 _ _ hx
    have lp : ∀ {y : Str} {v : V} {fs : List (Str × V)} {n : Nat}, fs.length ≤ n → (putF y v fs).length ≤ n + 1 := fun h => Nat.le_trans (putF_len _ _ _) (by omega)
    refine ⟨_, rfl, _, rfl, x, _, dx, [], rfl, hx6, F.num.ni.own.cl, F.na _ (by decide +kernel), by decide, ?_⟩
    refine ⟨_, rfl, _, rfl, x, _, dx, _, rfl, upd_same, F.num.ni.own.cl, F.na _ (by decide +kernel), by show 1 < 1000; decide, ?_⟩
    have oa : Off x H6 (upd (upd H6 x (.ins (He.ga K "Letter") dx (putF "label" (.str l.name) []))) x (.ins (He.ga K "Letter") dx (putF "manner" (.str l.sym) (putF "label" (.str l.name) [])))) := Off.trans Off.upd Off.upd
    have hxa : (upd (upd H6 x (.ins (He.ga K "Letter") dx (putF "label" (.str l.name) []))) x (.ins (He.ga K "Letter") dx (putF "manner" (.str l.sym) (putF "label" (.str l.name) [])))) x = some (.ins (He.ga K "Letter") dx (putF "manner" (.str l.sym) (putF "label" (.str l.name) []))) := upd_same
    have e1 : He.ga K qLetter.nm = He.ga K "Letter" := rfl
    rw [e1]
    generalize upd (upd H6 x (.ins (He.ga K "Letter") dx (putF "label" (.str l.name) []))) x (.ins (He.ga K "Letter") dx (putF "manner" (.str l.sym) (putF "label" (.str l.name) []))) = Ha at *
    have s0a := same_of_off s06 hx0 oa
    refine ⟨_, rfl, nv, l.about, rfl, hnv.imm (Same.imm s0a), fun av Hb sab hav => ?_⟩
    have hxb := sab _ _ hxa
    refine ⟨_, rfl, x, _, dx, _, rfl, hxb, F.num.ni.own.cl, F.na _ (by decide +kernel), by show 2 < 1000; decide, ?_⟩
    have obc : Off x Hb (upd Hb x (.ins (He.ga K "Letter") dx (putF "near" av (putF "manner" (.str l.sym) (putF "label" (.str l.name) []))))) := Off.upd
    have hxc : (upd Hb x (.ins (He.ga K "Letter") dx (putF "near" av (putF "manner" (.str l.sym) (putF "label" (.str l.name) []))))) x = some (.ins (He.ga K "Letter") dx (putF "near" av (putF "manner" (.str l.sym) (putF "label" (.str l.name) [])))) := upd_same
    have havc := hav.off hxb (by rw [lookup_putF, if_neg (by decide +kernel), lookup_putF, if_neg (by decide +kernel)]; rfl) obc
    have s0c := same_of_off (Same.trans s0a sab) hx0 obc
    generalize upd Hb x (.ins (He.ga K "Letter") dx (putF "near" av (putF "manner" (.str l.sym) (putF "label" (.str l.name) [])))) = Hc at *
    have gN : (putF "near" av (putF "manner" (V.str l.sym) (putF "label" (.str l.name) []))).lookup ("near" : Str) = some av := by rw [lookup_putF, if_pos rfl]
    have gM : (putF "near" av (putF "manner" (V.str l.sym) (putF "label" (.str l.name) []))).lookup ("manner" : Str) = some (.str l.sym) := by rw [lookup_putF, if_neg (by decide +kernel), lookup_putF, if_pos rfl]
    have gL : (putF "near" av (putF "manner" (V.str l.sym) (putF "label" (.str l.name) []))).lookup ("label" : Str) = some (.str l.name) := by rw [lookup_putF, if_neg (by decide +kernel), lookup_putF, if_neg (by decide +kernel), lookup_putF, if_pos rfl]
    have gX : (putF "near" av (putF "manner" (V.str l.sym) (putF "label" (.str l.name) []))).lookup ("numerator_here" : Str) = none := by rw [lookup_putF, if_neg (by decide +kernel), lookup_putF, if_neg (by decide +kernel), lookup_putF, if_neg (by decide +kernel)]; rfl
    have gC : (putF "near" av (putF "manner" (V.str l.sym) (putF "label" (.str l.name) []))).lookup ("cells" : Str) = none := by rw [lookup_putF, if_neg (by decide +kernel), lookup_putF, if_neg (by decide +kernel), lookup_putF, if_neg (by decide +kernel)]; rfl
    have gNo : noMeth (putF "near" av (putF "manner" (V.str l.sym) (putF "label" (.str l.name) []))) := by
      refine ⟨?_, ?_, ?_⟩ <;> (rw [lookup_putF, if_neg (by decide +kernel), lookup_putF, if_neg (by decide +kernel), lookup_putF, if_neg (by decide +kernel)]; rfl)
    have lfs : (putF "near" av (putF "manner" (V.str l.sym) (putF "label" (.str l.name) []))).length ≤ 3 := lp (lp (lp (Nat.le_refl 0)))
    generalize putF "near" av (putF "manner" (V.str l.sym) (putF "label" (.str l.name) [])) = fs0 at *
    -- super
    have one : 1 ≤ sizeLine := line (by decide)
    refine ⟨x, _, dx, _, rfl, rfl, hxc, rfl, _, rfl, one, fun rv hrv => ?_⟩
    have sr : Same Hc (upd Hc rv (.tup [.str l.rows])) := Same.upd hrv
    have hrv1 : (upd Hc rv (.tup [.str l.rows])) rv = some (.tup [.str l.rows]) := upd_same
    generalize upd Hc rv (.tup [.str l.rows]) = Hd at *
    refine ⟨_, rfl, one, fun cv hcv => ?_⟩
    have sc : Same Hd (upd Hd cv (.tup [.str l.cols])) := Same.upd hcv
    have hcv1 : (upd Hd cv (.tup [.str l.cols])) cv = some (.tup [.str l.cols]) := upd_same
    generalize upd Hd cv (.tup [.str l.cols]) = He' at *
    refine ⟨Nat.zero_le _, fun pt hpt => ?_⟩
    have sp : Same He' (upd He' pt (.tup [])) := Same.upd hpt
    have hpt1 : (upd He' pt (.tup [])) pt = some (.tup []) := upd_same
    generalize upd He' pt (.tup []) = Hf at *
    refine ⟨Nat.zero_le _, fun st hst => ?_⟩
    have ss : Same Hf (upd Hf st (.tup [])) := Same.upd hst
    generalize upd Hf st (.tup []) = Hg at *
    have scg : Same Hc Hg := Same.trans sr (Same.trans sc (Same.trans sp ss))
    have hrvg : Hg rv = some (.tup [.str l.rows]) := ss _ _ (sp _ _ (sc _ _ hrv1))
    have hcvg : Hg cv = some (.tup [.str l.cols]) := ss _ _ (sp _ _ hcv1)
    have hptg := ss _ _ hpt1
    have hxg := scg _ _ hxc
    have s0g := Same.trans s0c scg
    have havg := havc.imm (Same.imm scg)
    refine ⟨x, _, dx, _, rv, cv, pt, .ref st, [], [l.rows], [l.cols], 1, 1, 1, [], rfl, fc_of K (.letter l), hxg, by omega, hrvg, hcvg, hptg, by show 1 ≤ 16; decide, by show 1 ≤ 16; decide, by decide, .nil, by decide, (fun pp hp => by cases hp), rfl, rfl, by decide, by decide, fun Hh ah => ?_⟩
    have hxh := ah.at_
    have s0h := same_of_off s0g hx0 ah.rest
    have hnh : (pFs fs0 (.ref rv) (.ref cv) (.ref pt) (.ref st) 1 1).lookup ("numerator_here" : Str) = none := by rw [pFs_get _ _ _ _ _ _ _ _ (by decide +kernel)]; exact gX
    have havh : IsR K Hh av l.about := havg.off hxg gX ah.rest
    have lpf : ∀ (a b c d : V) (m n : Nat), (pFs fs0 a b c d m n).length ≤ 9 := fun a b c d m n => lp (lp (lp (lp (lp (lp lfs)))))
    refine ⟨_, rfl, one, fun s2 hs2 => ?_⟩
    have sh2 : Same Hh (upd Hh s2 (.tup [.ref x])) := Same.upd hs2
    have hs2x : (upd Hh s2 (.tup [.ref x])) s2 = some (.tup [.ref x]) := upd_same
    generalize upd Hh s2 (.tup [.ref x]) = Hi at *
    have hxi := sh2 _ _ hxh
    refine ⟨_, rfl, x, _, dx, _, rfl, hxi, F.num.ni.own.cl, F.na _ (by decide +kernel), by have := lpf (.ref rv) (.ref cv) (.ref pt) (.ref st) 1 1; omega, ?_⟩
    rw [pFs_signs]
    have oij : Off x Hi (upd Hi x (.ins (cF K (.letter l)) dx (pFs fs0 (.ref rv) (.ref cv) (.ref pt) (.ref s2) 1 1))) := Off.upd
    have hxj : (upd Hi x (.ins (cF K (.letter l)) dx (pFs fs0 (.ref rv) (.ref cv) (.ref pt) (.ref s2) 1 1))) x = some (.ins (cF K (.letter l)) dx (pFs fs0 (.ref rv) (.ref cv) (.ref pt) (.ref s2) 1 1)) := upd_same
    have e2 : He.ga K "Letter" = cF K (.letter l) := rfl
    rw [e2]
    have havj := (havh.imm (Same.imm sh2)).off hxi hnh oij
    have hs2j := Off.tup hxi oij hs2x
    generalize upd Hi x (.ins (cF K (.letter l)) dx (pFs fs0 (.ref rv) (.ref cv) (.ref pt) (.ref s2) 1 1)) = Hj at *
    have ogj : Off x Hg Hj := Off.trans ah.rest (Off.trans (Off.of_same sh2) oij)
    have s0j := same_of_off s0g hx0 ogj
    have gNj : (pFs fs0 (.ref rv) (.ref cv) (.ref pt) (.ref s2) 1 1).lookup ("near" : Str) = some av := by rw [pFs_get _ _ _ _ _ _ _ _ (by decide +kernel)]; exact gN
    refine ⟨_, rfl, x, _, dx, _, _, rfl, hxj, F.num.ni.own.cl, F.na _ (by decide +kernel), gNj, one, fun ta hta => ⟨one, fun tb htb => ?_⟩⟩
    have sjk : Same Hj (upd (upd Hj ta (.tup [av])) tb (.tup [.ref ta])) := Same.trans (Same.upd hta) (Same.upd htb)
    have hta2 : (upd (upd Hj ta (.tup [av])) tb (.tup [.ref ta])) ta = some (.tup [av]) := Same.upd htb _ _ upd_same
    have htb2 : (upd (upd Hj ta (.tup [av])) tb (.tup [.ref ta])) tb = some (.tup [.ref ta]) := upd_same
    generalize upd (upd Hj ta (.tup [av])) tb (.tup [.ref ta]) = Hk at *
    intro xm dm hxm hdm hnm
    have snm : Same Hk (upd (upd Hk dm (.own xm)) xm (.ins (cM K) dm [])) := new_same (K := K) hxm hdm
    refine ⟨xm, dm, .ref tb, (Fm.letter l).mid, 1, 1, 8, rfl, ⟨[[av]], ⟨tb, _, rfl, snm _ _ htb2, .cons ⟨ta, rfl, snm _ _ hta2⟩ .nil⟩, .cons (.cons (.inr ((havj.imm (Same.imm sjk)).imm (Same.imm snm))) .nil) .nil⟩, MatB.one hok.b, by decide, upd_same, fun Hl cvm wvm am t1 t2 => ⟨rfl, ?_⟩⟩
    obtain ⟨skl, hcore⟩ := made_mat hxm hdm am t1 t2
    have sjl := Same.trans sjk skl
    have hxl := sjl _ _ hxj
    refine ⟨_, rfl, x, _, dx, _, rfl, hxl, F.num.ni.own.cl, F.na _ (by decide +kernel), by have := lpf (.ref rv) (.ref cv) (.ref pt) (.ref s2) 1 1; omega, ?_⟩
    have ogl := Off.trans ogj (Off.of_same sjl)
    refine k _ (Off.trans (Off.of_same s6) (Off.trans oa (Off.trans (Off.of_same sab) (Off.trans obc (Off.trans (Off.of_same scg) (Off.trans ogl Off.upd)))))) ?_
    exact ⟨x, rfl, mkObj (f := .letter l) (ps := []) (lv := [.ref x]) hxl gX gC (Off.tup hxg ogl hrvg) (Off.tup hxg ogl hcvg) (Off.tup hxg ogl hptg) (sjl _ _ hs2j) hcore ⟨gL, gM, av, gN, havj.imm (Same.imm sjl)⟩ rfl gNo⟩
  · refine ⟨fun s us ws KX h1 h2 => ?_, fun h1 h2 => L2.Vals.append h1 h2⟩
    obtain ⟨oc, od, kV, doc, pm, an, c, cc, ct, osl, ccl, ccd, ccs, rfl, _⟩ := FS.ex
    match us, ws, h1, h2 with
    | [a, b, c, d], [e, f], _, _ => exact fun M A E Q h => wpAny_of_eq rfl h
end
end K9

/-! ## F31 -/
namespace K9
open PySem PySem.Spec PyProof.Rows L2
/-! Texts of formulas. -/
theorem jn_len (l : List Str) : (jn l).length = (l.map (·.length)).sum := by
  have key : ∀ (l : List Str) (a : Str), (l.foldl (· ++ ·) a).length = a.length + (l.map (·.length)).sum := by
    intro l
    induction l with
    | nil => intro a; simp
    | cons x l ih => intro a; rw [List.foldl_cons, ih, Str.length_append, List.map_cons, List.sum_cons]; omega
  unfold jn
  rw [key]
  show 0 + _ = _
  omega
theorem join_len (sep : Str) (l : List Str) : (Txt.join sep l).length ≤ (l.map (·.length)).sum + l.length * sep.length := by
  unfold Txt.join
  rw [StrLaws.glued_eq_join]
  exact StrLaws.join_length_le sep l
theorem small_dig : ∀ n : Fin 256, (Str.ofString (toString ((n.val : Nat) : Int))).length ≤ 3 ∧ (Str.ofString (toString (-((n.val : Nat) : Int)))).length ≤ 4 := by decide +kernel
theorem dig {i : Int} (h : i.natAbs < 256) : (Str.ofString (toString i)).length ≤ 4 := by
  by_cases h0 : 0 ≤ i
  · have := (small_dig ⟨i.natAbs, h⟩).1
    have e : ((i.natAbs : Nat) : Int) = i := by omega
    simp only [e] at this
    omega
  · have := (small_dig ⟨i.natAbs, h⟩).2
    have e : -((i.natAbs : Nat) : Int) = i := by omega
    simp only [e] at this
    exact this
theorem ratS_len {q : Rat} (h : BdR 8 q) : (ratS q).length ≤ 9 := by
  have h1 := h.1
  have h2 := h.2
  have e8 : (2 : Nat) ^ 8 = 256 := by decide
  rw [e8] at h1 h2
  unfold ratS
  split
  · have := dig h1; omega
  · rw [jn_len]
    have a := dig h1
    have b := dig (i := (q.den : Int)) (by omega)
    simp only [List.map_cons, List.map_nil, List.sum_cons, List.sum_nil]
    have c : (Str.ofString "/").length = 1 := by decide +kernel
    omega
theorem side_len {s : List Str} (h : ∀ z ∈ s, SizeN z) : (s.map (·.length)).sum ≤ 6 * s.length := by
  induction s with
  | nil => simp
  | cons a l ih =>
    have h1 := ih fun z hz => h z (List.mem_cons_of_mem _ hz)
    have h2 := (h a List.mem_cons_self).lt
    rw [List.map_cons, List.sum_cons, List.length_cons]
    omega
theorem commaS_len {s : List Str} (h : ∀ z ∈ s, SizeN z) : (commaS s).length ≤ 8 * s.length := by
  have h1 := join_len ", " s
  have h2 := side_len h
  have h3 : (Str.ofString ", ").length = 2 := by decide +kernel
  rw [h3] at h1
  unfold commaS
  omega
/-- an own method whose promise goes by the class -/
def tMtC (ok : Addr → Prop) (m : Str) (sp : Addr → Sp) (ta : TE) (t : TA) : TE := fun σ H Q => ta σ H fun x H1 => ∃ a C dx fs, x = .ref a ∧ H1 a = some (.ins C dx fs) ∧ ok C ∧ fs.lookup m = none ∧ t σ H1 fun vs H2 => sp C (.ref a :: vs) H2 Q E0
theorem pe_mtC0 {X : Cx} {k j : Nat} {ok : Addr → Prop} {m : Str} {sp : Addr → Sp} {o : Expr} {pos apos : Pos} {ta : TE} {pl : Sem Bool} (c : ∀ C, ok C → Met X.prog X.w X.K X.mg X.base k C m (sp C) []) (hr : Room j X.A) (he : PE X o ta) (hk : k ≤ j := by decide)
    (ht : eval (.Call (.Attribute o m apos) [] [] pos) X.env = (do
      let ov ← eval o X.env
      standAt apos.atName
      let (f, first) ← holding [ov] (getMethod ov m pl)
      callWith pos f first (backTo pos (starEach [] X.env)) (backToKw pos (keywordEach [] X.env))) := by rfl) :
    PE X (.Call (.Attribute o m apos) [] [] pos) (tMtC ok m sp ta tNil) := by
  refine ⟨fun pins s σ H Q I h => ?_⟩
  refine PySem.W.methodCall_KW (pl := pl) (thn (he.run pins s σ H _ I h) fun u s1 ⟨x, H1, I1, rx, a, C, dx, fs, ex, ea, hC, l, q⟩ => ?_) ht
  subst ex
  obtain rfl : u = Value.ref a := rx
  obtain ⟨g, c1, hm, F⟩ := (c C hC).ex
  obtain ⟨fd, ps, ds, F, kp, hb, hd⟩ := F.ex
  refine getmeth_ok I1 ea c1 hm l ?_
  exact PySem.W.callWith_K0 (first := [.ref a]) I1.kIn hm.kp (run_fn (us := [.ref a]) (vs := [.ref a]) F (hr.mono hk) hb hd pass0 I1 (.cons rfl .nil) q)
def spKind (K : PySem.W.Frag) : Sp := fun vs H Q _ => ∃ a C dx fs q, vs = [.ref a] ∧ H a = some (.ins C dx fs) ∧ q ∈ kinds ∧ C = He.ga K q.nm ∧ fs.lookup ("KIND" : Str) = none ∧ Q (.str q.word) H
/-- self.spelling() of an object of the class C -/
def spSpell (K : PySem.W.Frag) (d : Nat) (C : Addr) : Sp := fun vs H Q _ => ∃ v f S, vs = [v] ∧ IsF K H f v ∧ cF K f = C ∧ f.Ok S ∧ f.lv ≤ d ∧ Pure (fun v' _ => v' = .str f.spell) H Q
def spRStr (K : PySem.W.Frag) : Sp := fun vs H Q _ => ∃ v r, vs = [v] ∧ IsR K H v r ∧ BdR 8 r ∧ Q (.str (ratS r)) H
section
variable {P : Program} {w : World} {K : PySem.W.Frag} {mg : Str → Option Value} {base : Heap}
theorem prp_kind (T : Txt K mg) : ∀ C, FC K C → Prp P w K mg base 1 C "kind" (spKind K) := fun C hC => by
  obtain ⟨q, hq, rfl⟩ := hC
  have F := T.fc q hq
  refine prp_of F.pKind (N := ["self"]) (ps := ["self"]) ⟨rfl, rfl, rfl, by decide +kernel, rfl, by decide +kernel, by decide +kernel⟩ (fun _ _ _ _ _ _ us hl => match us, hl with | [_], _ => rfl) (fun vs H Q E h => ?_) (fun f cdv A outer s H vs Q E hr h => ?_)
  · obtain ⟨a, C, dx, fs, v, rfl, _⟩ := h; rfl
  obtain ⟨a, C, dx, fs, q', rfl, ha, hq', rfl, hn, k⟩ := h
  obtain ⟨u, hu⟩ := (T.fc q' hq').kindC
  exact ⟨_, pss_one (ps_ret (pe_con (pv 0) rfl)), _, rfl, a, _, dx, _, _, u, rfl, ha, (T.fc q' hq').num.ni.own.cl, hu, hn, k⟩
theorem opm_rStr (T : Txt K mg) : ∀ C, isRat K C → Opm P w K mg base 3 C "__str__" (spRStr K) := fun C hC => by
  subst hC
  refine (met_of T.rStr (N := ["self"]) (ps := ["self"]) ⟨rfl, rfl, rfl, by decide +kernel, rfl, by decide +kernel, by decide +kernel⟩ (fun _ _ _ _ _ _ us hl => match us, hl with | [_], _ => rfl) (fun vs H Q E h => ?_) (fun f cdv A outer s H vs Q E hr h => ?_)).2
  · obtain ⟨v, r, rfl, _⟩ := h; rfl
  refine ⟨_, pss_cons (ps_if (pt_cmpR op_eq (pe_prp (prpB T) hr (pv 0)) pe_int (nomark _)) (pss_one (ps_ret (pe_joined1 (pe_fmt (pe_prp (prpT T) hr (pv 0)))))) pss_nil)
    (pss_one (ps_ret (pe_joined (PJ.cons (pe_fmt (pe_prp (prpT T) hr (pv 0))) (PJ.cons pe_str (PJ.cons (pe_fmt (pe_prp (prpB T) hr (pv 0))) PJ.nil)))))), ?_⟩
  obtain ⟨v, r, rfl, h, hb, k⟩ := h
  have h1 : r.num.natAbs.log2 < 1920 := log_of (by decide) (Nat.lt_of_lt_of_le hb.1 (Nat.pow_le_pow_right (by decide) (by decide)))
  have h2 : ((r.den : Int)).natAbs.log2 < 1920 := log_of (by decide) (Nat.lt_of_lt_of_le (show ((r.den : Int)).natAbs < 2 ^ 8 by have := hb.2; omega) (Nat.pow_le_pow_right (by decide) (by decide)))
  have e8 : (2 : Nat) ^ 8 = 256 := by decide
  have d1 := dig (i := r.num) (by have := hb.1; omega)
  have d2 := dig (i := (r.den : Int)) (by have := hb.2; omega)
  refine ⟨_, rfl, rd_bottom h ⟨rfl, _, rfl, ?_⟩⟩
  by_cases hd : r.den = 1
  · rw [show decide (V.int (r.den : Int) = V.int 1) = true from decide_eq_true (by rw [hd]; rfl)]
    refine iteT ⟨_, rfl, rd_top h (.inr ⟨_, rfl, h1, ?_⟩)⟩
    have e : ratS r = Str.ofString (toString r.num) := by unfold ratS; rw [if_pos hd]
    rw [e] at k
    exact k
  · rw [decide_eq_false (fun e => hd (by have := V.int.inj e; omega))]
    have e : ratS r = jn [Str.ofString (toString r.num), "/", Str.ofString (toString (r.den : Int))] := by unfold ratS; rw [if_neg hd]
    rw [e] at k
    have big : ∀ {n : Nat}, n ≤ 1000 → n ≤ sizeLine := fun h => Nat.le_trans h thousand_line
    have c1 : (Str.ofString "/").length = 1 := by decide +kernel
    have c0 : Str.empty.length = 0 := by decide +kernel
    refine iteF ⟨_, rfl, rd_top h (.inr ⟨_, rfl, h1, _, rfl, big (by rw [Str.length_append]; omega), _, rfl, big (by rw [Str.length_append, Str.length_append]; omega), _, rfl, rd_bottom h (.inr ⟨_, rfl, h2, _, rfl, big (by rw [Str.length_append, Str.length_append, Str.length_append]; omega), k⟩)⟩)⟩
end
namespace Fm
theorem Ok.sl {S : Sys} : ∀ {f : Fm}, f.Ok S → f.spell.length ≤ f.slen
  | letter l, h => by have := h.1.n.lt; show l.name.length ≤ 6; omega
  | eye s, h => by
    have h1 := commaS_len h.1.all
    show (jn _).length ≤ 5 + 8 * s.length
    rw [jn_len]
    have c1 : (Str.ofString "eye(").length = 4 := by decide +kernel
    have c2 : (Str.ofString ")").length = 1 := by decide +kernel
    simp only [List.map_cons, List.map_nil, List.sum_cons, List.sum_nil]
    omega
  | zero r c, h => by
    have h1 := commaS_len h.1.all
    have h2 := commaS_len h.2.1.all
    show (jn _).length ≤ 8 + 8 * r.length + 8 * c.length
    rw [jn_len]
    have c1 : (Str.ofString "zero(").length = 5 := by decide +kernel
    have c2 : (Str.ofString ")").length = 1 := by decide +kernel
    have c3 : (Str.ofString "; ").length = 2 := by decide +kernel
    simp only [List.map_cons, List.map_nil, List.sum_cons, List.sum_nil]
    omega
  | sum f g, h => by
    have h1 := Ok.sl (f := f) h.1
    have h2 := Ok.sl (f := g) h.2.1
    show (jn _).length ≤ slen f + slen g + 5
    rw [jn_len]
    have c1 : (Str.ofString "(").length = 1 := by decide +kernel
    have c2 : (Str.ofString ")").length = 1 := by decide +kernel
    have c3 : (Str.ofString " + ").length = 3 := by decide +kernel
    simp only [List.map_cons, List.map_nil, List.sum_cons, List.sum_nil]
    omega
  | dif f g, h => by
    have h1 := Ok.sl (f := f) h.1
    have h2 := Ok.sl (f := g) h.2.1
    show (jn _).length ≤ slen f + slen g + 5
    rw [jn_len]
    have c1 : (Str.ofString "(").length = 1 := by decide +kernel
    have c2 : (Str.ofString ")").length = 1 := by decide +kernel
    have c3 : (Str.ofString " - ").length = 3 := by decide +kernel
    simp only [List.map_cons, List.map_nil, List.sum_cons, List.sum_nil]
    omega
  | sca q f, h => by
    have h1 := Ok.sl (f := f) h.1
    have h2 := ratS_len h.2.1
    show (jn _).length ≤ 20 + slen f
    rw [jn_len]
    have c1 : (Str.ofString "(").length = 1 := by decide +kernel
    have c2 : (Str.ofString ")").length = 1 := by decide +kernel
    have c3 : (Str.ofString " * ").length = 3 := by decide +kernel
    simp only [List.map_cons, List.map_nil, List.sum_cons, List.sum_nil]
    omega
  | pro f g, h => by
    have h1 := Ok.sl (f := f) h.1
    have h2 := Ok.sl (f := g) h.2.1
    show (jn _).length ≤ slen f + slen g + 5
    rw [jn_len]
    have c1 : (Str.ofString "(").length = 1 := by decide +kernel
    have c2 : (Str.ofString ")").length = 1 := by decide +kernel
    have c3 : (Str.ofString " * ").length = 3 := by decide +kernel
    simp only [List.map_cons, List.map_nil, List.sum_cons, List.sum_nil]
    omega
  | tra f, h => by
    have h1 := Ok.sl (f := f) h.1
    show (jn _).length ≤ slen f + 1
    rw [jn_len]
    have c1 : (Str.ofString "'").length = 1 := by decide +kernel
    simp only [List.map_cons, List.map_nil, List.sum_cons, List.sum_nil]
    omega
  | inv f, h => by
    have h1 := Ok.sl (f := f) h.1
    show (jn _).length ≤ slen f + 5
    rw [jn_len]
    have c1 : (Str.ofString "inv(").length = 4 := by decide +kernel
    have c2 : (Str.ofString ")").length = 1 := by decide +kernel
    simp only [List.map_cons, List.map_nil, List.sum_cons, List.sum_nil]
    omega
  | pow f e, h => by
    have h1 := Ok.sl (f := f) h.1
    have h2 := dig (i := (e : Int)) (by have := h.2.2.2.1; omega)
    show (jn _).length ≤ slen f + 10
    rw [jn_len]
    have c1 : (Str.ofString "(").length = 1 := by decide +kernel
    have c2 : (Str.ofString ")").length = 1 := by decide +kernel
    have c3 : (Str.ofString " ** ").length = 4 := by decide +kernel
    simp only [List.map_cons, List.map_nil, List.sum_cons, List.sum_nil]
    omega
  | b22 a b c d, h => by
    have h1 := Ok.sl (f := a) h.1
    have h2 := Ok.sl (f := b) h.2.1
    have h3 := Ok.sl (f := c) h.2.2.1
    have h4 := Ok.sl (f := d) h.2.2.2.1
    have j1 := join_len ", " [spell a, spell b]
    have j2 := join_len ", " [spell c, spell d]
    have j3 := join_len "; " [commaS [spell a, spell b], commaS [spell c, spell d]]
    have c1 : (Str.ofString "blocks(").length = 7 := by decide +kernel
    have c2 : (Str.ofString ")").length = 1 := by decide +kernel
    have c3 : (Str.ofString "; ").length = 2 := by decide +kernel
    have c4 : (Str.ofString ", ").length = 2 := by decide +kernel
    show (jn _).length ≤ slen a + slen b + slen c + slen d + 30
    rw [jn_len]
    simp only [List.map_cons, List.map_nil, List.sum_cons, List.sum_nil, List.length_cons, List.length_nil] at *
    unfold commaS semiS at *
    omega
  | b21 a b, h => by
    have h1 := Ok.sl (f := a) h.1
    have h2 := Ok.sl (f := b) h.2.1
    have j1 := join_len ", " [spell a]
    have j2 := join_len ", " [spell b]
    have j3 := join_len "; " [commaS [spell a], commaS [spell b]]
    have c1 : (Str.ofString "blocks(").length = 7 := by decide +kernel
    have c2 : (Str.ofString ")").length = 1 := by decide +kernel
    have c3 : (Str.ofString "; ").length = 2 := by decide +kernel
    have c4 : (Str.ofString ", ").length = 2 := by decide +kernel
    show (jn _).length ≤ slen a + slen b + 30
    rw [jn_len]
    simp only [List.map_cons, List.map_nil, List.sum_cons, List.sum_nil, List.length_cons, List.length_nil] at *
    unfold commaS semiS at *
    omega
  | b12 a b, h => by
    have h1 := Ok.sl (f := a) h.1
    have h2 := Ok.sl (f := b) h.2.1
    have j1 := join_len ", " [spell a, spell b]
    have j3 := join_len "; " [commaS [spell a, spell b]]
    have c1 : (Str.ofString "blocks(").length = 7 := by decide +kernel
    have c2 : (Str.ofString ")").length = 1 := by decide +kernel
    have c3 : (Str.ofString "; ").length = 2 := by decide +kernel
    have c4 : (Str.ofString ", ").length = 2 := by decide +kernel
    show (jn _).length ≤ slen a + slen b + 30
    rw [jn_len]
    simp only [List.map_cons, List.map_nil, List.sum_cons, List.sum_nil, List.length_cons, List.length_nil] at *
    unfold commaS semiS at *
    omega
  | cor f i j, h => by
    have h1 := Ok.sl (f := f) h.1
    have l1 := (Ok.lim (f := f) h.1).r
    have l2 := (Ok.lim (f := f) h.1).c
    have d1 := dig (i := (i : Int)) (by have := h.2.1; omega)
    have d2 := dig (i := (j : Int)) (by have := h.2.2.1; omega)
    have c1 : (Str.ofString "[").length = 1 := by decide +kernel
    have c2 : (Str.ofString "]").length = 1 := by decide +kernel
    have c3 : (Str.ofString ", ").length = 2 := by decide +kernel
    show (jn _).length ≤ slen f + 20
    rw [jn_len]
    simp only [List.map_cons, List.map_nil, List.sum_cons, List.sum_nil]
    omega
end Fm
end K9

/-! ## F32 -/
namespace K9
open PySem PySem.Spec PyProof.Rows L2
/-! The texts, told by the objects. -/
theorem Fm.lv_pos (f : Fm) : 0 < f.lv := by cases f <;> simp only [Fm.lv] <;> omega
theorem rd_spell {K : PySem.W.Frag} {H : Hp} {p : V} {g : Fm} {d : Nat} {S : Sys} {Q : VK} (hg : IsF K H g p) (ok : g.Ok S) (hl : g.lv ≤ d) (q : ∀ H', Same H H' → Q (.str g.spell) H') : ∃ a C dx fs, p = .ref a ∧ H a = some (.ins C dx fs) ∧ FC K C ∧ fs.lookup ("spelling" : Str) = none ∧ spSpell K d C [.ref a] H Q E0 := by
  obtain ⟨ps, ⟨a, lv, ls, rfl, ⟨dx, fs, rv, cv, pt, st, core, o⟩, _⟩, _⟩ := hg.node
  exact ⟨a, _, dx, fs, rfl, o.at_, fc_of K g, o.no.1, _, g, S, rfl, hg, rfl, ok, hl, fun v H' s e => by rw [e]; exact q H' s⟩
section
variable {P : Program} {w : World} {K : PySem.W.Frag} {mg : Str → Option Value} {base : Heap}
abbrev SpAll (P : Program) (w : World) (K : PySem.W.Frag) (mg : Str → Option Value) (base : Heap) (d : Nat) : Prop := ∀ C, FC K C → Met P w K mg base (6 + d) C "spelling" (spSpell K d C) []
theorem kd_of (T : Txt K mg) {f g : Fm} (h : cF K f = cF K g) : f.kd = g.kd := T.fcIs f.kd f.kd_mem g.kd g.kd_mem h
theorem spell_Sum (T : Txt K mg) {d : Nat} (ih : SpAll P w K mg base d) : Met P w K mg base (6 + (d + 1)) (He.ga K "Sum") "spelling" (spSpell K (d + 1) (He.ga K "Sum")) [] := by
  have F := T.fc (Fm.sum default default).kd (Fm.kd_mem _)
  refine (met_of (k := 6 + d) F.spelling (N := ["self"]) (ps := ["self"]) ⟨rfl, rfl, rfl, by decide +kernel, rfl, by decide +kernel, by decide +kernel⟩ (fun _ _ _ _ _ _ us hl => match us, hl with | [_], _ => rfl) (fun vs H Q E h => ?_) (fun f cdv A outer s H vs Q E hr h => ?_)).1
  · obtain ⟨v, f, S, rfl, _⟩ := h; rfl
  have hr5 : Room 5 (A.deeper (envOfC _ _ s.heap.objs.size f cdv)) := hr.mono (by omega)
  refine ⟨_, (pss_one (ps_ret (pe_joined (PJ.cons pe_str (PJ.cons (pe_fmt (pe_mtC0 ih hr (pe_ix (ixT9 K) (pe_fld (pv 0) rfl) pe_int (fun _ _ => rfl)) (Nat.le_refl _))) (PJ.cons pe_str (PJ.cons (pe_fmt (pe_mtC0 ih hr (pe_ix (ixT9 K) (pe_fld (pv 0) rfl) pe_int (fun _ _ => rfl)) (Nat.le_refl _))) (PJ.cons pe_str PJ.nil)))))))), ?_⟩
  obtain ⟨v, f0, S, rfl, hF, hC, ok, hl, k⟩ := h
  have hk := kd_of T (g := Fm.sum default default) hC
  have big : ∀ {n : Nat}, n ≤ 110000 → n ≤ sizeLine := fun h => Nat.le_trans h (by rw [sizeLine_eq]; decide)
  have c0 : Str.empty.length = 0 := by decide +kernel
  have len := ok.sl
  have lim := ok.lim.s
  obtain ⟨g, h, rfl⟩ : ∃ g h, f0 = .sum g h := by
    cases f0 with
    | sum g h => exact ⟨g, h, rfl⟩
    | _ => (have h2 := congrArg KindI.i hk; revert h2; simp [Fm.kd])
  obtain ⟨p, q, nn, hg, hh⟩ := hF
  obtain ⟨a, lv, ls, rfl, ⟨dx, fs, rv, cv, pt, st, core, o⟩, _⟩ := nn
  have lg := ok.1.sl
  have lh := ok.2.1.sl
  have l2 : g.slen + h.slen + 5 ≤ 100000 := lim
  have m1 : g.lv ≤ d ∧ h.lv ≤ d := by have : 1 + max g.lv h.lv ≤ d + 1 := hl; omega
  have cl := F.num.ni.own.cl
  have na := F.na "made_of" (by decide +kernel)
  have k0 : (Str.ofString "(").length = 1 := by decide +kernel
  have k1 : (Str.ofString " + ").length = 3 := by decide +kernel
  have k2 : (Str.ofString ")").length = 1 := by decide +kernel
  refine ⟨_, rfl, big (by simp only [Str.length_append]; omega), ?_⟩
  refine ⟨_, rfl, a, _, dx, fs, _, rfl, o.at_, cl, na, o.fld.p, pt, _, 0, p, rfl, rfl, SqT.of o.p, rfl, rd_spell hg ok.1 m1.1 fun H1 s1 => .inl ⟨_, rfl, big (by omega), _, rfl, big (by simp only [Str.length_append]; omega), ?_⟩⟩
  refine ⟨_, rfl, big (by simp only [Str.length_append]; omega), ?_⟩
  refine ⟨_, rfl, a, _, dx, fs, _, rfl, s1 _ _ o.at_, cl, na, o.fld.p, pt, _, 1, q, rfl, rfl, SqT.of (s1 _ _ o.p), rfl, rd_spell (hh.imm (Same.imm s1)) ok.2.1 m1.2 fun H2 s2 => .inl ⟨_, rfl, big (by omega), _, rfl, big (by simp only [Str.length_append]; omega), ?_⟩⟩
  exact ⟨_, rfl, big (by simp only [Str.length_append]; omega), k _ _ (Same.trans s1 s2) rfl⟩
theorem spell_Difference (T : Txt K mg) {d : Nat} (ih : SpAll P w K mg base d) : Met P w K mg base (6 + (d + 1)) (He.ga K "Difference") "spelling" (spSpell K (d + 1) (He.ga K "Difference")) [] := by
  have F := T.fc (Fm.dif default default).kd (Fm.kd_mem _)
  refine (met_of (k := 6 + d) F.spelling (N := ["self"]) (ps := ["self"]) ⟨rfl, rfl, rfl, by decide +kernel, rfl, by decide +kernel, by decide +kernel⟩ (fun _ _ _ _ _ _ us hl => match us, hl with | [_], _ => rfl) (fun vs H Q E h => ?_) (fun f cdv A outer s H vs Q E hr h => ?_)).1
  · obtain ⟨v, f, S, rfl, _⟩ := h; rfl
  have hr5 : Room 5 (A.deeper (envOfC _ _ s.heap.objs.size f cdv)) := hr.mono (by omega)
  refine ⟨_, (pss_one (ps_ret (pe_joined (PJ.cons pe_str (PJ.cons (pe_fmt (pe_mtC0 ih hr (pe_ix (ixT9 K) (pe_fld (pv 0) rfl) pe_int (fun _ _ => rfl)) (Nat.le_refl _))) (PJ.cons pe_str (PJ.cons (pe_fmt (pe_mtC0 ih hr (pe_ix (ixT9 K) (pe_fld (pv 0) rfl) pe_int (fun _ _ => rfl)) (Nat.le_refl _))) (PJ.cons pe_str PJ.nil)))))))), ?_⟩
  obtain ⟨v, f0, S, rfl, hF, hC, ok, hl, k⟩ := h
  have hk := kd_of T (g := Fm.dif default default) hC
  have big : ∀ {n : Nat}, n ≤ 110000 → n ≤ sizeLine := fun h => Nat.le_trans h (by rw [sizeLine_eq]; decide)
  have c0 : Str.empty.length = 0 := by decide +kernel
  have len := ok.sl
  have lim := ok.lim.s
  obtain ⟨g, h, rfl⟩ : ∃ g h, f0 = .dif g h := by
    cases f0 with
    | dif g h => exact ⟨g, h, rfl⟩
    | _ => (have h2 := congrArg KindI.i hk; revert h2; simp [Fm.kd])
  obtain ⟨p, q, nn, hg, hh⟩ := hF
  obtain ⟨a, lv, ls, rfl, ⟨dx, fs, rv, cv, pt, st, core, o⟩, _⟩ := nn
  have lg := ok.1.sl
  have lh := ok.2.1.sl
  have l2 : g.slen + h.slen + 5 ≤ 100000 := lim
  have m1 : g.lv ≤ d ∧ h.lv ≤ d := by have : 1 + max g.lv h.lv ≤ d + 1 := hl; omega
  have cl := F.num.ni.own.cl
  have na := F.na "made_of" (by decide +kernel)
  have k0 : (Str.ofString "(").length = 1 := by decide +kernel
  have k1 : (Str.ofString " - ").length = 3 := by decide +kernel
  have k2 : (Str.ofString ")").length = 1 := by decide +kernel
  refine ⟨_, rfl, big (by simp only [Str.length_append]; omega), ?_⟩
  refine ⟨_, rfl, a, _, dx, fs, _, rfl, o.at_, cl, na, o.fld.p, pt, _, 0, p, rfl, rfl, SqT.of o.p, rfl, rd_spell hg ok.1 m1.1 fun H1 s1 => .inl ⟨_, rfl, big (by omega), _, rfl, big (by simp only [Str.length_append]; omega), ?_⟩⟩
  refine ⟨_, rfl, big (by simp only [Str.length_append]; omega), ?_⟩
  refine ⟨_, rfl, a, _, dx, fs, _, rfl, s1 _ _ o.at_, cl, na, o.fld.p, pt, _, 1, q, rfl, rfl, SqT.of (s1 _ _ o.p), rfl, rd_spell (hh.imm (Same.imm s1)) ok.2.1 m1.2 fun H2 s2 => .inl ⟨_, rfl, big (by omega), _, rfl, big (by simp only [Str.length_append]; omega), ?_⟩⟩
  exact ⟨_, rfl, big (by simp only [Str.length_append]; omega), k _ _ (Same.trans s1 s2) rfl⟩
theorem spell_Product (T : Txt K mg) {d : Nat} (ih : SpAll P w K mg base d) : Met P w K mg base (6 + (d + 1)) (He.ga K "Product") "spelling" (spSpell K (d + 1) (He.ga K "Product")) [] := by
  have F := T.fc (Fm.pro default default).kd (Fm.kd_mem _)
  refine (met_of (k := 6 + d) F.spelling (N := ["self"]) (ps := ["self"]) ⟨rfl, rfl, rfl, by decide +kernel, rfl, by decide +kernel, by decide +kernel⟩ (fun _ _ _ _ _ _ us hl => match us, hl with | [_], _ => rfl) (fun vs H Q E h => ?_) (fun f cdv A outer s H vs Q E hr h => ?_)).1
  · obtain ⟨v, f, S, rfl, _⟩ := h; rfl
  have hr5 : Room 5 (A.deeper (envOfC _ _ s.heap.objs.size f cdv)) := hr.mono (by omega)
  refine ⟨_, (pss_one (ps_ret (pe_joined (PJ.cons pe_str (PJ.cons (pe_fmt (pe_mtC0 ih hr (pe_ix (ixT9 K) (pe_fld (pv 0) rfl) pe_int (fun _ _ => rfl)) (Nat.le_refl _))) (PJ.cons pe_str (PJ.cons (pe_fmt (pe_mtC0 ih hr (pe_ix (ixT9 K) (pe_fld (pv 0) rfl) pe_int (fun _ _ => rfl)) (Nat.le_refl _))) (PJ.cons pe_str PJ.nil)))))))), ?_⟩
  obtain ⟨v, f0, S, rfl, hF, hC, ok, hl, k⟩ := h
  have hk := kd_of T (g := Fm.pro default default) hC
  have big : ∀ {n : Nat}, n ≤ 110000 → n ≤ sizeLine := fun h => Nat.le_trans h (by rw [sizeLine_eq]; decide)
  have c0 : Str.empty.length = 0 := by decide +kernel
  have len := ok.sl
  have lim := ok.lim.s
  obtain ⟨g, h, rfl⟩ : ∃ g h, f0 = .pro g h := by
    cases f0 with
    | pro g h => exact ⟨g, h, rfl⟩
    | _ => (have h2 := congrArg KindI.i hk; revert h2; simp [Fm.kd])
  obtain ⟨p, q, nn, hg, hh⟩ := hF
  obtain ⟨a, lv, ls, rfl, ⟨dx, fs, rv, cv, pt, st, core, o⟩, _⟩ := nn
  have lg := ok.1.sl
  have lh := ok.2.1.sl
  have l2 : g.slen + h.slen + 5 ≤ 100000 := lim
  have m1 : g.lv ≤ d ∧ h.lv ≤ d := by have : 1 + max g.lv h.lv ≤ d + 1 := hl; omega
  have cl := F.num.ni.own.cl
  have na := F.na "made_of" (by decide +kernel)
  have k0 : (Str.ofString "(").length = 1 := by decide +kernel
  have k1 : (Str.ofString " * ").length = 3 := by decide +kernel
  have k2 : (Str.ofString ")").length = 1 := by decide +kernel
  refine ⟨_, rfl, big (by simp only [Str.length_append]; omega), ?_⟩
  refine ⟨_, rfl, a, _, dx, fs, _, rfl, o.at_, cl, na, o.fld.p, pt, _, 0, p, rfl, rfl, SqT.of o.p, rfl, rd_spell hg ok.1 m1.1 fun H1 s1 => .inl ⟨_, rfl, big (by omega), _, rfl, big (by simp only [Str.length_append]; omega), ?_⟩⟩
  refine ⟨_, rfl, big (by simp only [Str.length_append]; omega), ?_⟩
  refine ⟨_, rfl, a, _, dx, fs, _, rfl, s1 _ _ o.at_, cl, na, o.fld.p, pt, _, 1, q, rfl, rfl, SqT.of (s1 _ _ o.p), rfl, rd_spell (hh.imm (Same.imm s1)) ok.2.1 m1.2 fun H2 s2 => .inl ⟨_, rfl, big (by omega), _, rfl, big (by simp only [Str.length_append]; omega), ?_⟩⟩
  exact ⟨_, rfl, big (by simp only [Str.length_append]; omega), k _ _ (Same.trans s1 s2) rfl⟩
theorem spell_Transposed (T : Txt K mg) {d : Nat} (ih : SpAll P w K mg base d) : Met P w K mg base (6 + (d + 1)) (He.ga K "Transposed") "spelling" (spSpell K (d + 1) (He.ga K "Transposed")) [] := by
  have F := T.fc (Fm.tra default).kd (Fm.kd_mem _)
  refine (met_of (k := 6 + d) F.spelling (N := ["self"]) (ps := ["self"]) ⟨rfl, rfl, rfl, by decide +kernel, rfl, by decide +kernel, by decide +kernel⟩ (fun _ _ _ _ _ _ us hl => match us, hl with | [_], _ => rfl) (fun vs H Q E h => ?_) (fun f cdv A outer s H vs Q E hr h => ?_)).1
  · obtain ⟨v, f, S, rfl, _⟩ := h; rfl
  have hr5 : Room 5 (A.deeper (envOfC _ _ s.heap.objs.size f cdv)) := hr.mono (by omega)
  refine ⟨_, (pss_one (ps_ret (pe_joined (PJ.cons (pe_fmt (pe_mtC0 ih hr (pe_ix (ixT9 K) (pe_fld (pv 0) rfl) pe_int (fun _ _ => rfl)) (Nat.le_refl _))) (PJ.cons pe_str PJ.nil))))), ?_⟩
  obtain ⟨v, f0, S, rfl, hF, hC, ok, hl, k⟩ := h
  have hk := kd_of T (g := Fm.tra default) hC
  have big : ∀ {n : Nat}, n ≤ 110000 → n ≤ sizeLine := fun h => Nat.le_trans h (by rw [sizeLine_eq]; decide)
  have c0 : Str.empty.length = 0 := by decide +kernel
  have len := ok.sl
  have lim := ok.lim.s
  obtain ⟨g, rfl⟩ : ∃ g, f0 = .tra g := by
    cases f0 with
    | tra g => exact ⟨g, rfl⟩
    | _ => (have h2 := congrArg KindI.i hk; revert h2; simp [Fm.kd])
  obtain ⟨p, nn, hg⟩ := hF
  obtain ⟨a, lv, ls, rfl, ⟨dx, fs, rv, cv, pt, st, core, o⟩, _⟩ := nn
  have lg := ok.1.sl
  have m1 : g.lv ≤ d := by have : 1 + g.lv ≤ d + 1 := hl; omega
  have cl := F.num.ni.own.cl
  have na := F.na "made_of" (by decide +kernel)
  have k0 : (Str.ofString "'").length = 1 := by decide +kernel
  have l2 : g.slen + 1 ≤ 100000 := lim
  refine ⟨_, rfl, a, _, dx, fs, _, rfl, o.at_, cl, na, o.fld.p, pt, _, 0, p, rfl, rfl, SqT.of o.p, rfl, rd_spell hg ok.1 m1 fun H1 s1 => .inl ⟨_, rfl, big (by omega), _, rfl, big (by simp only [Str.length_append]; omega), ?_⟩⟩
  exact ⟨_, rfl, big (by simp only [Str.length_append]; omega), k _ _ s1 rfl⟩
theorem spell_Inverse (T : Txt K mg) {d : Nat} (ih : SpAll P w K mg base d) : Met P w K mg base (6 + (d + 1)) (He.ga K "Inverse") "spelling" (spSpell K (d + 1) (He.ga K "Inverse")) [] := by
  have F := T.fc (Fm.inv default).kd (Fm.kd_mem _)
  refine (met_of (k := 6 + d) F.spelling (N := ["self"]) (ps := ["self"]) ⟨rfl, rfl, rfl, by decide +kernel, rfl, by decide +kernel, by decide +kernel⟩ (fun _ _ _ _ _ _ us hl => match us, hl with | [_], _ => rfl) (fun vs H Q E h => ?_) (fun f cdv A outer s H vs Q E hr h => ?_)).1
  · obtain ⟨v, f, S, rfl, _⟩ := h; rfl
  have hr5 : Room 5 (A.deeper (envOfC _ _ s.heap.objs.size f cdv)) := hr.mono (by omega)
  refine ⟨_, (pss_one (ps_ret (pe_joined (PJ.cons pe_str (PJ.cons (pe_fmt (pe_mtC0 ih hr (pe_ix (ixT9 K) (pe_fld (pv 0) rfl) pe_int (fun _ _ => rfl)) (Nat.le_refl _))) (PJ.cons pe_str PJ.nil)))))), ?_⟩
  obtain ⟨v, f0, S, rfl, hF, hC, ok, hl, k⟩ := h
  have hk := kd_of T (g := Fm.inv default) hC
  have big : ∀ {n : Nat}, n ≤ 110000 → n ≤ sizeLine := fun h => Nat.le_trans h (by rw [sizeLine_eq]; decide)
  have c0 : Str.empty.length = 0 := by decide +kernel
  have len := ok.sl
  have lim := ok.lim.s
  obtain ⟨g, rfl⟩ : ∃ g, f0 = .inv g := by
    cases f0 with
    | inv g => exact ⟨g, rfl⟩
    | _ => (have h2 := congrArg KindI.i hk; revert h2; simp [Fm.kd])
  obtain ⟨p, nn, hg⟩ := hF
  obtain ⟨a, lv, ls, rfl, ⟨dx, fs, rv, cv, pt, st, core, o⟩, _⟩ := nn
  have lg := ok.1.sl
  have m1 : g.lv ≤ d := by have : 1 + g.lv ≤ d + 1 := hl; omega
  have cl := F.num.ni.own.cl
  have na := F.na "made_of" (by decide +kernel)
  have k0 : (Str.ofString "inv(").length = 4 := by decide +kernel
  have k1 : (Str.ofString ")").length = 1 := by decide +kernel
  have l2 : g.slen + 5 ≤ 100000 := lim
  refine ⟨_, rfl, big (by simp only [Str.length_append]; omega), ?_⟩
  refine ⟨_, rfl, a, _, dx, fs, _, rfl, o.at_, cl, na, o.fld.p, pt, _, 0, p, rfl, rfl, SqT.of o.p, rfl, rd_spell hg ok.1 m1 fun H1 s1 => .inl ⟨_, rfl, big (by omega), _, rfl, big (by simp only [Str.length_append]; omega), ?_⟩⟩
  exact ⟨_, rfl, big (by simp only [Str.length_append]; omega), k _ _ s1 rfl⟩
theorem spell_Power (T : Txt K mg) {d : Nat} (ih : SpAll P w K mg base d) : Met P w K mg base (6 + (d + 1)) (He.ga K "Power") "spelling" (spSpell K (d + 1) (He.ga K "Power")) [] := by
  have F := T.fc (Fm.pow default 0).kd (Fm.kd_mem _)
  refine (met_of (k := 6 + d) F.spelling (N := ["self"]) (ps := ["self"]) ⟨rfl, rfl, rfl, by decide +kernel, rfl, by decide +kernel, by decide +kernel⟩ (fun _ _ _ _ _ _ us hl => match us, hl with | [_], _ => rfl) (fun vs H Q E h => ?_) (fun f cdv A outer s H vs Q E hr h => ?_)).1
  · obtain ⟨v, f, S, rfl, _⟩ := h; rfl
  have hr5 : Room 5 (A.deeper (envOfC _ _ s.heap.objs.size f cdv)) := hr.mono (by omega)
  refine ⟨_, (pss_one (ps_ret (pe_joined (PJ.cons pe_str (PJ.cons (pe_fmt (pe_mtC0 ih hr (pe_ix (ixT9 K) (pe_fld (pv 0) rfl) pe_int (fun _ _ => rfl)) (Nat.le_refl _))) (PJ.cons pe_str (PJ.cons (pe_fmt (pe_fld (pv 0) rfl)) (PJ.cons pe_str PJ.nil)))))))), ?_⟩
  obtain ⟨v, f0, S, rfl, hF, hC, ok, hl, k⟩ := h
  have hk := kd_of T (g := Fm.pow default 0) hC
  have big : ∀ {n : Nat}, n ≤ 110000 → n ≤ sizeLine := fun h => Nat.le_trans h (by rw [sizeLine_eq]; decide)
  have c0 : Str.empty.length = 0 := by decide +kernel
  have len := ok.sl
  have lim := ok.lim.s
  obtain ⟨g, e, rfl⟩ : ∃ g e, f0 = .pow g e := by
    cases f0 with
    | pow g e => exact ⟨g, e, rfl⟩
    | _ => (have h2 := congrArg KindI.i hk; revert h2; simp [Fm.kd])
  obtain ⟨p, nn, hg⟩ := hF
  obtain ⟨a, lv, ls, rfl, ⟨dx, fs, rv, cv, pt, st, core, o⟩, _⟩ := nn
  have lg := ok.1.sl
  have m1 : g.lv ≤ d := by have : 1 + g.lv ≤ d + 1 := hl; omega
  have cl := F.num.ni.own.cl
  have na := F.na "made_of" (by decide +kernel)
  have k0 : (Str.ofString "(").length = 1 := by decide +kernel
  have k1 : (Str.ofString " ** ").length = 4 := by decide +kernel
  have k2 : (Str.ofString ")").length = 1 := by decide +kernel
  have l2 : g.slen + 10 ≤ 100000 := lim
  have nao := F.na "order" (by decide +kernel)
  have e9 := ok.2.2.2.1
  have dg := dig (i := (e : Int)) (by omega)
  have e4 : (2 : Nat) ^ 4 = 16 := by decide
  have l10 : ((e : Int)).natAbs.log2 < 1920 := Nat.lt_of_lt_of_le (log_of (k := 4) (by decide) (by omega)) (by decide)
  refine ⟨_, rfl, big (by simp only [Str.length_append]; omega), ?_⟩
  refine ⟨_, rfl, a, _, dx, fs, _, rfl, o.at_, cl, na, o.fld.p, pt, _, 0, p, rfl, rfl, SqT.of o.p, rfl, rd_spell hg ok.1 m1 fun H1 s1 => .inl ⟨_, rfl, big (by omega), _, rfl, big (by simp only [Str.length_append]; omega), ?_⟩⟩
  refine ⟨_, rfl, big (by simp only [Str.length_append]; omega), ?_⟩
  refine ⟨_, rfl, a, _, dx, fs, _, rfl, s1 _ _ o.at_, cl, nao, o.x, .inr ⟨_, rfl, l10, _, rfl, big (by simp only [Str.length_append]; omega), ?_⟩⟩
  exact ⟨_, rfl, big (by simp only [Str.length_append]; omega), k _ _ s1 rfl⟩
theorem spell_Corner (T : Txt K mg) {d : Nat} (ih : SpAll P w K mg base d) : Met P w K mg base (6 + (d + 1)) (He.ga K "Corner") "spelling" (spSpell K (d + 1) (He.ga K "Corner")) [] := by
  have F := T.fc (Fm.cor default 0 0).kd (Fm.kd_mem _)
  refine (met_of (k := 6 + d) F.spelling (N := ["self"]) (ps := ["self"]) ⟨rfl, rfl, rfl, by decide +kernel, rfl, by decide +kernel, by decide +kernel⟩ (fun _ _ _ _ _ _ us hl => match us, hl with | [_], _ => rfl) (fun vs H Q E h => ?_) (fun f cdv A outer s H vs Q E hr h => ?_)).1
  · obtain ⟨v, f, S, rfl, _⟩ := h; rfl
  have hr5 : Room 5 (A.deeper (envOfC _ _ s.heap.objs.size f cdv)) := hr.mono (by omega)
  refine ⟨_, (pss_one (ps_ret (pe_joined (PJ.cons (pe_fmt (pe_mtC0 ih hr (pe_ix (ixT9 K) (pe_fld (pv 0) rfl) pe_int (fun _ _ => rfl)) (Nat.le_refl _))) (PJ.cons pe_str (PJ.cons (pe_fmt (pe_ix (ixT9 K) (pe_fld (pv 0) rfl) pe_int (fun _ _ => rfl))) (PJ.cons pe_str (PJ.cons (pe_fmt (pe_ix (ixT9 K) (pe_fld (pv 0) rfl) pe_int (fun _ _ => rfl))) (PJ.cons pe_str PJ.nil))))))))), ?_⟩
  obtain ⟨v, f0, S, rfl, hF, hC, ok, hl, k⟩ := h
  have hk := kd_of T (g := Fm.cor default 0 0) hC
  have big : ∀ {n : Nat}, n ≤ 110000 → n ≤ sizeLine := fun h => Nat.le_trans h (by rw [sizeLine_eq]; decide)
  have c0 : Str.empty.length = 0 := by decide +kernel
  have len := ok.sl
  have lim := ok.lim.s
  obtain ⟨g, i, j, rfl⟩ : ∃ g i j, f0 = .cor g i j := by
    cases f0 with
    | cor g i j => exact ⟨g, i, j, rfl⟩
    | _ => (have h2 := congrArg KindI.i hk; revert h2; simp [Fm.kd])
  obtain ⟨p, nn, hg⟩ := hF
  obtain ⟨a, lv, ls, rfl, ⟨dx, fs, rv, cv, pt, st, core, o⟩, _⟩ := nn
  have lg := ok.1.sl
  have m1 : g.lv ≤ d := by have : 1 + g.lv ≤ d + 1 := hl; omega
  have cl := F.num.ni.own.cl
  have na := F.na "made_of" (by decide +kernel)
  have k0 : (Str.ofString "[").length = 1 := by decide +kernel
  have k1 : (Str.ofString ", ").length = 2 := by decide +kernel
  have k2 : (Str.ofString "]").length = 1 := by decide +kernel
  have l2 : g.slen + 20 ≤ 100000 := lim
  have nas := F.na "spot" (by decide +kernel)
  have i16 : i < 16 := Nat.lt_of_lt_of_le ok.2.1 ok.1.lim.r
  have j16 : j < 16 := Nat.lt_of_lt_of_le ok.2.2.1 ok.1.lim.c
  have di := dig (i := (i : Int)) (by omega)
  have dj := dig (i := (j : Int)) (by omega)
  have e4 : (2 : Nat) ^ 4 = 16 := by decide
  have lgi : ((i : Int)).natAbs.log2 < 1920 := Nat.lt_of_lt_of_le (log_of (k := 4) (by decide) (by omega)) (by decide)
  have lgj : ((j : Int)).natAbs.log2 < 1920 := Nat.lt_of_lt_of_le (log_of (k := 4) (by decide) (by omega)) (by decide)
  obtain ⟨tsp, hsp, htsp⟩ := o.x
  refine ⟨_, rfl, a, _, dx, fs, _, rfl, o.at_, cl, na, o.fld.p, pt, _, 0, p, rfl, rfl, SqT.of o.p, rfl, rd_spell hg ok.1 m1 fun H1 s1 => .inl ⟨_, rfl, big (by omega), _, rfl, big (by simp only [Str.length_append]; omega), ?_⟩⟩
  refine ⟨_, rfl, big (by simp only [Str.length_append]; omega), ?_⟩
  refine ⟨_, rfl, a, _, dx, fs, _, rfl, s1 _ _ o.at_, cl, nas, hsp, tsp, _, 0, .int i, rfl, rfl, SqT.of (s1 _ _ htsp), rfl, .inr ⟨_, rfl, lgi, _, rfl, big (by simp only [Str.length_append]; omega), ?_⟩⟩
  refine ⟨_, rfl, big (by simp only [Str.length_append]; omega), ?_⟩
  refine ⟨_, rfl, a, _, dx, fs, _, rfl, s1 _ _ o.at_, cl, nas, hsp, tsp, _, 1, .int j, rfl, rfl, SqT.of (s1 _ _ htsp), rfl, .inr ⟨_, rfl, lgj, _, rfl, big (by simp only [Str.length_append]; omega), ?_⟩⟩
  exact ⟨_, rfl, big (by simp only [Str.length_append]; omega), k _ _ s1 rfl⟩
end
end K9

/-! ## F33 -/
namespace K9
open PySem PySem.Spec PyProof.Rows L2
/-! The texts of letters, identities, zeros, multiples, blocks. -/
section
variable {P : Program} {w : World} {K : PySem.W.Frag} {mg : Str → Option Value} {base : Heap}
theorem spell_Letter (T : Txt K mg) {d : Nat} (ih : SpAll P w K mg base d) : Met P w K mg base (6 + (d + 1)) (He.ga K "Letter") "spelling" (spSpell K (d + 1) (He.ga K "Letter")) [] := by
  have F := T.fc (Fm.letter ⟨default, default, default, default, 0⟩).kd (Fm.kd_mem _)
  refine (met_of (k := 6 + d) F.spelling (N := ["self"]) (ps := ["self"]) ⟨rfl, rfl, rfl, by decide +kernel, rfl, by decide +kernel, by decide +kernel⟩ (fun _ _ _ _ _ _ us hl => match us, hl with | [_], _ => rfl) (fun vs H Q E h => ?_) (fun f cdv A outer s H vs Q E hr h => ?_)).1
  · obtain ⟨v, f, S, rfl, _⟩ := h; rfl
  have hr5 : Room 5 (A.deeper (envOfC _ _ s.heap.objs.size f cdv)) := hr.mono (by omega)
  refine ⟨_, pss_one (ps_ret (pe_fld (pv 0) rfl)), ?_⟩
  obtain ⟨v, f0, S, rfl, hF, hC, ok, hl, k⟩ := h
  have hk := kd_of T (g := Fm.letter ⟨default, default, default, default, 0⟩) hC
  have big : ∀ {n : Nat}, n ≤ 110000 → n ≤ sizeLine := fun h => Nat.le_trans h (by rw [sizeLine_eq]; decide)
  have c0 : Str.empty.length = 0 := by decide +kernel
  have len := ok.sl
  have lim := ok.lim.s
  obtain ⟨l, rfl⟩ : ∃ l, f0 = .letter l := by
    cases f0 with
    | letter l => exact ⟨l, rfl⟩
    | _ => (have h2 := congrArg KindI.i hk; revert h2; simp [Fm.kd])
  obtain ⟨a, rfl, ⟨dx, fs, rv, cv, pt, st, core, o⟩⟩ := hF
  exact ⟨_, rfl, a, _, dx, fs, _, rfl, o.at_, F.num.ni.own.cl, F.na "label" (by decide +kernel), o.x.1, k _ _ (Same.refl _) rfl⟩
theorem spell_Eye (T : Txt K mg) {d : Nat} (ih : SpAll P w K mg base d) : Met P w K mg base (6 + (d + 1)) (He.ga K "Eye") "spelling" (spSpell K (d + 1) (He.ga K "Eye")) [] := by
  have F := T.fc (Fm.eye default).kd (Fm.kd_mem _)
  refine (met_of (k := 6 + d) F.spelling (N := ["self"]) (ps := ["self"]) ⟨rfl, rfl, rfl, by decide +kernel, rfl, by decide +kernel, by decide +kernel⟩ (fun _ _ _ _ _ _ us hl => match us, hl with | [_], _ => rfl) (fun vs H Q E h => ?_) (fun f cdv A outer s H vs Q E hr h => ?_)).1
  · obtain ⟨v, f, S, rfl, _⟩ := h; rfl
  have hr5 : Room 5 (A.deeper (envOfC _ _ s.heap.objs.size f cdv)) := hr.mono (by omega)
  refine ⟨_, (pss_one (ps_ret (pe_joined (PJ.cons pe_str (PJ.cons (pe_fmt (pe_c (cal_spelled_side T) hr5 (pa_cons (pe_prp (prp_rows T) hr5 (pv 0)) pa_nil))) (PJ.cons pe_str PJ.nil)))))), ?_⟩
  obtain ⟨v, f0, S, rfl, hF, hC, ok, hl, k⟩ := h
  have hk := kd_of T (g := Fm.eye default) hC
  have big : ∀ {n : Nat}, n ≤ 110000 → n ≤ sizeLine := fun h => Nat.le_trans h (by rw [sizeLine_eq]; decide)
  have c0 : Str.empty.length = 0 := by decide +kernel
  have len := ok.sl
  have lim := ok.lim.s
  obtain ⟨z, rfl⟩ : ∃ z, f0 = .eye z := by
    cases f0 with
    | eye z => exact ⟨z, rfl⟩
    | _ => (have h2 := congrArg KindI.i hk; revert h2; simp [Fm.kd])
  obtain ⟨a, lv, ls, rfl, ⟨dx, fs, rv, cv, pt, st, core, o⟩, _⟩ := hF
  have lc := commaS_len ok.1.all
  have ls1 := side_len ok.1.all
  have l2 : 5 + 8 * z.length ≤ 100000 := lim
  have k0 : (Str.ofString "eye(").length = 4 := by decide +kernel
  have k1 : (Str.ofString ")").length = 1 := by decide +kernel
  refine ⟨_, rfl, big (by simp only [Str.length_append]; omega), ?_⟩
  refine ⟨_, rfl, rd_get o.at_ (fc_of K (.eye z)) o.fld.r ⟨_, z, rfl, ⟨rv, rfl, o.r⟩, by omega, .inl ⟨_, rfl, big (by omega), _, rfl, big (by simp only [Str.length_append]; omega), ?_⟩⟩⟩
  exact ⟨_, rfl, big (by simp only [Str.length_append]; omega), k _ _ (Same.refl _) rfl⟩
theorem spell_Zero (T : Txt K mg) {d : Nat} (ih : SpAll P w K mg base d) : Met P w K mg base (6 + (d + 1)) (He.ga K "Zero") "spelling" (spSpell K (d + 1) (He.ga K "Zero")) [] := by
  have F := T.fc (Fm.zero default default).kd (Fm.kd_mem _)
  refine (met_of (k := 6 + d) F.spelling (N := ["self"]) (ps := ["self"]) ⟨rfl, rfl, rfl, by decide +kernel, rfl, by decide +kernel, by decide +kernel⟩ (fun _ _ _ _ _ _ us hl => match us, hl with | [_], _ => rfl) (fun vs H Q E h => ?_) (fun f cdv A outer s H vs Q E hr h => ?_)).1
  · obtain ⟨v, f, S, rfl, _⟩ := h; rfl
  have hr5 : Room 5 (A.deeper (envOfC _ _ s.heap.objs.size f cdv)) := hr.mono (by omega)
  refine ⟨_, (pss_one (ps_ret (pe_joined (PJ.cons pe_str (PJ.cons (pe_fmt (pe_c (cal_spelled_side T) hr5 (pa_cons (pe_prp (prp_rows T) hr5 (pv 0)) pa_nil))) (PJ.cons pe_str (PJ.cons (pe_fmt (pe_c (cal_spelled_side T) hr5 (pa_cons (pe_prp (prp_columns T) hr5 (pv 0)) pa_nil))) (PJ.cons pe_str PJ.nil)))))))), ?_⟩
  obtain ⟨v, f0, S, rfl, hF, hC, ok, hl, k⟩ := h
  have hk := kd_of T (g := Fm.zero default default) hC
  have big : ∀ {n : Nat}, n ≤ 110000 → n ≤ sizeLine := fun h => Nat.le_trans h (by rw [sizeLine_eq]; decide)
  have c0 : Str.empty.length = 0 := by decide +kernel
  have len := ok.sl
  have lim := ok.lim.s
  obtain ⟨z, y, rfl⟩ : ∃ z y, f0 = .zero z y := by
    cases f0 with
    | zero z y => exact ⟨z, y, rfl⟩
    | _ => (have h2 := congrArg KindI.i hk; revert h2; simp [Fm.kd])
  obtain ⟨a, lv, ls, rfl, ⟨dx, fs, rv, cv, pt, st, core, o⟩, _⟩ := hF
  have lc := commaS_len ok.1.all
  have lc2 := commaS_len ok.2.1.all
  have ls1 := side_len ok.1.all
  have ls2 := side_len ok.2.1.all
  have l2 : 8 + 8 * z.length + 8 * y.length ≤ 100000 := lim
  have k0 : (Str.ofString "zero(").length = 5 := by decide +kernel
  have k1 : (Str.ofString "; ").length = 2 := by decide +kernel
  have k2 : (Str.ofString ")").length = 1 := by decide +kernel
  refine ⟨_, rfl, big (by simp only [Str.length_append]; omega), ?_⟩
  refine ⟨_, rfl, rd_get o.at_ (fc_of K (.zero z y)) o.fld.r ⟨_, z, rfl, ⟨rv, rfl, o.r⟩, by omega, .inl ⟨_, rfl, big (by omega), _, rfl, big (by simp only [Str.length_append]; omega), ?_⟩⟩⟩
  refine ⟨_, rfl, big (by simp only [Str.length_append]; omega), ?_⟩
  refine ⟨_, rfl, rd_get o.at_ (fc_of K (.zero z y)) o.fld.c ⟨_, y, rfl, ⟨cv, rfl, o.c⟩, by omega, .inl ⟨_, rfl, big (by omega), _, rfl, big (by simp only [Str.length_append]; omega), ?_⟩⟩⟩
  exact ⟨_, rfl, big (by simp only [Str.length_append]; omega), k _ _ (Same.refl _) rfl⟩
theorem spell_Scaled (T : Txt K mg) {d : Nat} (ih : SpAll P w K mg base d) : Met P w K mg base (6 + (d + 1)) (He.ga K "Scaled") "spelling" (spSpell K (d + 1) (He.ga K "Scaled")) [] := by
  have F := T.fc (Fm.sca 0 default).kd (Fm.kd_mem _)
  refine (met_of (k := 6 + d) F.spelling (N := ["self"]) (ps := ["self"]) ⟨rfl, rfl, rfl, by decide +kernel, rfl, by decide +kernel, by decide +kernel⟩ (fun _ _ _ _ _ _ us hl => match us, hl with | [_], _ => rfl) (fun vs H Q E h => ?_) (fun f cdv A outer s H vs Q E hr h => ?_)).1
  · obtain ⟨v, f, S, rfl, _⟩ := h; rfl
  have hr5 : Room 5 (A.deeper (envOfC _ _ s.heap.objs.size f cdv)) := hr.mono (by omega)
  have ms := nofree T (x := "str") (by decide +kernel)
  refine ⟨_, (pss_one (ps_ret (pe_joined (PJ.cons pe_str (PJ.cons (pe_fmt (pe_callTy (cr_strOwn (ok := isRat K) (opm_rStr T) hr5) (by rfl) ms boot_str (pa_cons (pe_fld (pv 0) rfl) pa_nil))) (PJ.cons pe_str (PJ.cons (pe_fmt (pe_mtC0 ih hr (pe_ix (ixT9 K) (pe_fld (pv 0) rfl) pe_int (fun _ _ => rfl)) (Nat.le_refl _))) (PJ.cons pe_str PJ.nil)))))))), ?_⟩
  obtain ⟨v, f0, S, rfl, hF, hC, ok, hl, k⟩ := h
  have hk := kd_of T (g := Fm.sca 0 default) hC
  have big : ∀ {n : Nat}, n ≤ 110000 → n ≤ sizeLine := fun h => Nat.le_trans h (by rw [sizeLine_eq]; decide)
  have c0 : Str.empty.length = 0 := by decide +kernel
  have len := ok.sl
  have lim := ok.lim.s
  obtain ⟨r, g, rfl⟩ : ∃ r g, f0 = .sca r g := by
    cases f0 with
    | sca r g => exact ⟨r, g, rfl⟩
    | _ => (have h2 := congrArg KindI.i hk; revert h2; simp [Fm.kd])
  obtain ⟨p, nn, hg⟩ := hF
  obtain ⟨a, lv, ls, rfl, ⟨dx, fs, rv, cv, pt, st, core, o⟩, _⟩ := nn
  have lg := ok.1.sl
  have lr := ratS_len ok.2.1
  have m1 : g.lv ≤ d := by have : 1 + g.lv ≤ d + 1 := hl; omega
  have cl := F.num.ni.own.cl
  have na := F.na "made_of" (by decide +kernel)
  have naf := F.na "factor" (by decide +kernel)
  have l2 : 20 + g.slen ≤ 100000 := lim
  obtain ⟨nv, hnv, hR⟩ := o.x
  have hR' := hR
  obtain ⟨na', dn, rfl, hna⟩ := hR'
  have k0 : (Str.ofString "(").length = 1 := by decide +kernel
  have k1 : (Str.ofString " * ").length = 3 := by decide +kernel
  have k2 : (Str.ofString ")").length = 1 := by decide +kernel
  refine ⟨_, rfl, big (by simp only [Str.length_append]; omega), ?_⟩
  refine ⟨_, rfl, a, _, dx, fs, _, rfl, o.at_, cl, naf, hnv, na', _, dn, _, rfl, hna, rfl, _, r, rfl, hR, ok.2.1, _, rfl, .inl ⟨_, rfl, big (by omega), _, rfl, big (by simp only [Str.length_append]; omega), ?_⟩⟩
  refine ⟨_, rfl, big (by simp only [Str.length_append]; omega), ?_⟩
  refine ⟨_, rfl, a, _, dx, fs, _, rfl, o.at_, cl, na, o.fld.p, pt, _, 0, p, rfl, rfl, SqT.of o.p, rfl, rd_spell hg ok.1 m1 fun H1 s1 => .inl ⟨_, rfl, big (by omega), _, rfl, big (by simp only [Str.length_append]; omega), ?_⟩⟩
  exact ⟨_, rfl, big (by simp only [Str.length_append]; omega), k _ _ s1 rfl⟩
end
end K9

/-! ## F34 -/
namespace K9
open PySem PySem.Spec PyProof.Rows L2
/-! The text of blocks; all texts. -/
theorem join9 {X : Cx} (K : PySem.W.Frag) {o e : Expr} {to te : TE} {apos pos : Pos} (ho : PE X o to) (he : PE X e te) (hs : starEach [e] X.env = [(false, eval e X.env)] := by rfl) (hb : attributeBase o (Str.ofString "join") X.env (eval o X.env) = eval o X.env := by rfl) (hl : (apos.endLine == pos.line) = true := by rfl) (hK : X.K = K := by rfl) :
    PE X ((o.Attribute (Str.ofString "join") apos).Call [e] [] pos) (tM1 (fun x xs H Q => ∃ a p ys, x = V.str a ∧ xs = [V.ref p] ∧ (SqL K H p (List.map V.str ys) ∨ SqT K H p (List.map V.str ys)) ∧ (List.map (fun x => x.length) ys).sum + ys.length * a.length ≤ 16777216 ∧ Q (V.str (Txt.join a ys)) H) to te) := hK ▸ pe_join ho he hs hb hl
/-- the table of a formula of blocks -/
def Fm.tab : Fm → List (List Fm)
  | .b22 a b c d => [[a, b], [c, d]]
  | .b21 a b => [[a], [b]]
  | .b12 a b => [[a, b]]
  | _ => []
theorem blk_spell {f : Fm} (h : f.kd.nm = "Blocks") : f.spell = jn ["blocks(", semiS (f.tab.map fun row => commaS (row.map Fm.spell)), ")"] := by
  cases f with
  | b22 a b c d => rfl
  | b21 a b => rfl
  | b12 a b => rfl
  | _ => (exact absurd h (by simp only [Fm.kd]; decide +kernel))
theorem blk_is {K : PySem.W.Frag} {H : Hp} {f : Fm} {a : Addr} (h : f.kd.nm = "Blocks") (hF : IsF K H f (.ref a)) : ∃ vss tv dx fs, H a = some (.ins (cF K f) dx fs) ∧ fs.lookup ("lines" : Str) = some tv ∧ TabV H tv vss ∧ Al (Al (fun p g => IsF K H g p)) vss f.tab := by
  cases f with
  | b22 x y z t =>
    obtain ⟨p, q, r, s, ⟨a', lv, ls, e, ⟨dx, fs, rv, cv, pt, st, core, o⟩, _⟩, h1, h2, h3, h4⟩ := hF
    cases e
    obtain ⟨tv, h5, h6⟩ := o.x
    exact ⟨_, tv, dx, fs, o.at_, h5, h6, .cons (.cons h1 (.cons h2 .nil)) (.cons (.cons h3 (.cons h4 .nil)) .nil)⟩
  | b21 x y =>
    obtain ⟨p, q, ⟨a', lv, ls, e, ⟨dx, fs, rv, cv, pt, st, core, o⟩, _⟩, h1, h2⟩ := hF
    cases e
    obtain ⟨tv, h5, h6⟩ := o.x
    exact ⟨_, tv, dx, fs, o.at_, h5, h6, .cons (.cons h1 .nil) (.cons (.cons h2 .nil) .nil)⟩
  | b12 x y =>
    obtain ⟨p, q, ⟨a', lv, ls, e, ⟨dx, fs, rv, cv, pt, st, core, o⟩, _⟩, h1, h2⟩ := hF
    cases e
    obtain ⟨tv, h5, h6⟩ := o.x
    exact ⟨_, tv, dx, fs, o.at_, h5, h6, .cons (.cons h1 (.cons h2 .nil)) .nil⟩
  | _ => (exact absurd h (by simp only [Fm.kd]; decide +kernel))
theorem blk_bd {f : Fm} {S : Sys} {d : Nat} (h : f.kd.nm = "Blocks") (ok : f.Ok S) (hl : f.lv ≤ d + 1) : f.tab.length ≤ 2 ∧ ∀ row ∈ f.tab, row.length ≤ 2 ∧ ∀ g ∈ row, g.Ok S ∧ g.lv ≤ d := by
  cases f with
  | b22 x y z t =>
    have l : 1 + max (max (max x.lv y.lv) z.lv) t.lv ≤ d + 1 := hl
    refine ⟨by show 2 ≤ 2; decide, fun row hr => ?_⟩
    simp [Fm.tab] at hr
    rcases hr with rfl | rfl
    · exact ⟨by show 2 ≤ 2; decide, fun g hg => by simp at hg; rcases hg with rfl | rfl; exact ⟨ok.1, by omega⟩; exact ⟨ok.2.1, by omega⟩⟩
    · exact ⟨by show 2 ≤ 2; decide, fun g hg => by simp at hg; rcases hg with rfl | rfl; exact ⟨ok.2.2.1, by omega⟩; exact ⟨ok.2.2.2.1, by omega⟩⟩
  | b21 x y =>
    have l : 1 + max x.lv y.lv ≤ d + 1 := hl
    refine ⟨by show 2 ≤ 2; decide, fun row hr => ?_⟩
    simp [Fm.tab] at hr
    rcases hr with rfl | rfl
    · exact ⟨by show 1 ≤ 2; decide, fun g hg => by simp at hg; subst hg; exact ⟨ok.1, by omega⟩⟩
    · exact ⟨by show 1 ≤ 2; decide, fun g hg => by simp at hg; subst hg; exact ⟨ok.2.1, by omega⟩⟩
  | b12 x y =>
    have l : 1 + max x.lv y.lv ≤ d + 1 := hl
    refine ⟨by show 1 ≤ 2; decide, fun row hr => ?_⟩
    simp [Fm.tab] at hr
    subst hr
    exact ⟨by show 2 ≤ 2; decide, fun g hg => by simp at hg; rcases hg with rfl | rfl; exact ⟨ok.1, by omega⟩; exact ⟨ok.2.1, by omega⟩⟩
  | _ => (exact absurd h (by simp only [Fm.kd]; decide +kernel))
theorem sum_le {l : List Str} {b : Nat} (h : ∀ x ∈ l, x.length ≤ b) : (l.map (·.length)).sum ≤ b * l.length := by
  induction l with
  | nil => simp
  | cons a l ih =>
    have h1 := ih fun x hx => h x (List.mem_cons_of_mem _ hx)
    have h2 := h a List.mem_cons_self
    rw [List.map_cons, List.sum_cons, List.length_cons, Nat.mul_succ]
    omega
section
variable {P : Program} {w : World} {K : PySem.W.Frag} {mg : Str → Option Value} {base : Heap}
abbrev nSpB : List Str := ["self", "row", "part"]
theorem sc_spBlocks : FnScope nSpB ["self"] (defScope (inCls 81 3)) := ⟨rfl, rfl, rfl, by decide +kernel, rfl, by decide +kernel, by decide +kernel⟩
theorem spell_Blocks (T : Txt K mg) {d : Nat} (ih : SpAll P w K mg base d) : Met P w K mg base (6 + (d + 1)) (He.ga K "Blocks") "spelling" (spSpell K (d + 1) (He.ga K "Blocks")) [] := by
  have F := T.fc (Fm.b21 default default).kd (Fm.kd_mem _)
  refine (met_of (k := 6 + d) F.spelling (N := nSpB) (ps := ["self"]) sc_spBlocks (fun _ _ _ _ _ _ us hl => match us, hl with | [_], _ => rfl) (fun vs H Q E h => ?_) (fun f cdv A outer s H vs Q E hr h => ?_)).1
  · obtain ⟨v, f, S, rfl, _⟩ := h; rfl
  have hr5 : Room 5 (A.deeper (envOfC _ _ s.heap.objs.size f cdv)) := hr.mono (by omega)
  refine ⟨_, (pss_one (ps_ret (pe_joined (PJ.cons pe_str (PJ.cons (pe_fmt (join9 K pe_str (pe_lc (own := [("row", 1)]) (g := gName 1) (tt := tYes) rfl sc_spBlocks.nd (tup9 K (pe_fld (pv 0) rfl)) (blkOk_by (N := nSpB) (sc := defScope (inCls 81 3)) (by decide +kernel)) (fun _ _ _ _ _ => pg_name (i := 1) sc_spBlocks.nd rfl (Or.inl rfl)) (fun _ _ _ _ _ => pts_nil)
      (fun _ _ _ _ _ => join9 K pe_str (pe_lc (own := [("part", 2)]) (g := gName 2) (tt := tYes) rfl sc_spBlocks.nd (tup9 K (pv 1)) (blkOk_by (N := nSpB) (by kernel_rfl)) (fun _ _ _ _ _ => pg_name (i := 2) sc_spBlocks.nd rfl (Or.inl rfl)) (fun _ _ _ _ _ => pts_nil)
        (fun _ _ _ _ _ => pe_mtC0 ih hr (pv 2) (Nat.le_refl _))))))) (PJ.cons pe_str PJ.nil)))))), ?_⟩
  obtain ⟨v, f0, S, rfl, hF, hC, ok, hl, k⟩ := h
  have hk := kd_of T (g := Fm.b21 default default) hC
  have hnm : f0.kd.nm = "Blocks" := by rw [hk]; rfl
  have big : ∀ {n : Nat}, n ≤ 1100000 → n ≤ sizeLine := fun h => Nat.le_trans h (by rw [sizeLine_eq]; decide)
  have c0 : Str.empty.length = 0 := by decide +kernel
  have len := ok.sl
  have lim := ok.lim.s
  obtain ⟨a, rfl⟩ : ∃ a, v = .ref a := by
    obtain ⟨ps, ⟨a, lv, ls, e, _⟩, _⟩ := hF.node
    exact ⟨a, e⟩
  obtain ⟨vss, tv, dx, fs, hat, htv, hTV, aT⟩ := blk_is hnm hF
  obtain ⟨t, rvs, rfl, ht, hrv⟩ := hTV
  obtain ⟨lt, hrow⟩ := blk_bd hnm ok hl
  have hsp := blk_spell hnm
  have lv : rvs.length = f0.tab.length := by rw [hrv.len, aT.len]
  have slen1 : ∀ row ∈ f0.tab, ((row.map Fm.spell).map (·.length)).sum ≤ 100000 * row.length := fun row hr => by
    have := sum_le (l := row.map Fm.spell) (b := 100000) fun x hx => by
      obtain ⟨g, hg, rfl⟩ := List.mem_map.mp hx
      exact Nat.le_trans ((hrow row hr).2 g hg).1.sl ((hrow row hr).2 g hg).1.lim.s
    rw [List.length_map] at this
    exact this
  have k0 : (Str.ofString "blocks(").length = 7 := by decide +kernel
  have k1 : (Str.ofString ")").length = 1 := by decide +kernel
  have k2 : (Str.ofString ", ").length = 2 := by decide +kernel
  have k3 : (Str.ofString "; ").length = 2 := by decide +kernel
  have slen2 : ∀ row ∈ f0.tab, (commaS (row.map Fm.spell)).length ≤ 200010 := fun row hr => by
    have h1 := join_len ", " (row.map Fm.spell)
    have h2 := slen1 row hr
    have h3 := (hrow row hr).1
    rw [List.length_map, k2] at h1
    unfold commaS
    omega
  have slen3 : ((f0.tab.map fun row => commaS (row.map Fm.spell)).map (·.length)).sum ≤ 200010 * f0.tab.length := by
    have := sum_le (l := f0.tab.map fun row => commaS (row.map Fm.spell)) (b := 200010) fun x hx => by
      obtain ⟨row, hr, rfl⟩ := List.mem_map.mp hx
      exact slen2 row hr
    rw [List.length_map] at this
    exact this
  have slen4 : (semiS (f0.tab.map fun row => commaS (row.map Fm.spell))).length ≤ 500000 := by
    have h1 := join_len "; " (f0.tab.map fun row => commaS (row.map Fm.spell))
    rw [List.length_map, k3] at h1
    unfold semiS
    omega
  refine ⟨_, rfl, big (by simp only [Str.length_append]; omega), ?_⟩
  refine ⟨⟨_, rfl⟩, _, rfl, a, _, dx, fs, _, rfl, hat, (T.fc f0.kd f0.kd_mem).num.ni.own.cl, (T.fc f0.kd f0.kd_mem).na _ (by decide +kernel), htv, t, rfl, ⟨_, SqT.of ht⟩, fun D hD => ?_⟩
  refine map_it (walk_tup' (xs := rvs)) (fun i y _ => ∃ row, f0.tab[i]? = some row ∧ y = .str (commaS (row.map Fm.spell))) (fun _ _ _ _ _ h => h) hD (fun _ s => SqT.of (s _ _ ht)) (by rw [lv]; exact Nat.le_trans (show _ ≤ 1000 by omega) thousand_line) (fun i x H1 Q1 hi hx m q => ?_) (fun ys H1 s1 hl1 hl2 hl3 => ?_)
  · obtain ⟨cs, hcs, t', rfl, ht'⟩ := hrv.get' hx
    obtain ⟨row, hrw, aR⟩ := aT.get' hcs
    have hm := List.mem_of_getElem? hrw
    obtain ⟨l2, hg2⟩ := hrow row hm
    have ht1 := m.same _ _ ht'
    refine ⟨⟨_, rfl⟩, _, rfl, t', rfl, ⟨_, SqT.of ht1⟩, fun D2 hD2 => ?_⟩
    refine map_it (walk_tup' (xs := cs)) (fun j y _ => ∃ g, row[j]? = some g ∧ y = .str g.spell) (fun _ _ _ _ _ h => h) hD2 (fun _ s => SqT.of (s _ _ ht1)) (by rw [aR.len]; exact Nat.le_trans (show _ ≤ 1000 by omega) thousand_line) (fun j y H2 Q2 hj hy m2 q2 => ?_) (fun zs H2 s2 hz1 hz2 hz3 => ?_)
    · obtain ⟨g, hg, hgF⟩ := aR.get' hy
      obtain ⟨og, lg⟩ := hg2 g (List.mem_of_getElem? hg)
      exact ⟨_, rfl, rd_spell (hgF.imm (Same.imm (Same.trans m.same m2.same))) og lg fun H3 s3 => q2 _ _ s3 ⟨g, hg, rfl⟩⟩
    · have ez : zs = (row.map Fm.spell).map V.str := by
        refine Al.eq ⟨by rw [hz2, aR.len]; simp, fun j y x e1 e2 => ?_⟩
        obtain ⟨g, h1, h2⟩ := hz3 j y e1
        rw [List.getElem?_map, List.getElem?_map, h1] at e2
        cases e2
        exact h2
      have := slen1 row hm
      exact ⟨(", " : Str), D2, row.map Fm.spell, rfl, rfl, .inl (SqL.of (by rw [hz1, ez])), by rw [List.length_map]; simp only [k2]; omega, q _ _ s2 ⟨row, hrw, rfl⟩⟩
  · have ey : ys = (f0.tab.map fun row => commaS (row.map Fm.spell)).map V.str := by
      refine Al.eq ⟨by rw [hl2, lv]; simp, fun j y x e1 e2 => ?_⟩
      obtain ⟨row, h1, h2⟩ := hl3 j y e1
      rw [List.getElem?_map, List.getElem?_map, h1] at e2
      cases e2
      exact h2
    refine ⟨("; " : Str), D, f0.tab.map fun row => commaS (row.map Fm.spell), rfl, rfl, .inl (SqL.of (by rw [hl1, ey])), by rw [List.length_map]; simp only [k3]; omega, .inl ⟨_, rfl, big (Nat.le_trans slen4 (by decide)), _, rfl, ?_, ?_⟩⟩
    · have := slen4
      unfold semiS at this
      exact big (by simp only [Str.length_append]; omega)
    · have := slen4
      unfold semiS at this
      exact ⟨_, rfl, big (by simp only [Str.length_append]; omega), k _ _ s1 (congrArg V.str hsp.symm)⟩
theorem spell_all (T : Txt K mg) : ∀ d, SpAll P w K mg base d
  | 0, C, ⟨q, hq, hC⟩ => by
    have F := T.fc q hq
    subst hC
    obtain ⟨f, fd, hc, hm, hi, FD⟩ := F.spelling.ex
    have hL : ∀ vs H Q E, spSpell K 0 (He.ga K q.nm) vs H Q E → False := fun vs H Q E ⟨v, g, S, _, _, _, _, hl, _⟩ => by
      have := g.lv_pos
      omega
    refine ⟨f, hc, hm, fd, ["self"], [], ⟨fun vs H Q E h => (hL vs H Q E h).elim, fun A outer s H args us vs Q E _ _ _ _ h => (hL vs H Q E h).elim⟩, FD.kp, FD.bindsN (fun kV doc pm an cdv ct us hl => ?_), .nil⟩
    clear hL FD F
    simp only [kinds, List.mem_cons, List.not_mem_nil, or_false] at hq
    rcases hq with rfl | rfl | rfl | rfl | rfl | rfl | rfl | rfl | rfl | rfl | rfl | rfl <;> exact match us, hl with | [_], _ => rfl
  | d + 1, C, ⟨q, hq, hC⟩ => by
    have ih := spell_all T d
    subst hC
    simp only [kinds, List.mem_cons, List.not_mem_nil, or_false] at hq
    rcases hq with rfl | rfl | rfl | rfl | rfl | rfl | rfl | rfl | rfl | rfl | rfl | rfl
    · exact spell_Letter T ih
    · exact spell_Eye T ih
    · exact spell_Zero T ih
    · exact spell_Sum T ih
    · exact spell_Difference T ih
    · exact spell_Scaled T ih
    · exact spell_Product T ih
    · exact spell_Transposed T ih
    · exact spell_Inverse T ih
    · exact spell_Power T ih
    · exact spell_Blocks T ih
    · exact spell_Corner T ih
end
end K9

/-! ## F35 -/
namespace K9
open PySem PySem.Spec PyProof.Rows L2
/-! Formula: the operators. -/
theorem mk_ctor {K : PySem.W.Frag} {A : Hp → List V → Fm → Prop} {H1 : Hp} {us : List V} {f : Fm} {Q : VK} (hA : A H1 us f) (k : ∀ v H', Same H1 H' → IsF K H' f v → Q v H') :
    ∀ x dx, H1 x = none → H1 dx = none → dx ≠ x → spCtor K A (.ref x :: us) (upd (upd H1 dx (.own x)) x (.ins (cF K f) dx [])) (fun v H2 => v = .non ∧ Q (.ref x) H2) E0 := fun x dx hx hd hne =>
  ⟨x, dx, H1, us, f, rfl, new_same (K := K) hx hd, hx, upd_same, hA, fun H' o hF => ⟨rfl, k _ H' (fun b u e => o b u (ne_of_none e hx) (new_same (K := K) hx hd b u e)) hF⟩⟩
def spUn (K : PySem.W.Frag) (con : Fm → Fm) : Sp := fun vs H Q _ => ∃ v f S, vs = [v] ∧ IsF K H f v ∧ (con f).Ok S ∧ Pure (fun v' H' => IsF K H' (con f) v') H Q
def spBi (K : PySem.W.Frag) (con : Fm → Fm → Fm) : Sp := fun vs H Q _ => ∃ v1 v2 f g S, vs = [v1, v2] ∧ IsF K H f v1 ∧ IsF K H g v2 ∧ (con f g).Ok S ∧ Pure (fun v' H' => IsF K H' (con f g) v') H Q
def spMulF (K : PySem.W.Frag) : Sp := fun vs H Q _ => (∃ v1 v2 f g S, vs = [v1, v2] ∧ IsF K H f v1 ∧ IsF K H g v2 ∧ (Fm.pro f g).Ok S ∧ Pure (fun v' H' => IsF K H' (.pro f g) v') H Q) ∨
  (∃ v1 v2 f r S, vs = [v1, v2] ∧ IsF K H f v1 ∧ NumV K H v2 r ∧ (Fm.sca r f).Ok S ∧ Pure (fun v' H' => IsF K H' (.sca r f) v') H Q)
def spPow (K : PySem.W.Frag) : Sp := fun vs H Q _ => ∃ (v1 : V) (e : Nat) (f : Fm) (S : Sys), vs = [v1, .int e] ∧ IsF K H f v1 ∧ (Fm.pow f e).Ok S ∧ Pure (fun v' H' => IsF K H' (.pow f e) v') H Q
def spItemF (K : PySem.W.Frag) : Sp := fun vs H Q _ => ∃ (v1 : V) (t : Addr) (i j : Nat) (f : Fm) (S : Sys), vs = [v1, .ref t] ∧ H t = some (.tup [.int i, .int j]) ∧ IsF K H f v1 ∧ (Fm.cor f i j).Ok S ∧ Pure (fun v' H' => IsF K H' (.cor f i j) v') H Q
def spStrF (K : PySem.W.Frag) : Sp := fun vs H Q _ => ∃ v f S, vs = [v] ∧ IsF K H f v ∧ f.Ok S ∧ Pure (fun v' _ => v' = .str f.spell) H Q
theorem IsF.fc {K : PySem.W.Frag} {H : Hp} {f : Fm} {v : V} (h : IsF K H f v) : IsFc K H v := by
  obtain ⟨ps, n, _⟩ := h.node
  exact n.fc
section
variable {w : World} {K : PySem.W.Frag} {mg : Str → Option Value} {base : Heap}
theorem sc_ftra : FnScope ["self"] ["self"] (defScope (inCls 70 0)) := ⟨rfl, rfl, rfl, by decide +kernel, rfl, by decide +kernel, by decide +kernel⟩
theorem sc_finv : FnScope ["self"] ["self"] (defScope (inCls 70 1)) := ⟨rfl, rfl, rfl, by decide +kernel, rfl, by decide +kernel, by decide +kernel⟩
theorem sc_fadd : FnScope ["self", "other"] ["self", "other"] (defScope (inCls 70 2)) := ⟨rfl, rfl, rfl, by decide +kernel, rfl, by decide +kernel, by decide +kernel⟩
theorem sc_fsub : FnScope ["self", "other"] ["self", "other"] (defScope (inCls 70 3)) := ⟨rfl, rfl, rfl, by decide +kernel, rfl, by decide +kernel, by decide +kernel⟩
theorem sc_fmul : FnScope ["self", "other"] ["self", "other"] (defScope (inCls 70 4)) := ⟨rfl, rfl, rfl, by decide +kernel, rfl, by decide +kernel, by decide +kernel⟩
theorem sc_fpow : FnScope ["self", "other"] ["self", "other"] (defScope (inCls 70 6)) := ⟨rfl, rfl, rfl, by decide +kernel, rfl, by decide +kernel, by decide +kernel⟩
theorem sc_fitem : FnScope ["self", "at"] ["self", "at"] (defScope (inCls 70 7)) := ⟨rfl, rfl, rfl, by decide +kernel, rfl, by decide +kernel, by decide +kernel⟩
theorem fm_tra (T : Txt K mg) : ∀ C, FC K C → Prp Pg w K mg base 14 C "transposed" (spUn K .tra) := fun C hC => by
  obtain ⟨q, hq, rfl⟩ := hC
  have F := T.fc q hq
  have mi := nofree T (x := "isinstance") (by decide +kernel)
  have mt := nofree T (x := "tuple") (by decide +kernel)
  have ml := nofree T (x := "len") (by decide +kernel)
  refine prp_of F.pTransposed sc_ftra (fun _ _ _ _ _ _ us hl => match us, hl with | [_], _ => rfl) (fun vs H Q E h => ?_) (fun f cdv A outer s H vs Q E hr h => ?_)
  · obtain ⟨v, g, S, rfl, _⟩ := h; rfl
  refine ⟨_, pss_one (ps_ret (pe_mk (mak_Transposed T) hr (pa_cons (pv 0) pa_nil))), ?_⟩
  obtain ⟨v, g, S, rfl, hg, ok, k⟩ := h
  exact ⟨_, rfl, mk_ctor (f := .tra g) (A := ATra K) ⟨v, g, S, rfl, rfl, hg, ok⟩ k⟩
theorem fm_inv (T : Txt K mg) : ∀ C, FC K C → Met Pg w K mg base 14 C "inverse" (spUn K .inv) [] := fun C hC => by
  obtain ⟨q, hq, rfl⟩ := hC
  have F := T.fc q hq
  have mi := nofree T (x := "isinstance") (by decide +kernel)
  have mt := nofree T (x := "tuple") (by decide +kernel)
  have ml := nofree T (x := "len") (by decide +kernel)
  refine (met_of F.mInverse sc_finv (fun _ _ _ _ _ _ us hl => match us, hl with | [_], _ => rfl) (fun vs H Q E h => ?_) (fun f cdv A outer s H vs Q E hr h => ?_)).1
  · obtain ⟨v, g, S, rfl, _⟩ := h; rfl
  refine ⟨_, pss_one (ps_ret (pe_mk (mak_Inverse T) hr (pa_cons (pv 0) pa_nil))), ?_⟩
  obtain ⟨v, g, S, rfl, hg, ok, k⟩ := h
  exact ⟨_, rfl, mk_ctor (f := .inv g) (A := AInv K) ⟨v, g, S, rfl, rfl, hg, ok⟩ k⟩
theorem fm_add (T : Txt K mg) : ∀ C, FC K C → Opm Pg w K mg base 14 C "__add__" (spBi K .sum) := fun C hC => by
  obtain ⟨q, hq, rfl⟩ := hC
  have F := T.fc q hq
  have mi := nofree T (x := "isinstance") (by decide +kernel)
  have mt := nofree T (x := "tuple") (by decide +kernel)
  have ml := nofree T (x := "len") (by decide +kernel)
  refine (met_of F.mAdd sc_fadd (fun _ _ _ _ _ _ us hl => match us, hl with | [_, _], _ => rfl) (fun vs H Q E h => ?_) (fun f cdv A outer s H vs Q E hr h => ?_)).2
  · obtain ⟨v, u, g, h, S, rfl, _⟩ := h; rfl
  refine ⟨_, pss_one (ps_ret (pe_mk (mak_sum T) hr (pa_cons (pv 0) (pa_cons (pv 1) pa_nil)))), ?_⟩
  obtain ⟨v, u, g, h, S, rfl, hg, hh, ok, k⟩ := h
  exact ⟨_, rfl, _, rfl, mk_ctor (f := .sum g h) (A := ASum K) ⟨v, u, g, h, S, rfl, rfl, hg, hh, ok⟩ k⟩
theorem fm_sub (T : Txt K mg) : ∀ C, FC K C → Opm Pg w K mg base 14 C "__sub__" (spBi K .dif) := fun C hC => by
  obtain ⟨q, hq, rfl⟩ := hC
  have F := T.fc q hq
  have mi := nofree T (x := "isinstance") (by decide +kernel)
  have mt := nofree T (x := "tuple") (by decide +kernel)
  have ml := nofree T (x := "len") (by decide +kernel)
  refine (met_of F.mSub sc_fsub (fun _ _ _ _ _ _ us hl => match us, hl with | [_, _], _ => rfl) (fun vs H Q E h => ?_) (fun f cdv A outer s H vs Q E hr h => ?_)).2
  · obtain ⟨v, u, g, h, S, rfl, _⟩ := h; rfl
  refine ⟨_, pss_one (ps_ret (pe_mk (mak_dif T) hr (pa_cons (pv 0) (pa_cons (pv 1) pa_nil)))), ?_⟩
  obtain ⟨v, u, g, h, S, rfl, hg, hh, ok, k⟩ := h
  exact ⟨_, rfl, _, rfl, mk_ctor (f := .dif g h) (A := ADif K) ⟨v, u, g, h, S, rfl, rfl, hg, hh, ok⟩ k⟩
theorem fm_mul (T : Txt K mg) : ∀ C, FC K C → Opm Pg w K mg base 14 C "__mul__" (spMulF K) := fun C hC => by
  obtain ⟨q, hq, rfl⟩ := hC
  have F := T.fc q hq
  have mi := nofree T (x := "isinstance") (by decide +kernel)
  have mt := nofree T (x := "tuple") (by decide +kernel)
  have ml := nofree T (x := "len") (by decide +kernel)
  refine (met_of F.mMul sc_fmul (fun _ _ _ _ _ _ us hl => match us, hl with | [_, _], _ => rfl) (fun vs H Q E h => ?_) (fun f cdv A outer s H vs Q E hr h => ?_)).2
  · rcases h with ⟨v, u, g, h, S, rfl, _⟩ | ⟨v, u, g, h, S, rfl, _⟩ <;> rfl
  refine ⟨_, pss_one (ps_ret (pe_ifExp (pt_val (pe_c (cal_is_number T) hr (pa_cons (pv 1) pa_nil))) (pe_mk (mak_Scaled T) hr (pa_cons (pv 1) (pa_cons (pv 0) pa_nil))) (pe_mk (mak_Product T) hr (pa_cons (pv 0) (pa_cons (pv 1) pa_nil))))), ?_⟩
  rcases h with ⟨v, u, g, h, S, rfl, hg, hh, ok, k⟩ | ⟨v, u, g, r, S, rfl, hg, hn, ok, k⟩
  · obtain ⟨a, C, dx, fs, rfl, ha, q', hq', rfl⟩ := hh.fc
    refine ⟨_, rfl, .inr ⟨a, _, dx, fs, rfl, ha, (T.fc q' hq').num, _, rfl, iteF ?_⟩⟩
    exact ⟨_, rfl, _, rfl, mk_ctor (f := .pro g h) (A := APro K) ⟨v, _, g, h, S, rfl, rfl, hg, hh, ok⟩ k⟩
  · refine ⟨_, rfl, .inl ⟨u, r, rfl, hn, _, rfl, iteT ?_⟩⟩
    exact ⟨_, rfl, _, rfl, mk_ctor (f := .sca r g) (A := ASca K) ⟨u, v, r, g, S, rfl, rfl, hn, hg, ok⟩ k⟩
theorem fm_pow (T : Txt K mg) : ∀ C, FC K C → Opm Pg w K mg base 14 C "__pow__" (spPow K) := fun C hC => by
  obtain ⟨q, hq, rfl⟩ := hC
  have F := T.fc q hq
  have mi := nofree T (x := "isinstance") (by decide +kernel)
  have mt := nofree T (x := "tuple") (by decide +kernel)
  have ml := nofree T (x := "len") (by decide +kernel)
  refine (met_of F.mPow sc_fpow (fun _ _ _ _ _ _ us hl => match us, hl with | [_, _], _ => rfl) (fun vs H Q E h => ?_) (fun f cdv A outer s H vs Q E hr h => ?_)).2
  · obtain ⟨v, e, g, S, rfl, _⟩ := h; rfl
  refine ⟨_, pss_one (ps_ret (pe_mk (mak_Power T) hr (pa_cons (pv 0) (pa_cons (pv 1) pa_nil)))), ?_⟩
  obtain ⟨v, e, g, S, rfl, hg, ok, k⟩ := h
  exact ⟨_, rfl, _, rfl, mk_ctor (f := .pow g e) (A := APow K) ⟨v, e, g, S, rfl, rfl, hg, ok⟩ k⟩
theorem fm_item (T : Txt K mg) : ∀ C, FC K C → Opm Pg w K mg base 14 C "__getitem__" (spItemF K) := fun C hC => by
  obtain ⟨q, hq, rfl⟩ := hC
  have F := T.fc q hq
  have mi := nofree T (x := "isinstance") (by decide +kernel)
  have mt := nofree T (x := "tuple") (by decide +kernel)
  have ml := nofree T (x := "len") (by decide +kernel)
  refine (met_of F.mItem sc_fitem (fun _ _ _ _ _ _ us hl => match us, hl with | [_, _], _ => rfl) (fun vs H Q E h => ?_) (fun f cdv A outer s H vs Q E hr h => ?_)).2
  · obtain ⟨v, t, i, j, g, S, rfl, _⟩ := h; rfl
  refine ⟨_, pss_cons (ps_if (PW.pt (pw_or (pt_not (pt_val (pe_callB call_isi (by rfl) mi boot_isi (pa_cons (pv 1) (pa_cons (pe_bltn (v := .ty "tuple") (by rfl) mt boot_tuple rfl) pa_nil))))) (pw_or1 (pt_cmpR op_ne (pe_callB (len9 K) (by rfl) ml PySem.boot_len (pa_cons (pv 1) pa_nil)) pe_int (nomark _))))) (pss_one ps_never) pss_nil)
    (pss_one (ps_ret (pe_mk (mak_Corner T) hr (pa_cons (pv 0) (pa_cons (pe_ix (ixT9 K) (pv 1) pe_int (fun _ _ => rfl)) (pa_cons (pe_ix (ixT9 K) (pv 1) pe_int (fun _ _ => rfl)) pa_nil)))))), ?_⟩
  obtain ⟨v, t, i, j, g, S, rfl, ht, hg, ok, k⟩ := h
  refine ⟨_, rfl, _, _, _, _, _, rfl, .ty _, .base (.tup ht), kit_tt, _, rfl, iteF ?_⟩
  refine ⟨_, rfl, t, _, rfl, .inr (SqT.of ht), rfl, _, rfl, iteF ?_⟩
  exact ⟨_, rfl, _, rfl, t, _, 0, .int i, rfl, rfl, SqT.of ht, rfl, _, rfl, t, _, 1, .int j, rfl, rfl, SqT.of ht, rfl, mk_ctor (f := .cor g i j) (A := ACor K) ⟨v, i, j, g, S, rfl, rfl, hg, ok⟩ k⟩
end
end K9

/-! ## F36 -/
namespace K9
open PySem PySem.Spec PyProof.Rows L2
/-! Formula: str, ==. Matrix: ==. -/
def isFn9 (K : PySem.W.Frag) (C : Addr) : Prop := ∃ q ∈ kinds, q.nm ≠ "Letter" ∧ C = He.ga K q.nm
theorem isFn9.fc {K : PySem.W.Frag} {C : Addr} (h : isFn9 K C) : FC K C := by
  obtain ⟨q, hq, _, e⟩ := h
  exact ⟨q, hq, e⟩
def REqF (K : PySem.W.Frag) (a b : Addr) (H : Hp) : Prop := ∃ f S, IsF K H f (.ref a) ∧ IsF K H f (.ref b) ∧ f.Ok S
def DLet (K : PySem.W.Frag) : Eqv := DIns (He.ga K "Letter") (REqLn K)
theorem dlet_mon (K : PySem.W.Frag) : Mon (DLet K) := fun x y H H' e ⟨a, b, dx, dy, fs, gs, h1, h2, h3, h4, l, h5, h6, h7⟩ =>
  ⟨a, b, dx, dy, fs, gs, h1, h2, e _ _ h3, e _ _ h4, l, h5, h6.imm (Same.imm e), h7.imm (Same.imm e)⟩
theorem dlet_of {K : PySem.W.Frag} {H : Hp} {x y : V} {l : Ltr} (n : LNice l) (h1 : IsL K H x l) (h2 : IsL K H y l) : DLet K x y H := by
  have h1' := h1
  have h2' := h2
  obtain ⟨a, rfl, ⟨dx, fs, rv, cv, pt, st, core, o⟩⟩ := h1'
  obtain ⟨b, rfl, ⟨dy, gs, rv2, cv2, pt2, st2, core2, o2⟩⟩ := h2'
  exact ⟨a, b, dx, dy, fs, gs, rfl, rfl, o.at_, o2.at_, l, n, h1, h2⟩
section
variable {P : Program} {w : World} {K : PySem.W.Frag} {mg : Str → Option Value} {base : Heap}
theorem rd_kind {H : Hp} {v : V} {f : Fm} {Q : VK} (h : IsF K H f v) (q : Q (.str f.kd.word) H) : ∃ a C dx fs, v = .ref a ∧ H a = some (.ins C dx fs) ∧ FC K C ∧ spKind K [.ref a] H Q E0 := by
  obtain ⟨ps, ⟨a, lv, ls, rfl, ⟨dx, fs, rv, cv, pt, st, core, o⟩, _⟩, _⟩ := h.node
  exact ⟨a, _, dx, fs, rfl, o.at_, fc_of K f, a, _, dx, fs, f.kd, rfl, o.at_, f.kd_mem, rfl, o.no.2.2, q⟩
theorem eqG_letter (T : Txt K mg) {X : Cx} (hP : X.prog = P) (hw : X.w = w) (hK : X.K = K) (hm : X.mg = mg) (hb : X.base = base) : EqG X 5 (DLet K) := by
  subst hP hw hK hm hb
  obtain ⟨f, hs, hf, _, F⟩ := (opm_lEq (P := X.prog) (w := X.w) (base := X.base) T _ rfl).ex
  obtain ⟨fd, ps, ds, F, kp, hb', hd⟩ := F.ex
  have hds : ds = [] := by cases hd; rfl
  subst hds
  exact eqG_ins F hs hf hb' pass0
theorem sc_fstr : FnScope ["self"] ["self"] (defScope (inCls 70 10)) := ⟨rfl, rfl, rfl, by decide +kernel, rfl, by decide +kernel, by decide +kernel⟩
theorem fm_str (T : Txt K mg) : ∀ C, FC K C → Opm P w K mg base 67 C "__str__" (spStrF K) := fun C hC => by
  obtain ⟨q, hq, rfl⟩ := hC
  have F := T.fc q hq
  have ms := nofree T (x := "str") (by decide +kernel)
  refine (met_of F.mStr sc_fstr (fun _ _ _ _ _ _ us hl => match us, hl with | [_], _ => rfl) (fun vs H Q E h => ?_) (fun f cdv A outer s H vs Q E hr h => ?_)).2
  · obtain ⟨v, g, S, rfl, _⟩ := h; rfl
  refine ⟨_, pss_one (ps_ret (pe_callTy SkE.call_str_str (by rfl) ms boot_str (pa_cons (pe_mtC0 (spell_all T 60) hr (pv 0)) pa_nil))), ?_⟩
  obtain ⟨v, g, S, rfl, hg, ok, k⟩ := h
  exact ⟨_, rfl, rd_spell hg ok ok.lim.l fun H1 s1 => ⟨_, rfl, k _ _ s1 rfl⟩⟩
theorem sc_feq : FnScope ["self", "other"] ["self", "other"] (defScope (inCls 70 9)) := ⟨rfl, rfl, rfl, by decide +kernel, rfl, by decide +kernel, by decide +kernel⟩
theorem fm_eq (T : Txt K mg) : ∀ C, isFn9 K C → Opm P w K mg base 67 C "__eq__" (spEq (REqF K)) := fun C hC => by
  obtain ⟨q, hq, hne, rfl⟩ := hC
  have mi := nofree T (x := "isinstance") (by decide +kernel)
  refine (met_of (T.fcEq q hq hne) sc_feq (fun _ _ _ _ _ _ us hl => match us, hl with | [_, _], _ => rfl) (fun vs H Q E h => ?_) (fun f cdv A outer s H vs Q E hr h => ?_)).2
  · obtain ⟨a, b, rfl, _⟩ := h; rfl
  refine ⟨_, pss_cons (ps_if (PW.pt (pw_or (pt_not (pt_val (pe_callB call_isi (by rfl) mi boot_isi (pa_cons (pv 1) (pa_cons (pe_glob (v := .ref (He.ga K "Formula")) (by rfl) T.fGlob rfl) pa_nil))))) (pw_or1 (pt_cmpR op_ne (pe_prp (prp_kind T) hr (pv 0)) (pe_prp (prp_kind T) hr (pv 1)) (nomark _))))) (pss_one ps_never) pss_nil)
    (pss_one (ps_ret (pe_and (pe_cmpR op_eq (pe_mtC0 (spell_all T 60) hr (pv 0)) (pe_mtC0 (spell_all T 60) hr (pv 1)) (nomark _)) (pe_one (pe_cmpR (op_eqG (rcG_tup (dlet_mon K) (eqG_letter (P := P) (w := w) (base := base) T rfl rfl rfl rfl rfl)) (hr.mono (by decide))) (pe_prp (prp_letters T) hr (pv 0)) (pe_prp (prp_letters T) hr (pv 1)) (nomark _)))))), ?_⟩
  obtain ⟨a, b, rfl, ⟨g, S, h1, h2, ok⟩, q'⟩ := h
  obtain ⟨qs2, n2, _⟩ := h2.node
  obtain ⟨qs1, n1, _⟩ := h1.node
  have n2' := n2
  obtain ⟨b', lvb, lsb, e, ⟨dxb, fsb, rvb, cvb, ptb, stb, cob, ob⟩, hlb, hob⟩ := n2'
  cases e
  have n1' := n1
  obtain ⟨a', lva, lsa, e, ⟨dxa, fsa, rva, cva, pta, sta, coa, oa⟩, hla, hoa⟩ := n1'
  cases e
  have F := T.fc g.kd g.kd_mem
  refine ⟨_, rfl, _, _, _, _, _, rfl, .own _, F.num.ni.own.ty ob.at_, F.form, _, rfl, iteF ?_⟩
  refine ⟨_, rfl, rd_kind h1 ⟨_, rfl, rd_kind h2 ⟨rfl, _, rfl, ?_⟩⟩⟩
  rw [decide_eq_true rfl]
  refine iteF ?_
  refine ⟨_, rfl, rd_spell h1 ok ok.lim.l fun H1 s1 => ⟨_, rfl, rd_spell (h2.imm (Same.imm s1)) ok ok.lim.l fun H2 s2 => ⟨rfl, _, rfl, ?_⟩⟩⟩
  rw [decide_eq_true rfl]
  have s12 := Same.trans s1 s2
  refine iteT ⟨_, rfl, rd_get (s12 _ _ oa.at_) (fc_of K g) oa.fld.s ⟨_, rfl, rd_get (s12 _ _ ob.at_) (fc_of K g) ob.fld.s ⟨⟨sta, stb, lva, lvb, rfl, rfl, SqT.of (s12 _ _ oa.s), SqT.of (s12 _ _ ob.s), ?_, fun i x y hx hy => ?_⟩, fun H' e => q' H' (Same.trans s12 e)⟩⟩⟩
  · rw [hla.len, hlb.len, hoa.unique hob]
  · obtain ⟨l, hl, hL⟩ := hla.get' hx
    obtain ⟨l', hl', hL'⟩ := hlb.get' hy
    rw [hoa.unique hob] at hl
    rw [hl] at hl'
    cases hl'
    have hm : l ∈ g.occ := (hob.mem l).mp (List.mem_of_getElem? hl)
    exact dlet_of (ok.inS l hm).2.2 (hL.imm (Same.imm s12)) (hL'.imm (Same.imm s12))
end
/-! Matrix == -/
def iT2 (A : List (List Int)) : PyData := .tuple (A.map fun r => .tuple (r.map .int))
theorem ints_lay (r : List Int) : PyData.canLayAll0 (r.map .int) = true ∧ PyData.depthAll (r.map .int) ≤ 1 := by
  induction r with
  | nil => simp [PyData.canLayAll0, PyData.depthAll]
  | cons a l ih => simp [PyData.canLayAll0, PyData.depthAll, PyData.canLay0, PyData.depth, ih.1, ih.2]
theorem iT2_lay (A : List (List Int)) : PyData.canLayAll0 (A.map fun r => .tuple (r.map .int)) = true ∧ PyData.depthAll (A.map fun r => .tuple (r.map .int)) ≤ 3 := by
  induction A with
  | nil => simp [PyData.canLayAll0, PyData.depthAll]
  | cons a l ih =>
    obtain ⟨h1, h2⟩ := ints_lay a
    simp [PyData.canLayAll0, PyData.depthAll, PyData.canLay0, PyData.depth, ih.1, h1]
    omega
theorem iT2_shaped (A : List (List Int)) : SeqAt.shaped (iT2 A) = true := by
  obtain ⟨h1, h2⟩ := iT2_lay A
  simp [iT2, SeqAt.shaped, PyData.canLay0, PyData.depth, h1]
  omega
theorem iT2_eqv (A : List (List Int)) : (iT2 A).eqv (iT2 A) = true := by
  have h : ∀ r ∈ A, ((fun r => PyData.tuple (r.map .int)) r).eqv ((fun r => PyData.tuple (r.map .int)) r) = true := fun r _ => by
    have := eqvAll_map (f := PyData.int) (l := r) fun x _ => by simp [PyData.eqv]
    simp [PyData.eqv, this]
  have := eqvAll_map h
  simp [iT2, PyData.eqv, this]
theorem dp_ints (K : PySem.W.Frag) (H : Hp) (r : List Int) : DpAll K H (r.map V.int) (r.map .int) := by
  induction r with
  | nil => exact .nil
  | cons a l ih => exact .cons (.int a) ih
theorem dp_all {K : PySem.W.Frag} {H : Hp} : ∀ {xs : List V} {ds : List PyData}, Al (fun x d => Dp K H x d) xs ds → DpAll K H xs ds
  | [], [], _ => .nil
  | [], d :: ds, h => by have := h.len; simp at this
  | x :: xs, [], h => by have := h.len; simp at this
  | x :: xs, d :: ds, h => .cons (h.at_ 0 x d rfl rfl) (dp_all ⟨by have := h.len; simp at this; exact this, fun i a b e1 e2 => h.at_ (i + 1) a b (by simpa using e1) (by simpa using e2)⟩)
theorem dp_iT2 {K : PySem.W.Frag} {H : Hp} {v : V} {A : List (List Int)} (h : TabOf isI H v A) : Dp K H v (iT2 A) := by
  obtain ⟨rows, ⟨t, rvs, rfl, ht, hrv⟩, aA⟩ := h
  refine .tup (SqT.of ht) (dp_all ⟨by rw [hrv.len, aA.len, List.length_map], fun i x d h1 h2 => ?_⟩)
  obtain ⟨cs, hcs, t', rfl, ht'⟩ := hrv.get' h1
  obtain ⟨r, hr, aR⟩ := aA.get' hcs
  rw [List.getElem?_map, hr] at h2
  cases h2
  have e := row_isI aR
  subst e
  exact .tup (SqT.of ht') (dp_ints K H r)
def REqM (K : PySem.W.Frag) (a b : Addr) (H : Hp) : Prop := ∃ M, IsM K H (.ref a) M ∧ IsM K H (.ref b) M
section
variable {P : Program} {w : World} {K : PySem.W.Frag} {mg : Str → Option Value} {base : Heap}
theorem sc_meq : FnScope ["self", "other"] ["self", "other"] (defScope (inCls 65 16)) := ⟨rfl, rfl, rfl, by decide +kernel, rfl, by decide +kernel, by decide +kernel⟩
theorem opm_mEq (T : Txt K mg) : ∀ C, isMat K C → Opm P w K mg base 1 C "__eq__" (spEq (REqM K)) := fun C hC => by
  subst hC
  refine (met_of T.mEq sc_meq (fun _ _ _ _ _ _ us hl => match us, hl with | [_, _], _ => rfl) (fun vs H Q E h => ?_) (fun f cdv A outer s H vs Q E hr h => ?_)).2
  · obtain ⟨a, b, rfl, _⟩ := h; rfl
  have mi := nofree T (x := "isinstance") (by decide +kernel)
  refine ⟨_, pss_one (ps_ret (pe_and (pe_callB call_isi (by rfl) mi boot_isi (pa_cons (pv 1) (pa_cons (pe_glob (v := .ref (cM K)) (by rfl) T.mGlob rfl) pa_nil)))
    (pe_and (pe_cmpR (op_eqD hr.units) (pe_fld (pv 0) rfl) (pe_fld (pv 1) rfl) (nomark _)) (pe_one (pe_cmpR op_eq (pe_fld (pv 0) rfl) (pe_fld (pv 1) rfl) (nomark _)))))), ?_⟩
  obtain ⟨a, b, rfl, ⟨M, ⟨a', dx1, cv1, wv1, e1, ha1, hc1, hw1⟩, ⟨b', dx2, cv2, wv2, e2, ha2, hc2, hw2⟩⟩, q⟩ := h
  cases e1
  cases e2
  have cl := T.mNum.ni.own.cl
  have naw : NoAttr K (cM K) "wholes" := T.mNa _ (by decide +kernel)
  have nab : NoAttr K (cM K) "below" := T.mNa _ (by decide +kernel)
  refine ⟨_, rfl, _, _, _, _, _, rfl, .own _, T.mNum.ni.own.ty ha2, T.mSelf, _, rfl, iteT ?_⟩
  refine ⟨_, rfl, a, _, dx1, _, _, rfl, ha1, cl, naw, mFs_w _ _ _, _, rfl, b, _, dx2, _, _, rfl, ha2, cl, naw, mFs_w _ _ _, iT2 (whM M), iT2 (whM M), dp_iT2 hw1, dp_iT2 hw2, iT2_shaped _, iT2_shaped _, _, rfl, ?_⟩
  rw [iT2_eqv]
  refine iteT ⟨_, rfl, a, _, dx1, _, _, rfl, ha1, cl, nab, mFs_b _ _ _, _, rfl, b, _, dx2, _, _, rfl, ha2, cl, nab, mFs_b _ _ _, rfl, ?_⟩
  rw [decide_eq_true rfl]
  exact q H fun _ _ h => h
end
end K9

/-! ## F37 -/
namespace K9
open PySem PySem.Spec PyProof.Rows L2
/-! Made anew of other parts. -/
namespace Fm
/-- the same word over other parts -/
def reb : Fm → List Fm → Fm
  | sum _ _, [g, h] => sum g h
  | dif _ _, [g, h] => dif g h
  | sca q _, [g] => sca q g
  | pro _ _, [g, h] => pro g h
  | tra _, [g] => tra g
  | inv _, [g] => inv g
  | pow _ e, [g] => pow g e
  | b22 _ _ _ _, [a, b, c, d] => b22 a b c d
  | b21 _ _, [a, b] => b21 a b
  | b12 _ _, [a, b] => b12 a b
  | cor _ i j, [g] => cor g i j
  | f, _ => f
/-- letters exchanged for formulas -/
def sub (σ : Ltr → Fm) : Fm → Fm
  | letter l => σ l
  | eye s => eye s
  | zero r c => zero r c
  | sum f g => sum (sub σ f) (sub σ g)
  | dif f g => dif (sub σ f) (sub σ g)
  | sca q f => sca q (sub σ f)
  | pro f g => pro (sub σ f) (sub σ g)
  | tra f => tra (sub σ f)
  | inv f => inv (sub σ f)
  | pow f e => pow (sub σ f) e
  | b22 a b c d => b22 (sub σ a) (sub σ b) (sub σ c) (sub σ d)
  | b21 a b => b21 (sub σ a) (sub σ b)
  | b12 a b => b12 (sub σ a) (sub σ b)
  | cor f i j => cor (sub σ f) i j
theorem reb_sub (σ : Ltr → Fm) {f : Fm} (h : ∀ l, f ≠ letter l) : f.reb (f.kids.map (sub σ)) = f.sub σ := by
  cases f with
  | letter l => exact absurd rfl (h l)
  | _ => rfl
end Fm
end K9

/-! ## F38 -/
namespace K9
open PySem PySem.Spec PyProof.Rows L2
/-! remade: properties of single kinds, and the words. -/
section
variable {P : Program} {w : World} {K : PySem.W.Frag} {mg : Str → Option Value} {base : Heap}
theorem prp_number (T : Txt K mg) : ∀ C, C = He.ga K "Scaled" → Prp P w K mg base 1 C "number" (spGet K "factor") := fun C hC => by
  subst hC
  refine prp_of T.sNumber (N := ["self"]) (ps := ["self"]) ⟨rfl, rfl, rfl, by decide +kernel, rfl, by decide +kernel, by decide +kernel⟩ (fun _ _ _ _ _ _ us hl => match us, hl with | [_], _ => rfl) (fun vs H Q E h => ?_) (fun f cdv A outer s H vs Q E hr h => ?_)
  · obtain ⟨a, C, dx, fs, v, rfl, _⟩ := h; rfl
  obtain ⟨a, C, dx, fs, v, rfl, ha, hC, hv, k⟩ := h
  obtain ⟨q', hq', rfl⟩ := hC
  exact ⟨_, pss_one (ps_ret (pe_fld (pv 0) rfl)), _, rfl, a, _, dx, _, _, rfl, ha, (T.fc q' hq').num.ni.own.cl, (T.fc q' hq').na _ (by decide +kernel), hv, k⟩
theorem prp_exponent (T : Txt K mg) : ∀ C, C = He.ga K "Power" → Prp P w K mg base 1 C "exponent" (spGet K "order") := fun C hC => by
  subst hC
  refine prp_of T.wExponent (N := ["self"]) (ps := ["self"]) ⟨rfl, rfl, rfl, by decide +kernel, rfl, by decide +kernel, by decide +kernel⟩ (fun _ _ _ _ _ _ us hl => match us, hl with | [_], _ => rfl) (fun vs H Q E h => ?_) (fun f cdv A outer s H vs Q E hr h => ?_)
  · obtain ⟨a, C, dx, fs, v, rfl, _⟩ := h; rfl
  obtain ⟨a, C, dx, fs, v, rfl, ha, hC, hv, k⟩ := h
  obtain ⟨q', hq', rfl⟩ := hC
  exact ⟨_, pss_one (ps_ret (pe_fld (pv 0) rfl)), _, rfl, a, _, dx, _, _, rfl, ha, (T.fc q' hq').num.ni.own.cl, (T.fc q' hq').na _ (by decide +kernel), hv, k⟩
theorem prp_table (T : Txt K mg) : ∀ C, C = He.ga K "Blocks" → Prp P w K mg base 1 C "table" (spGet K "lines") := fun C hC => by
  subst hC
  refine prp_of T.bTable (N := ["self"]) (ps := ["self"]) ⟨rfl, rfl, rfl, by decide +kernel, rfl, by decide +kernel, by decide +kernel⟩ (fun _ _ _ _ _ _ us hl => match us, hl with | [_], _ => rfl) (fun vs H Q E h => ?_) (fun f cdv A outer s H vs Q E hr h => ?_)
  · obtain ⟨a, C, dx, fs, v, rfl, _⟩ := h; rfl
  obtain ⟨a, C, dx, fs, v, rfl, ha, hC, hv, k⟩ := h
  obtain ⟨q', hq', rfl⟩ := hC
  exact ⟨_, pss_one (ps_ret (pe_fld (pv 0) rfl)), _, rfl, a, _, dx, _, _, rfl, ha, (T.fc q' hq').num.ni.own.cl, (T.fc q' hq').na _ (by decide +kernel), hv, k⟩
def spSpot0 (K : PySem.W.Frag) : Sp := fun vs H Q _ => ∃ a C dx fs t xs v, vs = [.ref a] ∧ H a = some (.ins C dx fs) ∧ FC K C ∧ fs.lookup ("spot" : Str) = some (.ref t) ∧ H t = some (.tup xs) ∧ xs[0]? = some v ∧ Q v H
theorem prp_crow (T : Txt K mg) : ∀ C, C = He.ga K "Corner" → Prp P w K mg base 1 C "row" (spSpot0 K) := fun C hC => by
  subst hC
  refine prp_of T.cRow (N := ["self"]) (ps := ["self"]) ⟨rfl, rfl, rfl, by decide +kernel, rfl, by decide +kernel, by decide +kernel⟩ (fun _ _ _ _ _ _ us hl => match us, hl with | [_], _ => rfl) (fun vs H Q E h => ?_) (fun f cdv A outer s H vs Q E hr h => ?_)
  · obtain ⟨a, C, dx, fs, t, xs, v, rfl, _⟩ := h; rfl
  obtain ⟨a, C, dx, fs, t, xs, v, rfl, ha, hC, hv, ht, hx, k⟩ := h
  obtain ⟨q', hq', rfl⟩ := hC
  exact ⟨_, pss_one (ps_ret (pe_ix (ixT9 K) (pe_fld (pv 0) rfl) pe_int (fun _ _ => rfl))), _, rfl, a, _, dx, _, _, rfl, ha, (T.fc q' hq').num.ni.own.cl, (T.fc q' hq').na _ (by decide +kernel), hv, t, xs, 0, v, rfl, rfl, SqT.of ht, atI_nat (j := 0) hx, k⟩
def spSpot1 (K : PySem.W.Frag) : Sp := fun vs H Q _ => ∃ a C dx fs t xs v, vs = [.ref a] ∧ H a = some (.ins C dx fs) ∧ FC K C ∧ fs.lookup ("spot" : Str) = some (.ref t) ∧ H t = some (.tup xs) ∧ xs[1]? = some v ∧ Q v H
theorem prp_ccolumn (T : Txt K mg) : ∀ C, C = He.ga K "Corner" → Prp P w K mg base 1 C "column" (spSpot1 K) := fun C hC => by
  subst hC
  refine prp_of T.cColumn (N := ["self"]) (ps := ["self"]) ⟨rfl, rfl, rfl, by decide +kernel, rfl, by decide +kernel, by decide +kernel⟩ (fun _ _ _ _ _ _ us hl => match us, hl with | [_], _ => rfl) (fun vs H Q E h => ?_) (fun f cdv A outer s H vs Q E hr h => ?_)
  · obtain ⟨a, C, dx, fs, t, xs, v, rfl, _⟩ := h; rfl
  obtain ⟨a, C, dx, fs, t, xs, v, rfl, ha, hC, hv, ht, hx, k⟩ := h
  obtain ⟨q', hq', rfl⟩ := hC
  exact ⟨_, pss_one (ps_ret (pe_ix (ixT9 K) (pe_fld (pv 0) rfl) pe_int (fun _ _ => rfl))), _, rfl, a, _, dx, _, _, rfl, ha, (T.fc q' hq').num.ni.own.cl, (T.fc q' hq').na _ (by decide +kernel), hv, t, xs, 1, v, rfl, rfl, SqT.of ht, atI_nat (j := 1) hx, k⟩
end
end K9

/-! ## F40 -/
namespace K9
open PySem PySem.Spec PyProof.Rows L2
/-! The tables of blocks that can be made. -/
namespace Fm
theorem hcat_rows {m n k b c : Nat} {A B : List (List Rat)} (h : MatB m n b A) (g : MatB m k c B) : hcat A B = (List.range m).map fun i => A.getD i [] ++ B.getD i [] := by
  refine List.ext_getElem? fun i => ?_
  unfold hcat
  rw [List.getElem?_zipWith, List.getElem?_map]
  by_cases hi : i < m
  · rw [List.getElem?_range hi, List.getElem?_eq_getElem (by rw [h.len]; exact hi), List.getElem?_eq_getElem (by rw [g.len]; exact hi), Option.map_some, List.getD_eq_getElem?_getD, List.getD_eq_getElem?_getD, List.getElem?_eq_getElem (by rw [h.len]; exact hi), List.getElem?_eq_getElem (by rw [g.len]; exact hi)]
    rfl
  · rw [List.getElem?_eq_none (l := A) (by rw [h.len]; omega), List.getElem?_eq_none (l := List.range m) (by rw [List.length_range]; omega)]
    rfl
theorem one_rows {m n b : Nat} {A : List (List Rat)} (h : MatB m n b A) : A = (List.range m).map fun i => A.getD i [] := by
  refine List.ext_getElem? fun i => ?_
  rw [List.getElem?_map]
  by_cases hi : i < m
  · rw [List.getElem?_range hi, Option.map_some, List.getD_eq_getElem?_getD, List.getElem?_eq_getElem (by rw [h.len]; exact hi)]
    rfl
  · rw [List.getElem?_eq_none (l := A) (by rw [h.len]; omega), List.getElem?_eq_none (l := List.range m) (by rw [List.length_range]; omega)]
    rfl
theorem tabOk_b12 {S : Sys} {a b : Fm} (h : (b12 a b).Ok S) : TabOk S (b12 a b) 2 (b12 a b).tab := by
  have hm := h.mat
  obtain ⟨oa, ob, e1, L⟩ := h
  have ma := oa.mat
  have mb := ob.mat
  rw [← e1] at mb
  refine ⟨by simp [tab], by decide, by decide, by show 1 ≤ 2; decide, ?_, ?_, ?_, ?_, ?_, ?_, ?_, ?_, ?_, ?_, L, hm⟩
  · intro r hr; simp [tab] at hr; subst hr; rfl
  · intro r hr g hg; simp [tab] at hr; subst hr; simp at hg; rcases hg with rfl | rfl; exact oa; exact ob
  · intro r hr g hg; simp [tab] at hr; subst hr; simp at hg; rcases hg with rfl | rfl; rfl; exact e1.symm
  · intro r hr j g k h1 h2; simp [tab] at hr; subst hr; simp [tab] at h2; rw [h1] at h2; cases h2; rfl
  · simp [tab, hd]; rfl
  · simp [tab]; rfl
  · simp [tab, wt]
  · simp only [tab, lv, List.flatten_cons, List.flatten_nil, List.append_nil, List.map_cons, List.map_nil]; exact max2 _ _
  · show hcat a.mid b.mid = _
    rw [hcat_rows ma mb]
    simp [tab, hd]
  · intro l; simp [tab, occ]
theorem tabOk_b21 {S : Sys} {a b : Fm} (h : (b21 a b).Ok S) : TabOk S (b21 a b) 1 (b21 a b).tab := by
  have hm := h.mat
  obtain ⟨oa, ob, e1, L⟩ := h
  have ma := oa.mat
  have mb := ob.mat
  refine ⟨by simp [tab], by decide, by decide, by show 2 ≤ 2; decide, ?_, ?_, ?_, ?_, ?_, ?_, ?_, ?_, ?_, ?_, L, hm⟩
  · intro r hr; simp [tab] at hr; rcases hr with rfl | rfl <;> rfl
  · intro r hr g hg; simp [tab] at hr; rcases hr with rfl | rfl <;> simp at hg <;> subst hg; exact oa; exact ob
  · intro r hr g hg; simp [tab] at hr; rcases hr with rfl | rfl <;> simp at hg <;> subst hg <;> rfl
  · intro r hr j g k h1 h2
    simp [tab] at hr h2
    match j, h1, h2 with
    | 0, h1, h2 =>
      cases h2
      rcases hr with rfl | rfl <;> cases h1
      · rfl
      · exact e1.symm
    | j + 1, h1, h2 => simp at h2
  · simp [tab, hd]; rfl
  · simp [tab]; rfl
  · simp [tab, wt]
  · simp only [tab, lv, List.flatten_cons, List.flatten_nil, List.append_nil, List.map_cons, List.map_nil, List.cons_append, List.nil_append]; exact max2 _ _
  · show a.mid ++ b.mid = _
    have e1 := one_rows ma
    have e2 := one_rows mb
    simp only [tab, hd, List.map_cons, List.map_nil, List.flatten_cons, List.flatten_nil, List.append_nil, List.headD_cons]
    rw [← e1, ← e2]
  · intro l; simp [tab, occ]
theorem max4 (a b c d : Nat) : (1 : Int) + maxOr 0 [(a : Int), (b : Int), (c : Int), (d : Int)] = ((1 + max (max (max a b) c) d : Nat) : Int) := by
  have step : ∀ x y : Nat, (if (x : Int) < (y : Int) then (y : Int) else (x : Int)) = ((max x y : Nat) : Int) := fun x y => by split <;> omega
  show (1 : Int) + (List.foldl (fun a b => if a < b then b else a) (a : Int) [(b : Int), (c : Int), (d : Int)]) = _
  simp only [List.foldl_cons, List.foldl_nil, step]
  omega
theorem tabOk_b22 {S : Sys} {a b c d : Fm} (h : (b22 a b c d).Ok S) : TabOk S (b22 a b c d) 2 (b22 a b c d).tab := by
  have hm := h.mat
  obtain ⟨oa, ob, oc, od, e1, e2, e3, e4, L⟩ := h
  have ma := oa.mat
  have mb := ob.mat
  have mc := oc.mat
  have md := od.mat
  rw [← e1] at mb
  rw [← e2] at md
  refine ⟨by simp [tab], by decide, by decide, by show 2 ≤ 2; decide, ?_, ?_, ?_, ?_, ?_, ?_, ?_, ?_, ?_, ?_, L, hm⟩
  · intro r hr; simp [tab] at hr; rcases hr with rfl | rfl <;> rfl
  · intro r hr g hg; simp [tab] at hr; rcases hr with rfl | rfl <;> simp at hg <;> rcases hg with rfl | rfl; exact oa; exact ob; exact oc; exact od
  · intro r hr g hg; simp [tab] at hr; rcases hr with rfl | rfl <;> simp at hg <;> rcases hg with rfl | rfl; rfl; exact e1.symm; rfl; exact e2.symm
  · intro r hr j g k h1 h2
    simp [tab] at hr h2
    match j, h1, h2 with
    | 0, h1, h2 =>
      cases h2
      rcases hr with rfl | rfl <;> cases h1
      · rfl
      · exact e3.symm
    | 1, h1, h2 =>
      cases h2
      rcases hr with rfl | rfl <;> cases h1
      · rfl
      · exact e4.symm
    | j + 2, h1, h2 => simp at h2
  · simp [tab, hd]; rfl
  · simp [tab]; rfl
  · simp [tab, wt]; omega
  · simp only [tab, lv, List.flatten_cons, List.flatten_nil, List.append_nil, List.map_cons, List.map_nil, List.cons_append, List.nil_append]; exact max4 _ _ _ _
  · show hcat a.mid b.mid ++ hcat c.mid d.mid = _
    rw [hcat_rows ma mb, hcat_rows mc md]
    simp [tab, hd]
  · intro l; simp [tab, occ]
end Fm
section
variable {K : PySem.W.Frag} {H0 : Hp} {S : Sys} {tv : V}
theorem ablo_b22 {a b c d : Fm} {p q r s : V} (ok : (Fm.b22 a b c d).Ok S) (ha : IsF K H0 a p) (hb : IsF K H0 b q) (hc : IsF K H0 c r) (hd : IsF K H0 d s) (hT : TabV H0 tv [[p, q], [r, s]]) : ABlo K H0 [tv] (.b22 a b c d) :=
  ⟨tv, [[p, q], [r, s]], _, 2, S, rfl, hT, .cons (.cons ha (.cons hb .nil)) (.cons (.cons hc (.cons hd .nil)) .nil), Fm.tabOk_b22 ok, rfl, fun H fs h1 h2 => ⟨tv, h1, h2⟩, fun H v s' n => ⟨p, q, r, s, n, ha.imm (Same.imm s'), hb.imm (Same.imm s'), hc.imm (Same.imm s'), hd.imm (Same.imm s')⟩⟩
theorem ablo_b21 {a b : Fm} {p q : V} (ok : (Fm.b21 a b).Ok S) (ha : IsF K H0 a p) (hb : IsF K H0 b q) (hT : TabV H0 tv [[p], [q]]) : ABlo K H0 [tv] (.b21 a b) :=
  ⟨tv, [[p], [q]], _, 1, S, rfl, hT, .cons (.cons ha .nil) (.cons (.cons hb .nil) .nil), Fm.tabOk_b21 ok, rfl, fun H fs h1 h2 => ⟨tv, h1, h2⟩, fun H v s' n => ⟨p, q, n, ha.imm (Same.imm s'), hb.imm (Same.imm s')⟩⟩
theorem ablo_b12 {a b : Fm} {p q : V} (ok : (Fm.b12 a b).Ok S) (ha : IsF K H0 a p) (hb : IsF K H0 b q) (hT : TabV H0 tv [[p, q]]) : ABlo K H0 [tv] (.b12 a b) :=
  ⟨tv, [[p, q]], _, 2, S, rfl, hT, .cons (.cons ha (.cons hb .nil)) .nil, Fm.tabOk_b12 ok, rfl, fun H fs h1 h2 => ⟨tv, h1, h2⟩, fun H v s' n => ⟨p, q, n, ha.imm (Same.imm s'), hb.imm (Same.imm s')⟩⟩
end
end K9

/-! ## F41 -/
namespace K9
open PySem PySem.Spec PyProof.Rows L2
/-! remade -/
theorem slA9 {X : Cx} (K : PySem.W.Frag) (hK : X.K = K := by rfl) : SlR X (rSlA K) := hK ▸ sl_tupA
def spRemade (K : PySem.W.Frag) : Sp := fun vs H Q _ => ∃ (v : V) (t : Addr) (ps : List V) (f : Fm) (gs : List Fm) (S : Sys), vs = [v, .ref t] ∧ IsF K H f v ∧ (∀ l, f ≠ .letter l) ∧ H t = some (.tup ps) ∧ Al (fun p g => IsF K H g p) ps gs ∧ gs.length = f.kids.length ∧ (f.reb gs).Ok S ∧ Pure (fun v' H' => IsF K H' (f.reb gs) v') H Q
section
variable {w : World} {K : PySem.W.Frag} {mg : Str → Option Value} {base : Heap}
abbrev nRem : List Str := ["formula", "parts", "kind", "wide", "k"]
theorem sc_rem : FnScope nRem ["formula", "parts"] (defScope (top 85)) := ⟨rfl, rfl, rfl, by decide +kernel, rfl, by decide +kernel, by decide +kernel⟩
theorem cal_remade (T : Txt K mg) : Cal Pg w K mg base 14 "remade" (spRemade K) [] := by
  refine cal_of T.d_remade sc_rem (fun _ _ _ _ _ _ us hl => match us, hl with | [_, _], _ => rfl) (fun vs H Q E h => ?_) (fun f cdv A outer s H vs Q E hr h => ?_)
  · obtain ⟨v, t, ps, f, gs, S, rfl, _⟩ := h; rfl
  have mt := nofree T (x := "tuple") (by decide +kernel)
  have ml := nofree T (x := "len") (by decide +kernel)
  have mr := nofree T (x := "range") (by decide +kernel)
  refine ⟨_, pss_cons (ps_set (i := 2) sc_rem.nd rfl (Or.inl rfl) (pe_prp (prp_kind T) hr (pv 0)))
    (pss_cons (ps_if (pt_cmpR op_eq (pv 2) pe_str (nomark _)) (pss_one (ps_ret (pe_mk (mak_sum T) hr (pa_cons (pe_ix (ixT9 K) (pv 1) pe_int (fun _ _ => rfl)) (pa_cons (pe_ix (ixT9 K) (pv 1) pe_int (fun _ _ => rfl)) pa_nil))))) pss_nil)
    (pss_cons (ps_if (pt_cmpR op_eq (pv 2) pe_str (nomark _)) (pss_one (ps_ret (pe_mk (mak_dif T) hr (pa_cons (pe_ix (ixT9 K) (pv 1) pe_int (fun _ _ => rfl)) (pa_cons (pe_ix (ixT9 K) (pv 1) pe_int (fun _ _ => rfl)) pa_nil))))) pss_nil)
    (pss_cons (ps_if (pt_cmpR op_eq (pv 2) pe_str (nomark _)) (pss_one (ps_ret (pe_mk (mak_Scaled T) hr (pa_cons (pe_prp (ok := fun C => C = He.ga K "Scaled") (prp_number T) hr (pv 0)) (pa_cons (pe_ix (ixT9 K) (pv 1) pe_int (fun _ _ => rfl)) pa_nil))))) pss_nil)
    (pss_cons (ps_if (pt_cmpR op_eq (pv 2) pe_str (nomark _)) (pss_one (ps_ret (pe_mk (mak_Product T) hr (pa_cons (pe_ix (ixT9 K) (pv 1) pe_int (fun _ _ => rfl)) (pa_cons (pe_ix (ixT9 K) (pv 1) pe_int (fun _ _ => rfl)) pa_nil))))) pss_nil)
    (pss_cons (ps_if (pt_cmpR op_eq (pv 2) pe_str (nomark _)) (pss_one (ps_ret (pe_mk (mak_Transposed T) hr (pa_cons (pe_ix (ixT9 K) (pv 1) pe_int (fun _ _ => rfl)) pa_nil)))) pss_nil)
    (pss_cons (ps_if (pt_cmpR op_eq (pv 2) pe_str (nomark _)) (pss_one (ps_ret (pe_mk (mak_Inverse T) hr (pa_cons (pe_ix (ixT9 K) (pv 1) pe_int (fun _ _ => rfl)) pa_nil)))) pss_nil)
    (pss_cons (ps_if (pt_cmpR op_eq (pv 2) pe_str (nomark _)) (pss_one (ps_ret (pe_mk (mak_Power T) hr (pa_cons (pe_ix (ixT9 K) (pv 1) pe_int (fun _ _ => rfl)) (pa_cons (pe_prp (ok := fun C => C = He.ga K "Power") (prp_exponent T) hr (pv 0)) pa_nil))))) pss_nil)
    (pss_cons (ps_if (pt_cmpR op_eq (pv 2) pe_str (nomark _)) (pss_one (ps_ret (pe_mk (mak_Corner T) hr (pa_cons (pe_ix (ixT9 K) (pv 1) pe_int (fun _ _ => rfl)) (pa_cons (pe_prp (ok := fun C => C = He.ga K "Corner") (prp_crow T) hr (pv 0)) (pa_cons (pe_prp (ok := fun C => C = He.ga K "Corner") (prp_ccolumn T) hr (pv 0)) pa_nil)))))) pss_nil)
    (pss_cons (ps_if (pt_cmpR op_eq (pv 2) pe_str (nomark _)) (pss_cons (ps_set (i := 3) sc_rem.nd rfl (Or.inr rfl) (pe_callB (len9 K) (by rfl) ml PySem.boot_len (pa_cons (pe_ix (ixT9 K) (pe_prp (ok := fun C => C = He.ga K "Blocks") (prp_table T) hr (pv 0)) pe_int (fun _ _ => rfl)) pa_nil))) (pss_one (ps_ret (pe_mk (mak_Blocks T) hr (pa_cons (pe_callTy (tupleOf9 K) (by rfl) mt boot_tuple (pa_cons (pe_lc (own := [("k", 4)]) (g := gName 4) (tt := tYes) rfl sc_rem.nd (pi_range3 (by rfl) mr (pa_cons pe_int (pa_cons (pe_callB (len9 K) (by rfl) ml PySem.boot_len (pa_cons (pv 1) pa_nil)) (pa_cons (pv 3) pa_nil)))) (blkOk_by (N := nRem) (sc := defScope (top 85)) (by decide +kernel)) (fun _ _ _ _ _ => pg_name (i := 4) sc_rem.nd rfl (Or.inl rfl)) (fun _ _ _ _ _ => pts_nil) (fun _ _ _ _ _ => pe_callTy (tupleOf9 K) (by rfl) mt boot_tuple (pa_cons (pe_slice (slA9 K) (pv 1) (po_some (pv 4)) (po_some (pe_op op_add (pv 4) (pv 3)))) pa_nil))) pa_nil)) pa_nil))))) pss_nil)
    (pss_one (ps_ret (pv 0)))))))))))), ?_⟩
  obtain ⟨v, t, ps, f0, gs, S, rfl, hF, hnl, ht, aP, lg, ok, k⟩ := h
  have lps : ps.length = gs.length := aP.len
  have get : ∀ {i : Nat} {g : Fm}, gs[i]? = some g → ∃ p, ps[i]? = some p ∧ IsF K H g p := fun h => aP.get h
  refine ⟨_, rfl, rd_kind hF ?_⟩
  have hF' := hF
  obtain ⟨qs, ⟨a, lv, ls, rfl, ⟨dx, fs, rv, cv, pt, st, core, o⟩, _⟩, _⟩ := hF'.node
  cases f0 with
  | letter l => exact absurd rfl (hnl l)
  | sum x y =>
    obtain ⟨g, h, rfl⟩ : ∃ g h, gs = [g, h] := by
      match gs, lg with
      | [g, h], _ => exact ⟨g, h, rfl⟩
    obtain ⟨p, hp, hg⟩ := get (i := 0) rfl
    obtain ⟨q, hq, hh⟩ := get (i := 1) rfl
    rw [show (Fm.sum x y).kd.word = Str.ofString "sum" from rfl]
    refine ⟨_, rfl, rfl, _, rfl, ?_⟩
    rw [show decide (V.str (Str.ofString "sum") = V.str (Str.ofString "sum")) = true from decide_eq_true rfl]
    refine iteT ?_
    exact ⟨_, rfl, t, ps, 0, p, rfl, rfl, SqT.of ht, atI_nat (j := 0) hp, _, rfl, t, ps, 1, q, rfl, rfl, SqT.of ht, atI_nat (j := 1) hq, mk_ctor (f := .sum g h) (A := ASum K) ⟨p, q, g, h, S, rfl, rfl, hg, hh, ok⟩ k⟩
  | dif x y =>
    obtain ⟨g, h, rfl⟩ : ∃ g h, gs = [g, h] := by
      match gs, lg with
      | [g, h], _ => exact ⟨g, h, rfl⟩
    obtain ⟨p, hp, hg⟩ := get (i := 0) rfl
    obtain ⟨q, hq, hh⟩ := get (i := 1) rfl
    rw [show (Fm.dif x y).kd.word = Str.ofString "difference" from rfl]
    refine ⟨_, rfl, rfl, _, rfl, ?_⟩
    rw [show decide (V.str (Str.ofString "difference") = V.str (Str.ofString "sum")) = false from dec_ne_str (by decide +kernel)]
    refine iteF ?_
    refine ⟨_, rfl, rfl, _, rfl, ?_⟩
    rw [show decide (V.str (Str.ofString "difference") = V.str (Str.ofString "difference")) = true from decide_eq_true rfl]
    refine iteT ?_
    exact ⟨_, rfl, t, ps, 0, p, rfl, rfl, SqT.of ht, atI_nat (j := 0) hp, _, rfl, t, ps, 1, q, rfl, rfl, SqT.of ht, atI_nat (j := 1) hq, mk_ctor (f := .dif g h) (A := ADif K) ⟨p, q, g, h, S, rfl, rfl, hg, hh, ok⟩ k⟩
  | pro x y =>
    obtain ⟨g, h, rfl⟩ : ∃ g h, gs = [g, h] := by
      match gs, lg with
      | [g, h], _ => exact ⟨g, h, rfl⟩
    obtain ⟨p, hp, hg⟩ := get (i := 0) rfl
    obtain ⟨q, hq, hh⟩ := get (i := 1) rfl
    rw [show (Fm.pro x y).kd.word = Str.ofString "product" from rfl]
    refine ⟨_, rfl, rfl, _, rfl, ?_⟩
    rw [show decide (V.str (Str.ofString "product") = V.str (Str.ofString "sum")) = false from dec_ne_str (by decide +kernel)]
    refine iteF ?_
    refine ⟨_, rfl, rfl, _, rfl, ?_⟩
    rw [show decide (V.str (Str.ofString "product") = V.str (Str.ofString "difference")) = false from dec_ne_str (by decide +kernel)]
    refine iteF ?_
    refine ⟨_, rfl, rfl, _, rfl, ?_⟩
    rw [show decide (V.str (Str.ofString "product") = V.str (Str.ofString "scaled")) = false from dec_ne_str (by decide +kernel)]
    refine iteF ?_
    refine ⟨_, rfl, rfl, _, rfl, ?_⟩
    rw [show decide (V.str (Str.ofString "product") = V.str (Str.ofString "product")) = true from decide_eq_true rfl]
    refine iteT ?_
    exact ⟨_, rfl, t, ps, 0, p, rfl, rfl, SqT.of ht, atI_nat (j := 0) hp, _, rfl, t, ps, 1, q, rfl, rfl, SqT.of ht, atI_nat (j := 1) hq, mk_ctor (f := .pro g h) (A := APro K) ⟨p, q, g, h, S, rfl, rfl, hg, hh, ok⟩ k⟩
  | tra x =>
    obtain ⟨g, rfl⟩ : ∃ g, gs = [g] := by
      match gs, lg with
      | [g], _ => exact ⟨g, rfl⟩
    obtain ⟨p, hp, hg⟩ := get (i := 0) rfl
    rw [show (Fm.tra x).kd.word = Str.ofString "transposed" from rfl]
    refine ⟨_, rfl, rfl, _, rfl, ?_⟩
    rw [show decide (V.str (Str.ofString "transposed") = V.str (Str.ofString "sum")) = false from dec_ne_str (by decide +kernel)]
    refine iteF ?_
    refine ⟨_, rfl, rfl, _, rfl, ?_⟩
    rw [show decide (V.str (Str.ofString "transposed") = V.str (Str.ofString "difference")) = false from dec_ne_str (by decide +kernel)]
    refine iteF ?_
    refine ⟨_, rfl, rfl, _, rfl, ?_⟩
    rw [show decide (V.str (Str.ofString "transposed") = V.str (Str.ofString "scaled")) = false from dec_ne_str (by decide +kernel)]
    refine iteF ?_
    refine ⟨_, rfl, rfl, _, rfl, ?_⟩
    rw [show decide (V.str (Str.ofString "transposed") = V.str (Str.ofString "product")) = false from dec_ne_str (by decide +kernel)]
    refine iteF ?_
    refine ⟨_, rfl, rfl, _, rfl, ?_⟩
    rw [show decide (V.str (Str.ofString "transposed") = V.str (Str.ofString "transposed")) = true from decide_eq_true rfl]
    refine iteT ?_
    exact ⟨_, rfl, t, ps, 0, p, rfl, rfl, SqT.of ht, atI_nat (j := 0) hp, mk_ctor (f := .tra g) (A := ATra K) ⟨p, g, S, rfl, rfl, hg, ok⟩ k⟩
  | inv x =>
    obtain ⟨g, rfl⟩ : ∃ g, gs = [g] := by
      match gs, lg with
      | [g], _ => exact ⟨g, rfl⟩
    obtain ⟨p, hp, hg⟩ := get (i := 0) rfl
    rw [show (Fm.inv x).kd.word = Str.ofString "inverse" from rfl]
    refine ⟨_, rfl, rfl, _, rfl, ?_⟩
    rw [show decide (V.str (Str.ofString "inverse") = V.str (Str.ofString "sum")) = false from dec_ne_str (by decide +kernel)]
    refine iteF ?_
    refine ⟨_, rfl, rfl, _, rfl, ?_⟩
    rw [show decide (V.str (Str.ofString "inverse") = V.str (Str.ofString "difference")) = false from dec_ne_str (by decide +kernel)]
    refine iteF ?_
    refine ⟨_, rfl, rfl, _, rfl, ?_⟩
    rw [show decide (V.str (Str.ofString "inverse") = V.str (Str.ofString "scaled")) = false from dec_ne_str (by decide +kernel)]
    refine iteF ?_
    refine ⟨_, rfl, rfl, _, rfl, ?_⟩
    rw [show decide (V.str (Str.ofString "inverse") = V.str (Str.ofString "product")) = false from dec_ne_str (by decide +kernel)]
    refine iteF ?_
    refine ⟨_, rfl, rfl, _, rfl, ?_⟩
    rw [show decide (V.str (Str.ofString "inverse") = V.str (Str.ofString "transposed")) = false from dec_ne_str (by decide +kernel)]
    refine iteF ?_
    refine ⟨_, rfl, rfl, _, rfl, ?_⟩
    rw [show decide (V.str (Str.ofString "inverse") = V.str (Str.ofString "inverse")) = true from decide_eq_true rfl]
    refine iteT ?_
    exact ⟨_, rfl, t, ps, 0, p, rfl, rfl, SqT.of ht, atI_nat (j := 0) hp, mk_ctor (f := .inv g) (A := AInv K) ⟨p, g, S, rfl, rfl, hg, ok⟩ k⟩
  | sca r x =>
    obtain ⟨g, rfl⟩ : ∃ g, gs = [g] := by
      match gs, lg with
      | [g], _ => exact ⟨g, rfl⟩
    obtain ⟨p, hp, hg⟩ := get (i := 0) rfl
    rw [show (Fm.sca r x).kd.word = Str.ofString "scaled" from rfl]
    refine ⟨_, rfl, rfl, _, rfl, ?_⟩
    rw [show decide (V.str (Str.ofString "scaled") = V.str (Str.ofString "sum")) = false from dec_ne_str (by decide +kernel)]
    refine iteF ?_
    refine ⟨_, rfl, rfl, _, rfl, ?_⟩
    rw [show decide (V.str (Str.ofString "scaled") = V.str (Str.ofString "difference")) = false from dec_ne_str (by decide +kernel)]
    refine iteF ?_
    refine ⟨_, rfl, rfl, _, rfl, ?_⟩
    rw [show decide (V.str (Str.ofString "scaled") = V.str (Str.ofString "scaled")) = true from decide_eq_true rfl]
    refine iteT ?_
    obtain ⟨nv, hnv, hR⟩ := o.x
    exact ⟨_, rfl, a, _, dx, fs, rfl, o.at_, rfl, a, _, dx, fs, nv, rfl, o.at_, fc_of K (.sca r x), hnv, _, rfl, t, ps, 0, p, rfl, rfl, SqT.of ht, atI_nat (j := 0) hp, mk_ctor (f := .sca r g) (A := ASca K) ⟨nv, p, r, g, S, rfl, rfl, .inr hR, hg, ok⟩ k⟩
  | pow x e =>
    obtain ⟨g, rfl⟩ : ∃ g, gs = [g] := by
      match gs, lg with
      | [g], _ => exact ⟨g, rfl⟩
    obtain ⟨p, hp, hg⟩ := get (i := 0) rfl
    rw [show (Fm.pow x e).kd.word = Str.ofString "power" from rfl]
    refine ⟨_, rfl, rfl, _, rfl, ?_⟩
    rw [show decide (V.str (Str.ofString "power") = V.str (Str.ofString "sum")) = false from dec_ne_str (by decide +kernel)]
    refine iteF ?_
    refine ⟨_, rfl, rfl, _, rfl, ?_⟩
    rw [show decide (V.str (Str.ofString "power") = V.str (Str.ofString "difference")) = false from dec_ne_str (by decide +kernel)]
    refine iteF ?_
    refine ⟨_, rfl, rfl, _, rfl, ?_⟩
    rw [show decide (V.str (Str.ofString "power") = V.str (Str.ofString "scaled")) = false from dec_ne_str (by decide +kernel)]
    refine iteF ?_
    refine ⟨_, rfl, rfl, _, rfl, ?_⟩
    rw [show decide (V.str (Str.ofString "power") = V.str (Str.ofString "product")) = false from dec_ne_str (by decide +kernel)]
    refine iteF ?_
    refine ⟨_, rfl, rfl, _, rfl, ?_⟩
    rw [show decide (V.str (Str.ofString "power") = V.str (Str.ofString "transposed")) = false from dec_ne_str (by decide +kernel)]
    refine iteF ?_
    refine ⟨_, rfl, rfl, _, rfl, ?_⟩
    rw [show decide (V.str (Str.ofString "power") = V.str (Str.ofString "inverse")) = false from dec_ne_str (by decide +kernel)]
    refine iteF ?_
    refine ⟨_, rfl, rfl, _, rfl, ?_⟩
    rw [show decide (V.str (Str.ofString "power") = V.str (Str.ofString "power")) = true from decide_eq_true rfl]
    refine iteT ?_
    exact ⟨_, rfl, t, ps, 0, p, rfl, rfl, SqT.of ht, atI_nat (j := 0) hp, _, rfl, a, _, dx, fs, rfl, o.at_, rfl, a, _, dx, fs, _, rfl, o.at_, fc_of K (.pow x e), o.x, mk_ctor (f := .pow g e) (A := APow K) ⟨p, e, g, S, rfl, rfl, hg, ok⟩ k⟩
  | cor x i j =>
    obtain ⟨g, rfl⟩ : ∃ g, gs = [g] := by
      match gs, lg with
      | [g], _ => exact ⟨g, rfl⟩
    obtain ⟨p, hp, hg⟩ := get (i := 0) rfl
    rw [show (Fm.cor x i j).kd.word = Str.ofString "corner" from rfl]
    refine ⟨_, rfl, rfl, _, rfl, ?_⟩
    rw [show decide (V.str (Str.ofString "corner") = V.str (Str.ofString "sum")) = false from dec_ne_str (by decide +kernel)]
    refine iteF ?_
    refine ⟨_, rfl, rfl, _, rfl, ?_⟩
    rw [show decide (V.str (Str.ofString "corner") = V.str (Str.ofString "difference")) = false from dec_ne_str (by decide +kernel)]
    refine iteF ?_
    refine ⟨_, rfl, rfl, _, rfl, ?_⟩
    rw [show decide (V.str (Str.ofString "corner") = V.str (Str.ofString "scaled")) = false from dec_ne_str (by decide +kernel)]
    refine iteF ?_
    refine ⟨_, rfl, rfl, _, rfl, ?_⟩
    rw [show decide (V.str (Str.ofString "corner") = V.str (Str.ofString "product")) = false from dec_ne_str (by decide +kernel)]
    refine iteF ?_
    refine ⟨_, rfl, rfl, _, rfl, ?_⟩
    rw [show decide (V.str (Str.ofString "corner") = V.str (Str.ofString "transposed")) = false from dec_ne_str (by decide +kernel)]
    refine iteF ?_
    refine ⟨_, rfl, rfl, _, rfl, ?_⟩
    rw [show decide (V.str (Str.ofString "corner") = V.str (Str.ofString "inverse")) = false from dec_ne_str (by decide +kernel)]
    refine iteF ?_
    refine ⟨_, rfl, rfl, _, rfl, ?_⟩
    rw [show decide (V.str (Str.ofString "corner") = V.str (Str.ofString "power")) = false from dec_ne_str (by decide +kernel)]
    refine iteF ?_
    refine ⟨_, rfl, rfl, _, rfl, ?_⟩
    rw [show decide (V.str (Str.ofString "corner") = V.str (Str.ofString "corner")) = true from decide_eq_true rfl]
    refine iteT ?_
    obtain ⟨tsp, hsp, htsp⟩ := o.x
    exact ⟨_, rfl, t, ps, 0, p, rfl, rfl, SqT.of ht, atI_nat (j := 0) hp, _, rfl, a, _, dx, fs, rfl, o.at_, rfl, a, _, dx, fs, tsp, _, _, rfl, o.at_, fc_of K (.cor x i j), hsp, htsp, rfl, _, rfl, a, _, dx, fs, rfl, o.at_, rfl, a, _, dx, fs, tsp, _, _, rfl, o.at_, fc_of K (.cor x i j), hsp, htsp, rfl, mk_ctor (f := .cor g i j) (A := ACor K) ⟨p, i, j, g, S, rfl, rfl, hg, ok⟩ k⟩
  | eye z =>
    have e : gs = [] := List.length_eq_zero_iff.mp lg
    subst e
    rw [show (Fm.eye z).kd.word = Str.ofString "eye" from rfl]
    refine ⟨_, rfl, rfl, _, rfl, ?_⟩
    rw [show decide (V.str (Str.ofString "eye") = V.str (Str.ofString "sum")) = false from dec_ne_str (by decide +kernel)]
    refine iteF ?_
    refine ⟨_, rfl, rfl, _, rfl, ?_⟩
    rw [show decide (V.str (Str.ofString "eye") = V.str (Str.ofString "difference")) = false from dec_ne_str (by decide +kernel)]
    refine iteF ?_
    refine ⟨_, rfl, rfl, _, rfl, ?_⟩
    rw [show decide (V.str (Str.ofString "eye") = V.str (Str.ofString "scaled")) = false from dec_ne_str (by decide +kernel)]
    refine iteF ?_
    refine ⟨_, rfl, rfl, _, rfl, ?_⟩
    rw [show decide (V.str (Str.ofString "eye") = V.str (Str.ofString "product")) = false from dec_ne_str (by decide +kernel)]
    refine iteF ?_
    refine ⟨_, rfl, rfl, _, rfl, ?_⟩
    rw [show decide (V.str (Str.ofString "eye") = V.str (Str.ofString "transposed")) = false from dec_ne_str (by decide +kernel)]
    refine iteF ?_
    refine ⟨_, rfl, rfl, _, rfl, ?_⟩
    rw [show decide (V.str (Str.ofString "eye") = V.str (Str.ofString "inverse")) = false from dec_ne_str (by decide +kernel)]
    refine iteF ?_
    refine ⟨_, rfl, rfl, _, rfl, ?_⟩
    rw [show decide (V.str (Str.ofString "eye") = V.str (Str.ofString "power")) = false from dec_ne_str (by decide +kernel)]
    refine iteF ?_
    refine ⟨_, rfl, rfl, _, rfl, ?_⟩
    rw [show decide (V.str (Str.ofString "eye") = V.str (Str.ofString "corner")) = false from dec_ne_str (by decide +kernel)]
    refine iteF ?_
    refine ⟨_, rfl, rfl, _, rfl, ?_⟩
    rw [show decide (V.str (Str.ofString "eye") = V.str (Str.ofString "blocks")) = false from dec_ne_str (by decide +kernel)]
    refine iteF ?_
    exact ⟨_, rfl, k _ _ (Same.refl _) hF⟩
  | zero z y =>
    have e : gs = [] := List.length_eq_zero_iff.mp lg
    subst e
    rw [show (Fm.zero z y).kd.word = Str.ofString "zero" from rfl]
    refine ⟨_, rfl, rfl, _, rfl, ?_⟩
    rw [show decide (V.str (Str.ofString "zero") = V.str (Str.ofString "sum")) = false from dec_ne_str (by decide +kernel)]
    refine iteF ?_
    refine ⟨_, rfl, rfl, _, rfl, ?_⟩
    rw [show decide (V.str (Str.ofString "zero") = V.str (Str.ofString "difference")) = false from dec_ne_str (by decide +kernel)]
    refine iteF ?_
    refine ⟨_, rfl, rfl, _, rfl, ?_⟩
    rw [show decide (V.str (Str.ofString "zero") = V.str (Str.ofString "scaled")) = false from dec_ne_str (by decide +kernel)]
    refine iteF ?_
    refine ⟨_, rfl, rfl, _, rfl, ?_⟩
    rw [show decide (V.str (Str.ofString "zero") = V.str (Str.ofString "product")) = false from dec_ne_str (by decide +kernel)]
    refine iteF ?_
    refine ⟨_, rfl, rfl, _, rfl, ?_⟩
    rw [show decide (V.str (Str.ofString "zero") = V.str (Str.ofString "transposed")) = false from dec_ne_str (by decide +kernel)]
    refine iteF ?_
    refine ⟨_, rfl, rfl, _, rfl, ?_⟩
    rw [show decide (V.str (Str.ofString "zero") = V.str (Str.ofString "inverse")) = false from dec_ne_str (by decide +kernel)]
    refine iteF ?_
    refine ⟨_, rfl, rfl, _, rfl, ?_⟩
    rw [show decide (V.str (Str.ofString "zero") = V.str (Str.ofString "power")) = false from dec_ne_str (by decide +kernel)]
    refine iteF ?_
    refine ⟨_, rfl, rfl, _, rfl, ?_⟩
    rw [show decide (V.str (Str.ofString "zero") = V.str (Str.ofString "corner")) = false from dec_ne_str (by decide +kernel)]
    refine iteF ?_
    refine ⟨_, rfl, rfl, _, rfl, ?_⟩
    rw [show decide (V.str (Str.ofString "zero") = V.str (Str.ofString "blocks")) = false from dec_ne_str (by decide +kernel)]
    refine iteF ?_
    exact ⟨_, rfl, k _ _ (Same.refl _) hF⟩
  | b22 x y z u =>
    rw [show (Fm.b22 x y z u).kd.word = Str.ofString "blocks" from rfl]
    refine ⟨_, rfl, rfl, _, rfl, ?_⟩
    rw [show decide (V.str (Str.ofString "blocks") = V.str (Str.ofString "sum")) = false from dec_ne_str (by decide +kernel)]
    refine iteF ?_
    refine ⟨_, rfl, rfl, _, rfl, ?_⟩
    rw [show decide (V.str (Str.ofString "blocks") = V.str (Str.ofString "difference")) = false from dec_ne_str (by decide +kernel)]
    refine iteF ?_
    refine ⟨_, rfl, rfl, _, rfl, ?_⟩
    rw [show decide (V.str (Str.ofString "blocks") = V.str (Str.ofString "scaled")) = false from dec_ne_str (by decide +kernel)]
    refine iteF ?_
    refine ⟨_, rfl, rfl, _, rfl, ?_⟩
    rw [show decide (V.str (Str.ofString "blocks") = V.str (Str.ofString "product")) = false from dec_ne_str (by decide +kernel)]
    refine iteF ?_
    refine ⟨_, rfl, rfl, _, rfl, ?_⟩
    rw [show decide (V.str (Str.ofString "blocks") = V.str (Str.ofString "transposed")) = false from dec_ne_str (by decide +kernel)]
    refine iteF ?_
    refine ⟨_, rfl, rfl, _, rfl, ?_⟩
    rw [show decide (V.str (Str.ofString "blocks") = V.str (Str.ofString "inverse")) = false from dec_ne_str (by decide +kernel)]
    refine iteF ?_
    refine ⟨_, rfl, rfl, _, rfl, ?_⟩
    rw [show decide (V.str (Str.ofString "blocks") = V.str (Str.ofString "power")) = false from dec_ne_str (by decide +kernel)]
    refine iteF ?_
    refine ⟨_, rfl, rfl, _, rfl, ?_⟩
    rw [show decide (V.str (Str.ofString "blocks") = V.str (Str.ofString "corner")) = false from dec_ne_str (by decide +kernel)]
    refine iteF ?_
    refine ⟨_, rfl, rfl, _, rfl, ?_⟩
    rw [show decide (V.str (Str.ofString "blocks") = V.str (Str.ofString "blocks")) = true from decide_eq_true rfl]
    refine iteT ?_
    obtain ⟨g0, g1, g2, g3, rfl⟩ : ∃ g0 g1 g2 g3, gs = [g0, g1, g2, g3] := by
      match gs, lg with
      | [g0, g1, g2, g3], _ => exact ⟨g0, g1, g2, g3, rfl⟩
    obtain ⟨p0, p1, p2, p3, rfl⟩ : ∃ p0 p1 p2 p3, ps = [p0, p1, p2, p3] := by
      match ps, lps with
      | [p0, p1, p2, p3], _ => exact ⟨p0, p1, p2, p3, rfl⟩
    have h0 : IsF K H g0 p0 := aP.at_ 0 _ _ rfl rfl
    have h1 : IsF K H g1 p1 := aP.at_ 1 _ _ rfl rfl
    have h2 : IsF K H g2 p2 := aP.at_ 2 _ _ rfl rfl
    have h3 : IsF K H g3 p3 := aP.at_ 3 _ _ rfl rfl
    obtain ⟨vss, tv, dx', fs', hat, htv, hTV, aT⟩ := blk_is (f := .b22 x y z u) rfl hF
    obtain ⟨tt, rvs, rfl, htt, hrv⟩ := hTV
    obtain ⟨cs0, hcs0, aR0⟩ := aT.get (i := 0) (x := [x, y]) rfl
    obtain ⟨rv0, hrv0, t0, rfl, ht0⟩ := hrv.get hcs0
    refine ⟨_, rfl, a, _, dx', fs', rfl, hat, rfl, a, _, dx', fs', _, rfl, hat, fc_of K (.b22 x y z u), htv, tt, rvs, 0, .ref t0, rfl, rfl, SqT.of htt, atI_nat (j := 0) hrv0, t0, cs0, rfl, .inr (SqT.of ht0), ?_⟩
    rw [show (cs0.length : Int) = 2 from by rw [aR0.len]; rfl]
    refine ⟨_, rfl, t, _, rfl, .inr (SqT.of ht), _, rfl, 0, 4, 2, 2, rfl, ⟨by decide, by decide, by decide, by decide⟩, fun D hD => ?_⟩
    refine tup_it (walk_rangeC (lo := 0) (c := 2) (n := 2)) (fun i y H' => ∃ t' cs, y = .ref t' ∧ ([[p0, p1], [p2, p3]] : List (List V))[i]? = some cs ∧ H' t' = some (.tup cs)) (fun i y H1 H2 im h => let ⟨t', cs, e, h1, h2⟩ := h; ⟨t', cs, e, h1, im _ _ rfl h2⟩) hD (fun _ _ => trivial) (Nat.le_trans (by decide) thousand_line) (fun i y H2 Q2 hi hy s2 q2 => ?_) (fun l ys H2 s2 hl1 hl2 hl3 => ?_)
    · subst hy
      have ht2 := s2 _ _ ht
      match i, hi, q2 with
      | 0, _, q2 =>
        refine ⟨_, rfl, _, rfl, _, rfl, _, rfl, _, rfl, _, _, rfl, rfl, _, rfl, t, _, rfl, SqT.of ht2, fun e => ?_, fun _ p hp => ?_⟩
        · exact absurd (show HT.sIx 4 0 (some 0) = 0 ∧ HT.sIx 4 4 (some 2) = 4 from e) (by decide)
        · exact ⟨p, _, rfl, .inr ⟨SqT.of upd_same, q2 _ _ (Same.upd hp) ⟨p, [p0, p1], rfl, rfl, upd_same⟩⟩⟩
      | 1, _, q2 =>
        refine ⟨_, rfl, _, rfl, _, rfl, _, rfl, _, rfl, _, _, rfl, rfl, _, rfl, t, _, rfl, SqT.of ht2, fun e => ?_, fun _ p hp => ?_⟩
        · exact absurd (show HT.sIx 4 0 (some 2) = 0 ∧ HT.sIx 4 4 (some 4) = 4 from e) (by decide)
        · exact ⟨p, _, rfl, .inr ⟨SqT.of upd_same, q2 _ _ (Same.upd hp) ⟨p, [p2, p3], rfl, rfl, upd_same⟩⟩⟩
    · have hT : TabV H2 (.ref l) [[p0, p1], [p2, p3]] := ⟨l, ys, rfl, hl1, by rw [hl2]; rfl, fun i y cs e1 e2 => by
        obtain ⟨t', cs', h3, h4, h5⟩ := hl3 i y e1
        rw [e2] at h4
        cases h4
        exact ⟨t', h3, h5⟩⟩
      have s2' := Same.imm s2
      exact mk_ctor (f := .b22 g0 g1 g2 g3) (A := ABlo K) (ablo_b22 ok (h0.imm s2') (h1.imm s2') (h2.imm s2') (h3.imm s2') hT) fun v' H' s' hv => k v' H' (Same.trans s2 s') hv
  | b21 x y =>
    rw [show (Fm.b21 x y).kd.word = Str.ofString "blocks" from rfl]
    refine ⟨_, rfl, rfl, _, rfl, ?_⟩
    rw [show decide (V.str (Str.ofString "blocks") = V.str (Str.ofString "sum")) = false from dec_ne_str (by decide +kernel)]
    refine iteF ?_
    refine ⟨_, rfl, rfl, _, rfl, ?_⟩
    rw [show decide (V.str (Str.ofString "blocks") = V.str (Str.ofString "difference")) = false from dec_ne_str (by decide +kernel)]
    refine iteF ?_
    refine ⟨_, rfl, rfl, _, rfl, ?_⟩
    rw [show decide (V.str (Str.ofString "blocks") = V.str (Str.ofString "scaled")) = false from dec_ne_str (by decide +kernel)]
    refine iteF ?_
    refine ⟨_, rfl, rfl, _, rfl, ?_⟩
    rw [show decide (V.str (Str.ofString "blocks") = V.str (Str.ofString "product")) = false from dec_ne_str (by decide +kernel)]
    refine iteF ?_
    refine ⟨_, rfl, rfl, _, rfl, ?_⟩
    rw [show decide (V.str (Str.ofString "blocks") = V.str (Str.ofString "transposed")) = false from dec_ne_str (by decide +kernel)]
    refine iteF ?_
    refine ⟨_, rfl, rfl, _, rfl, ?_⟩
    rw [show decide (V.str (Str.ofString "blocks") = V.str (Str.ofString "inverse")) = false from dec_ne_str (by decide +kernel)]
    refine iteF ?_
    refine ⟨_, rfl, rfl, _, rfl, ?_⟩
    rw [show decide (V.str (Str.ofString "blocks") = V.str (Str.ofString "power")) = false from dec_ne_str (by decide +kernel)]
    refine iteF ?_
    refine ⟨_, rfl, rfl, _, rfl, ?_⟩
    rw [show decide (V.str (Str.ofString "blocks") = V.str (Str.ofString "corner")) = false from dec_ne_str (by decide +kernel)]
    refine iteF ?_
    refine ⟨_, rfl, rfl, _, rfl, ?_⟩
    rw [show decide (V.str (Str.ofString "blocks") = V.str (Str.ofString "blocks")) = true from decide_eq_true rfl]
    refine iteT ?_
    obtain ⟨g0, g1, rfl⟩ : ∃ g0 g1, gs = [g0, g1] := by
      match gs, lg with
      | [g0, g1], _ => exact ⟨g0, g1, rfl⟩
    obtain ⟨p0, p1, rfl⟩ : ∃ p0 p1, ps = [p0, p1] := by
      match ps, lps with
      | [p0, p1], _ => exact ⟨p0, p1, rfl⟩
    have h0 : IsF K H g0 p0 := aP.at_ 0 _ _ rfl rfl
    have h1 : IsF K H g1 p1 := aP.at_ 1 _ _ rfl rfl
    obtain ⟨vss, tv, dx', fs', hat, htv, hTV, aT⟩ := blk_is (f := .b21 x y) rfl hF
    obtain ⟨tt, rvs, rfl, htt, hrv⟩ := hTV
    obtain ⟨cs0, hcs0, aR0⟩ := aT.get (i := 0) (x := [x]) rfl
    obtain ⟨rv0, hrv0, t0, rfl, ht0⟩ := hrv.get hcs0
    refine ⟨_, rfl, a, _, dx', fs', rfl, hat, rfl, a, _, dx', fs', _, rfl, hat, fc_of K (.b21 x y), htv, tt, rvs, 0, .ref t0, rfl, rfl, SqT.of htt, atI_nat (j := 0) hrv0, t0, cs0, rfl, .inr (SqT.of ht0), ?_⟩
    rw [show (cs0.length : Int) = 1 from by rw [aR0.len]; rfl]
    refine ⟨_, rfl, t, _, rfl, .inr (SqT.of ht), _, rfl, 0, 2, 1, 2, rfl, ⟨by decide, by decide, by decide, by decide⟩, fun D hD => ?_⟩
    refine tup_it (walk_rangeC (lo := 0) (c := 1) (n := 2)) (fun i y H' => ∃ t' cs, y = .ref t' ∧ ([[p0], [p1]] : List (List V))[i]? = some cs ∧ H' t' = some (.tup cs)) (fun i y H1 H2 im h => let ⟨t', cs, e, h1, h2⟩ := h; ⟨t', cs, e, h1, im _ _ rfl h2⟩) hD (fun _ _ => trivial) (Nat.le_trans (by decide) thousand_line) (fun i y H2 Q2 hi hy s2 q2 => ?_) (fun l ys H2 s2 hl1 hl2 hl3 => ?_)
    · subst hy
      have ht2 := s2 _ _ ht
      match i, hi, q2 with
      | 0, _, q2 =>
        refine ⟨_, rfl, _, rfl, _, rfl, _, rfl, _, rfl, _, _, rfl, rfl, _, rfl, t, _, rfl, SqT.of ht2, fun e => ?_, fun _ p hp => ?_⟩
        · exact absurd (show HT.sIx 2 0 (some 0) = 0 ∧ HT.sIx 2 2 (some 1) = 2 from e) (by decide)
        · exact ⟨p, _, rfl, .inr ⟨SqT.of upd_same, q2 _ _ (Same.upd hp) ⟨p, [p0], rfl, rfl, upd_same⟩⟩⟩
      | 1, _, q2 =>
        refine ⟨_, rfl, _, rfl, _, rfl, _, rfl, _, rfl, _, _, rfl, rfl, _, rfl, t, _, rfl, SqT.of ht2, fun e => ?_, fun _ p hp => ?_⟩
        · exact absurd (show HT.sIx 2 0 (some 1) = 0 ∧ HT.sIx 2 2 (some 2) = 2 from e) (by decide)
        · exact ⟨p, _, rfl, .inr ⟨SqT.of upd_same, q2 _ _ (Same.upd hp) ⟨p, [p1], rfl, rfl, upd_same⟩⟩⟩
    · have hT : TabV H2 (.ref l) [[p0], [p1]] := ⟨l, ys, rfl, hl1, by rw [hl2]; rfl, fun i y cs e1 e2 => by
        obtain ⟨t', cs', h3, h4, h5⟩ := hl3 i y e1
        rw [e2] at h4
        cases h4
        exact ⟨t', h3, h5⟩⟩
      have s2' := Same.imm s2
      exact mk_ctor (f := .b21 g0 g1) (A := ABlo K) (ablo_b21 ok (h0.imm s2') (h1.imm s2') hT) fun v' H' s' hv => k v' H' (Same.trans s2 s') hv
  | b12 x y =>
    rw [show (Fm.b12 x y).kd.word = Str.ofString "blocks" from rfl]
    refine ⟨_, rfl, rfl, _, rfl, ?_⟩
    rw [show decide (V.str (Str.ofString "blocks") = V.str (Str.ofString "sum")) = false from dec_ne_str (by decide +kernel)]
    refine iteF ?_
    refine ⟨_, rfl, rfl, _, rfl, ?_⟩
    rw [show decide (V.str (Str.ofString "blocks") = V.str (Str.ofString "difference")) = false from dec_ne_str (by decide +kernel)]
    refine iteF ?_
    refine ⟨_, rfl, rfl, _, rfl, ?_⟩
    rw [show decide (V.str (Str.ofString "blocks") = V.str (Str.ofString "scaled")) = false from dec_ne_str (by decide +kernel)]
    refine iteF ?_
    refine ⟨_, rfl, rfl, _, rfl, ?_⟩
    rw [show decide (V.str (Str.ofString "blocks") = V.str (Str.ofString "product")) = false from dec_ne_str (by decide +kernel)]
    refine iteF ?_
    refine ⟨_, rfl, rfl, _, rfl, ?_⟩
    rw [show decide (V.str (Str.ofString "blocks") = V.str (Str.ofString "transposed")) = false from dec_ne_str (by decide +kernel)]
    refine iteF ?_
    refine ⟨_, rfl, rfl, _, rfl, ?_⟩
    rw [show decide (V.str (Str.ofString "blocks") = V.str (Str.ofString "inverse")) = false from dec_ne_str (by decide +kernel)]
    refine iteF ?_
    refine ⟨_, rfl, rfl, _, rfl, ?_⟩
    rw [show decide (V.str (Str.ofString "blocks") = V.str (Str.ofString "power")) = false from dec_ne_str (by decide +kernel)]
    refine iteF ?_
    refine ⟨_, rfl, rfl, _, rfl, ?_⟩
    rw [show decide (V.str (Str.ofString "blocks") = V.str (Str.ofString "corner")) = false from dec_ne_str (by decide +kernel)]
    refine iteF ?_
    refine ⟨_, rfl, rfl, _, rfl, ?_⟩
    rw [show decide (V.str (Str.ofString "blocks") = V.str (Str.ofString "blocks")) = true from decide_eq_true rfl]
    refine iteT ?_
    obtain ⟨g0, g1, rfl⟩ : ∃ g0 g1, gs = [g0, g1] := by
      match gs, lg with
      | [g0, g1], _ => exact ⟨g0, g1, rfl⟩
    obtain ⟨p0, p1, rfl⟩ : ∃ p0 p1, ps = [p0, p1] := by
      match ps, lps with
      | [p0, p1], _ => exact ⟨p0, p1, rfl⟩
    have h0 : IsF K H g0 p0 := aP.at_ 0 _ _ rfl rfl
    have h1 : IsF K H g1 p1 := aP.at_ 1 _ _ rfl rfl
    obtain ⟨vss, tv, dx', fs', hat, htv, hTV, aT⟩ := blk_is (f := .b12 x y) rfl hF
    obtain ⟨tt, rvs, rfl, htt, hrv⟩ := hTV
    obtain ⟨cs0, hcs0, aR0⟩ := aT.get (i := 0) (x := [x, y]) rfl
    obtain ⟨rv0, hrv0, t0, rfl, ht0⟩ := hrv.get hcs0
    refine ⟨_, rfl, a, _, dx', fs', rfl, hat, rfl, a, _, dx', fs', _, rfl, hat, fc_of K (.b12 x y), htv, tt, rvs, 0, .ref t0, rfl, rfl, SqT.of htt, atI_nat (j := 0) hrv0, t0, cs0, rfl, .inr (SqT.of ht0), ?_⟩
    rw [show (cs0.length : Int) = 2 from by rw [aR0.len]; rfl]
    refine ⟨_, rfl, t, _, rfl, .inr (SqT.of ht), _, rfl, 0, 2, 2, 1, rfl, ⟨by decide, by decide, by decide, by decide⟩, fun D hD => ?_⟩
    refine tup_it (walk_rangeC (lo := 0) (c := 2) (n := 1)) (fun i y H' => ∃ t' cs, y = .ref t' ∧ ([[p0, p1]] : List (List V))[i]? = some cs ∧ H' t' = some (.tup cs)) (fun i y H1 H2 im h => let ⟨t', cs, e, h1, h2⟩ := h; ⟨t', cs, e, h1, im _ _ rfl h2⟩) hD (fun _ _ => trivial) (Nat.le_trans (by decide) thousand_line) (fun i y H2 Q2 hi hy s2 q2 => ?_) (fun l ys H2 s2 hl1 hl2 hl3 => ?_)
    · subst hy
      have ht2 := s2 _ _ ht
      match i, hi, q2 with
      | 0, _, q2 =>
        refine ⟨_, rfl, _, rfl, _, rfl, _, rfl, _, rfl, _, _, rfl, rfl, _, rfl, t, _, rfl, SqT.of ht2, fun _ => ?_, fun e => absurd ⟨rfl, rfl⟩ e⟩
        exact ⟨t, _, rfl, .inr ⟨SqT.of ht2, q2 _ _ (Same.refl _) ⟨t, [p0, p1], rfl, rfl, ht2⟩⟩⟩
    · have hT : TabV H2 (.ref l) [[p0, p1]] := ⟨l, ys, rfl, hl1, by rw [hl2]; rfl, fun i y cs e1 e2 => by
        obtain ⟨t', cs', h3, h4, h5⟩ := hl3 i y e1
        rw [e2] at h4
        cases h4
        exact ⟨t', h3, h5⟩⟩
      have s2' := Same.imm s2
      exact mk_ctor (f := .b12 g0 g1) (A := ABlo K) (ablo_b12 ok (h0.imm s2') (h1.imm s2') hT) fun v' H' s' hv => k v' H' (Same.trans s2 s') hv
end
end K9

/-! ## F42 -/
namespace K9
open PySem PySem.Spec PyProof.Rows L2
/-! exchanged -/
/-- what the dict gives for a letter -/
def DAt (K : PySem.W.Frag) (H : Hp) (kvs : List (Key × V)) (σ : Ltr → Fm) (l : Ltr) : Prop := (∃ u, valV kvs (Sum.inr l.name) = some u ∧ IsF K H (σ l) u) ∨ (valV kvs (Sum.inr l.name) = none ∧ σ l = .letter l)
theorem DAt.imm {K : PySem.W.Frag} {H H' : Hp} {kvs : List (Key × V)} {σ : Ltr → Fm} {l : Ltr} (i : Imm H H') (h : DAt K H kvs σ l) : DAt K H' kvs σ l := h.imp (fun ⟨u, a, b⟩ => ⟨u, a, b.imm i⟩) id
def spExch (K : PySem.W.Frag) (d : Nat) : Sp := fun vs H Q _ => ∃ (v : V) (D : Addr) (kvs : List (Key × V)) (f : Fm) (σ : Ltr → Fm) (S : Sys), vs = [v, .ref D] ∧ H D = some (.dK kvs) ∧ IsF K H f v ∧ f.lv ≤ d ∧ (f.sub σ).Ok S ∧ (∀ l ∈ f.occ, DAt K H kvs σ l) ∧ Pure (fun v' H' => IsF K H' (f.sub σ) v') H Q
theorem Fm.kids_lv {f : Fm} {d : Nat} (h : f.lv ≤ d + 1) : ∀ g ∈ f.kids, g.lv ≤ d := by
  cases f <;> simp only [Fm.kids, Fm.lv, List.mem_cons, List.not_mem_nil, or_false] at * <;> intro g hg <;> (try rcases hg with rfl | rfl | rfl | rfl) <;> (try rcases hg with rfl | rfl) <;> (try subst hg) <;> (first | exact hg.elim | omega)
theorem Fm.kids_occ {f : Fm} {g : Fm} (h : g ∈ f.kids) : ∀ l ∈ g.occ, l ∈ f.occ := by
  intro l hl
  cases f <;> simp only [Fm.kids, Fm.occ, List.mem_cons, List.not_mem_nil, or_false, List.mem_append] at * <;> (try rcases h with rfl | rfl | rfl | rfl) <;> (try rcases h with rfl | rfl) <;> (try subst h) <;> simp_all
theorem Fm.Ok.kids {S : Sys} {f : Fm} (h : f.Ok S) : ∀ g ∈ f.kids, g.Ok S := by
  cases f <;> simp only [Fm.kids, Fm.Ok, List.mem_cons, List.not_mem_nil, or_false] at * <;> intro g hg <;> (try rcases hg with rfl | rfl | rfl | rfl) <;> (try rcases hg with rfl | rfl) <;> (try subst hg) <;> simp_all
theorem Fm.sub_kids {σ : Ltr → Fm} {f : Fm} (h : ∀ l, f ≠ .letter l) : (f.sub σ).kids = f.kids.map (Fm.sub σ) := by
  cases f with
  | letter l => exact absurd rfl (h l)
  | _ => rfl
theorem Fm.kids_len {f : Fm} : f.kids.length ≤ 4 := by cases f <;> simp [Fm.kids]
section
variable {w : World} {K : PySem.W.Frag} {mg : Str → Option Value} {base : Heap}
abbrev nExch : List Str := ["formula", "others", "one"]
theorem sc_exch : FnScope nExch ["formula", "others"] (defScope (top 88)) := ⟨rfl, rfl, rfl, by decide +kernel, rfl, by decide +kernel, by decide +kernel⟩
theorem cal_exch (T : Txt K mg) : ∀ d, Cal Pg w K mg base (15 + d) "exchanged" (spExch K d) []
  | 0 => by
    refine cal_of (k := 14) T.d_exchanged sc_exch (fun _ _ _ _ _ _ us hl => match us, hl with | [_, _], _ => rfl) (fun vs H Q E h => ?_) (fun f cdv A outer s H vs Q E hr h => ?_)
    · obtain ⟨v, D, kvs, f, σ, S, rfl, _⟩ := h; rfl
    · obtain ⟨v, D, kvs, f, σ, S, rfl, _, _, hl, _⟩ := h
      have := f.lv_pos
      omega
  | d + 1 => by
    have ih := cal_exch T d
    refine cal_of (k := 15 + d) T.d_exchanged sc_exch (fun _ _ _ _ _ _ us hl => match us, hl with | [_, _], _ => rfl) (fun vs H Q E h => ?_) (fun f cdv A outer s H vs Q E hr h => ?_)
    · obtain ⟨v, D, kvs, f, σ, S, rfl, _⟩ := h; rfl
    have hr14 : Room 14 (A.deeper (envOfC "exchanged" (defScope (top 88)) s.heap.objs.size f cdv)) := hr.mono (by omega)
    have hu1 : (A.deeper (envOfC "exchanged" (defScope (top 88)) s.heap.objs.size f cdv)).units + 1 < cLine := by have := hr.units; omega
    have mt := nofree T (x := "tuple") (by decide +kernel)
    refine ⟨_, pss_cons (ps_if (pt_cmpR op_eq (pe_prp (prp_kind T) hr14 (pv 0)) pe_str (nomark _)) (pss_one (ps_ret (pe_dget2 hu1 (pv 1) (pe_prp (prp_lname T) hr14 (pv 0)) (pv 0) ⟨rfl, rfl, rfl, rfl⟩))) pss_nil)
      (pss_one (ps_ret (pe_c (cal_remade T) hr14 (pa_cons (pv 0) (pa_cons (pe_callTy (tupleOf9 K) (by rfl) mt boot_tuple (pa_cons (pe_lc (own := [("one", 2)]) (g := gName 2) (tt := tYes) rfl sc_exch.nd (tup9 K (pe_prp (prp_parts T) hr14 (pv 0))) (blkOk_by (N := nExch) (sc := defScope (top 88)) (by decide +kernel)) (fun _ _ _ _ _ => pg_name (i := 2) sc_exch.nd rfl (Or.inl rfl)) (fun _ _ _ _ _ => pts_nil)
        (fun _ _ _ _ _ => pe_c ih hr (pa_cons (pv 2) (pa_cons (pv 1) pa_nil)) (Nat.le_refl _))) pa_nil)) pa_nil))))), ?_⟩
    obtain ⟨v, D, kvs, f0, σ, S, rfl, hD, hF, hl, ok, hat, k⟩ := h
    by_cases hlet : ∃ l, f0 = .letter l
    · obtain ⟨l, rfl⟩ := hlet
      have hF1 : IsL K H v l := hF
      refine ⟨_, rfl, rd_kind hF ⟨rfl, _, rfl, ?_⟩⟩
      rw [show (Fm.letter l).kd.word = Str.ofString "letter" from rfl, show decide (V.str (Str.ofString "letter") = V.str (Str.ofString "letter")) = true from decide_eq_true rfl]
      refine iteT ⟨_, rfl, D, rfl, .inl ⟨kvs, .inl hD⟩, _, rfl, rd_lname hF1 ⟨_, rfl, _, DGet.k (k := Sum.inr l.name) hD, ?_⟩⟩
      rcases hat l List.mem_cons_self with ⟨u, h1, h2⟩ | ⟨h1, h2⟩
      · rw [h1]; exact k _ _ (Same.refl _) h2
      · rw [h1]
        refine k _ _ (Same.refl _) ?_
        show IsF K H (σ l) v
        rw [h2]; exact hF
    · have hnl : ∀ l, f0 ≠ .letter l := fun l e => hlet ⟨l, e⟩
      have hw : (f0.kd.word : Str) ≠ Str.ofString "letter" := by
        cases f0 with
        | letter l => exact absurd rfl (hnl l)
        | _ => (simp only [Fm.kd]; decide +kernel)
      refine ⟨_, rfl, rd_kind hF ⟨rfl, _, rfl, ?_⟩⟩
      rw [dec_ne_str hw]
      refine iteF ?_
      obtain ⟨ps, ⟨a, lv, ls, rfl, ⟨dx, fs, rv, cv, pt, st, core, o⟩, _⟩, aP⟩ := hF.node
      refine ⟨_, rfl, _, rfl, rd_get o.at_ (fc_of K f0) o.fld.p ⟨pt, rfl, ⟨_, SqT.of o.p⟩, fun D2 hD2 => ?_⟩⟩
      have hk4 : f0.kids.length ≤ 4 := Fm.kids_len
      refine tup_it (walk_tup' (xs := ps)) (fun i y H' => ∃ g, f0.kids[i]? = some g ∧ IsF K H' (g.sub σ) y) (fun i y H1 H2 im h => let ⟨g, h1, h2⟩ := h; ⟨g, h1, h2.imm im⟩) hD2 (fun _ s => SqT.of (s _ _ o.p)) (by rw [aP.len]; exact Nat.le_trans (by omega) thousand_line) (fun i x H1 Q1 hi hx s1 q1 => ?_) (fun l ys H1 s1 hl1 hl2 hl3 => ?_)
      · obtain ⟨g, hg, hgF⟩ := aP.get' hx
        have hm := List.mem_of_getElem? hg
        have okg : (g.sub σ).Ok S := ok.kids _ (by rw [Fm.sub_kids hnl]; exact List.mem_map_of_mem hm)
        exact ⟨_, rfl, _, rfl, x, D, kvs, g, σ, S, rfl, s1 _ _ hD, hgF.imm (Same.imm s1), Fm.kids_lv hl g hm, okg, fun l hl => (hat l (Fm.kids_occ hm l hl)).imm (Same.imm s1), fun v' H' s' hv => q1 _ _ s' ⟨g, hg, hv⟩⟩
      · refine ⟨_, l, ys, f0, f0.kids.map (Fm.sub σ), S, rfl, hF.imm (Same.imm s1), hnl, hl1, Al.mk_map (by rw [hl2, aP.len]) fun i y g e1 e2 => ?_, by rw [List.length_map], by rw [Fm.reb_sub σ hnl]; exact ok, fun v' H' s' hv => ?_⟩
        · obtain ⟨g', h1, h2⟩ := hl3 i y e1
          rw [e2] at h1
          cases h1
          exact h2
        · rw [Fm.reb_sub σ hnl] at hv
          exact k _ _ (Same.trans s1 s') hv
end
end K9

/-! ## F43 -/
namespace K9
open PySem PySem.Spec PyProof.Rows L2
/-! check_mapping, substituted, moved. -/
def spCkMap : Sp := fun vs H Q _ => ∃ (D : Addr) (es : List (Str × V)), vs = [.ref D] ∧ H D = some (.dK (kvOf es)) ∧ es.length ≤ 60 ∧ ∀ H', Same H H' → Q .non H'
def spSubst (K : PySem.W.Frag) : Sp := fun vs H Q _ => ∃ (v : V) (D : Addr) (es : List (Str × V)) (f : Fm) (σ : Ltr → Fm) (S : Sys),
  vs = [v, .ref D] ∧ H D = some (.dK (kvOf es)) ∧ es.length ≤ 60 ∧ IsF K H f v ∧ f.lv ≤ 60 ∧ (f.sub σ).Ok S ∧ (∀ l ∈ f.occ, DAt K H (kvOf es) σ l) ∧
  (∀ e ∈ es, ∃ l ∈ f.occ, l.name = e.1 ∧ IsF K H (σ l) e.2 ∧ valV (kvOf es) (Sum.inr e.1) = some e.2 ∧ (σ l).sides = ([l.rows], [l.cols]) ∧ LNice l) ∧ Pure (fun v' H' => IsF K H' (f.sub σ) v') H Q
section
variable {w : World} {K : PySem.W.Frag} {mg : Str → Option Value} {base : Heap}
theorem kit_dd {K : PySem.W.Frag} : PySem.W.kitOne K (.type "dict") (.type "dict") = some true := kit_ty (by decide +kernel)
theorem boot_dict9 : bootBuiltins "dict" = some (.type "dict") := by decide +kernel
theorem sc_ckm : FnScope ["given", "key"] ["given"] (defScope (top 87)) := ⟨rfl, rfl, rfl, by decide +kernel, rfl, by decide +kernel, by decide +kernel⟩
theorem cal_check_mapping (T : Txt K mg) : Cal Pg w K mg base 1 "check_mapping" spCkMap [] := by
  refine cal_of T.d_check_mapping sc_ckm (fun _ _ _ _ _ _ us hl => match us, hl with | [_], _ => rfl) (fun vs H Q E h => ?_) (fun f cdv A outer s H vs Q E hr h => ?_)
  · obtain ⟨D, es, rfl, _⟩ := h; rfl
  have mi := nofree T (x := "isinstance") (by decide +kernel)
  have md := nofree T (x := "dict") (by decide +kernel)
  have ms := nofree T (x := "str") (by decide +kernel)
  have ma := nofree T (x := "all") (by decide +kernel)
  refine ⟨_, pss_one (ps_if (PW.pt (pw_or (pt_not (pt_val (pe_callB call_isi (by rfl) mi boot_isi (pa_cons (pv 0) (pa_cons (pe_bltn (v := .ty "dict") (by rfl) md boot_dict9 rfl) pa_nil)))))
      (pw_or1 (pt_not (pt_val (pe_callB (cr_all rfl) (by rfl) ma boot_all (pa_cons (pe_lock (pe_lc (own := [("key", 1)]) (g := gName 1) (tt := tYes) rfl sc_ckm.nd (pi_keys (pv 0)) (blkOk_by (N := ["given", "key"]) (sc := defScope (top 87)) (by decide +kernel)) (fun _ _ _ _ _ => pg_name (i := 1) sc_ckm.nd rfl (Or.inl rfl)) (fun _ _ _ _ _ => pts_nil)
        (fun _ _ _ _ _ => pe_callB (isi9 K) (by rfl) mi boot_isi (pa_cons (pv 1) (pa_cons (pe_bltn (v := .ty "str") (by rfl) ms boot_str rfl) pa_nil))))) pa_nil))))))) (pss_one ps_never) pss_nil), ?_⟩
  obtain ⟨D, es, rfl, hD, hl, k⟩ := h
  refine ⟨_, rfl, _, _, _, _, _, rfl, .ty _, .base (.dK hD), kit_dd, _, rfl, iteF ?_⟩
  refine ⟨D, _, hD, trivial, fun od => ⟨_, rfl, D, od, rfl, .inl ⟨_, upd_same, fun L hL => ?_⟩⟩⟩
  have nLD : L ≠ D := fun e => by rw [e, upd_same] at hL; cases hL
  have hL0 : H L = none := by rw [upd_ne nLD] at hL; exact hL
  refine map_it (walk_keys (o := od)) (fun _ y _ => y = .bl true) (fun _ _ _ _ _ h => h) hL (fun H' s => s _ _ upd_same) (by rw [show (kvOf es).length = es.length by simp [kvOf]]; exact Nat.le_trans (by omega) thousand_line) (fun i x H' Q' hi hx m q => ?_) (fun ys H' s hl1 hl2 hl3 => ?_)
  · obtain ⟨kk, vv, hk, rfl⟩ := hx
    obtain ⟨e, he, heq⟩ : ∃ e ∈ es, (Sum.inr e.1, e.2) = (kk, vv) := by
      have := List.mem_of_getElem? hk
      exact List.mem_map.mp this
    cases heq
    exact ⟨_, rfl, _, _, _, _, _, rfl, .ty _, .base (.str _), kit_ss, q _ _ (Same.refl _) rfl⟩
  · have hDf : H' D = some (.frz od (.dK (kvOf es))) := s _ _ upd_same
    refine ⟨hDf, ?_⟩
    unfold tNil
    dsimp only
    refine rd_all (by rw [upd_ne nLD]; exact hl1) hl3 ⟨_, rfl, iteF (k _ fun b u e => ?_)⟩
    by_cases hb : b = D
    · subst hb; rw [upd_same]; rw [hD] at e; exact e
    · rw [upd_ne hb]; exact s _ _ (by rw [upd_ne hb]; exact e)
theorem sc_subst : FnScope ["formula", "formulas", "name", "letter"] ["formula", "formulas"] (defScope (top 89)) := ⟨rfl, rfl, rfl, by decide +kernel, rfl, by decide +kernel, by decide +kernel⟩
theorem cal_substituted (T : Txt K mg) : Cal Pg w K mg base 76 "substituted" (spSubst K) [] := by
  refine cal_of T.d_substituted sc_subst (fun _ _ _ _ _ _ us hl => match us, hl with | [_, _], _ => rfl) (fun vs H Q E h => ?_) (fun f cdv A outer s H vs Q E hr h => ?_)
  · obtain ⟨v, D, es, f, σ, S, rfl, _⟩ := h; rfl
  have mso := nofree T (x := "sorted") (by decide +kernel)
  have hu1 : (A.deeper (envOfC "substituted" (defScope (top 89)) s.heap.objs.size f cdv)).units + 1 < cLine := by have := hr.units; omega
  refine ⟨_, pss_cons (ps_expr (pe_c (cal_check_formula T) hr (pa_cons (pv 0) pa_nil))) (pss_cons (ps_expr (pe_c (cal_check_mapping T) hr (pa_cons (pv 1) pa_nil)))
    (pss_cons (ps_for PassesOwn.never rfl (lst9 K (pe_callB (call_sortedD rfl) (by rfl) mso boot_sorted (pa_cons (pv 1) pa_nil))) (pg_name (i := 2) sc_subst.nd rfl (Or.inl rfl))
      (pss_cons (ps_set (i := 3) sc_subst.nd rfl (Or.inl rfl) (pe_c (cal_letter_of T) hr (pa_cons (pv 0) (pa_cons (pv 2) pa_nil))))
      (pss_cons (ps_expr (pe_c (cal_check_formula T) hr (pa_cons (pe_dget hu1 (pv 1) (pv 2) (fun _ _ => rfl)) pa_nil)))
      (pss_one (ps_if (pt_cmpR (op_neD hr.units) (pe_c (cal_sides_of T) hr (pa_cons (pv 3) pa_nil)) (pe_c (cal_sides_of T) hr (pa_cons (pe_dget hu1 (pv 1) (pv 2) (fun _ _ => rfl)) pa_nil)) (nomark _)) (pss_one ps_never) pss_nil)))))
    (pss_one (ps_ret (pe_c (cal_exch T 60) hr (pa_cons (pv 0) (pa_cons (pv 1) pa_nil)))))))
    , ?_⟩
  obtain ⟨v, D, es, f, σ, S, rfl, hD, hl, hF, hlv, ok, hat, hes, k⟩ := h
  obtain ⟨ps, hN, _⟩ := hF.node
  refine ⟨_, rfl, v, f, ps, rfl, hN, ?_⟩
  refine ⟨_, rfl, D, es, rfl, hD, hl, fun H1 s1 => ?_⟩
  have hD1 := s1 _ _ hD
  refine ⟨_, rfl, D, kvOf es, es.map (·.1), rfl, .inl hD1, by simp [kvOf], by rw [List.length_map]; omega, fun ns p hperm hsort hp => ⟨p, rfl, ⟨_, SqL.of upd_same⟩, ?_⟩⟩
  have s2 : Same H (upd H1 p (.lst (ns.map V.str))) := Same.updT s1 (Same.free s1 hp)
  have hp2 : (upd H1 p (.lst (ns.map V.str))) p = some (.lst (ns.map V.str)) := upd_same
  generalize upd H1 p (.lst (ns.map V.str)) = H2 at *
  refine for_list (xs := ns.map V.str) (fun i σ' H' => ∃ o2 o3, σ' = [some v, some (.ref D), o2, o3] ∧ Same H H' ∧ H' p = some (.lst (ns.map V.str))) ⟨none, none, rfl, s2, hp2⟩ (fun i σ' H' _ ⟨_, _, _, _, e⟩ => SqL.of e) ?_ ?_
  · rintro i x σ' H3 hx ⟨o2, o3, rfl, s3, hp3⟩
    rw [List.getElem?_map] at hx
    obtain ⟨n, hn, rfl⟩ := Option.map_eq_some_iff.mp hx
    have hm : n ∈ es.map (·.1) := hperm.mem_iff.mp (List.mem_of_getElem? hn)
    obtain ⟨e, he, rfl⟩ := List.mem_map.mp hm
    obtain ⟨l, hlo, hln, hsF, hval, hsd, hnice⟩ := hes e he
    have i3 := Same.imm s3
    have hg := DGet.k (k := Sum.inr e.1) (s3 _ _ hD)
    rw [hval] at hg
    obtain ⟨ps2, hN2, _⟩ := (hsF.imm i3).node
    refine ⟨_, rfl, _, rfl, v, f, ps, l, by rw [hln]; rfl, hN.imm i3, hlo, fun lv hL => ?_⟩
    have hLn := hL.node
    refine ⟨_, rfl, _, rfl, D, e.2, rfl, hg, e.2, σ l, ps2, rfl, hN2, ?_⟩
    refine ⟨_, rfl, lv, .letter l, _, rfl, hLn, fun w1 H4 s4 hw1 => ?_⟩
    have hg4 := DGet.k (k := Sum.inr e.1) (s4 _ _ (s3 _ _ hD))
    rw [hval] at hg4
    refine ⟨_, rfl, _, rfl, D, e.2, rfl, hg4, e.2, σ l, ps2, rfl, hN2.imm (Same.imm s4), fun w2 H5 s5 hw2 => ?_⟩
    refine ⟨sdT ([l.rows], [l.cols]), sdT ([l.rows], [l.cols]), (hw1.imm (Same.imm s5)).dp, by have := hw2.dp (K := K); rw [hsd] at this; exact this, sdT_shaped hnice.r hnice.c, sdT_shaped hnice.r hnice.c, _, rfl, ?_⟩
    rw [sdT_eqv]
    have s35 := Same.trans s4 s5
    exact iteF ⟨_, _, rfl, Same.trans s3 s35, s35 _ _ hp3⟩
  · rintro σ' H3 ⟨o2, o3, rfl, s3, hp3⟩
    have i3 := Same.imm s3
    exact ⟨_, rfl, _, rfl, v, D, kvOf es, f, σ, S, rfl, s3 _ _ hD, hF.imm i3, hlv, ok, fun l hl => (hat l hl).imm i3, fun v' H' s' hv => k v' H' (Same.trans s3 s') hv⟩
def spMoved (K : PySem.W.Frag) : Sp := fun vs H Q _ => ∃ (v : V) (D : Addr) (es : List (Str × V)) (f : Fm) (σ : Ltr → Ltr) (S : Sys),
  vs = [v, .ref D] ∧ H D = some (.dK (kvOf es)) ∧ es.length ≤ 60 ∧ (es.map (·.1)).Nodup ∧ IsF K H f v ∧ f.lv ≤ 60 ∧ (f.sub fun l => .letter (σ l)).Ok S ∧ (∀ l ∈ f.occ, l.name ∉ es.map (·.1) → σ l = l) ∧
  (∀ l ∈ f.occ, ∀ k ∈ f.occ, l.name = k.name → l = k) ∧
  (∀ e ∈ es, ∃ l ∈ f.occ, l.name = e.1 ∧ ∃ q, NumV K H e.2 q ∧ valV (kvOf es) (Sum.inr e.1) = some e.2 ∧ σ l = ⟨l.name, l.rows, l.cols, l.sym, q⟩ ∧ (σ l).Ok) ∧ Pure (fun v' H' => IsF K H' (f.sub fun l => .letter (σ l)) v') H Q
/-- what moved has made so far -/
structure MvAt (K : PySem.W.Frag) (f : Fm) (σ : Ltr → Ltr) (ns : List Str) (H0 H : Hp) (D : Addr) (os : List (Str × V)) : Prop where
  dict : H D = some (.dK (kvOf os))
  names : os.map (·.1) = ns
  is : ∀ e ∈ os, ∃ l ∈ f.occ, l.name = e.1 ∧ IsL K H e.2 (σ l)
theorem sc_moved : FnScope ["formula", "numbers", "others", "name", "old"] ["formula", "numbers"] (defScope (top 90)) := ⟨rfl, rfl, rfl, by decide +kernel, rfl, by decide +kernel, by decide +kernel⟩
theorem cal_moved (T : Txt K mg) : Cal Pg w K mg base 76 "moved" (spMoved K) [] := by
  refine cal_of T.d_moved sc_moved (fun _ _ _ _ _ _ us hl => match us, hl with | [_, _], _ => rfl) (fun vs H Q E h => ?_) (fun f cdv A outer s H vs Q E hr h => ?_)
  · obtain ⟨v, D, es, f, σ, S, rfl, _⟩ := h; rfl
  have mso := nofree T (x := "sorted") (by decide +kernel)
  obtain ⟨lf, lfd, lmk, lg, lF, lkb⟩ := (mak_Letter (w := w) (base := base) T).ex
  have hu1 : (A.deeper (envOfC "moved" (defScope (top 90)) s.heap.objs.size f cdv)).units + 1 < cLine := by have := hr.units; omega
  refine ⟨_, pss_cons (ps_expr (pe_c (cal_check_formula T) hr (pa_cons (pv 0) pa_nil))) (pss_cons (ps_expr (pe_c (cal_check_mapping T) hr (pa_cons (pv 1) pa_nil)))
    (pss_cons (ps_set (i := 2) sc_moved.nd rfl (Or.inl rfl) pe_dnewK)
    (pss_cons (ps_for PassesOwn.never rfl (lst9 K (pe_callB (call_sortedD rfl) (by rfl) mso boot_sorted (pa_cons (pv 1) pa_nil))) (pg_name (i := 3) sc_moved.nd rfl (Or.inl rfl))
      (pss_cons (ps_set (i := 4) sc_moved.nd rfl (Or.inl rfl) (pe_c (cal_letter_of T) hr (pa_cons (pv 0) (pa_cons (pv 3) pa_nil))))
      (pss_one (ps_dput hu1 (pv 2) (pv 3) (pe_makeK lmk lF (hr.mono (by decide)) (by rfl) lg lkb pass0 (pa_cons (pv 3) (pa_cons (pe_ix (ixT9 K) (pe_prp (prp_rows T) hr (pv 4)) pe_int (fun _ _ => rfl)) (pa_cons (pe_ix (ixT9 K) (pe_prp (prp_columns T) hr (pv 4)) pe_int (fun _ _ => rfl)) pa_nil)))
        (pk_cons (pe_prp (prp_lsym T) hr (pv 4)) (pk_cons (pe_dget hu1 (pv 1) (pv 3) (fun _ _ => rfl)) pk_nil))) rfl))))
    (pss_one (ps_ret (pe_c (cal_exch T 60) hr (pa_cons (pv 0) (pa_cons (pv 2) pa_nil))))))))
    , ?_⟩
  obtain ⟨v, D, es, f, σ, S, rfl, hD, hl, hnd, hF, hlv, ok, hid, hinj, hes, k⟩ := h
  obtain ⟨ps, hN, _⟩ := hF.node
  refine ⟨_, rfl, v, f, ps, rfl, hN, ?_⟩
  refine ⟨_, rfl, D, es, rfl, hD, hl, fun H1 s1 => ?_⟩
  have hD1 := s1 _ _ hD
  intro O hO
  have nOD : O ≠ D := (ne_of_none hD1 hO).symm
  have s2 : Same H (upd H1 O (.dK (kvOf []))) := Same.updT s1 (Same.free s1 hO)
  have hO2 : (upd H1 O (.dK (kvOf []))) O = some (.dK (kvOf [])) := upd_same
  show (tSeq _ _) _ _ (upd H1 O (.dK (kvOf [])))
  generalize upd H1 O (.dK (kvOf [])) = H2 at *
  have hO0 : H O = none := Same.free s1 hO
  have hD2 := s2 _ _ hD
  refine ⟨_, rfl, D, kvOf es, es.map (·.1), rfl, .inl hD2, by simp [kvOf], by rw [List.length_map]; omega, fun ns p hperm hsort hp => ⟨p, rfl, ⟨_, SqL.of upd_same⟩, ?_⟩⟩
  have s3 : Same H (upd H2 p (.lst (ns.map V.str))) := Same.updT s2 (Same.free s2 hp)
  have hp3 : (upd H2 p (.lst (ns.map V.str))) p = some (.lst (ns.map V.str)) := upd_same
  have hO3 : (upd H2 p (.lst (ns.map V.str))) O = some (.dK (kvOf [])) := Same.upd hp _ _ hO2
  generalize upd H2 p (.lst (ns.map V.str)) = H3 at *
  have nd : ns.Nodup := hperm.nodup_iff.mpr hnd
  refine for_list (xs := ns.map V.str) (fun i σ' H' => ∃ o3 o4 os, σ' = [some v, some (.ref D), some (.ref O), o3, o4] ∧ Same H H' ∧ H' p = some (.lst (ns.map V.str)) ∧ MvAt K f σ (ns.take i) H H' O os) ⟨none, none, [], rfl, s3, hp3, hO3, by simp, fun e he => by cases he⟩ (fun i σ' H' _ ⟨_, _, _, _, _, e, _⟩ => SqL.of e) ?_ ?_
  · rintro i x σ' H4 hx ⟨o3, o4, os, rfl, s4, hp4, mv⟩
    rw [List.getElem?_map] at hx
    obtain ⟨n, hn, rfl⟩ := Option.map_eq_some_iff.mp hx
    have hm : n ∈ es.map (·.1) := hperm.mem_iff.mp (List.mem_of_getElem? hn)
    obtain ⟨e, he, rfl⟩ := List.mem_map.mp hm
    obtain ⟨l, hlo, hln, q, hq, hval, hsl, hok⟩ := hes e he
    have i4 := Same.imm s4
    have hg := DGet.k (k := Sum.inr e.1) (s4 _ _ hD)
    rw [hval] at hg
    refine ⟨_, rfl, _, rfl, v, f, ps, l, by rw [hln]; rfl, hN.imm i4, hlo, fun lv hL => ?_⟩
    have hLn := hL.node
    refine ⟨_, rfl, _, rfl, rd_rows hLn fun rv hrv => ⟨rv, _, 0, .str l.rows, rfl, rfl, SqT.of hrv, rfl, _, rfl, rd_cols hLn fun cv hcv => ⟨cv, _, 0, .str l.cols, rfl, rfl, SqT.of hcv, rfl, _, rfl, rd_lsym hL ⟨_, rfl, _, rfl, D, e.2, rfl, hg, rfl, rfl, fun x dx hx hdx ne => ?_⟩⟩⟩⟩
    have s5 : Same H4 (upd (upd H4 dx (.own x)) x (.ins (He.ga K "Letter") dx [])) := new_same (K := K) hx hdx
    refine ⟨x, dx, H4, σ l, e.2, by rw [hsl, ← hln]; rfl, s5, hx, upd_same, by rw [hsl]; exact hq.imm i4, hok, fun H5 o5 hL5 => ⟨rfl, ?_⟩⟩
    have s6 : Same H4 H5 := same_of_off s5 hx o5
    have notin : e.1 ∉ os.map (·.1) := fun hc => by
      rw [mv.names] at hc
      obtain ⟨j, hj, hje⟩ := List.mem_take_iff_getElem.mp hc
      have hi := (List.getElem?_eq_some_iff.mp hn).1
      have h2 := (List.getElem?_eq_some_iff.mp hn).2
      have := (List.getElem?_inj hi nd).mp (by rw [List.getElem?_eq_getElem hi, List.getElem?_eq_getElem (by omega), hje, h2] : ns[i]? = ns[j]?)
      omega
    have los : os.length ≤ 60 := by
      have := congrArg List.length mv.names
      rw [List.length_map, List.length_take] at this
      have h3 := hperm.length_eq
      rw [List.length_map] at h3
      omega
    refine ⟨_, rfl, _, rfl, O, _, rfl, DPut.k (k := Sum.inr e.1) (v := .ref x) (s6 _ _ mv.dict) (by simp [kvOf]; exact Nat.lt_of_lt_of_le (show os.length < 1000 by omega) thousand_line), ?_⟩
    rw [put_kv notin]
    have nOp : p ≠ O := fun z => by subst z; rw [mv.dict] at hp4; cases hp4
    have s7 : Same H (upd H5 O (.dK (kvOf (os ++ [(e.1, .ref x)])))) := Same.updT (Same.trans s4 s6) hO0
    have i7 : Imm H4 (upd H5 O (.dK (kvOf (os ++ [(e.1, .ref x)])))) := Imm.trans (Same.imm s6) (Imm.dK (s6 _ _ mv.dict))
    refine ⟨_, _, _, rfl, s7, by rw [upd_ne nOp]; exact s6 _ _ hp4, upd_same, ?_, fun e' he' => ?_⟩
    · rw [List.map_append, mv.names, List.take_succ, hn]; rfl
    · rcases List.mem_append.mp he' with he' | he'
      · obtain ⟨l', h1, h2, h3⟩ := mv.is e' he'
        exact ⟨l', h1, h2, h3.imm i7⟩
      · rw [List.mem_singleton.mp he']
        exact ⟨l, hlo, hln, hL5.imm (Imm.dK (s6 _ _ mv.dict))⟩
  · rintro σ' H4 ⟨o3, o4, os, rfl, s4, hp4, mv⟩
    have i4 := Same.imm s4
    rw [List.length_map, List.take_length] at mv
    refine ⟨_, rfl, _, rfl, v, O, kvOf os, f, _, S, rfl, mv.dict, hF.imm i4, hlv, ok, fun l hlo => ?_, fun v' H' s' hv => k v' H' (Same.trans s4 s') hv⟩
    by_cases hm : l.name ∈ os.map (·.1)
    · obtain ⟨u, hu, heu⟩ := val_kv hm
      obtain ⟨l', h1, h2, h3⟩ := mv.is _ heu
      have := hinj l' h1 l hlo h2
      subst this
      exact .inl ⟨u, hu, h3⟩
    · refine .inr ⟨val_kv_none hm, ?_⟩
      show Fm.letter (σ l) = .letter l
      rw [hid l hlo fun hc => hm (by rw [mv.names]; exact hperm.mem_iff.mpr hc)]
end
end K9

/-! ## W1 -/
namespace K9
open PySem PySem.Spec PyProof.Rows L2
/-! The eleven formulas of six. -/
namespace Fm
def wTable (a x y s g : Fm) : Fm := b22 a x y (sum s g)
def wDeep (a x y s g : Fm) : Fm := b22 (wTable a x y s g) (b21 x g) (b12 y s) g
def wAround (a x y s g : Fm) : Fm := inv (sum (eye (wTable a x y s g).rows) (b22 (zero a.rows a.rows) x y (zero g.rows g.rows)))
def woven (a x y s w g : Fm) : List Fm :=
  [pow (wTable a x y s g) 2, pro (cor (wTable a x y s g) 0 1) y, cor (pro (wTable a x y s g) (wTable a x y s g)) 1 0, wDeep a x y s g, sum (cor (wDeep a x y s g) 2 1) (sca 2 g), pow (sum w (cor (wTable a x y s g) 0 0)) 3,
   pro (b12 (sum a w) x) (b21 x g), tra (dif (eye (wTable a x y s g).rows) (wTable a x y s g)), cor (wAround a x y s g) 1 1, cor (pow (wDeep a x y s g) 2) 0 2, b21 (wAround a x y s g) (pro (sca 3 (cor (wTable a x y s g) 0 0)) (b12 a x))]
/-- a piece: small, of two size names -/
structure Pc (S : Sys) (r c : Str) (f : Fm) : Prop where
  ok : f.Ok S
  sd : f.sides = ([r], [c])
  wt : f.wt ≤ 3
  lv : f.lv ≤ 4
  bt : f.bits ≤ 20
  sl : f.slen ≤ 100
  of : r ≠ c → f.mid = [[0]]
theorem Pc.r {S : Sys} {r c : Str} {f : Fm} (h : Pc S r c f) : f.rows = [r] := congrArg Prod.fst h.sd
theorem Pc.c {S : Sys} {r c : Str} {f : Fm} (h : Pc S r c f) : f.cols = [c] := congrArg Prod.snd h.sd
structure Six (S : Sys) (n p : Str) (a x y s w g : Fm) : Prop where
  sn : SizeN n
  sp : SizeN p
  ne : n ≠ p
  a : Pc S n n a
  x : Pc S n p x
  y : Pc S p n y
  s : Pc S p p s
  w : Pc S n n w
  g : Pc S p p g
/-- bounds of a formula that can be made -/
structure Bn (S : Sys) (r c : List Str) (wt lv bt sl : Nat) (f : Fm) : Prop where
  ok : f.Ok S
  sd : f.sides = (r, c)
  wt : f.wt ≤ wt
  lv : f.lv ≤ lv
  bt : f.bits ≤ bt
  sl : f.slen ≤ sl
theorem Bn.r {S : Sys} {r c : List Str} {a b d e : Nat} {f : Fm} (h : Bn S r c a b d e f) : f.rows = r := congrArg Prod.fst h.sd
theorem Bn.c {S : Sys} {r c : List Str} {a b d e : Nat} {f : Fm} (h : Bn S r c a b d e f) : f.cols = c := congrArg Prod.snd h.sd
theorem Pc.bn {S : Sys} {r c : Str} {f : Fm} (h : Pc S r c f) : Bn S [r] [c] 3 4 20 100 f := ⟨h.ok, h.sd, h.wt, h.lv, h.bt, h.sl⟩
section
variable {S : Sys} {r c r2 c2 k : List Str} {f g h i : Fm} {w1 l1 b1 s1 w2 l2 b2 s2 w3 l3 b3 s3 w4 l4 b4 s4 : Nat}
theorem lim_of {f : Fm} {w l b s R C : Nat} (hr : f.rows.length = R) (hc : f.cols.length = C) (hw : f.wt ≤ w) (hl : f.lv ≤ l) (hb : f.bits ≤ b) (hs : f.slen ≤ s) (h1 : w ≤ 1000) (h2 : l ≤ 60) (h3 : R ≤ 16) (h4 : C ≤ 16) (h5 : R * C * b ≤ 4000) (h6 : s ≤ 100000) : f.Lim :=
  ⟨by omega, by omega, by omega, by omega, by rw [hr, hc]; exact Nat.le_trans (Nat.mul_le_mul_left _ hb) h5, by omega⟩
theorem Bn.sum (a : Bn S r c w1 l1 b1 s1 f) (b : Bn S r c w2 l2 b2 s2 g) (h1 : w1 + w2 ≤ 1000 := by exact of_decide_eq_true rfl) (h2 : 1 + max l1 l2 ≤ 60 := by exact of_decide_eq_true rfl) (h3 : r.length ≤ 16 := by exact of_decide_eq_true rfl) (h4 : c.length ≤ 16 := by exact of_decide_eq_true rfl) (h5 : r.length * c.length * (b1 + b2 + 1) ≤ 4000 := by exact of_decide_eq_true rfl) (h6 : s1 + s2 + 5 ≤ 100000 := by exact of_decide_eq_true rfl) :
    Bn S r c (w1 + w2) (1 + max l1 l2) (b1 + b2 + 1) (s1 + s2 + 5) (.sum f g) := by
  have e1 : (Fm.sum f g).wt ≤ w1 + w2 := Nat.add_le_add a.wt b.wt
  have e2 : (Fm.sum f g).lv ≤ 1 + max l1 l2 := by show 1 + max f.lv g.lv ≤ _; have := a.lv; have := b.lv; omega
  have e3 : (Fm.sum f g).bits ≤ b1 + b2 + 1 := by show f.bits + g.bits + 1 ≤ _; have := a.bt; have := b.bt; omega
  have e4 : (Fm.sum f g).slen ≤ s1 + s2 + 5 := by show f.slen + g.slen + 5 ≤ _; have := a.sl; have := b.sl; omega
  have e5 : (Fm.sum f g).sides = (r, c) := a.sd
  exact ⟨⟨a.ok, b.ok, by rw [a.sd, b.sd], lim_of (congrArg (fun z => z.1.length) e5) (congrArg (fun z => z.2.length) e5) e1 e2 e3 e4 h1 h2 h3 h4 h5 h6⟩, e5, e1, e2, e3, e4⟩
theorem Bn.dif (a : Bn S r c w1 l1 b1 s1 f) (b : Bn S r c w2 l2 b2 s2 g) (h1 : w1 + w2 ≤ 1000 := by exact of_decide_eq_true rfl) (h2 : 1 + max l1 l2 ≤ 60 := by exact of_decide_eq_true rfl) (h3 : r.length ≤ 16 := by exact of_decide_eq_true rfl) (h4 : c.length ≤ 16 := by exact of_decide_eq_true rfl) (h5 : r.length * c.length * (b1 + b2 + 1) ≤ 4000 := by exact of_decide_eq_true rfl) (h6 : s1 + s2 + 5 ≤ 100000 := by exact of_decide_eq_true rfl) :
    Bn S r c (w1 + w2) (1 + max l1 l2) (b1 + b2 + 1) (s1 + s2 + 5) (.dif f g) := by
  have e1 : (Fm.dif f g).wt ≤ w1 + w2 := Nat.add_le_add a.wt b.wt
  have e2 : (Fm.dif f g).lv ≤ 1 + max l1 l2 := by show 1 + max f.lv g.lv ≤ _; have := a.lv; have := b.lv; omega
  have e3 : (Fm.dif f g).bits ≤ b1 + b2 + 1 := by show f.bits + g.bits + 1 ≤ _; have := a.bt; have := b.bt; omega
  have e4 : (Fm.dif f g).slen ≤ s1 + s2 + 5 := by show f.slen + g.slen + 5 ≤ _; have := a.sl; have := b.sl; omega
  have e5 : (Fm.dif f g).sides = (r, c) := a.sd
  exact ⟨⟨a.ok, b.ok, by rw [a.sd, b.sd], lim_of (congrArg (fun z => z.1.length) e5) (congrArg (fun z => z.2.length) e5) e1 e2 e3 e4 h1 h2 h3 h4 h5 h6⟩, e5, e1, e2, e3, e4⟩
theorem Bn.pro (a : Bn S r k w1 l1 b1 s1 f) (b : Bn S k c w2 l2 b2 s2 g) (h1 : w1 + w2 ≤ 1000 := by exact of_decide_eq_true rfl) (h2 : 1 + max l1 l2 ≤ 60 := by exact of_decide_eq_true rfl) (h3 : r.length ≤ 16 := by exact of_decide_eq_true rfl) (h4 : c.length ≤ 16 := by exact of_decide_eq_true rfl) (h5 : r.length * c.length * (k.length * (b1 + b2 + 1) + 1) ≤ 4000 := by exact of_decide_eq_true rfl) (h6 : s1 + s2 + 5 ≤ 100000 := by exact of_decide_eq_true rfl) :
    Bn S r c (w1 + w2) (1 + max l1 l2) (k.length * (b1 + b2 + 1) + 1) (s1 + s2 + 5) (.pro f g) := by
  have e1 : (Fm.pro f g).wt ≤ w1 + w2 := Nat.add_le_add a.wt b.wt
  have e2 : (Fm.pro f g).lv ≤ 1 + max l1 l2 := by show 1 + max f.lv g.lv ≤ _; have := a.lv; have := b.lv; omega
  have e3 : (Fm.pro f g).bits ≤ k.length * (b1 + b2 + 1) + 1 := by
    show f.cols.length * (f.bits + g.bits + 1) + 1 ≤ _
    rw [a.c]
    have := Nat.mul_le_mul_left k.length (show f.bits + g.bits + 1 ≤ b1 + b2 + 1 by have := a.bt; have := b.bt; omega)
    omega
  have e4 : (Fm.pro f g).slen ≤ s1 + s2 + 5 := by show f.slen + g.slen + 5 ≤ _; have := a.sl; have := b.sl; omega
  have e5 : (Fm.pro f g).sides = (r, c) := by show (f.sides.1, g.sides.2) = _; rw [a.sd, b.sd]
  exact ⟨⟨a.ok, b.ok, by rw [a.c, b.r], lim_of (congrArg (fun z => z.1.length) e5) (congrArg (fun z => z.2.length) e5) e1 e2 e3 e4 h1 h2 h3 h4 h5 h6⟩, e5, e1, e2, e3, e4⟩
theorem Bn.sca {q : Rat} (a : Bn S r c w1 l1 b1 s1 f) (hq : BdR 8 q) (h1 : w1 ≤ 1000 := by exact of_decide_eq_true rfl) (h2 : 1 + l1 ≤ 60 := by exact of_decide_eq_true rfl) (h3 : r.length ≤ 16 := by exact of_decide_eq_true rfl) (h4 : c.length ≤ 16 := by exact of_decide_eq_true rfl) (h5 : r.length * c.length * (8 + b1) ≤ 4000 := by exact of_decide_eq_true rfl) (h6 : 20 + s1 ≤ 100000 := by exact of_decide_eq_true rfl) :
    Bn S r c w1 (1 + l1) (8 + b1) (20 + s1) (.sca q f) := by
  have e1 : (Fm.sca q f).wt ≤ w1 := a.wt
  have e2 : (Fm.sca q f).lv ≤ 1 + l1 := Nat.add_le_add_left a.lv _
  have e3 : (Fm.sca q f).bits ≤ 8 + b1 := Nat.add_le_add_left a.bt _
  have e4 : (Fm.sca q f).slen ≤ 20 + s1 := Nat.add_le_add_left a.sl _
  have e5 : (Fm.sca q f).sides = (r, c) := a.sd
  exact ⟨⟨a.ok, hq, lim_of (congrArg (fun z => z.1.length) e5) (congrArg (fun z => z.2.length) e5) e1 e2 e3 e4 h1 h2 h3 h4 h5 h6⟩, e5, e1, e2, e3, e4⟩
theorem Bn.tra (a : Bn S r c w1 l1 b1 s1 f) (h1 : w1 ≤ 1000 := by exact of_decide_eq_true rfl) (h2 : 1 + l1 ≤ 60 := by exact of_decide_eq_true rfl) (h3 : c.length ≤ 16 := by exact of_decide_eq_true rfl) (h4 : r.length ≤ 16 := by exact of_decide_eq_true rfl) (h5 : c.length * r.length * b1 ≤ 4000 := by exact of_decide_eq_true rfl) (h6 : s1 + 1 ≤ 100000 := by exact of_decide_eq_true rfl) :
    Bn S c r w1 (1 + l1) b1 (s1 + 1) (.tra f) := by
  have e1 : (Fm.tra f).wt ≤ w1 := a.wt
  have e2 : (Fm.tra f).lv ≤ 1 + l1 := Nat.add_le_add_left a.lv _
  have e3 : (Fm.tra f).bits ≤ b1 := a.bt
  have e4 : (Fm.tra f).slen ≤ s1 + 1 := Nat.add_le_add_right a.sl _
  have e5 : (Fm.tra f).sides = (c, r) := by show (f.sides.2, f.sides.1) = _; rw [a.sd]
  exact ⟨⟨a.ok, lim_of (congrArg (fun z => z.1.length) e5) (congrArg (fun z => z.2.length) e5) e1 e2 e3 e4 h1 h2 h3 h4 h5 h6⟩, e5, e1, e2, e3, e4⟩
theorem Bn.inv (a : Bn S r r w1 l1 b1 s1 f) (hi : OkInv r.length f.mid) (h1 : w1 ≤ 1000 := by exact of_decide_eq_true rfl) (h2 : 1 + l1 ≤ 60 := by exact of_decide_eq_true rfl) (h3 : r.length ≤ 16 := by exact of_decide_eq_true rfl) (h5 : r.length * r.length * b1 ≤ 4000 := by exact of_decide_eq_true rfl) (h6 : s1 + 5 ≤ 100000 := by exact of_decide_eq_true rfl) :
    Bn S r r w1 (1 + l1) b1 (s1 + 5) (.inv f) := by
  have e1 : (Fm.inv f).wt ≤ w1 := a.wt
  have e2 : (Fm.inv f).lv ≤ 1 + l1 := Nat.add_le_add_left a.lv _
  have e3 : (Fm.inv f).bits ≤ b1 := a.bt
  have e4 : (Fm.inv f).slen ≤ s1 + 5 := Nat.add_le_add_right a.sl _
  have e5 : (Fm.inv f).sides = (r, r) := a.sd
  exact ⟨⟨a.ok, by rw [a.r, a.c], by rw [a.r]; exact hi, lim_of (congrArg (fun z => z.1.length) e5) (congrArg (fun z => z.2.length) e5) e1 e2 e3 e4 h1 h2 h3 h3 h5 h6⟩, e5, e1, e2, e3, e4⟩
theorem powB_mono {k b c : Nat} (h : b ≤ c) : ∀ i, powB k b i ≤ powB k c i
  | 0 => h
  | i + 1 => by
    have ih := powB_mono (k := k) h i
    show k * (powB k b i + b + 1) + 1 ≤ k * (powB k c i + c + 1) + 1
    exact Nat.add_le_add_right (Nat.mul_le_mul_left _ (by omega)) _
theorem Bn.pow {e : Nat} (a : Bn S r r w1 l1 b1 s1 f) (he : 0 < e ∧ e ≤ 9 := by exact of_decide_eq_true rfl) (h1 : e * w1 ≤ 1000 := by exact of_decide_eq_true rfl) (h2 : 1 + l1 ≤ 60 := by exact of_decide_eq_true rfl) (h3 : r.length ≤ 16 := by exact of_decide_eq_true rfl) (h5 : ∀ i, i ≤ e - 1 → r.length * r.length * powB r.length b1 i ≤ 4000 := by exact of_decide_eq_true rfl) (h6 : s1 + 10 ≤ 100000 := by exact of_decide_eq_true rfl) :
    Bn S r r (e * w1) (1 + l1) (powB r.length b1 (e - 1)) (s1 + 10) (.pow f e) := by
  have e1 : (Fm.pow f e).wt ≤ e * w1 := Nat.mul_le_mul_left _ a.wt
  have e2 : (Fm.pow f e).lv ≤ 1 + l1 := Nat.add_le_add_left a.lv _
  have e3 : (Fm.pow f e).bits ≤ powB r.length b1 (e - 1) := by show powB f.cols.length f.bits (e - 1) ≤ _; rw [a.c]; exact powB_mono a.bt _
  have e4 : (Fm.pow f e).slen ≤ s1 + 10 := Nat.add_le_add_right a.sl _
  have e5 : (Fm.pow f e).sides = (r, r) := a.sd
  exact ⟨⟨a.ok, by rw [a.r, a.c], he.1, he.2, fun i hi => by rw [a.r, a.c]; exact Nat.le_trans (Nat.mul_le_mul_left _ (powB_mono a.bt i)) (h5 i hi), lim_of (congrArg (fun z => z.1.length) e5) (congrArg (fun z => z.2.length) e5) e1 e2 e3 e4 h1 h2 h3 h3 (h5 _ (Nat.le_refl _)) h6⟩, e5, e1, e2, e3, e4⟩
theorem Bn.b22 (a : Bn S r c w1 l1 b1 s1 f) (b : Bn S r c2 w2 l2 b2 s2 g) (d : Bn S r2 c w3 l3 b3 s3 h) (e : Bn S r2 c2 w4 l4 b4 s4 i) (h1 : w1 + w2 + w3 + w4 ≤ 1000 := by exact of_decide_eq_true rfl) (h2 : 1 + max (max (max l1 l2) l3) l4 ≤ 60 := by exact of_decide_eq_true rfl) (h3 : (r ++ r2).length ≤ 16 := by exact of_decide_eq_true rfl) (h4 : (c ++ c2).length ≤ 16 := by exact of_decide_eq_true rfl)
    (h5 : (r ++ r2).length * (c ++ c2).length * (max (max b1 b2) (max b3 b4)) ≤ 4000 := by exact of_decide_eq_true rfl) (h6 : s1 + s2 + s3 + s4 + 30 ≤ 100000 := by exact of_decide_eq_true rfl) :
    Bn S (r ++ r2) (c ++ c2) (w1 + w2 + w3 + w4) (1 + max (max (max l1 l2) l3) l4) (max (max b1 b2) (max b3 b4)) (s1 + s2 + s3 + s4 + 30) (.b22 f g h i) := by
  have e1 : (Fm.b22 f g h i).wt ≤ w1 + w2 + w3 + w4 := by show f.wt + g.wt + h.wt + i.wt ≤ _; have := a.wt; have := b.wt; have := d.wt; have := e.wt; omega
  have e2 : (Fm.b22 f g h i).lv ≤ 1 + max (max (max l1 l2) l3) l4 := by show 1 + max (max (max f.lv g.lv) h.lv) i.lv ≤ _; have := a.lv; have := b.lv; have := d.lv; have := e.lv; omega
  have e3 : (Fm.b22 f g h i).bits ≤ max (max b1 b2) (max b3 b4) := by show max (max f.bits g.bits) (max h.bits i.bits) ≤ _; have := a.bt; have := b.bt; have := d.bt; have := e.bt; omega
  have e4 : (Fm.b22 f g h i).slen ≤ s1 + s2 + s3 + s4 + 30 := by show f.slen + g.slen + h.slen + i.slen + 30 ≤ _; have := a.sl; have := b.sl; have := d.sl; have := e.sl; omega
  have e5 : (Fm.b22 f g h i).sides = (r ++ r2, c ++ c2) := by show (f.sides.1 ++ h.sides.1, f.sides.2 ++ g.sides.2) = _; rw [a.sd, b.sd, d.sd]
  exact ⟨⟨a.ok, b.ok, d.ok, e.ok, by rw [a.r, b.r], by rw [d.r, e.r], by rw [a.c, d.c], by rw [b.c, e.c], lim_of (congrArg (fun z => z.1.length) e5) (congrArg (fun z => z.2.length) e5) e1 e2 e3 e4 h1 h2 h3 h4 h5 h6⟩, e5, e1, e2, e3, e4⟩
theorem Bn.b21 (a : Bn S r c w1 l1 b1 s1 f) (b : Bn S r2 c w2 l2 b2 s2 g) (h1 : w1 + w2 ≤ 1000 := by exact of_decide_eq_true rfl) (h2 : 1 + max l1 l2 ≤ 60 := by exact of_decide_eq_true rfl) (h3 : (r ++ r2).length ≤ 16 := by exact of_decide_eq_true rfl) (h4 : c.length ≤ 16 := by exact of_decide_eq_true rfl) (h5 : (r ++ r2).length * c.length * (max b1 b2) ≤ 4000 := by exact of_decide_eq_true rfl) (h6 : s1 + s2 + 30 ≤ 100000 := by exact of_decide_eq_true rfl) :
    Bn S (r ++ r2) c (w1 + w2) (1 + max l1 l2) (max b1 b2) (s1 + s2 + 30) (.b21 f g) := by
  have e1 : (Fm.b21 f g).wt ≤ w1 + w2 := Nat.add_le_add a.wt b.wt
  have e2 : (Fm.b21 f g).lv ≤ 1 + max l1 l2 := by show 1 + max f.lv g.lv ≤ _; have := a.lv; have := b.lv; omega
  have e3 : (Fm.b21 f g).bits ≤ max b1 b2 := by show max f.bits g.bits ≤ _; have := a.bt; have := b.bt; omega
  have e4 : (Fm.b21 f g).slen ≤ s1 + s2 + 30 := by show f.slen + g.slen + 30 ≤ _; have := a.sl; have := b.sl; omega
  have e5 : (Fm.b21 f g).sides = (r ++ r2, c) := by show (f.sides.1 ++ g.sides.1, f.sides.2) = _; rw [a.sd, b.sd]
  exact ⟨⟨a.ok, b.ok, by rw [a.c, b.c], lim_of (congrArg (fun z => z.1.length) e5) (congrArg (fun z => z.2.length) e5) e1 e2 e3 e4 h1 h2 h3 h4 h5 h6⟩, e5, e1, e2, e3, e4⟩
theorem Bn.b12 (a : Bn S r c w1 l1 b1 s1 f) (b : Bn S r c2 w2 l2 b2 s2 g) (h1 : w1 + w2 ≤ 1000 := by exact of_decide_eq_true rfl) (h2 : 1 + max l1 l2 ≤ 60 := by exact of_decide_eq_true rfl) (h3 : r.length ≤ 16 := by exact of_decide_eq_true rfl) (h4 : (c ++ c2).length ≤ 16 := by exact of_decide_eq_true rfl) (h5 : r.length * (c ++ c2).length * (max b1 b2) ≤ 4000 := by exact of_decide_eq_true rfl) (h6 : s1 + s2 + 30 ≤ 100000 := by exact of_decide_eq_true rfl) :
    Bn S r (c ++ c2) (w1 + w2) (1 + max l1 l2) (max b1 b2) (s1 + s2 + 30) (.b12 f g) := by
  have e1 : (Fm.b12 f g).wt ≤ w1 + w2 := Nat.add_le_add a.wt b.wt
  have e2 : (Fm.b12 f g).lv ≤ 1 + max l1 l2 := by show 1 + max f.lv g.lv ≤ _; have := a.lv; have := b.lv; omega
  have e3 : (Fm.b12 f g).bits ≤ max b1 b2 := by show max f.bits g.bits ≤ _; have := a.bt; have := b.bt; omega
  have e4 : (Fm.b12 f g).slen ≤ s1 + s2 + 30 := by show f.slen + g.slen + 30 ≤ _; have := a.sl; have := b.sl; omega
  have e5 : (Fm.b12 f g).sides = (r, c ++ c2) := by show (f.sides.1, f.sides.2 ++ g.sides.2) = _; rw [a.sd, b.sd]
  exact ⟨⟨a.ok, b.ok, by rw [a.r, b.r], lim_of (congrArg (fun z => z.1.length) e5) (congrArg (fun z => z.2.length) e5) e1 e2 e3 e4 h1 h2 h3 h4 h5 h6⟩, e5, e1, e2, e3, e4⟩
theorem Bn.cor {u v : Str} {i j : Nat} (a : Bn S r c w1 l1 b1 s1 f) (hi : r[i]? = some u) (hj : c[j]? = some v) (h1 : w1 ≤ 1000 := by exact of_decide_eq_true rfl) (h2 : 1 + l1 ≤ 60 := by exact of_decide_eq_true rfl) (h5 : b1 ≤ 4000 := by exact of_decide_eq_true rfl) (h6 : s1 + 20 ≤ 100000 := by exact of_decide_eq_true rfl) :
    Bn S [u] [v] w1 (1 + l1) b1 (s1 + 20) (.cor f i j) := by
  have e1 : (Fm.cor f i j).wt ≤ w1 := a.wt
  have e2 : (Fm.cor f i j).lv ≤ 1 + l1 := Nat.add_le_add_left a.lv _
  have e3 : (Fm.cor f i j).bits ≤ b1 := a.bt
  have e4 : (Fm.cor f i j).slen ≤ s1 + 20 := Nat.add_le_add_right a.sl _
  have e5 : (Fm.cor f i j).sides = ([u], [v]) := by
    show ([f.sides.1.getD i Str.empty], [f.sides.2.getD j Str.empty]) = _
    rw [a.sd, List.getD_eq_getElem?_getD, List.getD_eq_getElem?_getD, hi, hj]
    rfl
  exact ⟨⟨a.ok, by rw [a.r]; exact (List.getElem?_eq_some_iff.mp hi).1, by rw [a.c]; exact (List.getElem?_eq_some_iff.mp hj).1, lim_of (congrArg (fun z => z.1.length) e5) (congrArg (fun z => z.2.length) e5) e1 e2 e3 e4 h1 h2 (show 1 ≤ 16 by decide) (show 1 ≤ 16 by decide) (by show 1 * 1 * b1 ≤ _; omega) h6⟩, e5, e1, e2, e3, e4⟩
theorem Bn.eye (h : SideN r) (hl : r.length ≤ 2) : Bn S r r 1 1 1 21 (.eye r) := by
  have e4 : (Fm.eye r).slen ≤ 21 := by show 5 + 8 * r.length ≤ _; omega
  have h5 : r.length * r.length * 1 ≤ 4000 := Nat.le_trans (Nat.mul_le_mul_right 1 (Nat.mul_le_mul hl hl)) (by decide)
  exact ⟨⟨h, lim_of rfl rfl (Nat.le_refl 1) (Nat.le_refl 1) (Nat.le_refl 1) e4 (by decide) (by decide) h.le h.le h5 (by decide)⟩, rfl, Nat.le_refl _, Nat.le_refl _, Nat.le_refl _, e4⟩
theorem Bn.zero {u v : Str} (h : SizeN u) (g : SizeN v) : Bn S [u] [v] 1 1 1 24 (.zero [u] [v]) := by
  have sd : ∀ {z : Str}, SizeN z → SideN [z] := fun h => ⟨show 0 < 1 by decide, show 1 ≤ 16 by decide, fun x hx => by rw [List.mem_singleton.mp hx]; exact h⟩
  exact ⟨⟨sd h, sd g, lim_of rfl rfl (Nat.le_refl 1) (Nat.le_refl 1) (Nat.le_refl 1) (Nat.le_refl 24) (by decide) (by decide) (show 1 ≤ 16 by decide) (show 1 ≤ 16 by decide) (show 1 * 1 * 1 ≤ 4000 by decide) (by decide)⟩, rfl, Nat.le_refl _, Nat.le_refl _, Nat.le_refl _, Nat.le_refl _⟩
end
section
variable {S : Sys} {n p : Str} {a x y s w g : Fm}
theorem Six.side (h : Six S n p a x y s w g) : SideN [n, p] := ⟨by show 0 < 2; decide, by show 2 ≤ 16; decide, fun z hz => by
  rcases List.mem_cons.mp hz with rfl | hz
  · exact h.sn
  · rw [List.mem_singleton.mp hz]; exact h.sp⟩
theorem Six.table (h : Six S n p a x y s w g) : Bn S [n, p] [n, p] 15 6 41 535 (wTable a x y s g) :=
by
  have := Bn.b22 h.a.bn h.x.bn h.y.bn (Bn.sum h.s.bn h.g.bn)
  exact this
theorem Six.deep (h : Six S n p a x y s w g) : Bn S [n, p, p] [n, p, p] 30 7 41 1125 (wDeep a x y s g) :=
by
  have := Bn.b22 h.table (Bn.b21 h.x.bn h.g.bn) (Bn.b12 h.y.bn h.s.bn) h.g.bn
  exact this
theorem Six.mid (h : Six S n p a x y s w g) : (sum (eye [n, p]) (b22 (zero [n] [n]) x y (zero [p] [p]))).mid = eye2 := by
  show addM 1 (eyeM 2) (hcat (zeroM 1 1) x.mid ++ hcat y.mid (zeroM 1 1)) = eye2
  rw [h.x.of h.ne, h.y.of (fun e => h.ne e.symm)]
  decide +kernel
theorem Six.around (h : Six S n p a x y s w g) : Bn S [n, p] [n, p] 9 7 22 309 (wAround a x y s g) := by
  have e : wAround a x y s g = inv (sum (eye [n, p]) (b22 (zero [n] [n]) x y (zero [p] [p]))) := by
    unfold wAround
    rw [h.table.r, h.a.r, h.g.r]
  rw [e]
  have b := Bn.b22 (Bn.zero h.sn h.sn) h.x.bn h.y.bn (Bn.zero h.sp h.sp)
  have c := Bn.sum (Bn.eye h.side (Nat.le_refl _)) b
  have := Bn.inv (r := [n, p]) c (by rw [h.mid]; exact .inr ⟨rfl, rfl⟩)
  exact this
theorem bd3 : BdR 8 (3 : Rat) := BdR.int (i := 3) (by decide) (by decide)
theorem bd2 : BdR 8 (2 : Rat) := BdR.int (i := 2) (by decide) (by decide)
theorem Six.woven (h : Six S n p a x y s w g) : ∀ f ∈ woven a x y s w g, f.Ok S ∧ ∀ l, f ≠ .letter l := by
  have t := h.table
  have d := h.deep
  have r := h.around
  have E : (wTable a x y s g).rows = [n, p] := t.r
  have o1 := (Bn.pow (e := 2) t).ok
  have o2 := (Bn.pro (Bn.cor (i := 0) (j := 1) t rfl rfl) h.y.bn).ok
  have o3 := (Bn.cor (i := 1) (j := 0) (Bn.pro t t) rfl rfl).ok
  have o5 := (Bn.sum (Bn.cor (i := 2) (j := 1) d rfl rfl) (Bn.sca h.g.bn bd2)).ok
  have o6 := (Bn.pow (e := 3) (Bn.sum h.w.bn (Bn.cor (i := 0) (j := 0) t rfl rfl))).ok
  have o7 := (Bn.pro (Bn.b12 (Bn.sum h.a.bn h.w.bn) h.x.bn) (Bn.b21 h.x.bn h.g.bn)).ok
  have o8 := (Bn.tra (Bn.dif (Bn.eye (S := S) h.side (Nat.le_refl _)) t)).ok
  have o9 := (Bn.cor (i := 1) (j := 1) r rfl rfl).ok
  have o10 := (Bn.cor (i := 0) (j := 2) (Bn.pow (e := 2) d) rfl rfl).ok
  have o11 := (Bn.b21 r (Bn.pro (Bn.sca (Bn.cor (i := 0) (j := 0) t rfl rfl) bd3) (Bn.b12 h.a.bn h.x.bn))).ok
  intro f hf
  unfold Fm.woven at hf
  rw [E] at hf
  simp only [List.mem_cons, List.not_mem_nil, or_false] at hf
  rcases hf with rfl | rfl | rfl | rfl | rfl | rfl | rfl | rfl | rfl | rfl | rfl
  · exact ⟨o1, fun l e => by cases e⟩
  · exact ⟨o2, fun l e => by cases e⟩
  · exact ⟨o3, fun l e => by cases e⟩
  · exact ⟨d.ok, fun l e => by cases e⟩
  · exact ⟨o5, fun l e => by cases e⟩
  · exact ⟨o6, fun l e => by cases e⟩
  · exact ⟨o7, fun l e => by cases e⟩
  · exact ⟨o8, fun l e => by cases e⟩
  · exact ⟨o9, fun l e => by cases e⟩
  · exact ⟨o10, fun l e => by cases e⟩
  · exact ⟨o11, fun l e => by cases e⟩
end
/-- letters exchanged in the eleven -/
theorem woven_sub {σ : Ltr → Fm} {l0 l1 l2 l3 l4 l5 : Ltr} (h0 : (letter l0).rows = (σ l0).rows) (h2 : (letter l2).rows = (σ l2).rows) (h5 : (letter l5).rows = (σ l5).rows) :
    (woven (letter l0) (letter l1) (letter l2) (letter l3) (letter l4) (letter l5)).map (sub σ) = woven (σ l0) (σ l1) (σ l2) (σ l3) (σ l4) (σ l5) := by
  have e : (wTable (letter l0) (letter l1) (letter l2) (letter l3) (letter l5)).rows = (wTable (σ l0) (σ l1) (σ l2) (σ l3) (σ l5)).rows := by
    show (letter l0).rows ++ (letter l2).rows = (σ l0).rows ++ (σ l2).rows
    rw [h0, h2]
  unfold woven wAround
  rw [e, h0, h5]
  rfl
end Fm
end K9

/-! ## F44 -/
namespace K9
open PySem PySem.Spec PyProof.Rows L2
/-! The law's purse: draws. -/
section
variable {X : Cx}
/-- a text some times -/
theorem op_repS : OpR X (binaryOp .Mult) (fun x y H Q => ∃ i n, x = .str i ∧ y = .int n ∧ MulOk i n ∧ Q (.str (Txt.mul i n)) H) := by
  intro pins s σ H x y v u Q I rx ry h
  obtain ⟨i, n, rfl, rfl, hz, q⟩ := h
  obtain ⟨t, rfl⟩ := rx
  obtain ⟨t', rfl⟩ := ry
  exact SB.mul hz fun t' k => ⟨.str (Txt.mul i n), H, I.tok _, ⟨_, rfl⟩, q⟩
end
/-- the purse at p, its cells at c; at most n draws so far -/
structure Purse (c p : Addr) (n : Nat) (H : Hp) : Prop where
  ex : ∃ (cells : List Int) (t : Nat) (r : Int), H p = some (.lst [.ref c, .int t, .int r]) ∧ H c = some (.lst (cells.map V.int)) ∧ cells ≠ [] ∧ cells.length ≤ 100 ∧ (∀ x ∈ cells, 0 ≤ x ∧ x.natAbs < 2 ^ 400) ∧ t ≤ n ∧ 0 ≤ r ∧ r.natAbs < 2 ^ 400
theorem Purse.ne {c p : Addr} {n : Nat} {H : Hp} (h : Purse c p n H) : c ≠ p := by
  obtain ⟨cells, t, r, h1, h2, h3, _⟩ := h.ex
  intro e
  subst e
  rw [h1] at h2
  have := HO.lst.inj (Option.some.inj h2)
  cases cells with
  | nil => exact h3 rfl
  | cons a l => simp at this
theorem Purse.keep {c p : Addr} {n m : Nat} {H H' : Hp} (h : Purse c p n H) (l : n ≤ m) (e1 : ∀ o, H p = some o → H' p = some o) (e2 : ∀ o, H c = some o → H' c = some o) : Purse c p m H' := by
  obtain ⟨cells, t, r, h1, h2, h3, h4, h5, h6, h7⟩ := h.ex
  exact ⟨cells, t, r, e1 _ h1, e2 _ h2, h3, h4, h5, by omega, h7⟩
theorem Purse.same {c p : Addr} {n : Nat} {H H' : Hp} (h : Purse c p n H) (s : Same H H') : Purse c p n H' := h.keep (Nat.le_refl _) (fun o e => s _ _ e) (fun o e => s _ _ e)
theorem Purse.at_ {c p : Addr} {n : Nat} {H : Hp} (h : Purse c p n H) : ∃ xs, H p = some (.lst xs) := by
  obtain ⟨cells, t, r, h1, _⟩ := h.ex
  exact ⟨_, h1⟩
theorem Same.off {p : Addr} {H H' : Hp} (s : Same H H') : Off p H H' := fun x u _ e => s x u e
theorem Off.imm {p : Addr} {H H' : Hp} {xs : List V} (hp : H p = some (.lst xs)) (o : Off p H H') : Imm H H' := fun b u f e => o b u (fun z => by
  subst z
  rw [hp] at e
  cases e
  cases f) e
theorem Off.put {p : Addr} {H : Hp} {u : HO} : Off p H (L2.upd H p u) := fun b v n e => by rw [L2.upd_ne n]; exact e
/-- what a draw gives -/
def Drawn (c p : Addr) (n : Nat) (post : V → Hp → Prop) (H : Hp) (Q : VK) : Prop := ∀ v H', Off p H H' → Purse c p n H' → post v H' → Q v H'
def spDraw : Sp := fun vs H Q _ => ∃ (c p : Addr) (n : Nat) (m : Int), vs = [.ref p, .int m] ∧ Purse c p n H ∧ n < 100000 ∧ 0 < m ∧ m ≤ 100 ∧ Drawn c p (n + 1) (fun v _ => ∃ i : Nat, (i : Int) < m ∧ v = .int i) H Q
abbrev nDraw : List Str := ["_law_purse_here", "_law_many", "_law_cells", "_law_turn", "_law_cell", "_law_primes", "_law_seed", "_law_digit"]
theorem sc_draw : FnScope nDraw ["_law_purse_here", "_law_many"] (defScope (top 93)) := ⟨rfl, rfl, rfl, by decide +kernel, rfl, by decide +kernel, by decide +kernel⟩
def primes : List Int := [1000003, 2750159, 3497861, 4256233, 5800079, 7368787, 15485863]
theorem primes_at (k : Nat) (h : k < 7) : ∃ q : Int, (primes.map V.int)[k]? = some (.int q) ∧ 0 < q ∧ q < 2 ^ 24 := by
  have : k = 0 ∨ k = 1 ∨ k = 2 ∨ k = 3 ∨ k = 4 ∨ k = 5 ∨ k = 6 := by omega
  rcases this with rfl | rfl | rfl | rfl | rfl | rfl | rfl <;> exact ⟨_, rfl, by decide, by decide⟩
section
variable {w : World} {K : PySem.W.Frag} {mg : Str → Option Value} {base : Heap}
theorem cal_draw (T : Txt K mg) : Cal Pg w K mg base 1 "_law_draw" spDraw [] := by
  refine cal_of T.d__law_draw sc_draw (fun _ _ _ _ _ _ us hl => match us, hl with | [_, _], _ => rfl) (fun vs H Q E h => ?_) (fun f cdv A outer s H vs Q E hr h => ?_)
  · obtain ⟨c, p, n, m, rfl, _⟩ := h; rfl
  have mt := nofree T (x := "int") (by decide +kernel)
  have ml := nofree T (x := "len") (by decide +kernel)
  refine ⟨_, pss_cons (ps_if (pt_cmpR op_eq (pe_ix (ixL9 K) (pv 0) pe_int (fun _ _ => rfl)) pe_int (nomark _))
      (pss_cons (ps_par (i := 2) (j := 3) (by rfl) sc_draw.nd rfl rfl (by decide) rfl rfl (pa_cons (pe_ix (ixL9 K) (pv 0) pe_int (fun _ _ => rfl)) (pa_cons (pe_ix (ixL9 K) (pv 0) pe_int (fun _ _ => rfl)) pa_nil)) (by rfl))
      (pss_cons (ps_par (i := 4) (j := 5) (by rfl) sc_draw.nd rfl rfl (by decide) rfl rfl (pa_cons (pe_ix (ixL9 K) (pv 2) (pe_op op_mod (pe_callTy call_int1 (by rfl) mt boot_int9 (pa_cons (pv 3) pa_nil)) (pe_callB (len9 K) (by rfl) ml PySem.boot_len (pa_cons (pv 2) pa_nil))) (fun _ _ => rfl)) (pa_cons (pe_lst (pa_cons pe_int (pa_cons pe_int (pa_cons pe_int (pa_cons pe_int (pa_cons pe_int (pa_cons pe_int (pa_cons pe_int pa_nil)))))))) pa_nil)) (by rfl))
      (pss_cons (ps_asg (pe_op op_add (pv 3) pe_int) (pg_sub (pv 0) pe_int set_list))
      (pss_cons (ps_if (pt_cmpR op_lt (pv 4) (pe_op op_pow pe_int pe_int) (nomark _))
        (pss_cons (ps_set (i := 6) sc_draw.nd rfl (Or.inl rfl) (pe_op op_mod (pe_callTy call_int1 (by rfl) mt boot_int9 (pa_cons (pe_op op_add (pe_op op_mulW (pe_op op_add (pv 4) pe_int) pe_int) (pe_op op_mulW (pe_op op_mulW (pe_op op_add (pv 3) pe_int) (pe_op op_add (pv 3) pe_int)) pe_int)) pa_nil)) (pe_ix (ixL9 K) (pv 5) (pe_op op_mod (pe_callTy call_int1 (by rfl) mt boot_int9 (pa_cons (pv 3) pa_nil)) pe_int) (fun _ _ => rfl))))
        (pss_one (ps_ret (pe_op op_mod (pe_callTy call_int1 (by rfl) mt boot_int9 (pa_cons (pe_op op_fdivW (pe_op op_mod (pe_callTy call_int1 (by rfl) mt boot_int9 (pa_cons (pe_op op_add (pe_op op_pow (pv 6) pe_int) (pe_op op_mulW (pv 3) pe_int)) pa_nil)) pe_int) pe_int) pa_nil)) (pv 1))))) pss_nil)
      (pss_one (ps_asg (pv 4) (pg_sub (pv 0) pe_int set_list))))))) pss_nil)
    (pss_cons (ps_set (i := 7) sc_draw.nd rfl (Or.inl rfl) (pe_op op_mod (pe_callTy call_int1 (by rfl) mt boot_int9 (pa_cons (pe_ix (ixL9 K) (pv 0) pe_int (fun _ _ => rfl)) pa_nil)) (pv 1)))
    (pss_cons (ps_asg (pe_op op_fdivW (pe_ix (ixL9 K) (pv 0) pe_int (fun _ _ => rfl)) (pv 1)) (pg_sub (pv 0) pe_int set_list))
    (pss_one (ps_ret (pv 7))))), ?_⟩
  obtain ⟨c, p, n, m, rfl, hP, hn, hm0, hm1, k⟩ := h
  have ncp := hP.ne
  obtain ⟨cells, t, r, h1, h2, h3, h4, h5, h6, h7, h8⟩ := hP.ex
  have dig : ∀ x : Int, ∃ i : Nat, (i : Int) < m ∧ V.int (x % m) = V.int (i : Int) := fun x => by
    have a1 := Int.emod_nonneg x (Int.ne_of_gt hm0)
    have a2 := Int.emod_lt_of_pos x hm0
    exact ⟨(x % m).toNat, by omega, by rw [Int.toNat_of_nonneg a1]⟩
  have m400 : m.natAbs < 2 ^ 7 := by omega
  have fin : ∀ (t' : Nat) (r' : Int) (H1 : Hp), Off p H H1 → H1 p = some (.lst [.ref c, .int t', .int r']) → H1 c = some (.lst (cells.map V.int)) → t' ≤ n + 1 → 0 ≤ r' → r'.natAbs < 2 ^ 400 → Q (.int (r' % m)) (upd H1 p (.lst [.ref c, .int t', .int (r' / m)])) := fun t' r' H1 of1 hp1 hc1 lt1 hr0 hr1 => by
    obtain ⟨i, hi, e⟩ := dig r'
    rw [e]
    refine k _ _ (Off.trans of1 Off.put) ⟨cells, t', r' / m, upd_same, by rw [upd_ne ncp]; exact hc1, h3, h4, h5, lt1, Int.ediv_nonneg hr0 (by omega), ?_⟩ ⟨i, hi, rfl⟩
    exact wide_le (Int.ediv_nonneg hr0 (by omega)) (Int.ediv_le_self _ hr0) hr1
  refine ⟨_, rfl, p, _, 2, .int r, rfl, rfl, SqL.of h1, rfl, rfl, _, rfl, ?_⟩
  by_cases hr0 : r = 0
  · subst hr0
    rw [decide_eq_true rfl]
    refine iteT ?_
    refine ⟨_, rfl, p, _, 0, .ref c, rfl, rfl, SqL.of h1, rfl, _, rfl, p, _, 1, .int t, rfl, rfl, SqL.of h1, rfl, _, _, rfl, ?_⟩
    have lc : 0 < cells.length := List.length_pos_iff.mpr h3
    have hk : t % cells.length < cells.length := Nat.mod_lt _ lc
    obtain ⟨x, hx⟩ : ∃ x, cells[t % cells.length]? = some x := ⟨_, List.getElem?_eq_getElem hk⟩
    have hcell : (cells.map V.int)[t % cells.length]? = some (.int x) := by rw [List.getElem?_map, hx]; rfl
    obtain ⟨hx0, hx1⟩ := h5 _ (List.mem_of_getElem? hx)
    have emod : ((t : Int) % ((cells.map V.int).length : Int)) = ((t % cells.length : Nat) : Int) := by rw [List.length_map]; rfl
    refine ⟨_, rfl, _, rfl, .inl ⟨_, rfl, _, rfl, c, _, rfl, .inl (SqL.of h2), _, _, rfl, rfl, by rw [List.length_map]; omega, c, cells.map V.int, _, .int x, rfl, rfl, SqL.of h2, by rw [emod]; exact atI_nat hcell, Nat.le_trans (show 7 ≤ 1000 by decide) thousand_line, fun L hL => ?_⟩⟩
    have nLp : p ≠ L := ne_of_none h1 hL
    have nLc : c ≠ L := ne_of_none h2 hL
    refine ⟨_, _, rfl, ?_⟩
    have s1 : Same H (upd H L (.lst (primes.map V.int))) := Same.upd hL
    have hL1 : (upd H L (.lst (primes.map V.int))) L = some (.lst (primes.map V.int)) := upd_same
    have hp1 := s1 _ _ h1
    have hc1 := s1 _ _ h2
    show (tSeq _ _) _ _ (upd H L (.lst (primes.map V.int)))
    generalize upd H L (.lst (primes.map V.int)) = H1 at *
    refine ⟨_, rfl, _, _, rfl, rfl, _, rfl, p, _, 1, 1, rfl, rfl, hp1, rfl, ?_⟩
    have hp2 : (upd H1 p (.lst [.ref c, .int ((t + 1 : Nat) : Int), .int 0])) p = some (.lst [.ref c, .int ((t + 1 : Nat) : Int), .int 0]) := upd_same
    have hc2 : (upd H1 p (.lst [.ref c, .int ((t + 1 : Nat) : Int), .int 0])) c = some (.lst (cells.map V.int)) := by rw [upd_ne ncp]; exact hc1
    have hL2 : (upd H1 p (.lst [.ref c, .int ((t + 1 : Nat) : Int), .int 0])) L = some (.lst (primes.map V.int)) := by rw [upd_ne nLp.symm]; exact hL1
    have o2 : Off p H (upd H1 p (.lst [.ref c, .int ((t + 1 : Nat) : Int), .int 0])) := Off.trans (Same.off s1) Off.put
    show (tSeq _ _) _ _ (upd H1 p (.lst [.ref c, .int ((t + 1 : Nat) : Int), .int 0]))
    generalize upd H1 p (.lst [.ref c, .int ((t + 1 : Nat) : Int), .int 0]) = H2 at *
    refine ⟨_, rfl, _, _, rfl, rfl, ⟨by decide, by decide, by decide⟩, _, _, rfl, rfl, _, rfl, ?_⟩
    refine ite2 (fun hb => ?_) (fun hb => ?_)
    · have hb : x < 10 ^ 18 := of_decide_eq_true hb
      have ht : (t : Int).natAbs < 2 ^ 20 := by omega
      obtain ⟨q, hq, hq0, hq1⟩ := primes_at (t % 7) (Nat.mod_lt _ (by decide))
      have B0 : (x + 1).natAbs < 2 ^ 64 := by omega
      have B1 : ((t : Int) + 1).natAbs < 2 ^ 21 := by omega
      have B2 : ((t : Int) + 7).natAbs < 2 ^ 21 := by omega
      have B3 := wide_lt B1 B2
      have e7 : ((t : Int) % 7) = ((t % 7 : Nat) : Int) := rfl
      refine ⟨_, rfl, _, _, rfl, rfl, _, _, rfl, rfl, wide_mul B0 (b := 20) (by decide) (by decide) (by decide) (by decide), _, rfl, _, _, rfl, rfl, _, rfl, _, _, rfl, rfl, _, _, rfl, rfl, wide_mul B1 B2 (by decide) (by decide) (by decide), _, _, rfl, rfl, wide_mul B3 (b := 20) (by decide) (by decide) (by decide) (by decide), _, _, rfl, rfl,
        .inl ⟨_, rfl, _, rfl, _, rfl, .inl ⟨_, rfl, _, _, rfl, rfl, (by show (0 : Int) < 7; decide), L, primes.map V.int, _, .int q, rfl, rfl, SqL.of hL2, by rw [e7]; exact atI_nat hq, _, _, rfl, rfl, hq0, ?_⟩⟩⟩
      generalize ((x + 1) * 48271 + ((t : Int) + 1) * ((t : Int) + 7) * 69621) = y
      have hy0 := Int.emod_nonneg y (Int.ne_of_gt hq0)
      have hy1 := Int.emod_lt_of_pos y hq0
      refine ⟨_, rfl, _, _, rfl, rfl, ⟨by decide, by decide, by omega⟩, _, rfl, _, _, rfl, rfl, wide_mul ht (b := 20) (by decide) (by decide) (by decide) (by decide), _, _, rfl, rfl, .inl ⟨_, rfl, _, _, rfl, rfl, (by show (0 : Int) < 2147483647; decide), _, _, rfl, rfl, wide_div (b := 6) (by decide) (by decide) (by decide) (by decide), .inl ⟨_, rfl, _, rfl, _, _, rfl, rfl, hm0, ?_⟩⟩⟩
      obtain ⟨i, hi, e⟩ := dig (((y % q) ^ (Int.toNat 3) + (t : Int) * 40503) % 2147483647 / 32)
      have := k (.int (i : Int)) H2 o2 ⟨cells, t + 1, 0, hp2, hc2, h3, h4, h5, by omega, by decide, by decide⟩ ⟨i, hi, rfl⟩
      rw [← e] at this
      exact this
    · refine ⟨_, rfl, _, rfl, p, _, 2, 2, rfl, rfl, hp2, rfl, ?_⟩
      have hp3 : (upd H2 p (.lst [.ref c, .int ((t + 1 : Nat) : Int), .int x])) p = some (.lst [.ref c, .int ((t + 1 : Nat) : Int), .int x]) := upd_same
      have hc3 : (upd H2 p (.lst [.ref c, .int ((t + 1 : Nat) : Int), .int x])) c = some (.lst (cells.map V.int)) := by rw [upd_ne ncp]; exact hc2
      have o3 : Off p H (upd H2 p (.lst [.ref c, .int ((t + 1 : Nat) : Int), .int x])) := Off.trans o2 Off.put
      show (tSeq _ _) _ _ (upd H2 p (.lst [.ref c, .int ((t + 1 : Nat) : Int), .int x]))
      generalize upd H2 p (.lst [.ref c, .int ((t + 1 : Nat) : Int), .int x]) = H3 at *
      refine ⟨_, rfl, p, _, 2, .int x, rfl, rfl, SqL.of hp3, rfl, .inl ⟨_, rfl, _, rfl, _, _, rfl, rfl, hm0, ?_⟩⟩
      refine ⟨_, rfl, p, _, 2, .int x, rfl, rfl, SqL.of hp3, rfl, _, rfl, _, _, rfl, rfl, wide_div hm0 m400 (by decide) (by decide), _, rfl, p, _, 2, 2, rfl, rfl, hp3, rfl, _, rfl, ?_⟩
      exact fin (t + 1) x H3 o3 hp3 hc3 (by omega) hx0 hx1
  · rw [decide_eq_false (fun e => hr0 (V.int.inj e))]
    refine iteF ?_
    refine ⟨_, rfl, p, _, 2, .int r, rfl, rfl, SqL.of h1, rfl, .inl ⟨_, rfl, _, rfl, _, _, rfl, rfl, hm0, ?_⟩⟩
    refine ⟨_, rfl, p, _, 2, .int r, rfl, rfl, SqL.of h1, rfl, _, rfl, _, _, rfl, rfl, wide_div hm0 m400 (by decide) (by decide), _, rfl, p, _, 2, 2, rfl, rfl, h1, rfl, _, rfl, ?_⟩
    exact fin t r H (fun _ _ _ e => e) h1 h2 (by omega) h7 h8
def spPick : Sp := fun vs H Q _ => ∃ (c p m : Addr) (n : Nat) (xs : List V), vs = [.ref p, .ref m] ∧ Purse c p n H ∧ n < 100000 ∧ H m = some (.lst xs) ∧ m ≠ p ∧ xs ≠ [] ∧ xs.length ≤ 100 ∧ Drawn c p (n + 1) (fun v _ => v ∈ xs) H Q
theorem sc_pick : FnScope ["_law_purse_here", "_law_menu_here", "_law_at"] ["_law_purse_here", "_law_menu_here"] (defScope (top 94)) := ⟨rfl, rfl, rfl, by decide +kernel, rfl, by decide +kernel, by decide +kernel⟩
theorem cal_pick (T : Txt K mg) : Cal Pg w K mg base 2 "_law_pick" spPick [] := by
  refine cal_of T.d__law_pick sc_pick (fun _ _ _ _ _ _ us hl => match us, hl with | [_, _], _ => rfl) (fun vs H Q E h => ?_) (fun f cdv A outer s H vs Q E hr h => ?_)
  · obtain ⟨c, p, m, n, xs, rfl, _⟩ := h; rfl
  have ml := nofree T (x := "len") (by decide +kernel)
  refine ⟨_, pss_cons (ps_set (i := 2) sc_pick.nd rfl (Or.inl rfl) (pe_c (cal_draw T) hr (pa_cons (pv 0) (pa_cons (pe_callB (len9 K) (by rfl) ml PySem.boot_len (pa_cons (pv 1) pa_nil)) pa_nil))))
    (pss_one (ps_ret (pe_ix (ixL9 K) (pv 1) (pv 2) (fun _ _ => rfl)))), ?_⟩
  obtain ⟨c, p, m, n, xs, rfl, hP, hn, hm, nmp, hne, hle, k⟩ := h
  have lp : 0 < xs.length := List.length_pos_iff.mpr hne
  refine ⟨_, rfl, _, rfl, m, _, rfl, .inl (SqL.of hm), c, p, n, _, rfl, hP, hn, by omega, by omega, fun v H1 o1 hP1 hv => ?_⟩
  obtain ⟨i, hi, rfl⟩ := hv
  have hi' : i < xs.length := by omega
  exact ⟨_, rfl, _, rfl, m, xs, i, xs[i], rfl, rfl, SqL.of (o1 _ _ nmp hm), atI_nat (List.getElem?_eq_getElem hi'), k _ _ o1 hP1 (List.getElem_mem hi')⟩
end
end K9

/-! ## F45 -/
namespace K9
open PySem PySem.Spec PyProof.Rows L2
/-! The law's names. -/
/-! ### texts by their signs -/
theorem sl_app (a b : Str) : (a ++ b).cps.toList = a.cps.toList ++ b.cps.toList := by
  show (a.cps ++ b.cps).toList = _
  simp
theorem sl_len (a : Str) : a.length = a.cps.toList.length := rfl
theorem cap_at : ∀ i : Fin 26, capS.cps.toList[i.val]? = some (65 + i.val) := by decide +kernel
theorem small_at : ∀ i : Fin 26, smallS.cps.toList[i.val]? = some (97 + i.val) := by decide +kernel
def laterC (i : Nat) : Nat := if i < 26 then 97 + i else 22 + i
theorem later_at : ∀ i : Fin 36, laterS.cps.toList[i.val]? = some (laterC i.val) := by decide +kernel
theorem laterC_inj {i j : Nat} (hi : i < 36) (hj : j < 36) (h : laterC i = laterC j) : i = j := by
  unfold laterC at h
  split at h <;> split at h <;> omega
theorem cap_mem {i : Nat} (h : i < 26) : 65 + i ∈ capS.cps.toList := List.mem_of_getElem? (cap_at ⟨i, h⟩)
theorem small_mem {i : Nat} (h : i < 26) : 97 + i ∈ smallS.cps.toList := List.mem_of_getElem? (small_at ⟨i, h⟩)
theorem later_mem {i : Nat} (h : i < 36) : laterC i ∈ laterS.cps.toList := List.mem_of_getElem? (later_at ⟨i, h⟩)
/-- one sign -/
abbrev sg (c : Nat) : Str := ⟨#[c]⟩
theorem mul_sg (c : Nat) {n : Nat} (h : n < 3) : MulOk (sg c) (n : Int) ∧ (Txt.mul (sg c) (n : Int)).cps.toList = List.replicate n c := by
  have : n = 0 ∨ n = 1 ∨ n = 2 := by omega
  rcases this with rfl | rfl | rfl
  · exact ⟨⟨by decide, fun h => absurd (by decide) h, fun h => absurd (by decide) h⟩, rfl⟩
  · exact ⟨⟨by decide, fun _ h => by simp at h, fun _ h => by simp at h⟩, rfl⟩
  · refine ⟨⟨by decide, fun _ _ => ?_, fun _ _ => ?_⟩, rfl⟩
    · show ¬ ((1 : Nat) : Int) > (2 ^ 63 - 1) / 2
      decide
    · have e : (sg c).length * (Int.toNat ((2 : Nat) : Int)) = 2 := rfl
      rw [e]
      decide +kernel
def smBack (i b n : Nat) : Str := sg (97 + i) ++ Txt.mul (sg (97 + b)) (n : Int)
theorem smBack_sl {i b n : Nat} (h : n < 3) : (smBack i b n).cps.toList = (97 + i) :: List.replicate n (97 + b) := by
  unfold smBack
  rw [sl_app, (mul_sg _ h).2]
  rfl
theorem smBack_ok {i b n : Nat} (hi : i < 26) (hb : b < 26) (h : n < 3) : SizeN (smBack i b n) := by
  have e := smBack_sl (i := i) (b := b) h
  refine ⟨?_, ?_, fun c hc => ?_⟩
  · rw [sl_len, e]; simp
  · rw [sl_len, e]; simp; omega
  · rw [e] at hc
    rcases List.mem_cons.mp hc with rfl | hc
    · exact small_mem hi
    · rw [(List.mem_replicate.mp hc).2]; exact small_mem hb
theorem smBack_ne {i j b n : Nat} (h : n < 3) (hij : i ≠ j) : smBack i b n ≠ smBack j b n := fun e => by
  have e2 := congrArg (fun z : Str => z.cps.toList) e
  rw [smBack_sl h, smBack_sl h] at e2
  have := (List.cons.inj e2).1
  omega
def stem (s m : Nat) : Str := Txt.mul (sg (laterC s)) (m : Int)
theorem stem_sl {s m : Nat} (h : m < 3) : (stem s m).cps.toList = List.replicate m (laterC s) := (mul_sg _ h).2
def lab1 (a s m k : Nat) : Str := sg (65 + (a + 5 * k) % 26) ++ stem s m
def lab2 (a g s m k : Nat) : Str := sg (65 + a) ++ stem s m ++ sg (laterC ((g + 7 * k) % 36))
theorem lab1_sl {a s m k : Nat} (h : m < 3) : (lab1 a s m k).cps.toList = (65 + (a + 5 * k) % 26) :: List.replicate m (laterC s) := by
  unfold lab1
  rw [sl_app, stem_sl h]
  rfl
theorem lab2_sl {a g s m k : Nat} (h : m < 3) : (lab2 a g s m k).cps.toList = (65 + a) :: (List.replicate m (laterC s) ++ [laterC ((g + 7 * k) % 36)]) := by
  unfold lab2
  rw [sl_app, sl_app, stem_sl h]
  rfl
structure LabsOk (ls : List Str) : Prop where
  len : ls.length = 7
  is : ∀ x ∈ ls, LetN x
  nd : ls.Nodup
theorem labs_of {f : Nat → Str} (h : ∀ k, k < 7 → LetN (f k)) (inj : ∀ i j, i < 7 → j < 7 → f i = f j → i = j) : LabsOk ((List.range 7).map f) := by
  refine ⟨by simp, fun x hx => ?_, ?_⟩
  · obtain ⟨k, hk, rfl⟩ := List.mem_map.mp hx
    exact h k (List.mem_range.mp hk)
  · refine List.pairwise_map.mpr (List.Pairwise.imp_of_mem (fun {a b} ha hb hab e => ?_) (List.nodup_range (n := 7)))
    exact hab (inj a b (List.mem_range.mp ha) (List.mem_range.mp hb) e)
theorem lab1_ok {a s m : Nat} (hs : s < 36) (hm : m < 3) : LabsOk ((List.range 7).map (lab1 a s m)) := by
  refine labs_of (fun k hk => ?_) (fun i j hi hj e => ?_)
  · have e := lab1_sl (a := a) (s := s) (k := k) hm
    refine ⟨by rw [sl_len, e]; simp, by rw [sl_len, e]; simp; omega, fun c hc => ?_, fun c hc => ?_⟩
    · rw [e] at hc
      cases hc
      exact cap_mem (Nat.mod_lt _ (by decide))
    · rw [e] at hc
      rw [(List.mem_replicate.mp hc).2]
      exact later_mem hs
  · have e2 := congrArg (fun z : Str => z.cps.toList) e
    rw [lab1_sl hm, lab1_sl hm] at e2
    have := (List.cons.inj e2).1
    omega
theorem lab2_ok {a g s m : Nat} (ha : a < 26) (hs : s < 36) (hm : m < 3) : LabsOk ((List.range 7).map (lab2 a g s m)) := by
  refine labs_of (fun k hk => ?_) (fun i j hi hj e => ?_)
  · have e := lab2_sl (a := a) (g := g) (s := s) (k := k) hm
    refine ⟨by rw [sl_len, e]; simp, by rw [sl_len, e]; simp; omega, fun c hc => ?_, fun c hc => ?_⟩
    · rw [e] at hc
      cases hc
      exact cap_mem ha
    · rw [e] at hc
      rcases List.mem_append.mp hc with hc | hc
      · rw [(List.mem_replicate.mp hc).2]
        exact later_mem hs
      · rw [List.mem_singleton.mp hc]
        exact later_mem (Nat.mod_lt _ (by decide))
  · have e2 := congrArg (fun z : Str => z.cps.toList) e
    rw [lab2_sl hm, lab2_sl hm] at e2
    have e3 := List.append_cancel_left (List.cons.inj e2).2
    have := laterC_inj (Nat.mod_lt _ (by decide)) (Nat.mod_lt _ (by decide)) (List.cons.inj e3).1
    omega
structure NamesOk (n p : Str) (ls : List Str) : Prop where
  sn : SizeN n
  sp : SizeN p
  ne : n ≠ p
  ls : LabsOk ls
/-! ### the def -/
def IsNames (H : Hp) (v : V) (nn pp : Str) (ls : List Str) : Prop := ∃ t a b, v = .ref t ∧ H t = some (.tup [.ref a, .ref b]) ∧ H a = some (.lst [.str nn, .str pp]) ∧ H b = some (.lst (ls.map V.str))
def spNames : Sp := fun vs H Q _ => ∃ (c p : Addr) (n : Nat), vs = [.ref p] ∧ Purse c p n H ∧ n < 90000 ∧ Drawn c p (n + 8) (fun v H' => ∃ nn pp ls, IsNames H' v nn pp ls ∧ NamesOk nn pp ls) H Q
/-- what follows a statement, said once -/
theorem seq_key {t w : TS} {D : Ends} {σ : L2.St} {H : Hp} (G : L2.St → Hp → Prop) (rest : ∀ σ' H', G σ' H' → w D σ' H') (h : (∀ σ' H', G σ' H' → w D σ' H') → t { D with nx := w D } σ H) : tSeq t w D σ H := h rest
abbrev nNames : List Str := ["_law_purse_here", "_law_small", "_law_great", "_law_first", "_law_gap", "_law_at", "_law_rest", "_law_back", "_law_stem", "_law_labels", "_law_k"]
theorem sc_names : FnScope nNames ["_law_purse_here"] (defScope (top 95)) := ⟨rfl, rfl, rfl, by decide +kernel, rfl, by decide +kernel, by decide +kernel⟩
theorem later_cat : smallS ++ Str.ofString "0123456789" = laterS := by decide +kernel
section
variable {w : World} {K : PySem.W.Frag} {mg : Str → Option Value} {base : Heap}
theorem Drawn.mk {c p : Addr} {n : Nat} {post : V → Hp → Prop} {H H1 : Hp} {Q : VK} (o : Off p H H1) (k : Drawn c p n post H Q) : Drawn c p n post H1 Q := fun v H' o2 hp h => k v H' (Off.trans o o2) hp h
theorem cal_names (T : Txt K mg) : Cal Pg w K mg base 2 "_law_names" spNames [] := by
  refine cal_of T.d__law_names sc_names (fun _ _ _ _ _ _ us hl => match us, hl with | [_], _ => rfl) (fun vs H Q E h => ?_) (fun f cdv A outer s H vs Q E hr h => ?_)
  · obtain ⟨c, p, n, rfl, _⟩ := h; rfl
  have mt := nofree T (x := "int") (by decide +kernel)
  have mr := nofree T (x := "range") (by decide +kernel)
  refine ⟨_, pss_cons (ps_asg (pe_tup (pa_cons pe_str (pa_cons pe_str pa_nil))) (pg_tup rfl (pgs_cons (pg_name (i := 1) sc_names.nd rfl (Or.inl rfl)) (pgs_cons (pg_name (i := 2) sc_names.nd rfl (Or.inr rfl)) pgs_nil))))
    (pss_cons (ps_asg (pe_tup (pa_cons (pe_c (cal_draw T) hr (pa_cons (pv 0) (pa_cons pe_int pa_nil))) (pa_cons (pe_op op_add pe_int (pe_c (cal_draw T) hr (pa_cons (pv 0) (pa_cons pe_int pa_nil)))) (pa_cons (pe_c (cal_draw T) hr (pa_cons (pv 0) (pa_cons pe_int pa_nil))) (pa_cons (pe_op op_add_str (pv 1) pe_str) pa_nil)))))
        (pg_tup rfl (pgs_cons (pg_name (i := 3) sc_names.nd rfl (Or.inl rfl)) (pgs_cons (pg_name (i := 4) sc_names.nd rfl (Or.inr rfl)) (pgs_cons (pg_name (i := 5) sc_names.nd rfl (Or.inr rfl)) (pgs_cons (pg_name (i := 6) sc_names.nd rfl (Or.inr rfl)) pgs_nil))))))
    (pss_cons (ps_asg (pe_tup (pa_cons (pe_op op_repS (pe_ix ix_str (pv 1) (pe_c (cal_draw T) hr (pa_cons (pv 0) (pa_cons pe_int pa_nil))) (fun _ _ => rfl)) (pe_c (cal_draw T) hr (pa_cons (pv 0) (pa_cons pe_int pa_nil)))) (pa_cons (pe_op op_repS (pe_ix ix_str (pv 6) (pe_c (cal_draw T) hr (pa_cons (pv 0) (pa_cons pe_int pa_nil))) (fun _ _ => rfl)) (pe_c (cal_draw T) hr (pa_cons (pv 0) (pa_cons pe_int pa_nil)))) pa_nil)))
        (pg_tup rfl (pgs_cons (pg_name (i := 7) sc_names.nd rfl (Or.inl rfl)) (pgs_cons (pg_name (i := 8) sc_names.nd rfl (Or.inr rfl)) pgs_nil))))
    (pss_cons (ps_setLc (i := 9) (own := [("_law_k", 10)]) (g := gName 10) (tt := tYes) (by rfl) sc_names.nd rfl rfl (sw_true rfl rfl rfl (by decide +kernel)) (pi_range1 (by rfl) mr (pa_cons pe_int pa_nil)) (blkOk_by (N := nNames) (sc := defScope (top 95)) (by decide +kernel)) (fun _ _ _ _ _ => pg_name (i := 10) sc_names.nd rfl (Or.inl rfl)) (fun _ _ _ _ _ => pts_nil)
        (fun _ _ _ _ _ => pe_op op_add_str (pe_ix ix_str (pv 2) (pe_op op_mod (pe_callTy call_int1 (by rfl) mt boot_int9 (pa_cons (pe_op op_add (pv 5) (pe_op op_mul pe_int (pv 10))) pa_nil)) pe_int) (fun _ _ => rfl)) (pv 8)))
    (pss_cons (ps_if (pt_cmpR op_eq (pe_c (cal_draw T) hr (pa_cons (pv 0) (pa_cons pe_int pa_nil))) pe_int (nomark _))
      (pss_one (ps_setLc (i := 9) (own := [("_law_k", 10)]) (g := gName 10) (tt := tYes) (by rfl) sc_names.nd rfl rfl (sw_true rfl rfl rfl (by decide +kernel)) (pi_range1 (by rfl) mr (pa_cons pe_int pa_nil)) (blkOk_by (N := nNames) (sc := defScope (top 95)) (by decide +kernel)) (fun _ _ _ _ _ => pg_name (i := 10) sc_names.nd rfl (Or.inl rfl)) (fun _ _ _ _ _ => pts_nil)
        (fun _ _ _ _ _ => pe_op op_add_str (pe_op op_add_str (pe_ix ix_str (pv 2) (pv 5) (fun _ _ => rfl)) (pv 8)) (pe_ix ix_str (pv 6) (pe_op op_mod (pe_callTy call_int1 (by rfl) mt boot_int9 (pa_cons (pe_op op_add (pv 4) (pe_op op_mul pe_int (pv 10))) pa_nil)) pe_int) (fun _ _ => rfl))))) pss_nil)
    (pss_one (ps_ret (pe_tup (pa_cons (pe_lst (pa_cons (pe_op op_add_str (pe_ix ix_str (pv 1) (pv 3) (fun _ _ => rfl)) (pv 7)) (pa_cons (pe_op op_add_str (pe_ix ix_str (pv 1) (pe_op op_mod (pe_callTy call_int1 (by rfl) mt boot_int9 (pa_cons (pe_op op_add (pv 3) (pv 4)) pa_nil)) pe_int) (fun _ _ => rfl)) (pv 7)) pa_nil))) (pa_cons (pv 9) pa_nil))))))))), ?_⟩
  obtain ⟨c, p, n, rfl, hP, hn, k⟩ := h
  have L1000 : ∀ {j : Nat}, j ≤ 1000 → j ≤ sizeLine := fun h => Nat.le_trans h thousand_line
  have lS : smallS.length ≤ sizeLine := L1000 (by decide +kernel)
  have lC : capS.length ≤ sizeLine := L1000 (by decide +kernel)
  have lL : laterS.length ≤ sizeLine := L1000 (by decide +kernel)
  refine ⟨L1000 (by decide), fun t1 ht1 => ⟨t1, _, rfl, SqT.of upd_same, rfl, _, _, rfl, _, _, rfl, rfl, ?_⟩⟩
  have oA : Off p H (upd H t1 (.tup [.str smallS, .str capS])) := Same.off (Same.upd ht1)
  have PA := hP.same (Same.upd ht1 (o := .tup [.str smallS, .str capS]))
  show (tSeq _ _) _ _ (upd H t1 (.tup [.str smallS, .str capS]))
  generalize upd H t1 (.tup [.str smallS, .str capS]) = HA at *
  refine ⟨_, rfl, c, p, n, 26, rfl, PA, by omega, by decide, by decide, fun v H1 o1 P1 hv => ?_⟩
  obtain ⟨i1, hi1, rfl⟩ := hv
  refine ⟨_, rfl, c, p, n + 1, 25, rfl, P1, by omega, by decide, by decide, fun v H2 o2 P2 hv => ?_⟩
  obtain ⟨i2, hi2, rfl⟩ := hv
  refine ⟨_, _, rfl, rfl, _, rfl, c, p, n + 2, 26, rfl, P2, by omega, by decide, by decide, fun v H3 o3 P3 hv => ?_⟩
  obtain ⟨i3, hi3, rfl⟩ := hv
  refine ⟨_, rfl, _, _, rfl, rfl, L1000 (by decide +kernel), L1000 (show 4 ≤ 1000 by decide), fun t2 ht2 => ⟨t2, _, rfl, SqT.of upd_same, rfl, _, _, rfl, _, _, rfl, _, _, rfl, _, _, rfl, rfl, ?_⟩⟩
  have o13 : Off p H H3 := Off.trans oA (Off.trans o1 (Off.trans o2 o3))
  have s4 : Same H3 (upd H3 t2 (.tup [.int i1, .int (1 + i2), .int i3, .str (smallS ++ Str.ofString "0123456789")])) := Same.upd ht2
  have oB := Off.trans o13 (Same.off s4)
  have PB := P3.same s4
  show (tSeq _ _) _ _ (upd H3 t2 (.tup [.int i1, .int (1 + i2), .int i3, .str (smallS ++ Str.ofString "0123456789")]))
  rw [later_cat] at *
  generalize upd H3 t2 (.tup [.int i1, .int (1 + i2), .int i3, .str laterS]) = HB at *
  refine ⟨_, rfl, _, rfl, c, p, n + 3, 26, rfl, PB, by omega, by decide, by decide, fun v H5 o5 P5 hv => ?_⟩
  obtain ⟨i4, hi4, rfl⟩ := hv
  refine ⟨_, _, _, rfl, rfl, lS, atI_nat (small_at ⟨i4, by omega⟩), _, rfl, c, p, n + 4, 3, rfl, P5, by omega, by decide, by decide, fun v H6 o6 P6 hv => ?_⟩
  obtain ⟨i5, hi5, rfl⟩ := hv
  refine ⟨_, _, rfl, rfl, (mul_sg _ (by omega)).1, _, rfl, _, rfl, c, p, n + 5, 36, rfl, P6, by omega, by decide, by decide, fun v H7 o7 P7 hv => ?_⟩
  obtain ⟨i6, hi6, rfl⟩ := hv
  refine ⟨_, _, _, rfl, rfl, lL, atI_nat (later_at ⟨i6, by omega⟩), _, rfl, c, p, n + 6, 3, rfl, P7, by omega, by decide, by decide, fun v H8 o8 P8 hv => ?_⟩
  obtain ⟨i7, hi7, rfl⟩ := hv
  refine ⟨_, _, rfl, rfl, (mul_sg _ (by omega)).1, L1000 (show 2 ≤ 1000 by decide), fun t3 ht3 => ⟨t3, _, rfl, SqT.of upd_same, rfl, _, _, rfl, _, _, rfl, rfl, ?_⟩⟩
  have b5 : i5 < 3 := by omega
  have b7 : i7 < 3 := by omega
  have b6 : i6 < 36 := by omega
  have eb : Txt.mul (sg (97 + i4)) (i5 : Int) = Txt.mul (sg (97 + i4)) (i5 : Int) := rfl
  have lst : (stem i6 i7).length ≤ 2 := by rw [sl_len, stem_sl b7]; simp; omega
  have lbk : (Txt.mul (sg (97 + i4)) (i5 : Int)).length ≤ 2 := by rw [sl_len, (mul_sg _ b5).2]; simp; omega
  have s9 : Same H8 (upd H8 t3 (.tup [.str (Txt.mul (sg (97 + i4)) (i5 : Int)), .str (stem i6 i7)])) := Same.upd ht3
  have oC := Off.trans oB (Off.trans o5 (Off.trans o6 (Off.trans o7 (Off.trans o8 (Same.off s9)))))
  have PC := P8.same s9
  show (tSeq _ _) _ _ (upd H8 t3 (.tup [.str (Txt.mul (sg (97 + i4)) (i5 : Int)), .str (stem i6 i7)]))
  generalize upd H8 t3 (.tup [.str (Txt.mul (sg (97 + i4)) (i5 : Int)), .str (stem i6 i7)]) = HC at *
  refine ⟨7, rfl, by decide, by decide, fun D hD => ?_⟩
  refine map_it (k := 7) (walk_range' (lo := 0) (n := 7)) (fun j y _ => y = .str (lab1 i3 i6 i7 j)) (fun _ _ _ _ _ h => h) hD (fun _ _ => trivial) (L1000 (by decide)) (fun i x H' Q' hi hx m q => ?_) (fun ys H9 s10 hl1 hl2 hl3 => ?_)
  · have hx : x = .int (0 + (i : Int)) := hx
    subst hx
    have e : ((i3 : Int) + 5 * (0 + (i : Int))) % 26 = (((i3 + 5 * i) % 26 : Nat) : Int) := by omega
    refine ⟨_, rfl, _, rfl, _, rfl, _, _, rfl, rfl, .inl ⟨by decide, by decide⟩, _, _, rfl, rfl, .inl ⟨_, rfl, _, _, rfl, rfl, (by show (0 : Int) < 26; decide), _, _, _, rfl, rfl, lC, (by rw [e]; exact atI_nat (cap_at ⟨(i3 + 5 * i) % 26, Nat.mod_lt _ (by decide)⟩)), _, rfl, _, _, rfl, rfl, ?_, q _ _ (Same.refl _) rfl⟩⟩
    exact L1000 (by have := lst; have h1 : (sg (65 + (i3 + 5 * i) % 26)).length = 1 := rfl; show (sg (65 + (i3 + 5 * i) % 26)).length + (stem i6 i7).length ≤ 1000; omega)
  have eD : ys = ((List.range 7).map (lab1 i3 i6 i7)).map V.str := by rw [List.map_map]; exact list_ofFn hl2 hl3
  rw [eD] at hl1
  have lk1 := lab1_ok (a := i3) (s := i6) (m := i7) b6 b7
  generalize (List.range 7).map (lab1 i3 i6 i7) = ls1 at *
  have oD := Off.trans oC (Same.off s10)
  have PD := PC.same s10
  dsimp only
  rw [gName.eq_1]
  refine seq_key (fun σ' H' => ∃ o10 b ls, σ' = [some (.ref p), some (.str smallS), some (.str capS), some (.int i1), some (.int (1 + i2)), some (.int i3), some (.str laterS), some (.str (Txt.mul (sg (97 + i4)) (i5 : Int))), some (.str (stem i6 i7)), some (.ref b), o10] ∧ Off p H H' ∧ Purse c p (n + 8) H' ∧ H' b = some (.lst (ls.map V.str)) ∧ LabsOk ls) ?_ (fun key => ?_)
  · rintro σ' H' ⟨o10, b, ls, rfl, oE, PE, hb, lk⟩
    have e1 : (((i1 : Int) + (1 + (i2 : Int))) % 26) = (((i1 + 1 + i2) % 26 : Nat) : Int) := by omega
    refine ⟨_, rfl, _, rfl, _, _, _, rfl, rfl, lS, atI_nat (small_at ⟨i1, by omega⟩), _, rfl, _, _, rfl, rfl, ?_, _, rfl, _, rfl, _, rfl, _, _, rfl, rfl, .inl ⟨_, rfl, _, _, rfl, rfl, (by show (0 : Int) < 26; decide), _, _, _, rfl, rfl, lS, (by rw [e1]; exact atI_nat (small_at ⟨(i1 + 1 + i2) % 26, Nat.mod_lt _ (by decide)⟩)), _, rfl, _, _, rfl, rfl, ?_, L1000 (show 2 ≤ 1000 by decide), fun a ha => ?_⟩⟩
    · exact L1000 (by have h1 : (sg (97 + i1)).length = 1 := rfl; show (sg (97 + i1)).length + (Txt.mul (sg (97 + i4)) (i5 : Int)).length ≤ 1000; omega)
    · exact L1000 (by have h1 : (sg (97 + (i1 + 1 + i2) % 26)).length = 1 := rfl; show (sg (97 + (i1 + 1 + i2) % 26)).length + (Txt.mul (sg (97 + i4)) (i5 : Int)).length ≤ 1000; omega)
    have s11 : Same H' (upd H' a (.lst [.str (smBack i1 i4 i5), .str (smBack ((i1 + 1 + i2) % 26) i4 i5)])) := Same.upd ha
    have ha1 : (upd H' a (.lst [.str (smBack i1 i4 i5), .str (smBack ((i1 + 1 + i2) % 26) i4 i5)])) a = some (.lst [.str (smBack i1 i4 i5), .str (smBack ((i1 + 1 + i2) % 26) i4 i5)]) := upd_same
    refine ⟨_, rfl, L1000 (show 2 ≤ 1000 by decide), fun t ht => ?_⟩
    have s12 := Same.trans s11 (Same.upd ht (o := .tup [.ref a, .ref b]))
    exact k _ _ (Off.trans oE (Same.off s12)) (PE.same s12) ⟨_, _, ls, ⟨t, a, b, rfl, upd_same, Same.upd ht _ _ ha1, s12 _ _ hb⟩, smBack_ok (by omega) (by omega) b5, smBack_ok (Nat.mod_lt _ (by decide)) (by omega) b5, smBack_ne b5 (by omega), lk⟩
  · refine ⟨_, rfl, c, p, n + 7, 2, rfl, PD, by omega, by decide, by decide, fun v H10 o10 P10 hv => ?_⟩
    obtain ⟨i8, hi8, rfl⟩ := hv
    refine ⟨rfl, _, rfl, ?_⟩
    have oE := Off.trans oD o10
    have hp0 := PD.at_
    obtain ⟨pxs, hp0⟩ := hp0
    have nDp : D ≠ p := fun e => by
      subst e
      have := PC.at_
      obtain ⟨z, hz⟩ := this
      rw [hz] at hD
      cases hD
    by_cases h8 : i8 = 1
    · subst h8
      refine iteT ⟨7, rfl, by decide, by decide, fun D2 hD2 => ?_⟩
      refine map_it (k := 7) (walk_range' (lo := 0) (n := 7)) (fun j y _ => y = .str (lab2 i3 (1 + i2) i6 i7 j)) (fun _ _ _ _ _ h => h) hD2 (fun _ _ => trivial) (L1000 (by decide)) (fun i x H' Q' hi hx m q => ?_) (fun ys H11 s12 hl1 hl2 hl3 => ?_)
      · have hx : x = .int (0 + (i : Int)) := hx
        subst hx
        have e : ((1 + (i2 : Int)) + 7 * (0 + (i : Int))) % 36 = (((1 + i2 + 7 * i) % 36 : Nat) : Int) := by omega
        refine ⟨_, rfl, _, rfl, _, _, _, rfl, rfl, lC, atI_nat (cap_at ⟨i3, by omega⟩), _, rfl, _, _, rfl, rfl, ?_, _, rfl, _, rfl, _, rfl, _, _, rfl, rfl, .inl ⟨by decide, by decide⟩, _, _, rfl, rfl, .inl ⟨_, rfl, _, _, rfl, rfl, (by show (0 : Int) < 36; decide), _, _, _, rfl, rfl, lL, (by rw [e]; exact atI_nat (later_at ⟨(1 + i2 + 7 * i) % 36, Nat.mod_lt _ (by decide)⟩)), _, _, rfl, rfl, ?_, q _ _ (Same.refl _) rfl⟩⟩
        · exact L1000 (by have h1 : (sg (65 + i3)).length = 1 := rfl; show (sg (65 + i3)).length + (stem i6 i7).length ≤ 1000; omega)
        · exact L1000 (by
            have h1 : (sg (65 + i3)).length = 1 := rfl
            have h2 : (sg (laterC ((1 + i2 + 7 * i) % 36))).length = 1 := rfl
            show (sg (65 + i3) ++ stem i6 i7).length + (sg (laterC ((1 + i2 + 7 * i) % 36))).length ≤ 1000
            rw [Str.length_append]
            omega)
      · have eD2 : ys = ((List.range 7).map (lab2 i3 (1 + i2) i6 i7)).map V.str := by rw [List.map_map]; exact list_ofFn hl2 hl3
        rw [eD2] at hl1
        exact key _ _ ⟨_, D2, _, rfl, Off.trans oE (Same.off s12), P10.same s12, hl1, lab2_ok (by omega) b6 b7⟩
    · have : decide (V.int (i8 : Int) = V.int 1) = false := decide_eq_false fun e => h8 (by have := V.int.inj e; omega)
      rw [this]
      refine iteF ?_
      exact key _ _ ⟨_, D, ls1, rfl, oE, P10, o10 _ _ nDp hl1, lk1⟩
end
end K9

/-! ## F46 -/
namespace K9
open PySem PySem.Spec PyProof.Rows L2
/-! The law's menu. -/
structure Mn where
  n : Str
  p : Str
  ls : List Str
  first : Int
  second : Int
namespace Mn
def lab (M : Mn) (k : Nat) : Str := M.ls.getD k Str.empty
def row (M : Mn) : Nat → Str
  | 0 => M.n
  | 1 => M.n
  | 2 => M.p
  | 3 => M.p
  | 4 => M.n
  | _ => M.p
def col (M : Mn) : Nat → Str
  | 0 => M.n
  | 1 => M.p
  | 2 => M.n
  | 3 => M.p
  | 4 => M.n
  | _ => M.p
def sym : Nat → Str
  | 3 => "symmetric"
  | 4 => "skew"
  | _ => "plain"
def num (M : Mn) : Nat → Int
  | 0 => M.first
  | 3 => M.second
  | _ => 0
def den : Nat → Int
  | 3 => 2
  | _ => 1
def ltr (M : Mn) (k : Nat) : Ltr := ⟨M.lab k, M.row k, M.col k, sym k, Rat.divInt (M.num k) (den k)⟩
structure Ok (M : Mn) : Prop where
  nm : NamesOk M.n M.p M.ls
  f : M.first = 1 ∨ M.first = 2 ∨ M.first = 3
  s : M.second = 1 ∨ M.second = 2 ∨ M.second = -1
def ent (M : Mn) (k : Nat) : List V := [.str (M.lab k), .str (M.row k), .str (M.col k), .str (sym k), .int (M.num k), .int (den k)]
end Mn
def MenuAt (H : Hp) (m : Addr) (M : Mn) : Prop := ∃ rvs, H m = some (.lst rvs) ∧ rvs.length = 7 ∧ ∀ k, k < 6 → ∃ t, rvs[k]? = some (.ref t) ∧ H t = some (.tup (M.ent k))
theorem MenuAt.keep {H H' : Hp} {m : Addr} {M : Mn} (h : MenuAt H m M) (i : Imm H H') (k : ∀ o, H m = some o → H' m = some o) : MenuAt H' m M := by
  obtain ⟨rvs, h1, h2, h3⟩ := h
  exact ⟨rvs, k _ h1, h2, fun j hj => let ⟨t, a, b⟩ := h3 j hj; ⟨t, a, i _ _ rfl b⟩⟩
def spMenu : Sp := fun vs H Q _ => ∃ (c p : Addr) (n : Nat), vs = [.ref p] ∧ Purse c p n H ∧ n < 80000 ∧ Drawn c p (n + 10) (fun v H' => ∃ m M, v = .ref m ∧ m ≠ p ∧ H m = none ∧ MenuAt H' m M ∧ M.Ok) H Q
abbrev nMenu : List Str := ["_law_purse_here", "_law_n", "_law_p", "_law_labels", "_law_first", "_law_second"]
theorem sc_menu : FnScope nMenu ["_law_purse_here"] (defScope (top 96)) := ⟨rfl, rfl, rfl, by decide +kernel, rfl, by decide +kernel, by decide +kernel⟩
section
variable {w : World} {K : PySem.W.Frag} {mg : Str → Option Value} {base : Heap}
/-- the heap by another name -/
theorem of_heap {P : Hp → Prop} {G G' : Hp} (e : G = G') (h : P G) : P G' := e ▸ h
theorem cal_menu (T : Txt K mg) : Cal Pg w K mg base 3 "_law_menu" spMenu [] := by
  refine cal_of T.d__law_menu sc_menu (fun _ _ _ _ _ _ us hl => match us, hl with | [_], _ => rfl) (fun vs H Q E h => ?_) (fun f cdv A outer s H vs Q E hr h => ?_)
  · obtain ⟨c, p, n, rfl, _⟩ := h; rfl
  refine ⟨_, pss_cons (ps_asg (pe_c (cal_names T) hr (pa_cons (pv 0) pa_nil)) (pg_tup rfl (pgs_cons (pg_lst rfl (pgs_cons (pg_name (i := 1) sc_menu.nd rfl (Or.inl rfl)) (pgs_cons (pg_name (i := 2) sc_menu.nd rfl (Or.inl rfl)) pgs_nil))) (pgs_cons (pg_name (i := 3) sc_menu.nd rfl (Or.inl rfl)) pgs_nil))))
    (pss_cons (ps_par (i := 4) (j := 5) (by rfl) sc_menu.nd rfl rfl (by decide) rfl rfl (pa_cons (pe_op op_add pe_int (pe_c (cal_draw T) hr (pa_cons (pv 0) (pa_cons pe_int pa_nil)))) (pa_cons (pe_ix (ixL9 K) (pe_lst (pa_cons pe_int (pa_cons pe_int (pa_cons (pe_un un_neg pe_int) pa_nil)))) (pe_c (cal_draw T) hr (pa_cons (pv 0) (pa_cons pe_int pa_nil))) (fun _ _ => rfl)) pa_nil)) (by rfl))
    (pss_one (ps_ret (pe_lst (pa_cons (pe_tup (pa_cons (pe_ix (ixL9 K) (pv 3) pe_int (fun _ _ => rfl)) (pa_cons (pv 1) (pa_cons (pv 1) (pa_cons pe_str (pa_cons (pv 4) (pa_cons pe_int pa_nil)))))))
      (pa_cons (pe_tup (pa_cons (pe_ix (ixL9 K) (pv 3) pe_int (fun _ _ => rfl)) (pa_cons (pv 1) (pa_cons (pv 2) (pa_cons pe_str (pa_cons pe_int (pa_cons pe_int pa_nil)))))))
      (pa_cons (pe_tup (pa_cons (pe_ix (ixL9 K) (pv 3) pe_int (fun _ _ => rfl)) (pa_cons (pv 2) (pa_cons (pv 1) (pa_cons pe_str (pa_cons pe_int (pa_cons pe_int pa_nil)))))))
      (pa_cons (pe_tup (pa_cons (pe_ix (ixL9 K) (pv 3) pe_int (fun _ _ => rfl)) (pa_cons (pv 2) (pa_cons (pv 2) (pa_cons pe_str (pa_cons (pv 5) (pa_cons pe_int pa_nil)))))))
      (pa_cons (pe_tup (pa_cons (pe_ix (ixL9 K) (pv 3) pe_int (fun _ _ => rfl)) (pa_cons (pv 1) (pa_cons (pv 1) (pa_cons pe_str (pa_cons pe_int (pa_cons pe_int pa_nil)))))))
      (pa_cons (pe_tup (pa_cons (pe_ix (ixL9 K) (pv 3) pe_int (fun _ _ => rfl)) (pa_cons (pv 2) (pa_cons (pv 2) (pa_cons pe_str (pa_cons pe_int (pa_cons pe_int pa_nil)))))))
      (pa_cons (pe_tup (pa_cons (pe_ix (ixL9 K) (pv 3) pe_int (fun _ _ => rfl)) (pa_cons pe_str (pa_cons pe_str (pa_cons pe_str (pa_cons pe_int (pa_cons pe_int pa_nil))))))) pa_nil)))))))))))
    , ?_⟩
  obtain ⟨c, p, n, rfl, hP, hn, k⟩ := h
  have L1000 : ∀ {j : Nat}, j ≤ 1000 → j ≤ sizeLine := fun h => Nat.le_trans h thousand_line
  refine ⟨_, rfl, c, p, n, rfl, hP, by omega, fun v H1 o1 P1 hv => ?_⟩
  obtain ⟨nn, pp, ls, ⟨t, a, b, rfl, ht, ha, hb⟩, nk⟩ := hv
  refine ⟨t, _, rfl, SqT.of ht, rfl, _, _, rfl, a, _, rfl, SqL.of ha, rfl, _, _, rfl, _, _, rfl, rfl, _, _, rfl, rfl, ?_⟩
  refine ⟨_, rfl, c, p, n + 8, 3, rfl, P1, by omega, by decide, by decide, fun v H2 o2 P2 hv => ?_⟩
  obtain ⟨i1, hi1, rfl⟩ := hv
  refine ⟨_, _, rfl, rfl, _, rfl, L1000 (show 3 ≤ 1000 by decide), fun d hd => ?_⟩
  have sd : Same H2 (upd H2 d (.lst [.int 1, .int 2, .int (-1)])) := Same.upd hd
  have hdd : (upd H2 d (.lst [.int 1, .int 2, .int (-1)])) d = some (.lst [.int 1, .int 2, .int (-1)]) := upd_same
  have Pd := P2.same sd
  refine ⟨_, rfl, c, p, n + 9, 3, rfl, Pd, by omega, by decide, by decide, fun v H3 o3 P3 hv => ?_⟩
  obtain ⟨i2, hi2, rfl⟩ := hv
  obtain ⟨z, hz, hzz⟩ : ∃ z : Int, ([.int 1, .int 2, .int (-1)] : List V)[i2]? = some (.int z) ∧ (z = 1 ∨ z = 2 ∨ z = -1) := by
    have : i2 = 0 ∨ i2 = 1 ∨ i2 = 2 := by omega
    rcases this with rfl | rfl | rfl
    · exact ⟨1, rfl, .inl rfl⟩
    · exact ⟨2, rfl, .inr (.inl rfl)⟩
    · exact ⟨-1, rfl, .inr (.inr rfl)⟩
  have ndp : d ≠ p := fun e => by
    subst e
    obtain ⟨y, hy⟩ := P2.at_
    rw [hy] at hd
    cases hd
  refine ⟨d, _, _, _, rfl, rfl, SqL.of (o3 _ _ ndp hdd), atI_nat hz, _, _, rfl, ?_⟩
  have nbp : b ≠ p := fun e => by
    subst e
    obtain ⟨cells, t', r, h1, _⟩ := P1.ex
    rw [hb] at h1
    have := congrArg List.length (HO.lst.inj (Option.some.inj h1))
    rw [List.length_map, nk.ls.len] at this
    cases this
  have OF : Off p H H3 := Off.trans o1 (Off.trans o2 (Off.trans (Same.off sd) o3))
  have hb3 : H3 b = some (.lst (ls.map V.str)) := o3 _ _ nbp (sd _ _ (o2 _ _ nbp hb))
  have ok : ((Mn.mk nn pp ls (1 + (i1 : Int)) z)).Ok := ⟨nk, by show (1 + (i1 : Int)) = 1 ∨ (1 + (i1 : Int)) = 2 ∨ (1 + (i1 : Int)) = 3; omega, hzz⟩
  have hlab : ∀ k : Nat, k < 7 → atI (ls.map V.str) (k : Int) = some (.str (((Mn.mk nn pp ls (1 + (i1 : Int)) z)).lab k)) := fun k hk => by
    refine atI_nat ?_
    have hl : k < ls.length := by rw [nk.ls.len]; exact hk
    rw [List.getElem?_map, List.getElem?_eq_getElem hl]
    show some (V.str ls[k]) = some (V.str (ls.getD k Str.empty))
    rw [List.getD_eq_getElem?_getD, List.getElem?_eq_getElem hl]
    rfl
  have S0 : Same H3 H3 := Same.refl _
  refine ⟨_, rfl, b, _, 0, .str (((Mn.mk nn pp ls (1 + (i1 : Int)) z)).lab 0), rfl, rfl, SqL.of (S0 _ _ hb3), hlab 0 (by decide), _, rfl, _, rfl, _, rfl, L1000 (show 6 ≤ 1000 by decide), fun t0 ht0 => ?_⟩
  have T0 : Same (H3) (upd (H3) t0 (.tup (((Mn.mk nn pp ls (1 + (i1 : Int)) z)).ent 0))) := Same.upd ht0
  have S1 := Same.trans S0 T0
  have E0 : (upd (H3) t0 (.tup (((Mn.mk nn pp ls (1 + (i1 : Int)) z)).ent 0))) t0 = some (.tup (((Mn.mk nn pp ls (1 + (i1 : Int)) z)).ent 0)) := upd_same
  obtain ⟨G0, eG0⟩ : ∃ G, G = upd (H3) t0 (.tup (((Mn.mk nn pp ls (1 + (i1 : Int)) z)).ent 0)) := ⟨_, rfl⟩
  rw [← eG0] at T0 S1 E0
  refine of_heap eG0 ?_
  refine ⟨_, rfl, b, _, 1, .str (((Mn.mk nn pp ls (1 + (i1 : Int)) z)).lab 1), rfl, rfl, SqL.of (S1 _ _ hb3), hlab 1 (by decide), _, rfl, _, rfl, L1000 (show 6 ≤ 1000 by decide), fun t1 ht1 => ?_⟩
  have T1 : Same (G0) (upd (G0) t1 (.tup (((Mn.mk nn pp ls (1 + (i1 : Int)) z)).ent 1))) := Same.upd ht1
  have S2 := Same.trans S1 T1
  have E1 : (upd (G0) t1 (.tup (((Mn.mk nn pp ls (1 + (i1 : Int)) z)).ent 1))) t1 = some (.tup (((Mn.mk nn pp ls (1 + (i1 : Int)) z)).ent 1)) := upd_same
  obtain ⟨G1, eG1⟩ : ∃ G, G = upd (G0) t1 (.tup (((Mn.mk nn pp ls (1 + (i1 : Int)) z)).ent 1)) := ⟨_, rfl⟩
  rw [← eG1] at T1 S2 E1
  refine of_heap eG1 ?_
  refine ⟨_, rfl, b, _, 2, .str (((Mn.mk nn pp ls (1 + (i1 : Int)) z)).lab 2), rfl, rfl, SqL.of (S2 _ _ hb3), hlab 2 (by decide), _, rfl, _, rfl, L1000 (show 6 ≤ 1000 by decide), fun t2 ht2 => ?_⟩
  have T2 : Same (G1) (upd (G1) t2 (.tup (((Mn.mk nn pp ls (1 + (i1 : Int)) z)).ent 2))) := Same.upd ht2
  have S3 := Same.trans S2 T2
  have E2 : (upd (G1) t2 (.tup (((Mn.mk nn pp ls (1 + (i1 : Int)) z)).ent 2))) t2 = some (.tup (((Mn.mk nn pp ls (1 + (i1 : Int)) z)).ent 2)) := upd_same
  obtain ⟨G2, eG2⟩ : ∃ G, G = upd (G1) t2 (.tup (((Mn.mk nn pp ls (1 + (i1 : Int)) z)).ent 2)) := ⟨_, rfl⟩
  rw [← eG2] at T2 S3 E2
  refine of_heap eG2 ?_
  refine ⟨_, rfl, b, _, 3, .str (((Mn.mk nn pp ls (1 + (i1 : Int)) z)).lab 3), rfl, rfl, SqL.of (S3 _ _ hb3), hlab 3 (by decide), _, rfl, _, rfl, _, rfl, L1000 (show 6 ≤ 1000 by decide), fun t3 ht3 => ?_⟩
  have T3 : Same (G2) (upd (G2) t3 (.tup (((Mn.mk nn pp ls (1 + (i1 : Int)) z)).ent 3))) := Same.upd ht3
  have S4 := Same.trans S3 T3
  have E3 : (upd (G2) t3 (.tup (((Mn.mk nn pp ls (1 + (i1 : Int)) z)).ent 3))) t3 = some (.tup (((Mn.mk nn pp ls (1 + (i1 : Int)) z)).ent 3)) := upd_same
  obtain ⟨G3, eG3⟩ : ∃ G, G = upd (G2) t3 (.tup (((Mn.mk nn pp ls (1 + (i1 : Int)) z)).ent 3)) := ⟨_, rfl⟩
  rw [← eG3] at T3 S4 E3
  refine of_heap eG3 ?_
  refine ⟨_, rfl, b, _, 4, .str (((Mn.mk nn pp ls (1 + (i1 : Int)) z)).lab 4), rfl, rfl, SqL.of (S4 _ _ hb3), hlab 4 (by decide), _, rfl, _, rfl, L1000 (show 6 ≤ 1000 by decide), fun t4 ht4 => ?_⟩
  have T4 : Same (G3) (upd (G3) t4 (.tup (((Mn.mk nn pp ls (1 + (i1 : Int)) z)).ent 4))) := Same.upd ht4
  have S5 := Same.trans S4 T4
  have E4 : (upd (G3) t4 (.tup (((Mn.mk nn pp ls (1 + (i1 : Int)) z)).ent 4))) t4 = some (.tup (((Mn.mk nn pp ls (1 + (i1 : Int)) z)).ent 4)) := upd_same
  obtain ⟨G4, eG4⟩ : ∃ G, G = upd (G3) t4 (.tup (((Mn.mk nn pp ls (1 + (i1 : Int)) z)).ent 4)) := ⟨_, rfl⟩
  rw [← eG4] at T4 S5 E4
  refine of_heap eG4 ?_
  refine ⟨_, rfl, b, _, 5, .str (((Mn.mk nn pp ls (1 + (i1 : Int)) z)).lab 5), rfl, rfl, SqL.of (S5 _ _ hb3), hlab 5 (by decide), _, rfl, _, rfl, L1000 (show 6 ≤ 1000 by decide), fun t5 ht5 => ?_⟩
  have T5 : Same (G4) (upd (G4) t5 (.tup (((Mn.mk nn pp ls (1 + (i1 : Int)) z)).ent 5))) := Same.upd ht5
  have S6 := Same.trans S5 T5
  have E5 : (upd (G4) t5 (.tup (((Mn.mk nn pp ls (1 + (i1 : Int)) z)).ent 5))) t5 = some (.tup (((Mn.mk nn pp ls (1 + (i1 : Int)) z)).ent 5)) := upd_same
  obtain ⟨G5, eG5⟩ : ∃ G, G = upd (G4) t5 (.tup (((Mn.mk nn pp ls (1 + (i1 : Int)) z)).ent 5)) := ⟨_, rfl⟩
  rw [← eG5] at T5 S6 E5
  refine of_heap eG5 ?_
  refine ⟨_, rfl, b, _, 6, .str (((Mn.mk nn pp ls (1 + (i1 : Int)) z)).lab 6), rfl, rfl, SqL.of (S6 _ _ hb3), hlab 6 (by decide), L1000 (show 6 ≤ 1000 by decide), fun t6 ht6 => ?_⟩
  have T6 : Same (G5) (upd (G5) t6 (.tup [.str (((Mn.mk nn pp ls (1 + (i1 : Int)) z)).lab 6), .str "", .str "", .str "", .int 0, .int 1])) := Same.upd ht6
  have S7 := Same.trans S6 T6
  have E6 : (upd (G5) t6 (.tup [.str (((Mn.mk nn pp ls (1 + (i1 : Int)) z)).lab 6), .str "", .str "", .str "", .int 0, .int 1])) t6 = some (.tup [.str (((Mn.mk nn pp ls (1 + (i1 : Int)) z)).lab 6), .str "", .str "", .str "", .int 0, .int 1]) := upd_same
  obtain ⟨G6, eG6⟩ : ∃ G, G = upd (G5) t6 (.tup [.str (((Mn.mk nn pp ls (1 + (i1 : Int)) z)).lab 6), .str "", .str "", .str "", .int 0, .int 1]) := ⟨_, rfl⟩
  rw [← eG6] at T6 S7 E6
  refine of_heap eG6 ?_
  refine ⟨L1000 (show 7 ≤ 1000 by decide), fun m hm => ?_⟩
  have SM := Same.trans S7 (Same.upd hm (o := .lst [.ref t0, .ref t1, .ref t2, .ref t3, .ref t4, .ref t5, .ref t6]))
  have TM : Same G6 (upd G6 m (.lst [.ref t0, .ref t1, .ref t2, .ref t3, .ref t4, .ref t5, .ref t6])) := Same.upd hm
  have OM : Off p H G6 := Off.trans OF (Same.off S7)
  have nmp : m ≠ p := fun e => by
    subst e
    obtain ⟨y, hy⟩ := (P3.same S7).at_
    rw [hy] at hm
    cases hm
  refine k _ _ (Off.trans OF (Same.off SM)) (P3.same SM) ⟨m, (Mn.mk nn pp ls (1 + (i1 : Int)) z), rfl, nmp, ?_, ⟨_, upd_same, rfl, fun j hj => ?_⟩, ok⟩
  · cases e : H m with
    | none => rfl
    | some u => rw [OM m u nmp e] at hm; cases hm
  · have : j = 0 ∨ j = 1 ∨ j = 2 ∨ j = 3 ∨ j = 4 ∨ j = 5 := by omega
    rcases this with rfl | rfl | rfl | rfl | rfl | rfl
    · exact ⟨t0, rfl, TM _ _ (T6 _ _ (T5 _ _ (T4 _ _ (T3 _ _ (T2 _ _ (T1 _ _ E0))))))⟩
    · exact ⟨t1, rfl, TM _ _ (T6 _ _ (T5 _ _ (T4 _ _ (T3 _ _ (T2 _ _ E1)))))⟩
    · exact ⟨t2, rfl, TM _ _ (T6 _ _ (T5 _ _ (T4 _ _ (T3 _ _ E2))))⟩
    · exact ⟨t3, rfl, TM _ _ (T6 _ _ (T5 _ _ (T4 _ _ E3)))⟩
    · exact ⟨t4, rfl, TM _ _ (T6 _ _ (T5 _ _ E4))⟩
    · exact ⟨t5, rfl, TM _ _ (T6 _ _ E5)⟩
end
end K9

/-! ## F47 -/
namespace K9
open PySem PySem.Spec PyProof.Rows L2
/-! Drawn formulas as data; the law's leaf. -/
inductive Tr where
  | eye (s : Str)
  | zero (r c : Str)
  | letter (k : Nat)
  | turned (x : Tr)
  | sum (x y : Tr)
  | less (x y : Tr)
  | times (x y : Tr)
  | scaled (p q : Int) (x : Tr)
  | inverse (x : Tr)
namespace Tr
def fm (L : Nat → Ltr) : Tr → Fm
  | eye s => .eye [s]
  | zero r c => .zero [r] [c]
  | letter k => .letter (L k)
  | turned x => .tra (fm L x)
  | sum x y => .sum (fm L x) (fm L y)
  | less x y => .dif (fm L x) (fm L y)
  | times x y => .pro (fm L x) (fm L y)
  | scaled p q x => .sca (Rat.divInt p q) (fm L x)
  | inverse x => .inv (fm L x)
def dep : Tr → Nat
  | eye _ => 1
  | zero _ _ => 1
  | letter _ => 1
  | turned x => 1 + dep x
  | sum x y => 1 + max (dep x) (dep y)
  | less x y => 1 + max (dep x) (dep y)
  | times x y => 1 + max (dep x) (dep y)
  | scaled _ _ x => 1 + dep x
  | inverse x => 1 + dep x
theorem dep_lv (L : Nat → Ltr) : ∀ x : Tr, (x.fm L).lv = x.dep
  | eye s => rfl
  | zero r c => rfl
  | letter k => rfl
  | turned x => congrArg (1 + ·) (dep_lv L x)
  | sum x y => by show 1 + max _ _ = 1 + max _ _; rw [dep_lv L x, dep_lv L y]
  | less x y => by show 1 + max _ _ = 1 + max _ _; rw [dep_lv L x, dep_lv L y]
  | times x y => by show 1 + max _ _ = 1 + max _ _; rw [dep_lv L x, dep_lv L y]
  | scaled p q x => congrArg (1 + ·) (dep_lv L x)
  | inverse x => congrArg (1 + ·) (dep_lv L x)
/-- it uses the first six letters, and no divisor 0 -/
def fit : Tr → Prop
  | eye _ => True
  | zero _ _ => True
  | letter k => k < 6
  | turned x => fit x
  | sum x y => fit x ∧ fit y
  | less x y => fit x ∧ fit y
  | times x y => fit x ∧ fit y
  | scaled p q x => fit x ∧ q ≠ 0 ∧ q.natAbs < 256
  | inverse x => fit x
end Tr
def IsTr (H : Hp) (v : V) : Tr → Prop
  | .eye s => ∃ t, v = .ref t ∧ H t = some (.tup [.str "eye", .str s])
  | .zero r c => ∃ t, v = .ref t ∧ H t = some (.tup [.str "zero", .str r, .str c])
  | .letter k => ∃ t, v = .ref t ∧ H t = some (.tup [.str "letter", .int k])
  | .turned x => ∃ t u, v = .ref t ∧ H t = some (.tup [.str "turned", u]) ∧ IsTr H u x
  | .sum x y => ∃ t u z, v = .ref t ∧ H t = some (.tup [.str "sum", u, z]) ∧ IsTr H u x ∧ IsTr H z y
  | .less x y => ∃ t u z, v = .ref t ∧ H t = some (.tup [.str "less", u, z]) ∧ IsTr H u x ∧ IsTr H z y
  | .times x y => ∃ t u z, v = .ref t ∧ H t = some (.tup [.str "times", u, z]) ∧ IsTr H u x ∧ IsTr H z y
  | .scaled p q x => ∃ t u, v = .ref t ∧ H t = some (.tup [.str "scaled", .int p, .int q, u]) ∧ IsTr H u x
  | .inverse x => ∃ t u, v = .ref t ∧ H t = some (.tup [.str "inverse", u]) ∧ IsTr H u x
theorem IsTr.imm {H H' : Hp} (i : Imm H H') : ∀ {x : Tr} {v : V}, IsTr H v x → IsTr H' v x
  | .eye s, v, ⟨t, e, h⟩ => ⟨t, e, i _ _ rfl h⟩
  | .zero r c, v, ⟨t, e, h⟩ => ⟨t, e, i _ _ rfl h⟩
  | .letter k, v, ⟨t, e, h⟩ => ⟨t, e, i _ _ rfl h⟩
  | .turned x, v, ⟨t, u, e, h, a⟩ => ⟨t, u, e, i _ _ rfl h, IsTr.imm i a⟩
  | .sum x y, v, ⟨t, u, z, e, h, a, b⟩ => ⟨t, u, z, e, i _ _ rfl h, IsTr.imm i a, IsTr.imm i b⟩
  | .less x y, v, ⟨t, u, z, e, h, a, b⟩ => ⟨t, u, z, e, i _ _ rfl h, IsTr.imm i a, IsTr.imm i b⟩
  | .times x y, v, ⟨t, u, z, e, h, a, b⟩ => ⟨t, u, z, e, i _ _ rfl h, IsTr.imm i a, IsTr.imm i b⟩
  | .scaled p q x, v, ⟨t, u, e, h, a⟩ => ⟨t, u, e, i _ _ rfl h, IsTr.imm i a⟩
  | .inverse x, v, ⟨t, u, e, h, a⟩ => ⟨t, u, e, i _ _ rfl h, IsTr.imm i a⟩
/-- a tree and its pair -/
def IsSpec (H : Hp) (v : V) (x : Tr) (a b : Int) : Prop := ∃ t u pr, v = .ref t ∧ H t = some (.tup [u, .ref pr]) ∧ IsTr H u x ∧ H pr = some (.tup [.int a, .int b])
theorem IsSpec.imm {H H' : Hp} (i : Imm H H') {v : V} {x : Tr} {a b : Int} (h : IsSpec H v x a b) : IsSpec H' v x a b := by
  obtain ⟨t, u, pr, e, h1, h2, h3⟩ := h
  exact ⟨t, u, pr, e, i _ _ rfl h1, h2.imm i, i _ _ rfl h3⟩
/-! ### systems of letters -/
def sysOf (ls : List Str) (L : Nat → Ltr) : Sys := ⟨ls.take 60, by rw [List.length_take]; omega, fun x => L (ls.idxOf x)⟩
theorem idxOf_at {ls : List Str} (h : ls.Nodup) {k : Nat} {x : Str} (e : ls[k]? = some x) : ls.idxOf x = k := by
  have hk := (List.getElem?_eq_some_iff.mp e).1
  have := List.Nodup.idxOf_getElem h k hk
  rw [← (List.getElem?_eq_some_iff.mp e).2]
  exact this
namespace Mn
theorem ab0 (M : Mn) {k : Nat} (h : M.num k = 0) (h2 : Mn.den k = 1) : (M.ltr k).about = 0 := by
  show Rat.divInt (M.num k) (Mn.den k) = 0
  rw [h, h2]
  decide +kernel
theorem Ok.lab {M : Mn} (h : M.Ok) {k : Nat} (hk : k < 7) : M.ls[k]? = some (M.lab k) := by
  have hl : k < M.ls.length := by rw [h.nm.ls.len]; exact hk
  rw [List.getElem?_eq_getElem hl]
  unfold Mn.lab
  rw [List.getD_eq_getElem?_getD, List.getElem?_eq_getElem hl]
  rfl
theorem Ok.ltr {M : Mn} (h : M.Ok) {k : Nat} (hk : k < 6) : (M.ltr k).Ok := by
  have hm : M.lab k ∈ M.ls := List.mem_of_getElem? (h.lab (by omega))
  have hn := h.nm.sn
  have hp := h.nm.sp
  have z0 : Rat.divInt 0 1 = 0 := by decide +kernel
  have b0 : BdR 8 (Rat.divInt 0 1) := BdR.divInt (by decide) (by decide) (by decide)
  have : k = 0 ∨ k = 1 ∨ k = 2 ∨ k = 3 ∨ k = 4 ∨ k = 5 := by omega
  rcases this with rfl | rfl | rfl | rfl | rfl | rfl
  · exact ⟨h.nm.ls.is _ hm, hn, hn, .inl rfl, fun e => absurd rfl e, fun e => by rcases e with e | e; exact absurd rfl e; exact absurd e (show ¬ (Str.ofString "plain" = Str.ofString "skew") by decide +kernel), BdR.divInt (by decide) (by rcases h.f with e | e | e <;> rw [show M.num 0 = M.first from rfl, e] <;> decide) (by decide)⟩
  · exact ⟨h.nm.ls.is _ hm, hn, hp, .inl rfl, fun e => absurd rfl e, fun _ => ab0 M rfl rfl, b0⟩
  · exact ⟨h.nm.ls.is _ hm, hp, hn, .inl rfl, fun e => absurd rfl e, fun _ => ab0 M rfl rfl, b0⟩
  · exact ⟨h.nm.ls.is _ hm, hp, hp, .inr (.inl rfl), fun _ => rfl, fun e => by rcases e with e | e; exact absurd rfl e; exact absurd e (show ¬ (Str.ofString "symmetric" = Str.ofString "skew") by decide +kernel), BdR.divInt (by decide) (by rcases h.s with e | e | e <;> rw [show M.num 3 = M.second from rfl, e] <;> decide) (by decide)⟩
  · exact ⟨h.nm.ls.is _ hm, hn, hn, .inr (.inr rfl), fun _ => rfl, fun _ => ab0 M rfl rfl, b0⟩
  · exact ⟨h.nm.ls.is _ hm, hp, hp, .inl rfl, fun e => absurd rfl e, fun _ => ab0 M rfl rfl, b0⟩
/-- a system over the menu's names -/
theorem Ok.at_ {M : Mn} (h : M.Ok) {L : Nat → Ltr} {k : Nat} (hk : k < 6) (e : (L k).name = M.lab k) : (L k).name ∈ (sysOf M.ls L).N ∧ (sysOf M.ls L).at_ (L k).name = L k := by
  have hl := h.lab (k := k) (by omega)
  refine ⟨?_, ?_⟩
  · rw [e]
    show M.lab k ∈ M.ls.take 60
    rw [List.take_of_length_le (by rw [h.nm.ls.len]; decide)]
    exact List.mem_of_getElem? hl
  · show L (M.ls.idxOf (L k).name) = L k
    rw [e, idxOf_at h.nm.ls.nd hl]
abbrev sys (M : Mn) : Sys := sysOf M.ls M.ltr
end Mn
/-- a leaf: its pair tells its middle -/
structure Lf (M : Mn) (r c : Str) (x : Tr) (a b : Int) : Prop where
  fit : x.fit
  bn : Fm.Bn M.sys [r] [c] 1 2 8 25 (x.fm M.ltr)
  mid : (x.fm M.ltr).mid = [[Rat.divInt a b]]
  of : r ≠ c → a = 0
  ba : a.natAbs ≤ 3
  bb : b = 1 ∨ b = 2
namespace Fm
theorem Bn.letter {S : Sys} {l : Ltr} (h : l.Ok) (h1 : l.name ∈ S.N) (h2 : S.at_ l.name = l) : Bn S [l.rows] [l.cols] 1 1 8 6 (letter l) := ⟨⟨h, h1, h2⟩, rfl, Nat.le_refl _, Nat.le_refl _, Nat.le_refl _, Nat.le_refl _⟩
theorem Bn.mono {S : Sys} {r c : List Str} {w l b s w' l' b' s' : Nat} {f : Fm} (h : Bn S r c w l b s f) (h1 : w ≤ w' := by decide) (h2 : l ≤ l' := by decide) (h3 : b ≤ b' := by decide) (h4 : s ≤ s' := by decide) : Bn S r c w' l' b' s' f :=
  ⟨h.ok, h.sd, Nat.le_trans h.wt h1, Nat.le_trans h.lv h2, Nat.le_trans h.bt h3, Nat.le_trans h.sl h4⟩
end Fm
theorem lf_letter {M : Mn} (h : M.Ok) {k : Nat} (hk : k < 6) : Lf M (M.row k) (M.col k) (.letter k) (M.num k) (Mn.den k) := by
  obtain ⟨h1, h2⟩ := h.at_ (L := M.ltr) hk rfl
  have ne := h.nm.ne
  refine ⟨hk, (Fm.Bn.letter (h.ltr hk) h1 h2).mono, rfl, ?_, ?_, ?_⟩
  rotate_left
  · have : k = 0 ∨ k = 1 ∨ k = 2 ∨ k = 3 ∨ k = 4 ∨ k = 5 := by omega
    rcases this with rfl | rfl | rfl | rfl | rfl | rfl
    · rcases h.f with e | e | e <;> rw [show M.num 0 = M.first from rfl, e] <;> decide
    · exact Nat.zero_le _
    · exact Nat.zero_le _
    · rcases h.s with e | e | e <;> rw [show M.num 3 = M.second from rfl, e] <;> decide
    · exact Nat.zero_le _
    · exact Nat.zero_le _
  · unfold Mn.den
    split
    · exact .inr rfl
    · exact .inl rfl
  · intro e
    have : k = 0 ∨ k = 1 ∨ k = 2 ∨ k = 3 ∨ k = 4 ∨ k = 5 := by omega
    rcases this with rfl | rfl | rfl | rfl | rfl | rfl
    · exact absurd rfl e
    · rfl
    · rfl
    · exact absurd rfl e
    · rfl
    · rfl
theorem lf_eye {M : Mn} {r : Str} (h : SizeN r) : Lf M r r (.eye r) 1 1 :=
  ⟨trivial, (Fm.Bn.eye (r := [r]) ⟨show 0 < 1 by decide, show 1 ≤ 16 by decide, fun z hz => by rw [List.mem_singleton.mp hz]; exact h⟩ (show 1 ≤ 2 by decide)).mono, by show eyeM 1 = _; decide +kernel, fun e => absurd rfl e, by decide, .inl rfl⟩
theorem lf_zero {M : Mn} {r c : Str} (h : SizeN r) (g : SizeN c) : Lf M r c (.zero r c) 0 1 :=
  ⟨trivial, (Fm.Bn.zero h g).mono, by show zeroM 1 1 = _; decide +kernel, fun _ => rfl, by decide, .inl rfl⟩
theorem tr_one (q : Rat) : tr 0 1 [[q]] = [[q]] := rfl
theorem lf_turned {M : Mn} {r c : Str} {x : Tr} {a b : Int} (h : Lf M r c x a b) (hl : x.dep = 1) : Lf M c r (.turned x) a b := by
  have e := h.bn
  have hlv : (x.fm M.ltr).lv ≤ 1 := by rw [Tr.dep_lv, hl]; exact Nat.le_refl _
  have hs : (x.fm M.ltr).slen ≤ 24 := by
    cases x with
    | eye s => show 5 + 8 * 1 ≤ 24; decide
    | zero r c => show 8 + 8 * 1 + 8 * 1 ≤ 24; decide
    | letter k => show 6 ≤ 24; decide
    | turned x => have := Tr.dep_lv M.ltr x; have := (x.fm M.ltr).lv_pos; simp only [Tr.dep] at hl; omega
    | sum x y => have := Tr.dep_lv M.ltr x; have := (x.fm M.ltr).lv_pos; simp only [Tr.dep] at hl; omega
    | less x y => have := Tr.dep_lv M.ltr x; have := (x.fm M.ltr).lv_pos; simp only [Tr.dep] at hl; omega
    | times x y => have := Tr.dep_lv M.ltr x; have := (x.fm M.ltr).lv_pos; simp only [Tr.dep] at hl; omega
    | scaled p q x => have := Tr.dep_lv M.ltr x; have := (x.fm M.ltr).lv_pos; simp only [Tr.dep] at hl; omega
    | inverse x => have := Tr.dep_lv M.ltr x; have := (x.fm M.ltr).lv_pos; simp only [Tr.dep] at hl; omega
  have e1 : Fm.Bn M.sys [r] [c] 1 1 8 24 (x.fm M.ltr) := ⟨e.ok, e.sd, e.wt, hlv, e.bt, hs⟩
  refine ⟨h.fit, e1.tra, ?_, fun n => h.of (fun z => n z.symm), h.ba, h.bb⟩
  show tr 0 (x.fm M.ltr).cols.length (x.fm M.ltr).mid = _
  rw [e.c, h.mid]
  rfl
end K9

/-! ## F48 -/
namespace K9
open PySem PySem.Spec PyProof.Rows L2
/-! The law's leaf. -/
def IsN (M : Mn) (z : Str) : Prop := z = M.n ∨ z = M.p
theorem IsN.size {M : Mn} (h : M.Ok) {z : Str} (a : IsN M z) : SizeN z := by
  rcases a with rfl | rfl
  · exact h.nm.sn
  · exact h.nm.sp
theorem Mn.isr (M : Mn) (k : Nat) : IsN M (M.row k) := by
  unfold Mn.row
  split <;> first | exact .inl rfl | exact .inr rfl
theorem Mn.isc (M : Mn) (k : Nat) : IsN M (M.col k) := by
  unfold Mn.col
  split <;> first | exact .inl rfl | exact .inr rfl
def spLeaf : Sp := fun vs H Q _ => ∃ (c p m : Addr) (n : Nat) (M : Mn) (r cc : Str), vs = [.ref p, .ref m, .str r, .str cc] ∧ Purse c p n H ∧ n < 70000 ∧ MenuAt H m M ∧ M.Ok ∧ m ≠ p ∧ IsN M r ∧ IsN M cc ∧ Drawn c p (n + 2) (fun v H' => ∃ x a b, IsSpec H' v x a b ∧ Lf M r cc x a b) H Q
theorem eqD9 {X : Cx} (K : PySem.W.Frag) (hu : X.A.units + 64 < cLine) (hK : X.K = K := by rfl) : OpR X (compareOp .Eq) (rEqD K) := hK ▸ op_eqD hu
theorem two_strs (a b c d : Str) : (sT [a, b]).eqv (sT [c, d]) = (decide (a = c) && decide (b = d)) := by
  have e : (sT [a, b]).eqv (sT [c, d]) = (a == c && b == d) := by simp [sT, PyData.eqv, PyData.eqvAll]
  rw [e, Bool.eq_iff_iff]
  simp
theorem seq_keyG {t w : TS} {D : Ends} {σ : L2.St} {H : Hp} {i : Nat} {x : V} (G : L2.St → Hp → Prop) (rest : ∀ σ' H', G σ' H' → w D σ' H') (h : (∀ σ' H', G σ' H' → w D σ' H') → t { D with nx := w D } (σ.set i (some x)) H) : gName i x σ H (tSeq t w D) := h rest
theorem seq_keyN {t w : TS} {D : Ends} {σ : L2.St} {H : Hp} {r : VK} {b c : L2.St → Hp → Prop} (G : L2.St → Hp → Prop) (rest : ∀ σ' H', G σ' H' → w D σ' H') (h : (∀ σ' H', G σ' H' → w D σ' H') → t { D with nx := w D } σ H) : tNext ⟨tSeq t w D, r, b, c⟩ σ H := h rest
theorem ifT {c A B : Prop} [Decidable c] (hc : c) (h : A) : if decide c = true then A else B := by
  rw [decide_eq_true hc]
  exact iteT h
theorem ifF {c A B : Prop} [Decidable c] (hc : ¬ c) (h : B) : if decide c = true then A else B := by
  rw [decide_eq_false hc]
  exact iteF h
abbrev nLeaf : List Str := ["_law_purse_here", "_law_menu_here", "_law_rows", "_law_columns", "_law_kind", "_law_sides", "_law_k"]
theorem sc_leaf : FnScope nLeaf ["_law_purse_here", "_law_menu_here", "_law_rows", "_law_columns"] (defScope (top 97)) := ⟨rfl, rfl, rfl, by decide +kernel, rfl, by decide +kernel, by decide +kernel⟩
section
variable {w : World} {K : PySem.W.Frag} {mg : Str → Option Value} {base : Heap}
theorem cal_leaf (T : Txt K mg) : Cal Pg w K mg base 3 "_law_leaf" spLeaf [] := by
  refine cal_of T.d__law_leaf sc_leaf (fun _ _ _ _ _ _ us hl => match us, hl with | [_, _, _, _], _ => rfl) (fun vs H Q E h => ?_) (fun f cdv A outer s H vs Q E hr h => ?_)
  · obtain ⟨c, p, m, n, M, r, cc, rfl, _⟩ := h; rfl
  have mr := nofree T (x := "range") (by decide +kernel)
  refine ⟨_, pss_cons (ps_set (i := 4) sc_leaf.nd rfl (Or.inl rfl) (pe_c (cal_draw T) hr (pa_cons (pv 0) (pa_cons pe_int pa_nil))))
    (pss_cons (ps_if (PW.pt (pw_and (pt_cmpR op_eq (pv 4) pe_int (nomark _)) (pw_and1 (pt_cmpR op_eq (pv 2) (pv 3) (nomark _))))) (pss_one (ps_ret (pe_tup (pa_cons (pe_tup (pa_cons pe_str (pa_cons (pv 2) pa_nil))) (pa_cons (pe_tup (pa_cons pe_int (pa_cons pe_int pa_nil))) pa_nil))))) pss_nil)
    (pss_cons (ps_if (pt_cmpR op_eq (pv 4) pe_int (nomark _)) (pss_one (ps_ret (pe_tup (pa_cons (pe_tup (pa_cons pe_str (pa_cons (pv 2) (pa_cons (pv 3) pa_nil)))) (pa_cons (pe_tup (pa_cons pe_int (pa_cons pe_int pa_nil))) pa_nil))))) pss_nil)
    (pss_cons (ps_set (i := 5) sc_leaf.nd rfl (Or.inr rfl) (pe_ifExp (pt_cmpR op_eq (pv 4) pe_int (nomark _)) (pe_tup (pa_cons (pv 3) (pa_cons (pv 2) pa_nil))) (pe_tup (pa_cons (pv 2) (pa_cons (pv 3) pa_nil)))))
    (pss_cons (ps_set (i := 6) sc_leaf.nd rfl (Or.inl rfl) (pe_c (cal_pick T) hr (pa_cons (pv 0) (pa_cons (pe_lc (own := [("_law_k", 6)]) (g := gName 6) rfl sc_leaf.nd (pi_range1 (by rfl) mr (pa_cons pe_int pa_nil)) (blkOk_by (N := nLeaf) (sc := defScope (top 97)) (by decide +kernel)) (fun _ _ _ _ _ => pg_name (i := 6) sc_leaf.nd rfl (Or.inl rfl))
        (fun _ _ _ _ _ => pts_one (pt_cmpR (eqD9 K hr.units) (pe_tup (pa_cons (pe_ix (ixT9 K) (pe_ix (ixL9 K) (pv 1) (pv 6) (fun _ _ => rfl)) pe_int (fun _ _ => rfl)) (pa_cons (pe_ix (ixT9 K) (pe_ix (ixL9 K) (pv 1) (pv 6) (fun _ _ => rfl)) pe_int (fun _ _ => rfl)) pa_nil))) (pv 5) (nomark _))) (fun _ _ _ _ _ => pv 6)) pa_nil))))
    (pss_one (ps_ret (pe_tup (pa_cons (pe_ifExp (pt_cmpR op_eq (pv 4) pe_int (nomark _)) (pe_tup (pa_cons pe_str (pa_cons (pe_tup (pa_cons pe_str (pa_cons (pv 6) pa_nil))) pa_nil))) (pe_tup (pa_cons pe_str (pa_cons (pv 6) pa_nil)))) (pa_cons (pe_tup (pa_cons (pe_ix (ixT9 K) (pe_ix (ixL9 K) (pv 1) (pv 6) (fun _ _ => rfl)) pe_int (fun _ _ => rfl)) (pa_cons (pe_ix (ixT9 K) (pe_ix (ixL9 K) (pv 1) (pv 6) (fun _ _ => rfl)) pe_int (fun _ _ => rfl)) pa_nil))) pa_nil)))))))))
    , ?_⟩
  obtain ⟨c, p, m, n, M, r, cc, rfl, hP, hn, hM, ok, nmp, hr1, hc1, k⟩ := h
  have L1000 : ∀ {j : Nat}, j ≤ 1000 → j ≤ sizeLine := fun h => Nat.le_trans h thousand_line
  have l2 : 2 ≤ sizeLine := L1000 (by decide)
  refine ⟨_, rfl, c, p, n, 8, rfl, hP, by omega, by decide, by decide, fun v H1 o1 P1 hv => ?_⟩
  obtain ⟨i, hi, rfl⟩ := hv
  obtain ⟨pxs, hpx⟩ := hP.at_
  have im1 := o1.imm hpx
  have hM1 := hM.keep im1 (fun o e => o1 _ _ nmp e)
  have P1' : Purse c p (n + 2) H1 := P1.keep (by omega) (fun _ e => e) (fun _ e => e)
  have dn : ∀ j : Int, (i : Int) ≠ j → ¬ V.int (i : Int) = V.int j := fun j hj e => hj (V.int.inj e)
  dsimp only
  refine seq_keyG (fun σ' H' => σ' = [some (.ref p), some (.ref m), some (.str r), some (.str cc), some (.int i), none, none] ∧ H1 = H' ∧ ¬ (i = 0 ∧ r = cc)) ?_ (fun key => ?_)
  rotate_left
  · refine ⟨_, rfl, rfl, _, rfl, ?_⟩
    by_cases h0 : i = 0
    · subst h0
      refine ifT rfl ⟨_, rfl, _, rfl, rfl, _, rfl, ?_⟩
      by_cases h1 : r = cc
      · subst h1
        refine ifT rfl ⟨_, rfl, l2, fun t1 ht1 => ⟨l2, fun t2 ht2 => ⟨l2, fun t3 ht3 => ?_⟩⟩⟩
        have s1 := Same.upd ht1 (o := .tup [.str "eye", .str r])
        have s2 := Same.upd ht2 (o := .tup [.int 1, .int 1])
        have s3 := Same.upd ht3 (o := .tup [.ref t1, .ref t2])
        have s := Same.trans s1 (Same.trans s2 s3)
        exact k _ _ (Off.trans o1 (Same.off s)) (P1'.same s) ⟨.eye r, 1, 1, ⟨t3, .ref t1, t2, rfl, upd_same, ⟨t1, rfl, s3 _ _ (s2 _ _ upd_same)⟩, s3 _ _ upd_same⟩, lf_eye (hr1.size ok)⟩
      · exact ifF (fun e => h1 (V.str.inj e)) (key _ _ ⟨rfl, rfl, fun e => h1 e.2⟩)
    · exact ifF (dn 0 (by omega)) (iteF (key _ _ ⟨rfl, rfl, fun e => h0 e.1⟩))
  rintro σ' H' ⟨rfl, rfl, hne⟩
  refine ⟨_, rfl, rfl, _, rfl, ?_⟩
  by_cases h1 : i = 1
  · subst h1
    refine ifT rfl ⟨_, rfl, _, rfl, L1000 (show 3 ≤ 1000 by decide), fun t1 ht1 => ⟨l2, fun t2 ht2 => ⟨l2, fun t3 ht3 => ?_⟩⟩⟩
    have s1 := Same.upd ht1 (o := .tup [.str "zero", .str r, .str cc])
    have s2 := Same.upd ht2 (o := .tup [.int 0, .int 1])
    have s3 := Same.upd ht3 (o := .tup [.ref t1, .ref t2])
    have s := Same.trans s1 (Same.trans s2 s3)
    exact k _ _ (Off.trans o1 (Same.off s)) (P1'.same s) ⟨.zero r cc, 0, 1, ⟨t3, .ref t1, t2, rfl, upd_same, ⟨t1, rfl, s3 _ _ (s2 _ _ upd_same)⟩, s3 _ _ upd_same⟩, lf_zero (hr1.size ok) (hc1.size ok)⟩
  refine ifF (dn 1 (by omega)) ?_
  obtain ⟨r', c', hrc⟩ : ∃ r' c', (i = 2 ∧ r' = cc ∧ c' = r) ∨ (i ≠ 2 ∧ r' = r ∧ c' = cc) := by
    by_cases h2 : i = 2
    · exact ⟨_, _, .inl ⟨h2, rfl, rfl⟩⟩
    · exact ⟨_, _, .inr ⟨h2, rfl, rfl⟩⟩
  refine seq_keyN (fun σ' H' => ∃ sd, σ' = [some (.ref p), some (.ref m), some (.str r), some (.str cc), some (.int i), some (.ref sd), none] ∧ Same H1 H' ∧ H' sd = some (.tup [.str r', .str c'])) ?_ (fun key => ?_)
  rotate_left
  · refine ⟨_, rfl, rfl, _, rfl, ?_⟩
    by_cases h2 : i = 2
    · subst h2
      obtain ⟨_, rfl, rfl⟩ | ⟨h, _⟩ := hrc
      · exact ifT rfl ⟨_, rfl, _, rfl, l2, fun sd hsd => key _ _ ⟨sd, rfl, Same.upd hsd, upd_same⟩⟩
      · exact absurd rfl h
    · obtain ⟨h, _⟩ | ⟨_, rfl, rfl⟩ := hrc
      · exact absurd h h2
      · exact ifF (dn 2 (by omega)) ⟨_, rfl, _, rfl, l2, fun sd hsd => key _ _ ⟨sd, rfl, Same.upd hsd, upd_same⟩⟩
  rintro σ' H2 ⟨sd, rfl, s2, hsd⟩
  have im2 := Same.imm s2
  have hM2 := hM1.keep im2 (fun o e => s2 _ _ e)
  have hrc' : IsN M r' ∧ IsN M c' := by
    obtain ⟨_, rfl, rfl⟩ | ⟨_, rfl, rfl⟩ := hrc
    · exact ⟨hc1, hr1⟩
    · exact ⟨hr1, hc1⟩
  obtain ⟨rvs, hm2, lrv, hent⟩ := hM2
  refine ⟨_, rfl, 6, rfl, by decide, by decide, fun D hD => ?_⟩
  have nDp : D ≠ p := fun e => by
    subst e
    obtain ⟨y, hy⟩ := P1.at_
    rw [s2 _ _ hy] at hD
    cases hD
  have nr : ∀ {z : Str}, IsN M z → PyData.strOk z = true := fun h => (h.size ok).ok
  refine lc_it (walk_range (lo := 0) (n := 6)) (fun j H' => Same H2 H' ∧ H' D = some (.lst (((List.range j).filter fun k => decide (M.row k = r') && decide (M.col k = c')).map fun k => V.int (k : Nat)))) ⟨Same.upd hD, upd_same⟩ (fun _ _ _ _ => trivial) (fun j x H3 H4 hj hpv hy => ?_) (fun H3 hpv => ?_)
  · obtain ⟨rfl, hy⟩ := hy
    have hx : x = .int (0 + (j : Int)) := hy
    subst hx
    obtain ⟨s3, hD3⟩ := hpv
    obtain ⟨t, ht1, ht2⟩ := hent j hj
    have ht3 := s3 _ _ ht2
    have ej : ((0 : Int) + (j : Int)) = (j : Int) := by omega
    have hix : atI rvs (0 + (j : Int)) = some (.ref t) := by rw [ej]; exact atI_nat ht1
    refine ⟨rfl, _, rfl, _, rfl, m, rvs, _, .ref t, rfl, rfl, SqL.of (s3 _ _ hm2), hix, t, _, 1, .str (M.row j), rfl, rfl, SqT.of ht3, rfl, _, rfl, _, rfl, m, rvs, _, .ref t, rfl, rfl, SqL.of (s3 _ _ hm2), hix, t, _, 2, .str (M.col j), rfl, rfl, SqT.of ht3, rfl, l2, fun q hq => ?_⟩
    have s4 := Same.upd hq (o := .tup [.str (M.row j), .str (M.col j)])
    have nic : ∀ {a b : Str}, IsN M a → IsN M b → Nice [a, b] := fun ha hb z hz => by
      rcases List.mem_cons.mp hz with rfl | hz
      · exact nr ha
      · rw [List.mem_singleton.mp hz]; exact nr hb
    refine ⟨_, rfl, sT [M.row j, M.col j], sT [r', c'], dp_sT upd_same, dp_sT (s4 _ _ (s3 _ _ hsd)), sT_shaped (nic (M.isr j) (M.isc j)), sT_shaped (nic hrc'.1 hrc'.2), _, rfl, ?_⟩
    rw [two_strs]
    have efil : ((List.range (j + 1)).filter fun k => decide (M.row k = r') && decide (M.col k = c')) = ((List.range j).filter fun k => decide (M.row k = r') && decide (M.col k = c')) ++ (if (decide (M.row j = r') && decide (M.col j = c')) = true then [j] else []) := by
      rw [List.range_succ, List.filter_append]
      congr 1
      rw [List.filter_cons]
      rfl
    rw [efil]
    have hD4 := s4 _ _ hD3
    by_cases hc : (decide (M.row j = r') && decide (M.col j = c')) = true
    · rw [if_pos hc, hc]
      refine iteT ⟨_, rfl, _, hD4, ?_, Same.updT (Same.trans s3 s4) hD, ?_⟩
      · have h1 := List.length_filter_le (fun k => decide (M.row k = r') && decide (M.col k = c')) (List.range j)
        rw [List.length_map]
        rw [List.length_range] at h1
        exact Nat.lt_of_lt_of_le (show _ < 1000 by omega) thousand_line
      · rw [List.map_append, ej]
        exact upd_same
    · rw [if_neg hc, Bool.eq_false_iff.mpr hc]
      refine iteF ⟨Same.trans s3 s4, ?_⟩
      rw [List.append_nil]
      exact hD4
  · obtain ⟨s3, hD3⟩ := hpv
    have ne : ∃ k, k < 6 ∧ M.row k = r' ∧ M.col k = c' := by
      rcases hrc'.1 with h1 | h1 <;> rcases hrc'.2 with h2 | h2
      · exact ⟨0, by decide, h1.symm, h2.symm⟩
      · exact ⟨1, by decide, h1.symm, h2.symm⟩
      · exact ⟨2, by decide, h1.symm, h2.symm⟩
      · exact ⟨3, by decide, h1.symm, h2.symm⟩
    have P3 := (P1.same s2).same s3
    refine ⟨c, p, D, n + 1, _, rfl, P3, by omega, hD3, nDp, fun e => ?_, ?_, fun v H4 o4 P4 hv => ?_⟩
    · obtain ⟨k0, h0, h1, h2⟩ := ne
      have : V.int (k0 : Nat) ∈ ((List.range 6).filter fun k => decide (M.row k = r') && decide (M.col k = c')).map fun k => V.int (k : Nat) := List.mem_map_of_mem (List.mem_filter.mpr ⟨List.mem_range.mpr h0, by rw [decide_eq_true h1, decide_eq_true h2]; rfl⟩)
      rw [e] at this
      cases this
    · rw [List.length_map]
      have h1 := List.length_filter_le (fun k => decide (M.row k = r') && decide (M.col k = c')) (List.range 6)
      rw [List.length_range] at h1
      omega
    · obtain ⟨k0, hk0, rfl⟩ := List.mem_map.mp hv
      obtain ⟨h0, h12⟩ := List.mem_filter.mp hk0
      have h0 := List.mem_range.mp h0
      rw [Bool.and_eq_true] at h12
      have h1 := of_decide_eq_true h12.1
      have h2 := of_decide_eq_true h12.2
      obtain ⟨t, ht1, ht2⟩ := hent k0 h0
      have im : Imm H2 H4 := Imm.trans (Same.imm s3) (o4.imm (s3 _ _ (s2 _ _ (P1.at_).choose_spec)))
      have hm4 : H4 m = some (.lst rvs) := o4 _ _ nmp (s3 _ _ hm2)
      have ht4 := im _ _ rfl ht2
      have OO : Off p H H4 := Off.trans o1 (Off.trans (Same.off s2) (Off.trans (Same.off s3) o4))
      have lf := lf_letter ok h0
      rw [h1, h2] at lf
      have hix := atI_nat ht1
      refine ⟨_, rfl, rfl, _, rfl, ?_⟩
      by_cases h2 : i = 2
      · subst h2
        obtain ⟨_, rfl, rfl⟩ | ⟨h, _⟩ := hrc
        · refine ifT rfl ⟨_, rfl, l2, fun t1 ht1 => ⟨l2, fun t2 ht2 => ?_⟩⟩
          have s1 := Same.upd ht1 (o := .tup [.str "letter", .int (k0 : Nat)])
          have s2 := Same.upd ht2 (o := .tup [.str "turned", .ref t1])
          have s12 := Same.trans s1 s2
          refine ⟨_, rfl, _, rfl, m, rvs, _, .ref t, rfl, rfl, SqL.of (s12 _ _ hm4), hix, t, _, 4, .int (M.num k0), rfl, rfl, SqT.of (s12 _ _ ht4), rfl, _, rfl, _, rfl, m, rvs, _, .ref t, rfl, rfl, SqL.of (s12 _ _ hm4), hix, t, _, 5, .int (Mn.den k0), rfl, rfl, SqT.of (s12 _ _ ht4), rfl, l2, fun t3 ht3 => ⟨l2, fun t4 ht4 => ?_⟩⟩
          have s3' := Same.upd ht3 (o := .tup [.int (M.num k0), .int (Mn.den k0)])
          have s4' := Same.upd ht4 (o := .tup [.ref t2, .ref t3])
          have s34 := Same.trans s3' s4'
          exact k _ _ (Off.trans OO (Same.off (Same.trans s12 s34))) (P4.same (Same.trans s12 s34)) ⟨.turned (.letter k0), M.num k0, Mn.den k0, ⟨t4, .ref t2, t3, rfl, upd_same, ⟨t2, .ref t1, rfl, s34 _ _ upd_same, ⟨t1, rfl, s34 _ _ (s2 _ _ upd_same)⟩⟩, s4' _ _ upd_same⟩, lf_turned lf rfl⟩
        · exact absurd rfl h
      · obtain ⟨h, _⟩ | ⟨_, rfl, rfl⟩ := hrc
        · exact absurd h h2
        · refine ifF (dn 2 (by omega)) ⟨_, rfl, l2, fun t1 ht1 => ?_⟩
          have s1 := Same.upd ht1 (o := .tup [.str "letter", .int (k0 : Nat)])
          refine ⟨_, rfl, _, rfl, m, rvs, _, .ref t, rfl, rfl, SqL.of (s1 _ _ hm4), hix, t, _, 4, .int (M.num k0), rfl, rfl, SqT.of (s1 _ _ ht4), rfl, _, rfl, _, rfl, m, rvs, _, .ref t, rfl, rfl, SqL.of (s1 _ _ hm4), hix, t, _, 5, .int (Mn.den k0), rfl, rfl, SqT.of (s1 _ _ ht4), rfl, l2, fun t3 ht3 => ⟨l2, fun t4 ht4 => ?_⟩⟩
          have s3' := Same.upd ht3 (o := .tup [.int (M.num k0), .int (Mn.den k0)])
          have s4' := Same.upd ht4 (o := .tup [.ref t1, .ref t3])
          have s34 := Same.trans s3' s4'
          exact k _ _ (Off.trans OO (Same.off (Same.trans s1 s34))) (P4.same (Same.trans s1 s34)) ⟨.letter k0, M.num k0, Mn.den k0, ⟨t4, .ref t1, t3, rfl, upd_same, ⟨t1, rfl, s34 _ _ upd_same⟩, s4' _ _ upd_same⟩, lf⟩
end
end K9

/-! ## F49 -/
namespace K9
open PySem PySem.Spec PyProof.Rows L2
/-! The law's join and spec. -/
def joinT (kd : Nat) (x y : Tr) : Tr := match kd with
  | 0 => .sum x y
  | 1 => .less x y
  | _ => .times x y
def spJoinL : Sp := fun vs H Q _ => ∃ (kd : Nat) (v1 v2 : V) (x y : Tr) (a b c d : Int), vs = [.int kd, v1, v2] ∧ kd < 4 ∧ IsSpec H v1 x a b ∧ IsSpec H v2 y c d ∧ a.natAbs ≤ 3 ∧ b.natAbs ≤ 3 ∧ c.natAbs ≤ 3 ∧ d.natAbs ≤ 3 ∧ Pure (fun v' H' => ∃ a' b', IsSpec H' v' (joinT kd x y) a' b') H Q
abbrev nJoinL : List Str := ["_law_kind", "_law_one", "_law_two", "_law_a", "_law_b", "_law_c", "_law_d", "_law_sign"]
theorem sc_joinL : FnScope nJoinL ["_law_kind", "_law_one", "_law_two"] (defScope (top 99)) := ⟨rfl, rfl, rfl, by decide +kernel, rfl, by decide +kernel, by decide +kernel⟩
section
variable {w : World} {K : PySem.W.Frag} {mg : Str → Option Value} {base : Heap}
theorem cal_join (T : Txt K mg) : Cal Pg w K mg base 1 "_law_join" spJoinL [] := by
  refine cal_of T.d__law_join sc_joinL (fun _ _ _ _ _ _ us hl => match us, hl with | [_, _, _], _ => rfl) (fun vs H Q E h => ?_) (fun f cdv A outer s H vs Q E hr h => ?_)
  · obtain ⟨kd, v1, v2, x, y, a, b, c, d, rfl, _⟩ := h; rfl
  refine ⟨_, pss_cons (ps_asg (pe_tup (pa_cons (pe_ix (ixT9 K) (pv 1) pe_int (fun _ _ => rfl)) (pa_cons (pe_ix (ixT9 K) (pv 2) pe_int (fun _ _ => rfl)) pa_nil)))
      (pg_tup rfl (pgs_cons (pg_tup rfl (pgs_cons (pg_name (i := 3) sc_joinL.nd rfl (Or.inl rfl)) (pgs_cons (pg_name (i := 4) sc_joinL.nd rfl (Or.inl rfl)) pgs_nil))) (pgs_cons (pg_tup rfl (pgs_cons (pg_name (i := 5) sc_joinL.nd rfl (Or.inl rfl)) (pgs_cons (pg_name (i := 6) sc_joinL.nd rfl (Or.inl rfl)) pgs_nil))) pgs_nil))))
    (pss_cons (ps_if (pt_cmpR op_gt (pv 0) pe_int (nomark _)) (pss_one (ps_ret (pe_tup (pa_cons (pe_tup (pa_cons pe_str (pa_cons (pe_ix (ixT9 K) (pv 1) pe_int (fun _ _ => rfl)) (pa_cons (pe_ix (ixT9 K) (pv 2) pe_int (fun _ _ => rfl)) pa_nil)))) (pa_cons (pe_tup (pa_cons (pe_op op_mul (pv 3) (pv 5)) (pa_cons (pe_op op_mul (pv 4) (pv 6)) pa_nil))) pa_nil))))) pss_nil)
    (pss_cons (ps_set (i := 7) sc_joinL.nd rfl (Or.inl rfl) (pe_ifExp (pt_cmpR op_eq (pv 0) pe_int (nomark _)) pe_int (pe_un un_neg pe_int)))
    (pss_one (ps_ret (pe_tup (pa_cons (pe_tup (pa_cons (pe_ix (ixL9 K) (pe_lst (pa_cons pe_str (pa_cons pe_str pa_nil))) (pv 0) (fun _ _ => rfl)) (pa_cons (pe_ix (ixT9 K) (pv 1) pe_int (fun _ _ => rfl)) (pa_cons (pe_ix (ixT9 K) (pv 2) pe_int (fun _ _ => rfl)) pa_nil)))) (pa_cons (pe_tup (pa_cons (pe_op op_add (pe_op op_mul (pv 3) (pv 6)) (pe_op op_mul (pe_op op_mul (pv 7) (pv 5)) (pv 4))) (pa_cons (pe_op op_mul (pv 4) (pv 6)) pa_nil))) pa_nil)))))))
    , ?_⟩
  obtain ⟨kd, v1, v2, x, y, a, b, c, d, rfl, hk, h1, h2, la, lb, lc, ld, k⟩ := h
  have L1000 : ∀ {j : Nat}, j ≤ 1000 → j ≤ sizeLine := fun h => Nat.le_trans h thousand_line
  have l2 : 2 ≤ sizeLine := L1000 (by decide)
  have l3 : 3 ≤ sizeLine := L1000 (by decide)
  obtain ⟨t1, u1, p1, rfl, ht1, hu1, hp1⟩ := h1
  obtain ⟨t2, u2, p2, rfl, ht2, hu2, hp2⟩ := h2
  have M : ∀ {i j : Int}, i.natAbs ≤ 9 → CMul i j := fun h => .inl ⟨by omega, by omega⟩
  have m9 : ∀ {i j : Int}, i.natAbs ≤ 3 → j.natAbs ≤ 3 → (i * j).natAbs ≤ 9 := fun h1 h2 => by rw [Int.natAbs_mul]; exact Nat.mul_le_mul h1 h2
  refine ⟨_, rfl, t1, _, 1, .ref p1, rfl, rfl, SqT.of ht1, rfl, _, rfl, t2, _, 1, .ref p2, rfl, rfl, SqT.of ht2, rfl, l2, fun t3 ht3 => ?_⟩
  have s3 := Same.upd ht3 (o := .tup [.ref p1, .ref p2])
  refine ⟨t3, _, rfl, SqT.of upd_same, rfl, _, _, rfl, p1, _, rfl, SqT.of (s3 _ _ hp1), rfl, _, _, rfl, _, _, rfl, rfl, _, _, rfl, p2, _, rfl, SqT.of (s3 _ _ hp2), rfl, _, _, rfl, _, _, rfl, rfl, rfl, ?_⟩
  obtain ⟨H3, eH3⟩ : ∃ G, G = upd H t3 (.tup [.ref p1, .ref p2]) := ⟨_, rfl⟩
  rw [← eH3] at s3
  refine of_heap eH3 ?_
  refine ⟨_, rfl, _, _, rfl, rfl, _, rfl, ?_⟩
  have ht1' := s3 _ _ ht1
  have ht2' := s3 _ _ ht2
  by_cases h1 : kd > 1
  · refine ifT (show (kd : Int) > 1 by omega) ⟨_, rfl, t1, _, 0, u1, rfl, rfl, SqT.of ht1', rfl, _, rfl, t2, _, 0, u2, rfl, rfl, SqT.of ht2', rfl, l3, fun t4 ht4 => ?_⟩
    have s4 := Same.upd ht4 (o := .tup [.str "times", u1, u2])
    refine ⟨_, rfl, _, rfl, _, _, rfl, rfl, M (by omega), _, rfl, _, rfl, _, _, rfl, rfl, M (by omega), l2, fun t5 ht5 => ⟨l2, fun t6 ht6 => ?_⟩⟩
    have s5 := Same.upd ht5 (o := .tup [.int (a * c), .int (b * d)])
    have s6 := Same.upd ht6 (o := .tup [.ref t4, .ref t5])
    have s56 := Same.trans s5 s6
    have S := Same.trans s3 (Same.trans s4 s56)
    refine k _ _ S ⟨a * c, b * d, t6, .ref t4, t5, rfl, upd_same, ?_, s6 _ _ upd_same⟩
    have e : joinT kd x y = .times x y := by
      unfold joinT
      split
      · omega
      · omega
      · rfl
    rw [e]
    exact ⟨t4, u1, u2, rfl, s56 _ _ upd_same, hu1.imm (Same.imm S), hu2.imm (Same.imm S)⟩
  · refine ifF (show ¬ (kd : Int) > 1 by omega) ?_
    refine seq_keyN (fun σ' H' => ∃ sn : Int, σ' = [some (.int kd), some (.ref t1), some (.ref t2), some (.int a), some (.int b), some (.int c), some (.int d), some (.int sn)] ∧ H3 = H' ∧ sn.natAbs ≤ 3) ?_ (fun key => ?_)
    · rintro σ' H' ⟨sn, rfl, rfl, lsn⟩
      have hn : ∃ z : Str, ([.str "sum", .str "less"] : List V)[kd]? = some (.str z) ∧ ∀ {H' : Hp} {t : Addr}, H' t = some (.tup [.str z, u1, u2]) → IsTr H' u1 x → IsTr H' u2 y → IsTr H' (.ref t) (joinT kd x y) := by
        have : kd = 0 ∨ kd = 1 := by omega
        rcases this with rfl | rfl
        · exact ⟨_, rfl, fun h1 h2 h3 => ⟨_, u1, u2, rfl, h1, h2, h3⟩⟩
        · exact ⟨_, rfl, fun h1 h2 h3 => ⟨_, u1, u2, rfl, h1, h2, h3⟩⟩
      obtain ⟨z, hz, hzz⟩ := hn
      refine ⟨l2, fun t7 ht7 => ⟨_, rfl, t7, _, _, .str z, rfl, rfl, SqL.of upd_same, atI_nat hz, ?_⟩⟩
      have s7 := Same.upd ht7 (o := .lst [.str "sum", .str "less"])
      refine ⟨_, rfl, t1, _, 0, u1, rfl, rfl, SqT.of (s7 _ _ ht1'), rfl, _, rfl, t2, _, 0, u2, rfl, rfl, SqT.of (s7 _ _ ht2'), rfl, l3, fun t4 ht4 => ?_⟩
      have s4 := Same.upd ht4 (o := .tup [.str z, u1, u2])
      refine ⟨_, rfl, _, rfl, _, _, rfl, rfl, M (by omega), _, rfl, _, rfl, _, _, rfl, rfl, M (by omega), _, rfl, _, _, rfl, rfl, M (m9 lsn lc), _, _, rfl, rfl, _, rfl, _, rfl, _, _, rfl, rfl, M (by omega), l2, fun t5 ht5 => ⟨l2, fun t6 ht6 => ?_⟩⟩
      have s5 := Same.upd ht5 (o := .tup [.int (a * d + sn * c * b), .int (b * d)])
      have s6 := Same.upd ht6 (o := .tup [.ref t4, .ref t5])
      have s56 := Same.trans s5 s6
      have S := Same.trans s3 (Same.trans s7 (Same.trans s4 s56))
      exact k _ _ S ⟨a * d + sn * c * b, b * d, t6, .ref t4, t5, rfl, upd_same, hzz (s56 _ _ upd_same) (hu1.imm (Same.imm S)) (hu2.imm (Same.imm S)), s6 _ _ upd_same⟩
    · refine ⟨_, rfl, rfl, _, rfl, ?_⟩
      by_cases h0 : kd = 0
      · subst h0
        exact ifT rfl (key _ _ ⟨1, rfl, rfl, by decide⟩)
      · exact ifF (fun e => h0 (by have := V.int.inj e; omega)) ⟨_, rfl, key _ _ ⟨-1, rfl, rfl, by decide⟩⟩
end
end K9

/-! ## F50 -/
namespace K9
open PySem PySem.Spec PyProof.Rows L2
/-! The law's spec. -/
theorem divInt0 {b : Int} (h : b = 1 ∨ b = 2) : Rat.divInt 0 b = 0 := by
  rcases h with rfl | rfl <;> decide +kernel
theorem Lf.z {M : Mn} {r c : Str} {x : Tr} {a b : Int} (h : Lf M r c x a b) (n : r ≠ c) : (x.fm M.ltr).mid = [[0]] := by
  rw [h.mid, h.of n, divInt0 h.bb]
theorem Lf.nz {M : Mn} {r c : Str} {x : Tr} {a b : Int} (h : Lf M r c x a b) (n : a ≠ 0) : Rat.divInt a b ≠ 0 := by
  have ha : a = -3 ∨ a = -2 ∨ a = -1 ∨ a = 1 ∨ a = 2 ∨ a = 3 := by have := h.ba; omega
  rcases h.bb with rfl | rfl <;> rcases ha with rfl | rfl | rfl | rfl | rfl | rfl <;> decide +kernel
theorem pc_of {S : Sys} {r c : Str} {f : Fm} (h : Fm.Bn S [r] [c] 3 4 20 100 f) (z : r ≠ c → f.mid = [[0]]) : Fm.Pc S r c f := ⟨h.ok, h.sd, h.wt, h.lv, h.bt, h.sl, z⟩
theorem pc_leaf {M : Mn} {r c : Str} {x : Tr} {a b : Int} (h : Lf M r c x a b) : Fm.Pc M.sys r c (x.fm M.ltr) := pc_of h.bn.mono h.z
theorem add00 (s : Int) : addM s [[0]] [[0]] = [[0]] := by
  show [[(0 : Rat) + (s : Rat) * 0]] = _
  rw [Rat.mul_zero, Rat.add_zero]
theorem pc_join {M : Mn} {kd : Nat} {r k k' c : Str} {x y : Tr} {a b a' b' : Int} (h : Lf M r k x a b) (g : Lf M k' c y a' b') (e1 : kd < 2 → k = c ∧ k' = r) (e2 : ¬ kd < 2 → k = k') : Fm.Pc M.sys r c ((joinT kd x y).fm M.ltr) := by
  by_cases hk : kd < 2
  · obtain ⟨rfl, rfl⟩ := e1 hk
    have : kd = 0 ∨ kd = 1 := by omega
    rcases this with rfl | rfl
    · exact pc_of (Fm.Bn.mono (Fm.Bn.sum h.bn g.bn)) fun n => by show addM 1 _ _ = _; rw [h.z n, g.z n]; exact add00 1
    · exact pc_of (Fm.Bn.mono (Fm.Bn.dif h.bn g.bn)) fun n => by show addM (-1) _ _ = _; rw [h.z n, g.z n]; exact add00 (-1)
  · have e := e2 hk
    subst e
    have ej : joinT kd x y = .times x y := by
      unfold joinT
      split
      · omega
      · omega
      · rfl
    rw [ej]
    refine pc_of (Fm.Bn.mono (Fm.Bn.pro h.bn g.bn) (h3 := by show 1 * (8 + 8 + 1) + 1 ≤ 20; decide)) fun n => ?_
    show mulM (y.fm M.ltr).cols.length (x.fm M.ltr).mid (y.fm M.ltr).mid = _
    rw [g.bn.c, h.mid, g.mid]
    show [[Rat.divInt a b * Rat.divInt a' b' + 0]] = _
    rw [Rat.add_zero]
    by_cases hr : r = k
    · rw [g.of (fun e => n (hr.trans e)), divInt0 g.bb, Rat.mul_zero]
    · rw [h.of hr, divInt0 h.bb, Rat.zero_mul]
theorem pc_turned {M : Mn} {r c : Str} {x : Tr} {a b : Int} (h : Lf M c r x a b) : Fm.Pc M.sys r c ((Tr.turned x).fm M.ltr) :=
  pc_of (Fm.Bn.mono h.bn.tra) fun n => by
    show tr 0 (x.fm M.ltr).cols.length (x.fm M.ltr).mid = _
    rw [h.bn.c, h.z (fun e => n e.symm)]
    rfl
theorem pc_scaled {M : Mn} {r c : Str} {x : Tr} {a b p q : Int} (h : Lf M r c x a b) (hp : p.natAbs ≤ 4) (hq0 : q ≠ 0) (hq : q.natAbs ≤ 3) : Fm.Pc M.sys r c ((Tr.scaled p q x).fm M.ltr) :=
  pc_of (Fm.Bn.mono (Fm.Bn.sca h.bn (BdR.divInt hq0 (Nat.lt_of_le_of_lt hp (by decide)) (Nat.lt_of_le_of_lt hq (by decide))))) fun n => by
    show sclM (Rat.divInt p q) (x.fm M.ltr).mid = _
    rw [h.z n]
    show [[Rat.divInt p q * 0]] = _
    rw [Rat.mul_zero]
theorem pc_inv {M : Mn} {r : Str} {x : Tr} {a b : Int} (h : Lf M r r x a b) (ha : a ≠ 0) : Fm.Pc M.sys r r ((Tr.inverse x).fm M.ltr) :=
  pc_of (Fm.Bn.mono (Fm.Bn.inv h.bn (.inl ⟨rfl, _, h.mid, h.nz ha⟩))) fun n => absurd rfl n
theorem pc_inv0 {M : Mn} {r : Str} {x : Tr} {b : Int} (hr : SizeN r) (h : Lf M r r x 0 b) : Fm.Pc M.sys r r ((Tr.inverse (.sum (.eye r) x)).fm M.ltr) := by
  have e := lf_eye (M := M) hr
  have hm : (Fm.sum (.eye [r]) (x.fm M.ltr)).mid = [[1]] := by
    show addM 1 (eyeM 1) (x.fm M.ltr).mid = _
    rw [h.mid, divInt0 h.bb]
    decide +kernel
  refine pc_of (Fm.Bn.mono (Fm.Bn.inv (Fm.Bn.sum e.bn h.bn) ?_)) fun n => absurd rfl n
  exact .inl ⟨rfl, 1, hm, by decide⟩
theorem ifNT {c A B : Prop} [Decidable c] (hc : ¬ c) (h : A) : if (!decide c) = true then A else B := by
  rw [decide_eq_false hc]
  exact iteT h
theorem join_fit {kd : Nat} {x y : Tr} (hx : x.fit) (hy : y.fit) : (joinT kd x y).fit := by
  unfold joinT
  split <;> exact ⟨hx, hy⟩
def spSpec : Nat → Sp
  | 0 => fun _ _ _ _ => False
  | 1 => fun vs H Q _ => ∃ (c p m : Addr) (n : Nat) (M : Mn) (r cc : Str) (room : Int), vs = [.ref p, .ref m, .str r, .str cc, .int room, .int 0] ∧ Purse c p n H ∧ n < 60000 ∧ MenuAt H m M ∧ M.Ok ∧ m ≠ p ∧ IsN M r ∧ IsN M cc ∧ Drawn c p (n + 3) (fun v H' => ∃ x a b, IsSpec H' v x a b ∧ Lf M r cc x a b) H Q
  | _ => fun vs H Q _ => ∃ (c p m : Addr) (n : Nat) (M : Mn) (r cc : Str), vs = [.ref p, .ref m, .str r, .str cc, .int 2, .int 1] ∧ Purse c p n H ∧ n < 50000 ∧ MenuAt H m M ∧ M.Ok ∧ m ≠ p ∧ IsN M r ∧ IsN M cc ∧ Drawn c p (n + 20) (fun v H' => ∃ x a b, IsSpec H' v x a b ∧ x.fit ∧ Fm.Pc M.sys r cc (x.fm M.ltr)) H Q
abbrev nSpec : List Str := ["_law_purse_here", "_law_menu_here", "_law_rows", "_law_columns", "_law_room", "_law_deep", "_law_kind", "_law_left", "_law_inner", "_law_one", "_law_two", "_law_top", "_law_bottom", "_law_sign"]
theorem sc_spec : FnScope nSpec ["_law_purse_here", "_law_menu_here", "_law_rows", "_law_columns", "_law_room", "_law_deep"] (defScope (top 98)) := ⟨rfl, rfl, rfl, by decide +kernel, rfl, by decide +kernel, by decide +kernel⟩
section
variable {w : World} {K : PySem.W.Frag} {mg : Str → Option Value} {base : Heap}
theorem cal_spec (T : Txt K mg) : ∀ d, d ≤ 2 → Cal Pg w K mg base (4 + d) "_law_spec" (spSpec d) []
  | 0, _ => by
    refine cal_of (k := 3) T.d__law_spec sc_spec (fun _ _ _ _ _ _ us hl => match us, hl with | [_, _, _, _, _, _], _ => rfl) (fun vs H Q E h => ?_) (fun f cdv A outer s H vs Q E hr h => ?_)
    · exact h.elim
    · exact h.elim
  | d + 1, hd => by
    have ih := cal_spec T d (by omega)
    refine cal_of (k := 4 + d) T.d__law_spec sc_spec (fun _ _ _ _ _ _ us hl => match us, hl with | [_, _, _, _, _, _], _ => rfl) (fun vs H Q E h => ?_) (fun f cdv A outer s H vs Q E hr h => ?_)
    · match d, h with
      | 0, h => obtain ⟨c, p, m, n, M, r, cc, room, rfl, _⟩ := h; rfl
      | d + 1, h => obtain ⟨c, p, m, n, M, r, cc, rfl, _⟩ := h; rfl
    have hr4 : Room 4 (A.deeper (envOfC "_law_spec" (defScope (top 98)) s.heap.objs.size f cdv)) := hr.mono (by omega)
    refine ⟨_, pss_cons (ps_set (i := 6) sc_spec.nd rfl (Or.inl rfl) (pe_c (cal_draw T) hr4 (pa_cons (pv 0) (pa_cons pe_int pa_nil))))
      (pss_cons (ps_if (PW.pt (pw_or (pt_cmpR op_eq (pv 5) pe_int (nomark _)) (pw_or1 (PW.pt (pw_and (pt_cmpR op_eq (pv 4) pe_int (nomark _)) (pw_and1 (pt_cmpR op_lt (pv 6) pe_int (nomark _)))))))) (pss_one (ps_ret (pe_c (cal_leaf T) hr4 (pa_cons (pv 0) (pa_cons (pv 1) (pa_cons (pv 2) (pa_cons (pv 3) pa_nil))))))) pss_nil)
      (pss_cons (ps_if (pt_cmpR op_lt (pv 6) pe_int (nomark _))
        (pss_cons (ps_set (i := 7) sc_spec.nd rfl (Or.inl rfl) (pe_op op_add pe_int (pe_c (cal_draw T) hr4 (pa_cons (pv 0) (pa_cons (pe_op op_sub (pv 4) pe_int) pa_nil)))))
        (pss_cons (ps_set (i := 8) sc_spec.nd rfl (Or.inl rfl) (pe_ifExp (pt_cmpR op_lt (pv 6) pe_int (nomark _)) (pv 3) (pe_c (cal_pick T) hr4 (pa_cons (pv 0) (pa_cons (pe_lst (pa_cons (pe_ix (ixT9 K) (pe_ix (ixL9 K) (pv 1) pe_int (fun _ _ => rfl)) pe_int (fun _ _ => rfl)) (pa_cons (pe_ix (ixT9 K) (pe_ix (ixL9 K) (pv 1) pe_int (fun _ _ => rfl)) pe_int (fun _ _ => rfl)) pa_nil))) pa_nil)))))
        (pss_cons (ps_set (i := 9) sc_spec.nd rfl (Or.inl rfl) (pe_c ih hr (pa_cons (pv 0) (pa_cons (pv 1) (pa_cons (pv 2) (pa_cons (pv 8) (pa_cons (pv 7) (pa_cons (pe_op op_sub (pv 5) pe_int) pa_nil)))))) (Nat.le_refl _)))
        (pss_cons (ps_set (i := 10) sc_spec.nd rfl (Or.inl rfl) (pe_c ih hr (pa_cons (pv 0) (pa_cons (pv 1) (pa_cons (pe_ifExp (pt_cmpR op_lt (pv 6) pe_int (nomark _)) (pv 2) (pv 8)) (pa_cons (pv 3) (pa_cons (pe_op op_sub (pv 4) (pv 7)) (pa_cons (pe_op op_sub (pv 5) pe_int) pa_nil)))))) (Nat.le_refl _)))
        (pss_one (ps_ret (pe_c (cal_join T) hr4 (pa_cons (pv 6) (pa_cons (pv 9) (pa_cons (pv 10) pa_nil)))))))))) pss_nil)
      (pss_cons (ps_if (pt_cmpR op_eq (pv 6) pe_int (nomark _))
        (pss_cons (ps_set (i := 9) sc_spec.nd rfl (Or.inl rfl) (pe_c ih hr (pa_cons (pv 0) (pa_cons (pv 1) (pa_cons (pv 3) (pa_cons (pv 2) (pa_cons (pv 4) (pa_cons (pe_op op_sub (pv 5) pe_int) pa_nil)))))) (Nat.le_refl _)))
        (pss_one (ps_ret (pe_tup (pa_cons (pe_tup (pa_cons pe_str (pa_cons (pe_ix (ixT9 K) (pv 9) pe_int (fun _ _ => rfl)) pa_nil))) (pa_cons (pe_ix (ixT9 K) (pv 9) pe_int (fun _ _ => rfl)) pa_nil)))))) pss_nil)
      (pss_cons (ps_if (PW.pt (pw_and (pt_cmpR op_gt (pv 6) pe_int (nomark _)) (pw_and1 (pt_cmpR op_ne (pv 2) (pv 3) (nomark _))))) (pss_one (ps_ret (pe_c (cal_leaf T) hr4 (pa_cons (pv 0) (pa_cons (pv 1) (pa_cons (pv 2) (pa_cons (pv 3) pa_nil))))))) pss_nil)
      (pss_cons (ps_set (i := 9) sc_spec.nd rfl (Or.inl rfl) (pe_c ih hr (pa_cons (pv 0) (pa_cons (pv 1) (pa_cons (pv 2) (pa_cons (pv 3) (pa_cons (pv 4) (pa_cons (pe_op op_sub (pv 5) pe_int) pa_nil)))))) (Nat.le_refl _)))
      (pss_cons (ps_if (pt_cmpR op_eq (pv 6) pe_int (nomark _))
        (pss_cons (ps_par (i := 11) (j := 12) (by rfl) sc_spec.nd rfl rfl (by decide) rfl rfl (pa_cons (pe_op op_sub (pe_c (cal_draw T) hr4 (pa_cons (pv 0) (pa_cons pe_int pa_nil))) pe_int) (pa_cons (pe_op op_add pe_int (pe_c (cal_draw T) hr4 (pa_cons (pv 0) (pa_cons pe_int pa_nil)))) pa_nil)) (by rfl))
        (pss_one (ps_ret (pe_tup (pa_cons (pe_tup (pa_cons pe_str (pa_cons (pv 11) (pa_cons (pv 12) (pa_cons (pe_ix (ixT9 K) (pv 9) pe_int (fun _ _ => rfl)) pa_nil))))) (pa_cons (pe_tup (pa_cons (pe_op op_mul (pv 11) (pe_ix (ixT9 K) (pe_ix (ixT9 K) (pv 9) pe_int (fun _ _ => rfl)) pe_int (fun _ _ => rfl))) (pa_cons (pe_op op_mul (pv 12) (pe_ix (ixT9 K) (pe_ix (ixT9 K) (pv 9) pe_int (fun _ _ => rfl)) pe_int (fun _ _ => rfl))) pa_nil))) pa_nil)))))) pss_nil)
      (pss_cons (ps_if (pt_cmpR op_eq (pe_ix (ixT9 K) (pe_ix (ixT9 K) (pv 9) pe_int (fun _ _ => rfl)) pe_int (fun _ _ => rfl)) pe_int (nomark _))
        (pss_one (ps_set (i := 9) sc_spec.nd rfl (Or.inl rfl) (pe_tup (pa_cons (pe_tup (pa_cons pe_str (pa_cons (pe_tup (pa_cons pe_str (pa_cons (pv 2) pa_nil))) (pa_cons (pe_ix (ixT9 K) (pv 9) pe_int (fun _ _ => rfl)) pa_nil)))) (pa_cons (pe_tup (pa_cons pe_int (pa_cons pe_int pa_nil))) pa_nil))))) pss_nil)
      (pss_cons (ps_set (i := 13) sc_spec.nd rfl (Or.inl rfl) (pe_ifExp (pt_cmpR op_gt (pe_ix (ixT9 K) (pe_ix (ixT9 K) (pv 9) pe_int (fun _ _ => rfl)) pe_int (fun _ _ => rfl)) pe_int (nomark _)) pe_int (pe_un un_neg pe_int)))
      (pss_one (ps_ret (pe_tup (pa_cons (pe_tup (pa_cons pe_str (pa_cons (pe_ix (ixT9 K) (pv 9) pe_int (fun _ _ => rfl)) pa_nil))) (pa_cons (pe_tup (pa_cons (pe_op op_mul (pv 13) (pe_ix (ixT9 K) (pe_ix (ixT9 K) (pv 9) pe_int (fun _ _ => rfl)) pe_int (fun _ _ => rfl))) (pa_cons (pe_op op_mul (pv 13) (pe_ix (ixT9 K) (pe_ix (ixT9 K) (pv 9) pe_int (fun _ _ => rfl)) pe_int (fun _ _ => rfl))) pa_nil))) pa_nil)))))))))))))
      , ?_⟩
    have L1000 : ∀ {j : Nat}, j ≤ 1000 → j ≤ sizeLine := fun h => Nat.le_trans h thousand_line
    have l2 : 2 ≤ sizeLine := L1000 (by decide)
    have dn : ∀ {i j : Int}, i ≠ j → ¬ V.int i = V.int j := fun hj e => hj (V.int.inj e)
    match d, hd, h, ih with
    | 0, _, h, _ =>
      obtain ⟨c, p, m, n, M, r, cc, room, rfl, hP, hn, hM, ok, nmp, hr1, hc1, k⟩ := h
      refine ⟨_, rfl, c, p, n, 8, rfl, hP, by omega, by decide, by decide, fun v H1 o1 P1 hv => ?_⟩
      obtain ⟨i, hi, rfl⟩ := hv
      have hM1 := hM.keep (o1.imm hP.at_.choose_spec) (fun o e => o1 _ _ nmp e)
      exact ⟨_, rfl, rfl, _, rfl, ifT rfl (iteT ⟨_, rfl, _, rfl, _, rfl, _, rfl, c, p, m, n + 1, M, r, cc, rfl, P1, by omega, hM1, ok, nmp, hr1, hc1, Drawn.mk o1 k⟩)⟩
    | d + 1, hd, h, ih =>
      have hd0 : d = 0 := by omega
      subst hd0
      obtain ⟨c, p, m, n, M, r, cc, rfl, hP, hn, hM, ok, nmp, hr1, hc1, k⟩ := h
      refine ⟨_, rfl, c, p, n, 8, rfl, hP, by omega, by decide, by decide, fun v H1 o1 P1 hv => ?_⟩
      obtain ⟨i, hi, rfl⟩ := hv
      have hM1 := hM.keep (o1.imm hP.at_.choose_spec) (fun o e => o1 _ _ nmp e)
      refine ⟨_, rfl, rfl, _, rfl, ifF (dn (by decide)) ⟨_, rfl, rfl, _, rfl, ifF (dn (by decide)) (iteF ?_)⟩⟩
      -- kinds below 4
      refine ⟨_, rfl, _, _, rfl, rfl, _, rfl, ?_⟩
      by_cases h4 : i < 4
      · refine ifT (show (i : Int) < 4 by omega) ?_
        refine ⟨_, rfl, _, rfl, _, _, rfl, rfl, c, p, n + 1, _, rfl, P1, by omega, by decide, by decide, fun v H2 o2 P2 hv => ?_⟩
        obtain ⟨j, hj, rfl⟩ := hv
        have hj0 : j = 0 := by have : (j : Int) < 2 - 1 := hj; omega
        subst hj0
        have hM2 := hM1.keep (o2.imm P1.at_.choose_spec) (fun o e => o2 _ _ nmp e)
        refine ⟨_, _, rfl, rfl, ?_⟩
        dsimp only
        refine seq_keyG (fun σ' H' => ∃ inner : Str, σ' = [some (.ref p), some (.ref m), some (.str r), some (.str cc), some (.int 2), some (.int 1), some (.int i), some (.int 1), some (.str inner), none, none, none, none, none] ∧ Off p H2 H' ∧ Purse c p (n + 3) H' ∧ IsN M inner ∧ (i < 2 → inner = cc)) ?_ (fun key => ?_)
        · rintro σ' H3 ⟨inner, rfl, o3, P3, hin, hi2⟩
          have hM3 := hM2.keep (o3.imm P2.at_.choose_spec) (fun o e => o3 _ _ nmp e)
          refine ⟨_, rfl, _, rfl, _, rfl, _, rfl, _, rfl, _, rfl, _, _, rfl, rfl, c, p, m, n + 3, M, r, inner, 1, rfl, P3, by omega, hM3, ok, nmp, hr1, hin, fun v H4 o4 P4 hv => ?_⟩
          obtain ⟨x, a, b, hx, lx⟩ := hv
          have im4 := o4.imm P3.at_.choose_spec
          have hM4 := hM3.keep im4 (fun o e => o4 _ _ nmp e)
          have fin : ∀ (k' : Str) (v : V) (H5 : Hp) (y : Tr) (a' b' : Int), Off p H4 H5 → Purse c p (n + 9) H5 → IsSpec H5 v y a' b' → Lf M k' cc y a' b' → (i < 2 → inner = cc ∧ k' = r) → (¬ i < 2 → inner = k') → ∀ (v' : V) (H6 : Hp), Same H5 H6 → (∃ a2 b2, IsSpec H6 v' (joinT i x y) a2 b2) → Q v' H6 := fun k' v H5 y a' b' o5 P5 hy ly e1 e2 v' H6 s6 hv => by
            obtain ⟨a2, b2, h2⟩ := hv
            exact k _ _ (Off.trans o1 (Off.trans o2 (Off.trans o3 (Off.trans o4 (Off.trans o5 (Same.off s6)))))) ((P5.same s6).keep (by omega) (fun _ e => e) (fun _ e => e)) ⟨joinT i x y, a2, b2, h2, join_fit lx.fit ly.fit, pc_join lx ly e1 e2⟩
          have b3 : ∀ {z : Int}, z = 1 ∨ z = 2 → z.natAbs ≤ 3 := fun h => by omega
          by_cases h2 : i < 2
          · refine ⟨_, rfl, _, rfl, _, rfl, _, _, rfl, rfl, _, rfl, ifT (show (i : Int) < 2 by omega) ⟨_, rfl, _, rfl, _, rfl, _, rfl, _, _, rfl, rfl, _, rfl, _, _, rfl, rfl, c, p, m, n + 6, M, r, cc, _, rfl, P4, by omega, hM4, ok, nmp, hr1, hc1, fun v2 H5 o5 P5 hv => ?_⟩⟩
            obtain ⟨y, a', b', hy, ly⟩ := hv
            exact ⟨_, rfl, _, rfl, _, rfl, i, v, v2, x, y, a, b, a', b', rfl, h4, hx.imm (o5.imm P4.at_.choose_spec), hy, lx.ba, b3 lx.bb, ly.ba, b3 ly.bb, fin r v2 H5 y a' b' o5 P5 hy ly (fun _ => ⟨hi2 h2, rfl⟩) (fun h => absurd h2 h)⟩
          · refine ⟨_, rfl, _, rfl, _, rfl, _, _, rfl, rfl, _, rfl, ifF (show ¬ (i : Int) < 2 by omega) ⟨_, rfl, _, rfl, _, rfl, _, rfl, _, _, rfl, rfl, _, rfl, _, _, rfl, rfl, c, p, m, n + 6, M, inner, cc, _, rfl, P4, by omega, hM4, ok, nmp, hin, hc1, fun v2 H5 o5 P5 hv => ?_⟩⟩
            obtain ⟨y, a', b', hy, ly⟩ := hv
            exact ⟨_, rfl, _, rfl, _, rfl, i, v, v2, x, y, a, b, a', b', rfl, h4, hx.imm (o5.imm P4.at_.choose_spec), hy, lx.ba, b3 lx.bb, ly.ba, b3 ly.bb, fin inner v2 H5 y a' b' o5 P5 hy ly (fun h => absurd h h2) (fun _ => rfl)⟩
        · refine ⟨_, rfl, _, _, rfl, rfl, _, rfl, ?_⟩
          by_cases h2 : i < 2
          · exact ifT (show (i : Int) < 2 by omega) ⟨_, rfl, key _ _ ⟨cc, rfl, Off.refl, P2.keep (by omega) (fun _ e => e) (fun _ e => e), hc1, fun _ => rfl⟩⟩
          · obtain ⟨rvs, hm2, lrv, hent⟩ := hM2
            obtain ⟨t, ht1, ht2⟩ := hent 1 (by decide)
            refine ifF (show ¬ (i : Int) < 2 by omega) ⟨_, rfl, _, rfl, m, rvs, 1, .ref t, rfl, rfl, SqL.of hm2, atI_nat (j := 1) ht1, t, _, 1, .str M.n, rfl, rfl, SqT.of ht2, rfl, _, rfl, m, rvs, 1, .ref t, rfl, rfl, SqL.of hm2, atI_nat (j := 1) ht1, t, _, 2, .str M.p, rfl, rfl, SqT.of ht2, rfl, l2, fun L hL => ?_⟩
            have sL := Same.upd hL (o := .lst [.str M.n, .str M.p])
            have nLp : L ≠ p := fun e => by
              subst e
              obtain ⟨y, hy⟩ := P2.at_
              rw [hy] at hL
              cases hL
            refine ⟨c, p, L, n + 2, [.str M.n, .str M.p], rfl, P2.same sL, by omega, upd_same, nLp, fun e => (nomatch e), show 2 ≤ 100 by decide, fun v H3 o3 P3 hv => ?_⟩
            have oo := Off.trans (Same.off (p := p) sL) o3
            rcases List.mem_cons.mp hv with rfl | hv
            · exact key _ _ ⟨M.n, rfl, oo, P3, .inl rfl, fun h => absurd h h2⟩
            · rw [List.mem_singleton.mp hv]
              exact key _ _ ⟨M.p, rfl, oo, P3, .inr rfl, fun h => absurd h h2⟩
      · refine ifF (show ¬ (i : Int) < 4 by omega) ?_
        refine ⟨_, rfl, rfl, _, rfl, ?_⟩
        by_cases hi4 : i = 4
        · subst hi4
          refine ifT rfl ⟨_, rfl, _, rfl, _, rfl, _, rfl, _, rfl, _, rfl, _, _, rfl, rfl, c, p, m, n + 1, M, cc, r, 2, rfl, P1, by omega, hM1, ok, nmp, hc1, hr1, fun v H4 o4 P4 hv => ?_⟩
          obtain ⟨x, a, b, ⟨t, u, pr, rfl, ht, hu, hpr⟩, lx⟩ := hv
          refine ⟨_, rfl, t, _, 0, u, rfl, rfl, SqT.of ht, rfl, l2, fun t1 ht1 => ?_⟩
          have s1 := Same.upd ht1 (o := .tup [.str "turned", u])
          refine ⟨_, rfl, t, _, 1, .ref pr, rfl, rfl, SqT.of (s1 _ _ ht), rfl, l2, fun t2 ht2 => ?_⟩
          have s2 := Same.upd ht2 (o := .tup [.ref t1, .ref pr])
          have s12 := Same.trans s1 s2
          exact k _ _ (Off.trans o1 (Off.trans o4 (Same.off s12))) ((P4.same s12).keep (by omega) (fun _ e => e) (fun _ e => e)) ⟨.turned x, a, b, ⟨t2, .ref t1, pr, rfl, upd_same, ⟨t1, u, rfl, s2 _ _ upd_same, hu.imm (Same.imm s12)⟩, s12 _ _ hpr⟩, lx.fit, pc_turned lx⟩
        refine ifF (dn (by omega)) ?_
        refine seq_keyN (fun σ' H' => σ' = [some (.ref p), some (.ref m), some (.str r), some (.str cc), some (.int 2), some (.int 1), some (.int i), none, none, none, none, none, none, none] ∧ H1 = H' ∧ (i = 5 ∨ r = cc)) ?_ (fun key => ?_)
        rotate_left
        · refine ⟨_, rfl, _, _, rfl, rfl, _, rfl, ?_⟩
          by_cases h5 : i > 5
          · refine ifT (show (i : Int) > 5 by omega) ⟨_, rfl, _, rfl, rfl, _, rfl, ?_⟩
            by_cases hrc : r = cc
            · exact iteNS (congrArg V.str hrc) (key _ _ ⟨rfl, rfl, .inr hrc⟩)
            · refine ifNT (fun e => hrc (V.str.inj e)) ⟨_, rfl, _, rfl, _, rfl, _, rfl, c, p, m, n + 1, M, r, cc, rfl, P1, by omega, hM1, ok, nmp, hr1, hc1, fun v H4 o4 P4 hv => ?_⟩
              obtain ⟨x, a, b, hx, lx⟩ := hv
              exact k _ _ (Off.trans o1 o4) (P4.keep (by omega) (fun _ e => e) (fun _ e => e)) ⟨x, a, b, hx, lx.fit, pc_leaf lx⟩
          · exact ifF (show ¬ (i : Int) > 5 by omega) (iteF (key _ _ ⟨rfl, rfl, .inl (by omega)⟩))
        rintro σ' H' ⟨rfl, rfl, hor⟩
        refine ⟨_, rfl, _, rfl, _, rfl, _, rfl, _, rfl, _, rfl, _, _, rfl, rfl, c, p, m, n + 1, M, r, cc, 2, rfl, P1, by omega, hM1, ok, nmp, hr1, hc1, fun v H4 o4 P4 hv => ?_⟩
        obtain ⟨x, a, b, ⟨t, u, pr, rfl, ht, hu, hpr⟩, lx⟩ := hv
        refine ⟨_, rfl, rfl, _, rfl, ?_⟩
        by_cases hi5 : i = 5
        · subst hi5
          refine ifT rfl ⟨_, rfl, c, p, n + 4, 9, rfl, P4, by omega, by decide, by decide, fun v H5 o5 P5 hv => ?_⟩
          obtain ⟨j, hj, rfl⟩ := hv
          refine ⟨_, _, rfl, rfl, _, rfl, c, p, n + 5, 3, rfl, P5, by omega, by decide, by decide, fun v H6 o6 P6 hv => ?_⟩
          obtain ⟨j2, hj2, rfl⟩ := hv
          have i46 : Imm H4 H6 := Imm.trans (o5.imm P4.at_.choose_spec) (o6.imm P5.at_.choose_spec)
          have ht' := i46 _ _ rfl ht
          have hpr' := i46 _ _ rfl hpr
          have hb := lx.bb
          have hba := lx.ba
          refine ⟨_, _, rfl, rfl, _, _, rfl, _, rfl, _, rfl, _, rfl, t, _, 0, u, rfl, rfl, SqT.of ht', rfl, L1000 (show 4 ≤ 1000 by decide), fun t1 ht1 => ?_⟩
          have s1 := Same.upd ht1 (o := .tup [.str "scaled", .int ((j : Int) - 4), .int (1 + (j2 : Int)), u])
          refine ⟨_, rfl, _, rfl, t, _, 1, .ref pr, rfl, rfl, SqT.of (s1 _ _ ht'), rfl, pr, _, 0, .int a, rfl, rfl, SqT.of (s1 _ _ hpr'), rfl, _, _, rfl, rfl, .inl ⟨by omega, by omega⟩, _, rfl, _, rfl, t, _, 1, .ref pr, rfl, rfl, SqT.of (s1 _ _ ht'), rfl, pr, _, 1, .int b, rfl, rfl, SqT.of (s1 _ _ hpr'), rfl, _, _, rfl, rfl, .inl ⟨by omega, by omega⟩, l2, fun t2 ht2 => ⟨l2, fun t3 ht3 => ?_⟩⟩
          have s2 := Same.upd ht2 (o := .tup [.int (((j : Int) - 4) * a), .int ((1 + (j2 : Int)) * b)])
          have s3 := Same.upd ht3 (o := .tup [.ref t1, .ref t2])
          have s23 := Same.trans s2 s3
          have S := Same.trans s1 s23
          exact k _ _ (Off.trans o1 (Off.trans o4 (Off.trans o5 (Off.trans o6 (Same.off S))))) ((P6.same S).keep (by omega) (fun _ e => e) (fun _ e => e)) ⟨.scaled ((j : Int) - 4) (1 + (j2 : Int)) x, _, _, ⟨t3, .ref t1, t2, rfl, upd_same, ⟨t1, u, rfl, s23 _ _ upd_same, (hu.imm i46).imm (Same.imm S)⟩, s3 _ _ upd_same⟩, ⟨lx.fit, by omega, by omega⟩, pc_scaled lx (by omega) (by omega) (by omega)⟩
        have hrc : r = cc := hor.resolve_left hi5
        subst hrc
        refine ifF (dn (by omega)) ?_
        refine seq_keyN (fun σ' H' => ∃ (t' : Addr) (u' : V) (pr' : Addr) (x' : Tr) (a' b' : Int), σ' = [some (.ref p), some (.ref m), some (.str r), some (.str r), some (.int 2), some (.int 1), some (.int i), none, none, some (.ref t'), none, none, none, none] ∧ Same H4 H' ∧ H' t' = some (.tup [u', .ref pr']) ∧ IsTr H' u' x' ∧ H' pr' = some (.tup [.int a', .int b']) ∧ x'.fit ∧ Fm.Pc M.sys r r ((Tr.inverse x').fm M.ltr)) ?_ (fun key => ?_)
        · rintro σ' H5 ⟨t', u', pr', x', a', b', rfl, s5, ht', hu', hpr', fx, px⟩
          refine seq_key (fun σ' H' => ∃ sn : Int, σ' = [some (.ref p), some (.ref m), some (.str r), some (.str r), some (.int 2), some (.int 1), some (.int i), none, none, some (.ref t'), none, none, none, some (.int sn)] ∧ H5 = H' ∧ sn.natAbs ≤ 3) ?_ (fun key => ?_)
          · rintro σ' H' ⟨sn, rfl, rfl, lsn⟩
            refine ⟨_, rfl, t', _, 0, u', rfl, rfl, SqT.of ht', rfl, l2, fun t1 ht1 => ?_⟩
            have s1 := Same.upd ht1 (o := .tup [.str "inverse", u'])
            refine ⟨_, rfl, _, rfl, t', _, 1, .ref pr', rfl, rfl, SqT.of (s1 _ _ ht'), rfl, pr', _, 1, .int b', rfl, rfl, SqT.of (s1 _ _ hpr'), rfl, _, _, rfl, rfl, .inl ⟨by omega, by omega⟩, _, rfl, _, rfl, t', _, 1, .ref pr', rfl, rfl, SqT.of (s1 _ _ ht'), rfl, pr', _, 0, .int a', rfl, rfl, SqT.of (s1 _ _ hpr'), rfl, _, _, rfl, rfl, .inl ⟨by omega, by omega⟩, l2, fun t2 ht2 => ⟨l2, fun t3 ht3 => ?_⟩⟩
            have s2 := Same.upd ht2 (o := .tup [.int (sn * b'), .int (sn * a')])
            have s3 := Same.upd ht3 (o := .tup [.ref t1, .ref t2])
            have s23 := Same.trans s2 s3
            have S := Same.trans s1 s23
            have S' := Same.trans s5 S
            exact k _ _ (Off.trans o1 (Off.trans o4 (Same.off S'))) ((P4.same S').keep (by omega) (fun _ e => e) (fun _ e => e)) ⟨.inverse x', _, _, ⟨t3, .ref t1, t2, rfl, upd_same, ⟨t1, u', rfl, s23 _ _ upd_same, hu'.imm (Same.imm S)⟩, s3 _ _ upd_same⟩, fx, px⟩
          · refine ⟨_, rfl, t', _, 1, .ref pr', rfl, rfl, SqT.of ht', rfl, pr', _, 0, .int a', rfl, rfl, SqT.of hpr', rfl, _, _, rfl, rfl, _, rfl, ?_⟩
            by_cases ha : a' > 0
            · exact ifT ha (key _ _ ⟨1, rfl, rfl, by decide⟩)
            · exact ifF ha ⟨_, rfl, key _ _ ⟨-1, rfl, rfl, by decide⟩⟩
        · refine ⟨_, rfl, t, _, 1, .ref pr, rfl, rfl, SqT.of ht, rfl, pr, _, 0, .int a, rfl, rfl, SqT.of hpr, rfl, rfl, _, rfl, ?_⟩
          by_cases ha : a = 0
          · subst ha
            refine ifT rfl ⟨_, rfl, l2, fun t1 ht1 => ?_⟩
            have s1 := Same.upd ht1 (o := .tup [.str "eye", .str r])
            refine ⟨_, rfl, t, _, 0, u, rfl, rfl, SqT.of (s1 _ _ ht), rfl, L1000 (show 3 ≤ 1000 by decide), fun t2 ht2 => ⟨l2, fun t3 ht3 => ⟨l2, fun t4 ht4 => ?_⟩⟩⟩
            have s2 := Same.upd ht2 (o := .tup [.str "sum", .ref t1, u])
            have s3 := Same.upd ht3 (o := .tup [.int 1, .int 1])
            have s4 := Same.upd ht4 (o := .tup [.ref t2, .ref t3])
            have s34 := Same.trans s3 s4
            have S := Same.trans s1 (Same.trans s2 s34)
            exact key _ _ ⟨t4, .ref t2, t3, .sum (.eye r) x, 1, 1, rfl, S, upd_same, ⟨t2, .ref t1, u, rfl, s34 _ _ upd_same, ⟨t1, rfl, s34 _ _ (s2 _ _ upd_same)⟩, hu.imm (Same.imm S)⟩, s4 _ _ upd_same, ⟨trivial, lx.fit⟩, pc_inv0 (hr1.size ok) lx⟩
          · exact ifF (dn ha) (key _ _ ⟨t, u, pr, x, a, b, rfl, Same.refl _, ht, hu, hpr, lx.fit, pc_inv lx ha⟩)
end
end K9

/-! ## F51 -/
namespace K9
open PySem PySem.Spec PyProof.Rows L2
/-! The law's purse, letters, build. -/
def spPurse (K : PySem.W.Frag) : Sp := fun vs H Q _ => ∃ (a : Addr) (ns : List Int), vs = [.ref a] ∧ SqL K H a (ns.map V.int) ∧ ns.length ≤ 100 ∧ ∀ c p H', Same H H' → Purse c p 0 H' → Q (.ref p) H'
theorem sc_purse : FnScope ["_law_script", "_law_cells", "_law_cell"] ["_law_script"] (defScope (top 92)) := ⟨rfl, rfl, rfl, by decide +kernel, rfl, by decide +kernel, by decide +kernel⟩
def bigM : Int := 10 ^ (Int.toNat 60) * 10 ^ (Int.toNat 60)
theorem bigM_pos : 0 < bigM := by decide +kernel
theorem bigM_lt : bigM.natAbs < 2 ^ 400 := by decide +kernel
theorem cell_ok (x : Int) : 0 ≤ x % bigM ∧ (x % bigM).natAbs < 2 ^ 400 := by
  have h0 := Int.emod_nonneg x (Int.ne_of_gt bigM_pos)
  have h1 := Int.emod_lt_of_pos x bigM_pos
  exact ⟨h0, wide_le h0 (Int.le_of_lt h1) bigM_lt⟩
section
variable {w : World} {K : PySem.W.Frag} {mg : Str → Option Value} {base : Heap}
theorem cal_purse (T : Txt K mg) : Cal Pg w K mg base 1 "_law_purse" (spPurse K) [] := by
  refine cal_of T.d__law_purse sc_purse (fun _ _ _ _ _ _ us hl => match us, hl with | [_], _ => rfl) (fun vs H Q E h => ?_) (fun f cdv A outer s H vs Q E hr h => ?_)
  · obtain ⟨a, ns, rfl, _⟩ := h; rfl
  have mt := nofree T (x := "int") (by decide +kernel)
  refine ⟨_, pss_cons (ps_setLc (i := 1) (own := [("_law_cell", 2)]) (g := gName 2) (tt := tYes) (by rfl) sc_purse.nd rfl rfl (sw_true rfl rfl rfl (by decide +kernel)) (lst9 K (pv 0)) (blkOk_by (N := ["_law_script", "_law_cells", "_law_cell"]) (sc := defScope (top 92)) (by decide +kernel)) (fun _ _ _ _ _ => pg_name (i := 2) sc_purse.nd rfl (Or.inl rfl)) (fun _ _ _ _ _ => pts_nil)
      (fun _ _ _ _ _ => pe_op op_mod (pe_callTy call_int1 (by rfl) mt boot_int9 (pa_cons (pv 2) pa_nil)) (pe_op op_mulW (pe_op op_pow pe_int pe_int) (pe_op op_pow pe_int pe_int))))
    (pss_one (ps_ret (pe_lst (pa_cons (pe_ifExp (pt_truth (pv 1) (fun _ => rfl)) (pv 1) (pe_lst (pa_cons pe_int pa_nil))) (pa_cons pe_int (pa_cons pe_int pa_nil)))))), ?_⟩
  obtain ⟨a, ns, rfl, ha, hl, k⟩ := h
  have L1000 : ∀ {j : Nat}, j ≤ 1000 → j ≤ sizeLine := fun h => Nat.le_trans h thousand_line
  refine ⟨_, rfl, a, rfl, ⟨_, ha⟩, fun D hD => ?_⟩
  refine map_it (walk_list' (K := K) (a := a) (xs := ns.map V.int)) (fun j y _ => ∃ z, ns[j]? = some z ∧ y = .int (z % bigM)) (fun _ _ _ _ _ h => h) hD (fun H' s => SqL.ext ha s) (by rw [List.length_map]; exact L1000 (by omega)) (fun i x H' Q' hi hx m q => ?_) (fun ys H1 s1 hl1 hl2 hl3 => ?_)
  · rw [List.getElem?_map] at hx
    obtain ⟨z, hz, rfl⟩ := Option.map_eq_some_iff.mp hx
    exact ⟨_, rfl, .inl ⟨_, rfl, _, _, rfl, rfl, ⟨by decide, by decide, by decide⟩, _, _, rfl, rfl, ⟨by decide, by decide, by decide⟩, _, _, rfl, rfl, wide_mul (a := 200) (b := 200) (by decide +kernel) (by decide +kernel) (by decide) (by decide) (by decide), _, _, rfl, rfl, bigM_pos, q _ _ (Same.refl _) ⟨z, hz, rfl⟩⟩⟩
  · rw [List.length_map] at hl2
    have eD : ys = (ns.map fun z => z % bigM).map V.int := by
      refine List.ext_getElem? fun i => ?_
      by_cases hi : i < ns.length
      · have e : ys[i]? = some ys[i] := List.getElem?_eq_getElem (by omega)
        obtain ⟨z, hz, hy⟩ := hl3 i _ e
        rw [e, hy, List.getElem?_map, List.getElem?_map, hz]
        rfl
      · rw [List.getElem?_eq_none (by omega), List.getElem?_eq_none (by simp; omega)]
    rw [eD] at hl1
    have hc : ∀ x ∈ ns.map fun z => z % bigM, 0 ≤ x ∧ x.natAbs < 2 ^ 400 := fun x hx => by
      obtain ⟨z, _, rfl⟩ := List.mem_map.mp hx
      exact cell_ok z
    refine ⟨_, rfl, _, .inl ⟨_, SqL.of hl1, rfl⟩, ?_⟩
    cases hns : ns with
    | nil =>
      refine iteF ⟨L1000 (show 1 ≤ 1000 by decide), fun c hcn => ⟨L1000 (show 3 ≤ 1000 by decide), fun p hp => ?_⟩⟩
      have s2 := Same.upd hcn (o := .lst [.int 0])
      have s3 := Same.upd hp (o := .lst [.ref c, .int 0, .int 0])
      exact k c p _ (Same.trans s1 (Same.trans s2 s3)) ⟨[0], 0, 0, upd_same, s3 _ _ upd_same, by simp, by decide, fun x hx => by rw [List.mem_singleton.mp hx]; decide, Nat.le_refl _, by decide, by decide⟩
    | cons z l =>
      refine iteT ⟨_, rfl, L1000 (show 3 ≤ 1000 by decide), fun p hp => ?_⟩
      have s3 := Same.upd hp (o := .lst [.ref D, .int 0, .int 0])
      exact k D p _ (Same.trans s1 s3) ⟨ns.map fun z => z % bigM, 0, 0, upd_same, s3 _ _ hl1, by rw [hns]; simp, by simp; omega, hc, Nat.le_refl _, by decide, by decide⟩
/-- six letters in a list -/
def LetsAt (K : PySem.W.Frag) (H : Hp) (L : Addr) (f : Nat → Fm) : Prop := ∃ lvs, H L = some (.lst lvs) ∧ lvs.length = 6 ∧ ∀ k, k < 6 → ∃ v, lvs[k]? = some v ∧ IsF K H (f k) v
theorem LetsAt.keep {K : PySem.W.Frag} {H H' : Hp} {L : Addr} {f : Nat → Fm} (h : LetsAt K H L f) (i : Imm H H') (k : ∀ o, H L = some o → H' L = some o) : LetsAt K H' L f := by
  obtain ⟨lvs, h1, h2, h3⟩ := h
  exact ⟨lvs, k _ h1, h2, fun j hj => let ⟨v, a, b⟩ := h3 j hj; ⟨v, a, b.imm i⟩⟩
def spLetters (K : PySem.W.Frag) : Sp := fun vs H Q _ => ∃ (m : Addr) (M : Mn), vs = [.ref m] ∧ MenuAt H m M ∧ M.Ok ∧ ∀ L H', Same H H' → H L = none → LetsAt K H' L (fun k => .letter (M.ltr k)) → Q (.ref L) H'
theorem sc_letters : FnScope ["_law_menu_here", "_law_one"] ["_law_menu_here"] (defScope (top 100)) := ⟨rfl, rfl, rfl, by decide +kernel, rfl, by decide +kernel, by decide +kernel⟩
theorem cal_letters (T : Txt K mg) : Cal Pg w K mg base 14 "_law_letters" (spLetters K) [] := by
  refine cal_of T.d__law_letters sc_letters (fun _ _ _ _ _ _ us hl => match us, hl with | [_], _ => rfl) (fun vs H Q E h => ?_) (fun f cdv A outer s H vs Q E hr h => ?_)
  · obtain ⟨m, M, rfl, _⟩ := h; rfl
  obtain ⟨lf, lfd, lmk, lg, lF, lkb⟩ := (mak_Letter (w := w) (base := base) T).ex
  refine ⟨_, pss_one (ps_ret (pe_lc (own := [("_law_one", 1)]) (g := gName 1) (tt := tYes) rfl sc_letters.nd (lst9 K (pe_slice (sll9 K) (pv 0) po_none (po_some pe_int))) (blkOk_by (N := ["_law_menu_here", "_law_one"]) (sc := defScope (top 100)) (by decide +kernel)) (fun _ _ _ _ _ => pg_name (i := 1) sc_letters.nd rfl (Or.inl rfl)) (fun _ _ _ _ _ => pts_nil)
      (fun _ _ _ _ _ => pe_makeK lmk lF hr (by rfl) lg lkb pass0 (pa_cons (pe_ix (ixT9 K) (pv 1) pe_int (fun _ _ => rfl)) (pa_cons (pe_ix (ixT9 K) (pv 1) pe_int (fun _ _ => rfl)) (pa_cons (pe_ix (ixT9 K) (pv 1) pe_int (fun _ _ => rfl)) pa_nil)))
        (pk_cons (pe_ix (ixT9 K) (pv 1) pe_int (fun _ _ => rfl)) (pk_cons (pe_mk (mak_ratio2 T) hr (pa_cons (pe_ix (ixT9 K) (pv 1) pe_int (fun _ _ => rfl)) (pa_cons (pe_ix (ixT9 K) (pv 1) pe_int (fun _ _ => rfl)) pa_nil))) pk_nil))))), ?_⟩
  obtain ⟨m, M, rfl, hM, ok, k⟩ := h
  have L1000 : ∀ {j : Nat}, j ≤ 1000 → j ≤ sizeLine := fun h => Nat.le_trans h thousand_line
  obtain ⟨rvs, hm, lrv, hent⟩ := hM
  refine ⟨_, rfl, 6, rfl, m, rvs, rfl, SqL.of hm, fun p hp => ⟨p, rfl, ⟨_, SqL.of upd_same⟩, fun D hD => ?_⟩⟩
  have s1 := Same.upd hp (o := .lst (cutV rvs none (some 6)))
  have hD0 : H D = none := Same.free s1 hD
  have ecut : cutV rvs none (some 6) = rvs.take 6 := by
    unfold cutV
    rw [HT.sIx_none, show HT.sIx rvs.length rvs.length (some 6) = min 6 rvs.length from HT.sIx_nat _ _ 6, lrv]
    rfl
  have lcut : (cutV rvs none (some 6)).length = 6 := by rw [ecut, List.length_take, lrv]; decide
  refine map_it (walk_list' (K := K) (a := p) (xs := cutV rvs none (some 6))) (fun j y H' => IsL K H' y (M.ltr j)) (fun j y H1 H2 im h => h.imm im) hD (fun H' s => SqL.of (s _ _ upd_same)) (by rw [lcut]; exact L1000 (by decide)) (fun i x H' Q' hi hx mm q => ?_) (fun ys H1 s2 hl1 hl2 hl3 => ?_)
  · rw [lcut] at hi
    obtain ⟨t, ht1, ht⟩ := hent i hi
    rw [ecut, List.getElem?_take, if_pos hi, ht1] at hx
    cases hx
    have sH := Same.trans s1 mm.same
    have ht2 := sH _ _ ht
    refine ⟨_, rfl, t, _, 0, .str (M.lab i), rfl, rfl, SqT.of ht2, rfl, _, rfl, t, _, 1, .str (M.row i), rfl, rfl, SqT.of ht2, rfl, _, rfl, t, _, 2, .str (M.col i), rfl, rfl, SqT.of ht2, rfl, _, rfl, t, _, 3, .str (Mn.sym i), rfl, rfl, SqT.of ht2, rfl, _, rfl, t, _, 4, .int (M.num i), rfl, rfl, SqT.of ht2, rfl, _, rfl, t, _, 5, .int (Mn.den i), rfl, rfl, SqT.of ht2, rfl, fun rx rdx hrx hrd hrne => ⟨rx, rdx, M.num i, Mn.den i, rfl, ?_, ?_, upd_same, fun H2 a2 => ⟨rfl, ?_⟩⟩⟩
    · unfold Mn.den; split <;> decide
    · unfold Mn.den; split <;> decide
    · have s3 : Same H' H2 := At1.same hrx hrd a2
      have hR : IsR K H2 (.ref rx) (M.ltr i).about := ⟨rx, rdx, rfl, a2.at_⟩
      refine ⟨rfl, rfl, fun x dx hx hdx ne => ?_⟩
      have s4 := new_same (K := K) (C := He.ga K "Letter") hx hdx
      exact ⟨x, dx, H2, M.ltr i, .ref rx, rfl, s4, hx, upd_same, .inr hR, ok.ltr hi, fun H3 o3 hL => ⟨rfl, q _ _ (Same.trans s3 (same_of_off s4 hx o3)) hL⟩⟩
  · rw [lcut] at hl2
    refine k D H1 (Same.trans s1 s2) hD0 ⟨ys, hl1, hl2, fun j hj => ?_⟩
    have e : ys[j]? = some ys[j] := List.getElem?_eq_getElem (by omega)
    exact ⟨_, e, hl3 j _ e⟩
/-! ### build -/
def spBuild (K : PySem.W.Frag) (d : Nat) : Sp := fun vs H Q _ => ∃ (v : V) (L : Addr) (x : Tr) (f : Nat → Ltr) (S : Sys), vs = [v, .ref L] ∧ IsTr H v x ∧ x.dep ≤ d ∧ x.fit ∧ LetsAt K H L (fun k => .letter (f k)) ∧ (x.fm f).Ok S ∧ Pure (fun v' H' => IsF K H' (x.fm f) v') H Q
theorem rd_pF {K : PySem.W.Frag} {H : Hp} {f : Fm} {v : V} {sp : Sp} {Q : VK} (h : IsF K H f v) (q : sp [v] H Q E0) : ∃ a C dx fs, v = .ref a ∧ H a = some (.ins C dx fs) ∧ FC K C ∧ sp [.ref a] H Q E0 := by
  obtain ⟨ps, n, _⟩ := h.node
  exact rd_node n q
theorem rd_mF {K : PySem.W.Frag} {H : Hp} {f : Fm} {v : V} {sp : Sp} {Q : VK} (h : IsF K H f v) (q : sp [v] H Q E0) : ∃ a C dx fs, v = .ref a ∧ H a = some (.ins C dx fs) ∧ FC K C ∧ fs.lookup ("inverse" : Str) = none ∧ sp [.ref a] H Q E0 := by
  obtain ⟨ps, ⟨a, lv, ls, rfl, ⟨dx, fs, rv, cv, pt, st, core, o⟩, _⟩, _⟩ := h.node
  exact ⟨a, _, dx, fs, rfl, o.at_, fc_of K f, o.no.2.1, q⟩
theorem rd_bF {K : PySem.W.Frag} {H : Hp} {f g : Fm} {v u : V} {nm : String} {sp : Sp} {Q : VK} (h : IsF K H f v) (h2 : IsF K H g u) (q : sp [v, u] H Q E0) : rOwn K nm (FC K) (FC K) sp v u H Q := by
  obtain ⟨ps, ⟨a, lv, ls, rfl, ⟨dx, fs, rv, cv, pt, st, core, o⟩, _⟩, _⟩ := h.node
  obtain ⟨ps2, ⟨b, lv2, ls2, rfl, ⟨dx2, fs2, rv2, cv2, pt2, st2, core2, o2⟩, _⟩, _⟩ := h2.node
  exact ⟨a, b, _, _, dx, dx2, fs, fs2, rfl, rfl, o.at_, o2.at_, fc_of K f, fc_of K g, q⟩
abbrev nBuild : List Str := ["_law_spec_here", "_law_letters_here", "_law_kind", "_law_one", "_law_two"]
theorem sc_build : FnScope nBuild ["_law_spec_here", "_law_letters_here"] (defScope (top 101)) := ⟨rfl, rfl, rfl, by decide +kernel, rfl, by decide +kernel, by decide +kernel⟩
theorem Tr.dep_pos (x : Tr) : 0 < x.dep := by cases x <;> simp only [Tr.dep] <;> omega
theorem cal_build (T : Txt K mg) : ∀ d, Cal Pg w K mg base (15 + d) "_law_build" (spBuild K d) []
  | 0 => by
    refine cal_of (k := 14) T.d__law_build sc_build (fun _ _ _ _ _ _ us hl => match us, hl with | [_, _], _ => rfl) (fun vs H Q E h => ?_) (fun f cdv A outer s H vs Q E hr h => ?_)
    · obtain ⟨v, L, x, f, S, rfl, _⟩ := h; rfl
    · obtain ⟨v, L, x, f, S, rfl, _, hd, _⟩ := h
      have := x.dep_pos
      omega
  | d + 1 => by
    have ih := cal_build T d
    refine cal_of (k := 15 + d) T.d__law_build sc_build (fun _ _ _ _ _ _ us hl => match us, hl with | [_, _], _ => rfl) (fun vs H Q E h => ?_) (fun f cdv A outer s H vs Q E hr h => ?_)
    · obtain ⟨v, L, x, f, S, rfl, _⟩ := h; rfl
    have hr15 : Room 15 (A.deeper (envOfC "_law_build" (defScope (top 101)) s.heap.objs.size f cdv)) := hr.mono (by omega)
    refine ⟨_, pss_cons (ps_set (i := 2) sc_build.nd rfl (Or.inl rfl) (pe_ix (ixT9 K) (pv 0) pe_int (fun _ _ => rfl)))
      (pss_cons (ps_if (pt_cmpR op_eq (pv 2) pe_str (nomark _)) (pss_one (ps_ret (pe_ix (ixL9 K) (pv 1) (pe_ix (ixT9 K) (pv 0) pe_int (fun _ _ => rfl)) (fun _ _ => rfl)))) pss_nil)
      (pss_cons (ps_if (pt_cmpR op_in_seq (pv 2) (pe_tup (pa_cons pe_str (pa_cons pe_str pa_nil))) rfl) (pss_one (ps_ret (pe_ifExp (pt_cmpR op_eq (pv 2) pe_str (nomark _)) (pe_mk (mak_Eye T) hr15 (pa_cons (pe_ix (ixT9 K) (pv 0) pe_int (fun _ _ => rfl)) pa_nil)) (pe_mk (mak_Zero T) hr15 (pa_cons (pe_ix (ixT9 K) (pv 0) pe_int (fun _ _ => rfl)) (pa_cons (pe_ix (ixT9 K) (pv 0) pe_int (fun _ _ => rfl)) pa_nil)))))) pss_nil)
      (pss_cons (ps_set (i := 3) sc_build.nd rfl (Or.inl rfl) (pe_c ih hr (pa_cons (pe_ifExp (pt_cmpR op_eq (pv 2) pe_str (nomark _)) (pe_ix (ixT9 K) (pv 0) pe_int (fun _ _ => rfl)) (pe_ix (ixT9 K) (pv 0) pe_int (fun _ _ => rfl))) (pa_cons (pv 1) pa_nil)) (Nat.le_refl _)))
      (pss_cons (ps_if (pt_cmpR op_eq (pv 2) pe_str (nomark _)) (pss_one (ps_ret (pe_mk (mak_Scaled T) hr15 (pa_cons (pe_mk (mak_ratio2 T) hr15 (pa_cons (pe_ix (ixT9 K) (pv 0) pe_int (fun _ _ => rfl)) (pa_cons (pe_ix (ixT9 K) (pv 0) pe_int (fun _ _ => rfl)) pa_nil))) (pa_cons (pv 3) pa_nil))))) pss_nil)
      (pss_cons (ps_if (pt_cmpR op_in_seq (pv 2) (pe_tup (pa_cons pe_str (pa_cons pe_str pa_nil))) rfl) (pss_one (ps_ret (pe_ifExp (pt_cmpR op_eq (pv 2) pe_str (nomark _)) (pe_prp (fm_tra T) hr15 (pv 3)) (pe_mtP0 (fm_inv T) hr15 (pv 3))))) pss_nil)
      (pss_cons (ps_set (i := 4) sc_build.nd rfl (Or.inl rfl) (pe_c ih hr (pa_cons (pe_ix (ixT9 K) (pv 0) pe_int (fun _ _ => rfl)) (pa_cons (pv 1) pa_nil)) (Nat.le_refl _)))
      (pss_cons (ps_if (pt_cmpR op_eq (pv 2) pe_str (nomark _)) (pss_one (ps_ret (pe_op (op_own (fm_add T) (fm_add T) (fun C D hC hD => (T.fcBin C D hC hD).1) hr15) (pv 3) (pv 4)))) pss_nil)
      (pss_one (ps_ret (pe_ifExp (pt_cmpR op_eq (pv 2) pe_str (nomark _)) (pe_op (op_own (fm_mul T) (fm_mul T) (fun C D hC hD => (T.fcBin C D hC hD).2.2) hr15) (pv 3) (pv 4)) (pe_op (op_own (fm_sub T) (fm_sub T) (fun C D hC hD => (T.fcBin C D hC hD).2.1) hr15) (pv 3) (pv 4))))))))))))
      , ?_⟩
    obtain ⟨v, L, x, f, S, rfl, hx, hdp, hf, hL, ok, k⟩ := h
    have l2 : 2 ≤ sizeLine := Nat.le_trans (show 2 ≤ 1000 by decide) thousand_line
    cases x with
    | letter i =>
      obtain ⟨t, rfl, ht⟩ := hx
      obtain ⟨lvs, hl1, hl2, hl3⟩ := hL
      obtain ⟨u, hu, hF⟩ := hl3 i hf
      exact ⟨_, rfl, t, _, 0, .str "letter", rfl, rfl, SqT.of ht, rfl, _, rfl, rfl, _, rfl, ifT rfl ⟨_, rfl, _, rfl, t, _, 1, .int i, rfl, rfl, SqT.of ht, rfl, L, lvs, i, u, rfl, rfl, SqL.of hl1, atI_nat hu, k u H (Same.refl _) hF⟩⟩
    | eye z =>
      obtain ⟨t, rfl, ht⟩ := hx
      refine ⟨_, rfl, t, _, 0, .str "eye", rfl, rfl, SqT.of ht, rfl, _, rfl, rfl, _, rfl, ifF (fun e => absurd (V.str.inj e) (by decide +kernel)) ?_⟩
      refine ⟨_, rfl, l2, fun tq htq => ⟨tq, _, rfl, .inr (SqT.of upd_same), rfl, rfl, _, rfl, ?_⟩⟩
      rw [show inV (V.str (Str.ofString "eye")) [V.str (Str.ofString "eye"), V.str (Str.ofString "zero")] = true by decide +kernel]
      have sq := Same.upd htq (o := .tup [.str "eye", .str "zero"])
      have ht1 := sq _ _ ht
      have hz := ok.1.all z List.mem_cons_self
      exact iteT ⟨_, rfl, rfl, _, rfl, ifT rfl ⟨_, rfl, t, _, 1, .str z, rfl, rfl, SqT.of ht1, rfl, mk_ctor (Q := Q) (f := .eye [z]) (A := AEye K) ⟨_, _, S, rfl, rfl, .inl ⟨z, rfl, rfl, hz⟩, ok⟩ fun v' H' s' hF => k v' H' (Same.trans sq s') hF⟩⟩
    | zero z y =>
      obtain ⟨t, rfl, ht⟩ := hx
      refine ⟨_, rfl, t, _, 0, .str "zero", rfl, rfl, SqT.of ht, rfl, _, rfl, rfl, _, rfl, ifF (fun e => absurd (V.str.inj e) (by decide +kernel)) ?_⟩
      refine ⟨_, rfl, l2, fun tq htq => ⟨tq, _, rfl, .inr (SqT.of upd_same), rfl, rfl, _, rfl, ?_⟩⟩
      rw [show inV (V.str (Str.ofString "zero")) [V.str (Str.ofString "eye"), V.str (Str.ofString "zero")] = true by decide +kernel]
      have sq := Same.upd htq (o := .tup [.str "eye", .str "zero"])
      have ht1 := sq _ _ ht
      have hz := ok.1.all z List.mem_cons_self
      have hy := ok.2.1.all y List.mem_cons_self
      exact iteT ⟨_, rfl, rfl, _, rfl, ifF (fun e => absurd (V.str.inj e) (by decide +kernel)) ⟨_, rfl, t, _, 1, .str z, rfl, rfl, SqT.of ht1, rfl, _, rfl, t, _, 2, .str y, rfl, rfl, SqT.of ht1, rfl, mk_ctor (Q := Q) (f := .zero [z] [y]) (A := AZero K) ⟨_, _, _, _, S, rfl, rfl, .inl ⟨z, rfl, rfl, hz⟩, .inl ⟨y, rfl, rfl, hy⟩, ok⟩ fun v' H' s' hF => k v' H' (Same.trans sq s') hF⟩⟩
    | scaled p q x =>
      obtain ⟨t, u, rfl, ht, hu⟩ := hx
      refine ⟨_, rfl, t, _, 0, .str "scaled", rfl, rfl, SqT.of ht, rfl, _, rfl, rfl, _, rfl, ifF (fun e => absurd (V.str.inj e) (by decide +kernel)) ?_⟩
      refine ⟨_, rfl, l2, fun tq htq => ⟨tq, _, rfl, .inr (SqT.of upd_same), rfl, rfl, _, rfl, ?_⟩⟩
      rw [show inV (V.str (Str.ofString "scaled")) [V.str (Str.ofString "eye"), V.str (Str.ofString "zero")] = false by decide +kernel]
      have sq := Same.upd htq (o := .tup [.str "eye", .str "zero"])
      have ht1 := sq _ _ ht
      refine iteF ⟨_, rfl, rfl, _, rfl, ifT rfl ⟨_, rfl, t, _, 3, u, rfl, rfl, SqT.of ht1, rfl, _, rfl, u, L, x, f, S, rfl, hu.imm (Same.imm sq), by simp only [Tr.dep] at hdp; omega, hf.1, hL.keep (Same.imm sq) (fun o e => sq _ _ e), ok.1, fun v1 H1 s1 hv1 => ?_⟩⟩
      have s01 := Same.trans sq s1
      have ht2 := s1 _ _ ht1
      refine ⟨_, rfl, rfl, _, rfl, ifT rfl ⟨_, rfl, t, _, 1, .int p, rfl, rfl, SqT.of ht2, rfl, _, rfl, t, _, 2, .int q, rfl, rfl, SqT.of ht2, rfl, fun rx rdx hrx hrd hrne => ⟨rx, rdx, p, q, rfl, hf.2.1, Nat.lt_of_lt_of_le hf.2.2 (Nat.pow_le_pow_right (show 0 < 2 by decide) (show 8 ≤ 9000 by decide)), upd_same, fun H2 a2 => ⟨rfl, ?_⟩⟩⟩⟩
      have s3 : Same H1 H2 := At1.same hrx hrd a2
      exact ⟨_, rfl, mk_ctor (Q := Q) (f := .sca (Rat.divInt p q) (x.fm f)) (A := ASca K) ⟨_, v1, _, _, S, rfl, rfl, .inr ⟨rx, rdx, rfl, a2.at_⟩, hv1.imm (Same.imm s3), ok⟩ fun v' H' s' hF => k v' H' (Same.trans s01 (Same.trans s3 s')) hF⟩
    | turned x =>
      obtain ⟨t, u, rfl, ht, hu⟩ := hx
      refine ⟨_, rfl, t, _, 0, .str "turned", rfl, rfl, SqT.of ht, rfl, _, rfl, rfl, _, rfl, ifF (fun e => absurd (V.str.inj e) (by decide +kernel)) ?_⟩
      refine ⟨_, rfl, l2, fun tq htq => ⟨tq, _, rfl, .inr (SqT.of upd_same), rfl, rfl, _, rfl, ?_⟩⟩
      rw [show inV (V.str (Str.ofString "turned")) [V.str (Str.ofString "eye"), V.str (Str.ofString "zero")] = false by decide +kernel]
      have sq := Same.upd htq (o := .tup [.str "eye", .str "zero"])
      have ht1 := sq _ _ ht
      refine iteF ⟨_, rfl, rfl, _, rfl, ifF (fun e => absurd (V.str.inj e) (by decide +kernel)) ⟨_, rfl, t, _, 1, u, rfl, rfl, SqT.of ht1, rfl, _, rfl, u, L, x, f, S, rfl, hu.imm (Same.imm sq), by simp only [Tr.dep] at hdp; omega, hf, hL.keep (Same.imm sq) (fun o e => sq _ _ e), ok.1, fun v1 H1 s1 hv1 => ?_⟩⟩
      have s01 := Same.trans sq s1
      have ht2 := s1 _ _ ht1
      refine ⟨_, rfl, rfl, _, rfl, ifF (fun e => absurd (V.str.inj e) (by decide +kernel)) ?_⟩
      refine ⟨_, rfl, l2, fun tr htr => ⟨tr, _, rfl, .inr (SqT.of upd_same), rfl, rfl, _, rfl, ?_⟩⟩
      rw [show inV (V.str (Str.ofString "turned")) [V.str (Str.ofString "turned"), V.str (Str.ofString "inverse")] = true by decide +kernel]
      have sr := Same.upd htr (o := .tup [.str "turned", .str "inverse"])
      have s02 := Same.trans s01 sr
      exact iteT ⟨_, rfl, rfl, _, rfl, ifT rfl ⟨_, rfl, rd_pF (hv1.imm (Same.imm sr)) ⟨v1, x.fm f, S, rfl, hv1.imm (Same.imm sr), ok, fun v' H' s' hF => k v' H' (Same.trans s02 s') hF⟩⟩⟩
    | inverse x =>
      obtain ⟨t, u, rfl, ht, hu⟩ := hx
      refine ⟨_, rfl, t, _, 0, .str "inverse", rfl, rfl, SqT.of ht, rfl, _, rfl, rfl, _, rfl, ifF (fun e => absurd (V.str.inj e) (by decide +kernel)) ?_⟩
      refine ⟨_, rfl, l2, fun tq htq => ⟨tq, _, rfl, .inr (SqT.of upd_same), rfl, rfl, _, rfl, ?_⟩⟩
      rw [show inV (V.str (Str.ofString "inverse")) [V.str (Str.ofString "eye"), V.str (Str.ofString "zero")] = false by decide +kernel]
      have sq := Same.upd htq (o := .tup [.str "eye", .str "zero"])
      have ht1 := sq _ _ ht
      refine iteF ⟨_, rfl, rfl, _, rfl, ifF (fun e => absurd (V.str.inj e) (by decide +kernel)) ⟨_, rfl, t, _, 1, u, rfl, rfl, SqT.of ht1, rfl, _, rfl, u, L, x, f, S, rfl, hu.imm (Same.imm sq), by simp only [Tr.dep] at hdp; omega, hf, hL.keep (Same.imm sq) (fun o e => sq _ _ e), ok.1, fun v1 H1 s1 hv1 => ?_⟩⟩
      have s01 := Same.trans sq s1
      have ht2 := s1 _ _ ht1
      refine ⟨_, rfl, rfl, _, rfl, ifF (fun e => absurd (V.str.inj e) (by decide +kernel)) ?_⟩
      refine ⟨_, rfl, l2, fun tr htr => ⟨tr, _, rfl, .inr (SqT.of upd_same), rfl, rfl, _, rfl, ?_⟩⟩
      rw [show inV (V.str (Str.ofString "inverse")) [V.str (Str.ofString "turned"), V.str (Str.ofString "inverse")] = true by decide +kernel]
      have sr := Same.upd htr (o := .tup [.str "turned", .str "inverse"])
      have s02 := Same.trans s01 sr
      exact iteT ⟨_, rfl, rfl, _, rfl, ifF (fun e => absurd (V.str.inj e) (by decide +kernel)) ⟨_, rfl, rd_mF (hv1.imm (Same.imm sr)) ⟨v1, x.fm f, S, rfl, hv1.imm (Same.imm sr), ok, fun v' H' s' hF => k v' H' (Same.trans s02 s') hF⟩⟩⟩
    | sum x y =>
      obtain ⟨t, u, z, rfl, ht, hu, hz⟩ := hx
      refine ⟨_, rfl, t, _, 0, .str "sum", rfl, rfl, SqT.of ht, rfl, _, rfl, rfl, _, rfl, ifF (fun e => absurd (V.str.inj e) (by decide +kernel)) ?_⟩
      refine ⟨_, rfl, l2, fun tq htq => ⟨tq, _, rfl, .inr (SqT.of upd_same), rfl, rfl, _, rfl, ?_⟩⟩
      rw [show inV (V.str (Str.ofString "sum")) [V.str (Str.ofString "eye"), V.str (Str.ofString "zero")] = false by decide +kernel]
      have sq := Same.upd htq (o := .tup [.str "eye", .str "zero"])
      have ht1 := sq _ _ ht
      refine iteF ⟨_, rfl, rfl, _, rfl, ifF (fun e => absurd (V.str.inj e) (by decide +kernel)) ⟨_, rfl, t, _, 1, u, rfl, rfl, SqT.of ht1, rfl, _, rfl, u, L, x, f, S, rfl, hu.imm (Same.imm sq), by simp only [Tr.dep] at hdp; omega, hf.1, hL.keep (Same.imm sq) (fun o e => sq _ _ e), ok.1, fun v1 H1 s1 hv1 => ?_⟩⟩
      have s01 := Same.trans sq s1
      have ht2 := s1 _ _ ht1
      refine ⟨_, rfl, rfl, _, rfl, ifF (fun e => absurd (V.str.inj e) (by decide +kernel)) ?_⟩
      refine ⟨_, rfl, l2, fun tr htr => ⟨tr, _, rfl, .inr (SqT.of upd_same), rfl, rfl, _, rfl, ?_⟩⟩
      rw [show inV (V.str (Str.ofString "sum")) [V.str (Str.ofString "turned"), V.str (Str.ofString "inverse")] = false by decide +kernel]
      have sr := Same.upd htr (o := .tup [.str "turned", .str "inverse"])
      have s02 := Same.trans s01 sr
      have ht3 := sr _ _ ht2
      refine iteF ⟨_, rfl, t, _, 2, z, rfl, rfl, SqT.of ht3, rfl, _, rfl, z, L, y, f, S, rfl, hz.imm (Same.imm s02), by simp only [Tr.dep] at hdp; omega, hf.2, hL.keep (Same.imm s02) (fun o e => s02 _ _ e), ok.2.1, fun v2 H2 s2 hv2 => ?_⟩
      have s03 := Same.trans s02 s2
      have hv1' := hv1.imm (Same.imm (Same.trans sr s2))
      exact ⟨_, rfl, rfl, _, rfl, ifT rfl ⟨_, rfl, _, rfl, rd_bF hv1' hv2 ⟨v1, v2, _, _, S, rfl, hv1', hv2, ok, fun v' H' s' hF => k v' H' (Same.trans s03 s') hF⟩⟩⟩
    | less x y =>
      obtain ⟨t, u, z, rfl, ht, hu, hz⟩ := hx
      refine ⟨_, rfl, t, _, 0, .str "less", rfl, rfl, SqT.of ht, rfl, _, rfl, rfl, _, rfl, ifF (fun e => absurd (V.str.inj e) (by decide +kernel)) ?_⟩
      refine ⟨_, rfl, l2, fun tq htq => ⟨tq, _, rfl, .inr (SqT.of upd_same), rfl, rfl, _, rfl, ?_⟩⟩
      rw [show inV (V.str (Str.ofString "less")) [V.str (Str.ofString "eye"), V.str (Str.ofString "zero")] = false by decide +kernel]
      have sq := Same.upd htq (o := .tup [.str "eye", .str "zero"])
      have ht1 := sq _ _ ht
      refine iteF ⟨_, rfl, rfl, _, rfl, ifF (fun e => absurd (V.str.inj e) (by decide +kernel)) ⟨_, rfl, t, _, 1, u, rfl, rfl, SqT.of ht1, rfl, _, rfl, u, L, x, f, S, rfl, hu.imm (Same.imm sq), by simp only [Tr.dep] at hdp; omega, hf.1, hL.keep (Same.imm sq) (fun o e => sq _ _ e), ok.1, fun v1 H1 s1 hv1 => ?_⟩⟩
      have s01 := Same.trans sq s1
      have ht2 := s1 _ _ ht1
      refine ⟨_, rfl, rfl, _, rfl, ifF (fun e => absurd (V.str.inj e) (by decide +kernel)) ?_⟩
      refine ⟨_, rfl, l2, fun tr htr => ⟨tr, _, rfl, .inr (SqT.of upd_same), rfl, rfl, _, rfl, ?_⟩⟩
      rw [show inV (V.str (Str.ofString "less")) [V.str (Str.ofString "turned"), V.str (Str.ofString "inverse")] = false by decide +kernel]
      have sr := Same.upd htr (o := .tup [.str "turned", .str "inverse"])
      have s02 := Same.trans s01 sr
      have ht3 := sr _ _ ht2
      refine iteF ⟨_, rfl, t, _, 2, z, rfl, rfl, SqT.of ht3, rfl, _, rfl, z, L, y, f, S, rfl, hz.imm (Same.imm s02), by simp only [Tr.dep] at hdp; omega, hf.2, hL.keep (Same.imm s02) (fun o e => s02 _ _ e), ok.2.1, fun v2 H2 s2 hv2 => ?_⟩
      have s03 := Same.trans s02 s2
      have hv1' := hv1.imm (Same.imm (Same.trans sr s2))
      exact ⟨_, rfl, rfl, _, rfl, ifF (fun e => absurd (V.str.inj e) (by decide +kernel)) ⟨_, rfl, rfl, _, rfl, ifF (fun e => absurd (V.str.inj e) (by decide +kernel)) ⟨_, rfl, _, rfl, rd_bF hv1' hv2 ⟨v1, v2, _, _, S, rfl, hv1', hv2, ok, fun v' H' s' hF => k v' H' (Same.trans s03 s') hF⟩⟩⟩⟩
    | times x y =>
      obtain ⟨t, u, z, rfl, ht, hu, hz⟩ := hx
      refine ⟨_, rfl, t, _, 0, .str "times", rfl, rfl, SqT.of ht, rfl, _, rfl, rfl, _, rfl, ifF (fun e => absurd (V.str.inj e) (by decide +kernel)) ?_⟩
      refine ⟨_, rfl, l2, fun tq htq => ⟨tq, _, rfl, .inr (SqT.of upd_same), rfl, rfl, _, rfl, ?_⟩⟩
      rw [show inV (V.str (Str.ofString "times")) [V.str (Str.ofString "eye"), V.str (Str.ofString "zero")] = false by decide +kernel]
      have sq := Same.upd htq (o := .tup [.str "eye", .str "zero"])
      have ht1 := sq _ _ ht
      refine iteF ⟨_, rfl, rfl, _, rfl, ifF (fun e => absurd (V.str.inj e) (by decide +kernel)) ⟨_, rfl, t, _, 1, u, rfl, rfl, SqT.of ht1, rfl, _, rfl, u, L, x, f, S, rfl, hu.imm (Same.imm sq), by simp only [Tr.dep] at hdp; omega, hf.1, hL.keep (Same.imm sq) (fun o e => sq _ _ e), ok.1, fun v1 H1 s1 hv1 => ?_⟩⟩
      have s01 := Same.trans sq s1
      have ht2 := s1 _ _ ht1
      refine ⟨_, rfl, rfl, _, rfl, ifF (fun e => absurd (V.str.inj e) (by decide +kernel)) ?_⟩
      refine ⟨_, rfl, l2, fun tr htr => ⟨tr, _, rfl, .inr (SqT.of upd_same), rfl, rfl, _, rfl, ?_⟩⟩
      rw [show inV (V.str (Str.ofString "times")) [V.str (Str.ofString "turned"), V.str (Str.ofString "inverse")] = false by decide +kernel]
      have sr := Same.upd htr (o := .tup [.str "turned", .str "inverse"])
      have s02 := Same.trans s01 sr
      have ht3 := sr _ _ ht2
      refine iteF ⟨_, rfl, t, _, 2, z, rfl, rfl, SqT.of ht3, rfl, _, rfl, z, L, y, f, S, rfl, hz.imm (Same.imm s02), by simp only [Tr.dep] at hdp; omega, hf.2, hL.keep (Same.imm s02) (fun o e => s02 _ _ e), ok.2.1, fun v2 H2 s2 hv2 => ?_⟩
      have s03 := Same.trans s02 s2
      have hv1' := hv1.imm (Same.imm (Same.trans sr s2))
      exact ⟨_, rfl, rfl, _, rfl, ifF (fun e => absurd (V.str.inj e) (by decide +kernel)) ⟨_, rfl, rfl, _, rfl, ifT rfl ⟨_, rfl, _, rfl, rd_bF hv1' hv2 (.inl ⟨v1, v2, _, _, S, rfl, hv1', hv2, ok, fun v' H' s' hF => k v' H' (Same.trans s03 s') hF⟩)⟩⟩⟩
end
end K9

/-! ## F52 -/
namespace K9
open PySem PySem.Spec PyProof.Rows L2
/-! The law's woven: expressions that make formulas. -/
/-- the reading of an expression that makes the formula f and changes nothing -/
def EvF (K : PySem.W.Frag) (te : TE) (σ : L2.St) (H0 : Hp) (f : Fm) : Prop := ∀ H, Same H0 H → ∀ Q : VK, (∀ v H', Same H H' → IsF K H' f v → Q v H') → te σ H Q
def EvA (K : PySem.W.Frag) (ta : TA) (σ : L2.St) (H0 : Hp) (fs : List Fm) : Prop := ∀ H, Same H0 H → ∀ Q : List V → Hp → Prop, (∀ vs H', Same H H' → Al (fun v f => IsF K H' f v) vs fs → Q vs H') → ta σ H Q
section
variable {K : PySem.W.Frag} {σ : L2.St} {H0 : Hp} {ta tb tc td : TE} {f g h i : Fm} {S : Sys}
theorem EvF.same {H1 : Hp} (s : Same H0 H1) (a : EvF K ta σ H0 f) : EvF K ta σ H1 f := fun H s' Q k => a H (Same.trans s s') Q k
theorem ev_var {j : Nat} {v : V} (hv : σ[j]? = some (some v)) (hF : IsF K H0 f v) : EvF K (tVar j) σ H0 f := fun H s Q k => ⟨v, hv, k v H (Same.refl _) (hF.imm (Same.imm s))⟩
theorem ev_bi {con : Fm → Fm → Fm} {nm : String} (a : EvF K ta σ H0 f) (b : EvF K tb σ H0 g) (ok : (con f g).Ok S) : EvF K (tOp (rOwn K nm (FC K) (FC K) (spBi K con)) ta tb) σ H0 (con f g) := fun H s Q k =>
  a H s _ fun v H1 s1 h1 => b H1 (Same.trans s s1) _ fun u H2 s2 h2 => rd_bF (h1.imm (Same.imm s2)) h2 ⟨v, u, f, g, S, rfl, h1.imm (Same.imm s2), h2, ok, fun v' H' s' hF => k v' H' (Same.trans s1 (Same.trans s2 s')) hF⟩
theorem ev_mul {nm : String} (a : EvF K ta σ H0 f) (b : EvF K tb σ H0 g) (ok : (Fm.pro f g).Ok S) : EvF K (tOp (rOwn K nm (FC K) (FC K) (spMulF K)) ta tb) σ H0 (.pro f g) := fun H s Q k =>
  a H s _ fun v H1 s1 h1 => b H1 (Same.trans s s1) _ fun u H2 s2 h2 => rd_bF (h1.imm (Same.imm s2)) h2 (.inl ⟨v, u, f, g, S, rfl, h1.imm (Same.imm s2), h2, ok, fun v' H' s' hF => k v' H' (Same.trans s1 (Same.trans s2 s')) hF⟩)
theorem rd_iF {H : Hp} {v : V} {n : Int} {sp : Sp} {Q : VK} (h : IsF K H f v) (q : sp [v, .int n] H Q E0) : rOwnI (FC K) sp v (.int n) H Q := by
  obtain ⟨ps, ⟨a, lv, ls, rfl, ⟨dx, fs, rv, cv, pt, st, core, o⟩, _⟩, _⟩ := h.node
  exact ⟨a, n, _, dx, fs, rfl, rfl, o.at_, fc_of K f, q⟩
theorem ev_mulI {n : Int} {r : Rat} (hr : r = Rat.divInt n 1) (a : EvF K ta σ H0 f) (ok : (Fm.sca r f).Ok S) : EvF K (tOp (rOwnI (FC K) (spMulF K)) ta (tC (.int n))) σ H0 (.sca r f) := fun H s Q k =>
  a H s _ fun v H1 s1 h1 => rd_iF h1 (.inr ⟨v, .int n, f, r, S, rfl, h1, .inl ⟨n, rfl, hr⟩, ok, fun v' H' s' hF => k v' H' (Same.trans s1 s') hF⟩)
theorem ev_pow {n : Nat} (a : EvF K ta σ H0 f) (ok : (Fm.pow f n).Ok S) : EvF K (tOp (rOwnI (FC K) (spPow K)) ta (tC (.int n))) σ H0 (.pow f n) := fun H s Q k =>
  a H s _ fun v H1 s1 h1 => rd_iF h1 ⟨v, n, f, S, rfl, h1, ok, fun v' H' s' hF => k v' H' (Same.trans s1 s') hF⟩
theorem rd_itF {H : Hp} {v u : V} {sp : Sp} {Q : VK} (h : IsF K H f v) (q : sp [v, u] H Q E0) : rItem (FC K) sp v u H Q := by
  obtain ⟨ps, ⟨a, lv, ls, rfl, ⟨dx, fs, rv, cv, pt, st, core, o⟩, _⟩, _⟩ := h.node
  exact ⟨a, _, dx, fs, rfl, o.at_, fc_of K f, q⟩
theorem two_line : 2 ≤ sizeLine := Nat.le_trans (show 2 ≤ 1000 by decide) thousand_line
theorem ev_cor {m n : Nat} (a : EvF K ta σ H0 f) (ok : (Fm.cor f m n).Ok S) : EvF K (tOp (rItem (FC K) (spItemF K)) ta (tTup (tCons (tC (.int m)) (tCons (tC (.int n)) tNil)))) σ H0 (.cor f m n) := fun H s Q k =>
  a H s _ fun v H1 s1 h1 => ⟨two_line, fun t ht => rd_itF (h1.imm (Imm.new ht)) ⟨v, t, m, n, f, S, rfl, upd_same, h1.imm (Imm.new ht), ok, fun v' H' s' hF => k v' H' (Same.trans s1 (Same.trans (Same.upd ht) s')) hF⟩⟩
theorem ev_tra (a : EvF K ta σ H0 f) (ok : (Fm.tra f).Ok S) : EvF K (tPrp (FC K) (spUn K .tra) ta) σ H0 (.tra f) := fun H s Q k =>
  a H s _ fun v H1 s1 h1 => rd_pF h1 ⟨v, f, S, rfl, h1, ok, fun v' H' s' hF => k v' H' (Same.trans s1 s') hF⟩
theorem ev_inv (a : EvF K ta σ H0 f) (ok : (Fm.inv f).Ok S) : EvF K (tMtP (FC K) "inverse" (spUn K .inv) ta tNil) σ H0 (.inv f) := fun H s Q k =>
  a H s _ fun v H1 s1 h1 => rd_mF h1 ⟨v, f, S, rfl, h1, ok, fun v' H' s' hF => k v' H' (Same.trans s1 s') hF⟩
theorem ev_eye (a : EvF K ta σ H0 f) (ok : (Fm.eye f.rows).Ok S) : EvF K (tMake (He.ga K "Eye") (spCtor K (AEye K)) [] E0 (tCons (tPrp (FC K) (spGet K "row_side") ta) tNil)) σ H0 (.eye f.rows) := fun H s Q k =>
  a H s _ fun v H1 s1 h1 => by
    obtain ⟨ps, n, _⟩ := h1.node
    exact rd_rows n fun rv hrv => mk_ctor (Q := Q) (f := .eye f.rows) (A := AEye K) ⟨_, _, S, rfl, rfl, .inr ⟨⟨rv, rfl, hrv⟩, ok.1⟩, ok⟩ fun v' H' s' hF => k v' H' (Same.trans s1 s') hF
theorem ev_zero (a : EvF K ta σ H0 f) (ok : (Fm.zero f.rows f.rows).Ok S) : EvF K (tMake (He.ga K "Zero") (spCtor K (AZero K)) [] E0 (tCons (tPrp (FC K) (spGet K "row_side") ta) (tCons (tPrp (FC K) (spGet K "row_side") ta) tNil))) σ H0 (.zero f.rows f.rows) := fun H s Q k =>
  a H s _ fun v H1 s1 h1 => by
    obtain ⟨ps, n, _⟩ := h1.node
    refine rd_rows n fun rv hrv => a H1 (Same.trans s s1) _ fun v2 H2 s2 h2 => ?_
    obtain ⟨ps2, n2, _⟩ := h2.node
    exact rd_rows n2 fun rv2 hrv2 => mk_ctor (Q := Q) (f := .zero f.rows f.rows) (A := AZero K) ⟨_, _, _, _, S, rfl, rfl, .inr ⟨⟨rv, rfl, s2 _ _ hrv⟩, ok.1⟩, .inr ⟨⟨rv2, rfl, hrv2⟩, ok.1⟩, ok⟩ fun v' H' s' hF => k v' H' (Same.trans s1 (Same.trans s2 s')) hF
theorem one_line : 1 ≤ sizeLine := Nat.le_trans (show 1 ≤ 1000 by decide) thousand_line
theorem ev_b22 (a : EvF K ta σ H0 f) (b : EvF K tb σ H0 g) (c : EvF K tc σ H0 h) (d : EvF K td σ H0 i) (ok : (Fm.b22 f g h i).Ok S) :
    EvF K (tMake (He.ga K "Blocks") (spCtor K (ABlo K)) [] E0 (tCons (tTup (tCons (tTup (tCons ta (tCons tb tNil))) (tCons (tTup (tCons tc (tCons td tNil))) tNil))) tNil)) σ H0 (.b22 f g h i) := fun H s Q k =>
  a H s _ fun v1 H1 s1 h1 => b H1 (Same.trans s s1) _ fun v2 H2 s2 h2 => ⟨two_line, fun t1 ht1 => by
    have s3 := Same.upd ht1 (o := .tup [v1, v2])
    refine c _ (Same.trans (Same.trans s s1) (Same.trans s2 s3)) _ fun v3 H3 s4 h3 => d H3 (Same.trans (Same.trans (Same.trans s s1) (Same.trans s2 s3)) s4) _ fun v4 H4 s5 h4 => ⟨two_line, fun t2 ht2 => ⟨two_line, fun t3 ht3 => ?_⟩⟩
    have s6 := Same.upd ht2 (o := .tup [v3, v4])
    have s7 := Same.upd ht3 (o := .tup [.ref t1, .ref t2])
    have s67 := Same.trans s6 s7
    have s47 := Same.trans s4 (Same.trans s5 s67)
    exact mk_ctor (Q := Q) (f := .b22 f g h i) (A := ABlo K) (ablo_b22 ok (h1.imm (Same.imm (Same.trans s2 (Same.trans s3 s47)))) (h2.imm (Same.imm (Same.trans s3 s47))) (h3.imm (Same.imm (Same.trans s5 s67))) (h4.imm (Same.imm s67)) ⟨t3, _, rfl, upd_same, .cons ⟨t1, rfl, s47 _ _ upd_same⟩ (.cons ⟨t2, rfl, s7 _ _ upd_same⟩ .nil)⟩) fun v' H' s' hF => k v' H' (Same.trans s1 (Same.trans s2 (Same.trans s3 (Same.trans s47 s')))) hF⟩
theorem ev_b21 (a : EvF K ta σ H0 f) (b : EvF K tb σ H0 g) (ok : (Fm.b21 f g).Ok S) :
    EvF K (tMake (He.ga K "Blocks") (spCtor K (ABlo K)) [] E0 (tCons (tTup (tCons (tTup (tCons ta tNil)) (tCons (tTup (tCons tb tNil)) tNil))) tNil)) σ H0 (.b21 f g) := fun H s Q k =>
  a H s _ fun v1 H1 s1 h1 => ⟨one_line, fun t1 ht1 => by
    have s3 := Same.upd ht1 (o := .tup [v1])
    refine b _ (Same.trans s (Same.trans s1 s3)) _ fun v2 H2 s2 h2 => ⟨one_line, fun t2 ht2 => ⟨two_line, fun t3 ht3 => ?_⟩⟩
    have s6 := Same.upd ht2 (o := .tup [v2])
    have s7 := Same.upd ht3 (o := .tup [.ref t1, .ref t2])
    have s67 := Same.trans s6 s7
    have s27 := Same.trans s2 s67
    exact mk_ctor (Q := Q) (f := .b21 f g) (A := ABlo K) (ablo_b21 ok (h1.imm (Same.imm (Same.trans s3 s27))) (h2.imm (Same.imm s67)) ⟨t3, _, rfl, upd_same, .cons ⟨t1, rfl, s27 _ _ upd_same⟩ (.cons ⟨t2, rfl, s7 _ _ upd_same⟩ .nil)⟩) fun v' H' s' hF => k v' H' (Same.trans s1 (Same.trans s3 (Same.trans s27 s'))) hF⟩
theorem ev_b12 (a : EvF K ta σ H0 f) (b : EvF K tb σ H0 g) (ok : (Fm.b12 f g).Ok S) :
    EvF K (tMake (He.ga K "Blocks") (spCtor K (ABlo K)) [] E0 (tCons (tTup (tCons (tTup (tCons ta (tCons tb tNil))) tNil)) tNil)) σ H0 (.b12 f g) := fun H s Q k =>
  a H s _ fun v1 H1 s1 h1 => b H1 (Same.trans s s1) _ fun v2 H2 s2 h2 => ⟨two_line, fun t1 ht1 => ⟨one_line, fun t3 ht3 => by
    have s3 := Same.upd ht1 (o := .tup [v1, v2])
    have s7 := Same.upd ht3 (o := .tup [.ref t1])
    have s37 := Same.trans s3 s7
    exact mk_ctor (Q := Q) (f := .b12 f g) (A := ABlo K) (ablo_b12 ok (h1.imm (Same.imm (Same.trans s2 s37))) (h2.imm (Same.imm s37)) ⟨t3, _, rfl, upd_same, .cons ⟨t1, rfl, s7 _ _ upd_same⟩ .nil⟩) fun v' H' s' hF => k v' H' (Same.trans s1 (Same.trans s2 (Same.trans s37 s'))) hF⟩⟩
theorem ea_nil : EvA K tNil σ H0 [] := fun H s Q k => k [] H (Same.refl _) .nil
theorem ea_cons {tr : TA} {fs : List Fm} (a : EvF K ta σ H0 f) (b : EvA K tr σ H0 fs) : EvA K (tCons ta tr) σ H0 (f :: fs) := fun H s Q k =>
  a H s _ fun v H1 s1 h1 => b H1 (Same.trans s s1) _ fun vs H2 s2 h2 => k (v :: vs) H2 (Same.trans s1 s2) (.cons (h1.imm (Same.imm s2)) h2)
end
end K9

/-! ## F53 -/
namespace K9
open PySem PySem.Spec PyProof.Rows L2
/-! The law's woven. -/
def wv (f : Nat → Fm) : List Fm := Fm.woven (f 0) (f 1) (f 2) (f 3) (f 4) (f 5)
def spWoven (K : PySem.W.Frag) : Sp := fun vs H Q _ => ∃ (L : Addr) (f : Nat → Fm) (S : Sys) (n p : Str), vs = [.ref L] ∧ LetsAt K H L f ∧ Fm.Six S n p (f 0) (f 1) (f 2) (f 3) (f 4) (f 5) ∧ ∀ R H' us, Same H H' → H R = none → H' R = some (.lst us) → Al (fun v g => IsF K H' g v) us (wv f) → Q (.ref R) H'
abbrev nWoven : List Str := ["_law_some", "_law_a", "_law_x", "_law_y", "_law_s", "_law_w", "_law_g", "_law_table", "_law_deep", "_law_around", "_law_found"]
theorem sc_woven : FnScope nWoven ["_law_some"] (defScope (top 102)) := ⟨rfl, rfl, rfl, by decide +kernel, rfl, by decide +kernel, by decide +kernel⟩
theorem tag {te : TE} {i : Nat} {w : TS} {D : Ends} {σ : L2.St} {H : Hp} (h : te σ H fun x H1 => w D (σ.set i (some x)) H1) : tSeq (tAsg te (gName i)) w D σ H := h
theorem tagR {te : TE} {D : Ends} {σ : L2.St} {H : Hp} (h : te σ H D.rt) : tRet te D σ H := h
section
variable {w : World} {K : PySem.W.Frag} {mg : Str → Option Value} {base : Heap}
theorem cal_woven (T : Txt K mg) : Cal Pg w K mg base 16 "_law_woven" (spWoven K) [] := by
  refine cal_of T.d__law_woven sc_woven (fun _ _ _ _ _ _ us hl => match us, hl with | [_], _ => rfl) (fun vs H Q E h => ?_) (fun f cdv A outer s H vs Q E hr h => ?_)
  · obtain ⟨L, f, S, n, p, rfl, _⟩ := h; rfl
  refine ⟨_, pss_cons (ps_asg (pv 0) (pg_lst rfl (pgs_cons (pg_name (i := 1) sc_woven.nd rfl (Or.inl rfl)) (pgs_cons (pg_name (i := 2) sc_woven.nd rfl (Or.inl rfl)) (pgs_cons (pg_name (i := 3) sc_woven.nd rfl (Or.inl rfl)) (pgs_cons (pg_name (i := 4) sc_woven.nd rfl (Or.inl rfl)) (pgs_cons (pg_name (i := 5) sc_woven.nd rfl (Or.inl rfl)) (pgs_cons (pg_name (i := 6) sc_woven.nd rfl (Or.inl rfl)) pgs_nil))))))))
    (pss_cons (ps_set (i := 7) sc_woven.nd rfl (Or.inl rfl) (pe_mk (mak_Blocks T) hr (pa_cons (pe_tup (pa_cons (pe_tup (pa_cons (pv 1) (pa_cons (pv 2) pa_nil))) (pa_cons (pe_tup (pa_cons (pv 3) (pa_cons (pe_op (op_own (fm_add T) (fm_add T) (fun C D hC hD => (T.fcBin C D hC hD).1) hr) (pv 4) (pv 6)) pa_nil))) pa_nil))) pa_nil)))
    (pss_cons (ps_set (i := 8) sc_woven.nd rfl (Or.inl rfl) (pe_mk (mak_Blocks T) hr (pa_cons (pe_tup (pa_cons (pe_tup (pa_cons (pv 7) (pa_cons (pe_mk (mak_Blocks T) hr (pa_cons (pe_tup (pa_cons (pe_tup (pa_cons (pv 2) pa_nil)) (pa_cons (pe_tup (pa_cons (pv 6) pa_nil)) pa_nil))) pa_nil)) pa_nil))) (pa_cons (pe_tup (pa_cons (pe_mk (mak_Blocks T) hr (pa_cons (pe_tup (pa_cons (pe_tup (pa_cons (pv 3) (pa_cons (pv 4) pa_nil))) pa_nil)) pa_nil)) (pa_cons (pv 6) pa_nil))) pa_nil))) pa_nil)))
    (pss_cons (ps_set (i := 9) sc_woven.nd rfl (Or.inl rfl) (pe_mtP0 (fm_inv T) hr (pe_op (op_own (fm_add T) (fm_add T) (fun C D hC hD => (T.fcBin C D hC hD).1) hr) (pe_mk (mak_Eye T) hr (pa_cons (pe_prp (prp_rows T) hr (pv 7)) pa_nil)) (pe_mk (mak_Blocks T) hr (pa_cons (pe_tup (pa_cons (pe_tup (pa_cons (pe_mk (mak_Zero T) hr (pa_cons (pe_prp (prp_rows T) hr (pv 1)) (pa_cons (pe_prp (prp_rows T) hr (pv 1)) pa_nil))) (pa_cons (pv 2) pa_nil))) (pa_cons (pe_tup (pa_cons (pv 3) (pa_cons (pe_mk (mak_Zero T) hr (pa_cons (pe_prp (prp_rows T) hr (pv 6)) (pa_cons (pe_prp (prp_rows T) hr (pv 6)) pa_nil))) pa_nil))) pa_nil))) pa_nil)))))
    (pss_cons (ps_set (i := 10) sc_woven.nd rfl (Or.inl rfl) (pe_lst (pa_cons (pe_op (op_ownI (fm_pow T) (fun C hC => (T.fcBinI C hC).2) hr) (pv 7) pe_int)
      (pa_cons (pe_op (op_own (fm_mul T) (fm_mul T) (fun C D hC hD => (T.fcBin C D hC hD).2.2) hr) (pe_item (fm_item T) hr (pv 7) (pe_tup (pa_cons pe_int (pa_cons pe_int pa_nil)))) (pv 3))
      (pa_cons (pe_item (fm_item T) hr (pe_op (op_own (fm_mul T) (fm_mul T) (fun C D hC hD => (T.fcBin C D hC hD).2.2) hr) (pv 7) (pv 7)) (pe_tup (pa_cons pe_int (pa_cons pe_int pa_nil))))
      (pa_cons (pv 8)
      (pa_cons (pe_op (op_own (fm_add T) (fm_add T) (fun C D hC hD => (T.fcBin C D hC hD).1) hr) (pe_item (fm_item T) hr (pv 8) (pe_tup (pa_cons pe_int (pa_cons pe_int pa_nil)))) (pe_op (op_ownI (fm_mul T) (fun C hC => (T.fcBinI C hC).1) hr) (pv 6) pe_int))
      (pa_cons (pe_op (op_ownI (fm_pow T) (fun C hC => (T.fcBinI C hC).2) hr) (pe_op (op_own (fm_add T) (fm_add T) (fun C D hC hD => (T.fcBin C D hC hD).1) hr) (pv 5) (pe_item (fm_item T) hr (pv 7) (pe_tup (pa_cons pe_int (pa_cons pe_int pa_nil))))) pe_int) pa_nil))))))))
    (pss_cons (ps_set (i := 10) sc_woven.nd rfl (Or.inl rfl) (pe_op op_cat (pv 10) (pe_lst (pa_cons (pe_op (op_own (fm_mul T) (fm_mul T) (fun C D hC hD => (T.fcBin C D hC hD).2.2) hr) (pe_mk (mak_Blocks T) hr (pa_cons (pe_tup (pa_cons (pe_tup (pa_cons (pe_op (op_own (fm_add T) (fm_add T) (fun C D hC hD => (T.fcBin C D hC hD).1) hr) (pv 1) (pv 5)) (pa_cons (pv 2) pa_nil))) pa_nil)) pa_nil)) (pe_mk (mak_Blocks T) hr (pa_cons (pe_tup (pa_cons (pe_tup (pa_cons (pv 2) pa_nil)) (pa_cons (pe_tup (pa_cons (pv 6) pa_nil)) pa_nil))) pa_nil)))
      (pa_cons (pe_prp (fm_tra T) hr (pe_op (op_own (fm_sub T) (fm_sub T) (fun C D hC hD => (T.fcBin C D hC hD).2.1) hr) (pe_mk (mak_Eye T) hr (pa_cons (pe_prp (prp_rows T) hr (pv 7)) pa_nil)) (pv 7))) pa_nil)))))
    (pss_one (ps_ret (pe_op op_cat (pv 10) (pe_lst (pa_cons (pe_item (fm_item T) hr (pv 9) (pe_tup (pa_cons pe_int (pa_cons pe_int pa_nil))))
      (pa_cons (pe_item (fm_item T) hr (pe_op (op_ownI (fm_pow T) (fun C hC => (T.fcBinI C hC).2) hr) (pv 8) pe_int) (pe_tup (pa_cons pe_int (pa_cons pe_int pa_nil))))
      (pa_cons (pe_mk (mak_Blocks T) hr (pa_cons (pe_tup (pa_cons (pe_tup (pa_cons (pv 9) pa_nil)) (pa_cons (pe_tup (pa_cons (pe_op (op_own (fm_mul T) (fm_mul T) (fun C D hC hD => (T.fcBin C D hC hD).2.2) hr) (pe_op (op_ownI (fm_mul T) (fun C hC => (T.fcBinI C hC).1) hr) (pe_item (fm_item T) hr (pv 7) (pe_tup (pa_cons pe_int (pa_cons pe_int pa_nil)))) pe_int) (pe_mk (mak_Blocks T) hr (pa_cons (pe_tup (pa_cons (pe_tup (pa_cons (pv 1) (pa_cons (pv 2) pa_nil))) pa_nil)) pa_nil))) pa_nil)) pa_nil))) pa_nil)) pa_nil))))))))))))
    , ?_⟩
  obtain ⟨L, f, S, n, p, rfl, hL, six, k⟩ := h
  obtain ⟨lvs, hl1, hl2, hl3⟩ := hL
  obtain ⟨v0, e0, h0⟩ := hl3 0 (by decide)
  obtain ⟨v1, e1, h1⟩ := hl3 1 (by decide)
  obtain ⟨v2, e2, h2⟩ := hl3 2 (by decide)
  obtain ⟨v3, e3, h3⟩ := hl3 3 (by decide)
  obtain ⟨v4, e4, h4⟩ := hl3 4 (by decide)
  obtain ⟨v5, e5, h5⟩ := hl3 5 (by decide)
  have el : lvs = [v0, v1, v2, v3, v4, v5] := by
    match lvs, hl2 with
    | [a, b, c, d, e, g], _ => simp at e0 e1 e2 e3 e4 e5; rw [e0, e1, e2, e3, e4, e5]
  subst el
  refine ⟨_, rfl, L, _, rfl, SqL.of hl1, rfl, _, _, rfl, _, _, rfl, _, _, rfl, _, _, rfl, _, _, rfl, _, _, rfl, rfl, ?_⟩
  have t := six.table
  have d := six.deep
  have r := six.around
  have k1 : (Fm.sum (f 3) (f 5)).Ok S := t.ok.2.2.2.1
  have k2 : (Fm.b21 (f 1) (f 5)).Ok S := d.ok.2.1
  have k3 : (Fm.b12 (f 2) (f 3)).Ok S := d.ok.2.2.1
  have kc01 := (Fm.Bn.cor (i := 0) (j := 1) t rfl rfl).ok
  have o1 := (Fm.Bn.pow (e := 2) t).ok
  have o2 := (Fm.Bn.pro (Fm.Bn.cor (i := 0) (j := 1) t rfl rfl) six.y.bn).ok
  have ktt := (Fm.Bn.pro t t).ok
  have o3 := (Fm.Bn.cor (i := 1) (j := 0) (Fm.Bn.pro t t) rfl rfl).ok
  have o5 := (Fm.Bn.sum (Fm.Bn.cor (i := 2) (j := 1) d rfl rfl) (Fm.Bn.sca six.g.bn Fm.bd2)).ok
  have o6 := (Fm.Bn.pow (e := 3) (Fm.Bn.sum six.w.bn (Fm.Bn.cor (i := 0) (j := 0) t rfl rfl))).ok
  have o7 := (Fm.Bn.pro (Fm.Bn.b12 (Fm.Bn.sum six.a.bn six.w.bn) six.x.bn) (Fm.Bn.b21 six.x.bn six.g.bn)).ok
  have o8 : (Fm.tra (.dif (.eye (Fm.wTable (f 0) (f 1) (f 2) (f 3) (f 5)).rows) (Fm.wTable (f 0) (f 1) (f 2) (f 3) (f 5)))).Ok S := by
    rw [t.r]
    exact (Fm.Bn.tra (Fm.Bn.dif (Fm.Bn.eye (S := S) six.side (Nat.le_refl _)) t)).ok
  have o9 := (Fm.Bn.cor (i := 1) (j := 1) r rfl rfl).ok
  have o10 := (Fm.Bn.cor (i := 0) (j := 2) (Fm.Bn.pow (e := 2) d) rfl rfl).ok
  have o11 := (Fm.Bn.b21 r (Fm.Bn.pro (Fm.Bn.sca (Fm.Bn.cor (i := 0) (j := 0) t rfl rfl) Fm.bd3) (Fm.Bn.b12 six.a.bn six.x.bn))).ok
  refine tag ((ev_b22 (ev_var (j := 1) (by rfl) h0) (ev_var (j := 2) (by rfl) h1) (ev_var (j := 3) (by rfl) h2) (ev_bi (ev_var (j := 4) (by rfl) h3) (ev_var (j := 6) (by rfl) h5) k1) t.ok) H (Same.refl _) _ fun vt H1 s1 ht => ?_)
  have h0_1 := h0.imm (Same.imm s1)
  have h1_1 := h1.imm (Same.imm s1)
  have h2_1 := h2.imm (Same.imm s1)
  have h3_1 := h3.imm (Same.imm s1)
  have h4_1 := h4.imm (Same.imm s1)
  have h5_1 := h5.imm (Same.imm s1)
  refine tag ((ev_b22 (ev_var (j := 7) (by rfl) ht) (ev_b21 (ev_var (j := 2) (by rfl) h1_1) (ev_var (j := 6) (by rfl) h5_1) k2) (ev_b12 (ev_var (j := 3) (by rfl) h2_1) (ev_var (j := 4) (by rfl) h3_1) k3) (ev_var (j := 6) (by rfl) h5_1) d.ok) H1 (Same.refl _) _ fun vd H2 s2 hd => ?_)
  have h0_2 := h0_1.imm (Same.imm s2)
  have h1_2 := h1_1.imm (Same.imm s2)
  have h2_2 := h2_1.imm (Same.imm s2)
  have h3_2 := h3_1.imm (Same.imm s2)
  have h4_2 := h4_1.imm (Same.imm s2)
  have h5_2 := h5_1.imm (Same.imm s2)
  have ht_2 := ht.imm (Same.imm s2)
  refine tag ((ev_inv (ev_bi (ev_eye (ev_var (j := 7) (by rfl) ht_2) r.ok.1.1) (ev_b22 (ev_zero (ev_var (j := 1) (by rfl) h0_2) r.ok.1.2.1.1) (ev_var (j := 2) (by rfl) h1_2) (ev_var (j := 3) (by rfl) h2_2) (ev_zero (ev_var (j := 6) (by rfl) h5_2) r.ok.1.2.1.2.2.2.1) r.ok.1.2.1) r.ok.1) r.ok) H2 (Same.refl _) _ fun va H3 s3 ha => ?_)
  have h0_3 := h0_2.imm (Same.imm s3)
  have h1_3 := h1_2.imm (Same.imm s3)
  have h2_3 := h2_2.imm (Same.imm s3)
  have h3_3 := h3_2.imm (Same.imm s3)
  have h4_3 := h4_2.imm (Same.imm s3)
  have h5_3 := h5_2.imm (Same.imm s3)
  have ht_3 := ht_2.imm (Same.imm s3)
  have hd_3 := hd.imm (Same.imm s3)
  refine tag ((ea_cons (ev_pow (n := 2) (ev_var (j := 7) (by rfl) ht_3) o1) (ea_cons (ev_mul (ev_cor (m := 0) (n := 1) (ev_var (j := 7) (by rfl) ht_3) kc01) (ev_var (j := 3) (by rfl) h2_3) o2) (ea_cons (ev_cor (m := 1) (n := 0) (ev_mul (ev_var (j := 7) (by rfl) ht_3) (ev_var (j := 7) (by rfl) ht_3) ktt) o3) (ea_cons (ev_var (j := 8) (by rfl) hd_3) (ea_cons (ev_bi (ev_cor (m := 2) (n := 1) (ev_var (j := 8) (by rfl) hd_3) o5.1) (ev_mulI (n := 2) (r := 2) (by decide +kernel) (ev_var (j := 6) (by rfl) h5_3) o5.2.1) o5)
    (ea_cons (ev_pow (n := 3) (ev_bi (ev_var (j := 5) (by rfl) h4_3) (ev_cor (m := 0) (n := 0) (ev_var (j := 7) (by rfl) ht_3) o6.1.2.1) o6.1) o6) ea_nil)))))) H3 (Same.refl _) _ fun us1 H4 s4 al1 => ?_)
  have l1 : us1.length = 6 := al1.len
  refine ⟨by rw [l1]; exact Nat.le_trans (show 6 ≤ 1000 by decide) thousand_line, fun R1 hR1 => ?_⟩
  have s5 := Same.upd hR1 (o := .lst us1)
  have s35 := Same.trans s4 s5
  have hR1' : (upd H4 R1 (.lst us1)) R1 = some (.lst us1) := upd_same
  have al1' := al1.imp fun v g h => h.imm (Same.imm s5)
  have h0_4 := h0_3.imm (Same.imm s35)
  have h1_4 := h1_3.imm (Same.imm s35)
  have h2_4 := h2_3.imm (Same.imm s35)
  have h3_4 := h3_3.imm (Same.imm s35)
  have h4_4 := h4_3.imm (Same.imm s35)
  have h5_4 := h5_3.imm (Same.imm s35)
  have ht_4 := ht_3.imm (Same.imm s35)
  have hd_4 := hd_3.imm (Same.imm s35)
  have ha_4 := ha.imm (Same.imm s35)
  obtain ⟨H5, eH5⟩ : ∃ G, G = upd H4 R1 (.lst us1) := ⟨_, rfl⟩
  rw [← eH5] at s5 s35 hR1' al1' h0_4 h1_4 h2_4 h3_4 h4_4 h5_4 ht_4 hd_4 ha_4
  refine of_heap eH5 ?_
  refine tag ⟨_, rfl, (ea_cons (ev_mul (ev_b12 (ev_bi (ev_var (j := 1) (by rfl) h0_4) (ev_var (j := 5) (by rfl) h4_4) o7.1.1) (ev_var (j := 2) (by rfl) h1_4) o7.1) (ev_b21 (ev_var (j := 2) (by rfl) h1_4) (ev_var (j := 6) (by rfl) h5_4) o7.2.1) o7) (ea_cons (ev_tra (ev_bi (ev_eye (ev_var (j := 7) (by rfl) ht_4) o8.1.1) (ev_var (j := 7) (by rfl) ht_4) o8.1) o8) ea_nil)) H5 (Same.refl _) _ fun us2 H6 s6 al2 => ?_⟩
  have l2 : us2.length = 2 := al2.len
  refine ⟨by rw [l2]; exact two_line, fun R2 hR2 => ?_⟩
  have s7 := Same.upd hR2 (o := .lst us2)
  refine ⟨R1, R2, us1, us2, rfl, rfl, s7 _ _ (s6 _ _ hR1'), upd_same, by rw [l1, l2]; exact Nat.le_trans (show 6 + 2 ≤ 1000 by decide) thousand_line, fun R3 hR3 => ?_⟩
  have s8 := Same.upd hR3 (o := .lst (us1 ++ us2))
  have s58 := Same.trans s6 (Same.trans s7 s8)
  have hR3' : (upd (upd H6 R2 (.lst us2)) R3 (.lst (us1 ++ us2))) R3 = some (.lst (us1 ++ us2)) := upd_same
  have al12 := (al1'.imp fun v g h => h.imm (Same.imm s58)).append (al2.imp fun v g h => h.imm (Same.imm (Same.trans s7 s8)))
  have h0_5 := h0_4.imm (Same.imm s58)
  have h1_5 := h1_4.imm (Same.imm s58)
  have h2_5 := h2_4.imm (Same.imm s58)
  have h3_5 := h3_4.imm (Same.imm s58)
  have h4_5 := h4_4.imm (Same.imm s58)
  have h5_5 := h5_4.imm (Same.imm s58)
  have ht_5 := ht_4.imm (Same.imm s58)
  have hd_5 := hd_4.imm (Same.imm s58)
  have ha_5 := ha_4.imm (Same.imm s58)
  obtain ⟨H7, eH7⟩ : ∃ G, G = upd (upd H6 R2 (.lst us2)) R3 (.lst (us1 ++ us2)) := ⟨_, rfl⟩
  rw [← eH7] at s58 hR3' al12 h0_5 h1_5 h2_5 h3_5 h4_5 h5_5 ht_5 hd_5 ha_5
  refine of_heap eH7 ?_
  refine tagR ⟨_, rfl, (ea_cons (ev_cor (m := 1) (n := 1) (ev_var (j := 9) (by rfl) ha_5) o9) (ea_cons (ev_cor (m := 0) (n := 2) (ev_pow (n := 2) (ev_var (j := 8) (by rfl) hd_5) o10.1) o10) (ea_cons (ev_b21 (ev_var (j := 9) (by rfl) ha_5) (ev_mul (ev_mulI (n := 3) (r := 3) (by decide +kernel) (ev_cor (m := 0) (n := 0) (ev_var (j := 7) (by rfl) ht_5) o11.2.1.1.1) o11.2.1.1) (ev_b12 (ev_var (j := 1) (by rfl) h0_5) (ev_var (j := 2) (by rfl) h1_5) o11.2.1.2.1) o11.2.1) o11) ea_nil))) H7 (Same.refl _) _ fun us3 H8 s9 al3 => ?_⟩
  have l3 : us3.length = 3 := al3.len
  refine ⟨by rw [l3]; exact Nat.le_trans (show 3 ≤ 1000 by decide) thousand_line, fun R4 hR4 => ?_⟩
  have s10 := Same.upd hR4 (o := .lst us3)
  refine ⟨R3, R4, us1 ++ us2, us3, rfl, rfl, s10 _ _ (s9 _ _ hR3'), upd_same, by rw [List.length_append, l1, l2, l3]; exact Nat.le_trans (show 6 + 2 + 3 ≤ 1000 by decide) thousand_line, fun R hR => ?_⟩
  have s11 := Same.upd hR (o := .lst (us1 ++ us2 ++ us3))
  have s07 := Same.trans s1 (Same.trans s2 (Same.trans s3 (Same.trans s35 s58)))
  have sA := Same.trans s9 (Same.trans s10 s11)
  exact k R _ (us1 ++ us2 ++ us3) (Same.trans s07 sA) (Same.free s07 (Same.free (Same.trans s9 s10) hR)) upd_same ((al12.imp fun v g h => h.imm (Same.imm sA)).append (al3.imp fun v g h => h.imm (Same.imm (Same.trans s10 s11))))
end
end K9

/-! ## F54 -/
namespace K9
open PySem PySem.Spec PyProof.Rows L2
/-! The law's equal. -/
def spEqual (K : PySem.W.Frag) : Sp := fun vs H Q _ => ∃ (v u : V) (f : Fm) (S : Sys), vs = [v, u] ∧ IsF K H f v ∧ IsF K H f u ∧ f.Ok S ∧ (∀ l, f ≠ .letter l) ∧ Pure (fun v' _ => v' = .bl true) H Q
theorem not_letter {f : Fm} (h : ∀ l, f ≠ .letter l) : f.kd.nm ≠ "Letter" := by
  cases f with
  | letter l => exact absurd rfl (h l)
  | _ => (simp only [Fm.kd]; decide +kernel)
theorem isFn_of {K : PySem.W.Frag} {f : Fm} (h : ∀ l, f ≠ .letter l) : isFn9 K (cF K f) := ⟨f.kd, f.kd_mem, not_letter h, rfl⟩
theorem eq_pair {K : PySem.W.Frag} {H : Hp} {f : Fm} {S : Sys} {v u : V} (hn : ∀ l, f ≠ .letter l) (h1 : IsF K H f v) (h2 : IsF K H f u) (ok : f.Ok S) : ∃ C, isFn9 K C ∧ DIns C (REqF K) v u H := by
  obtain ⟨ps, ⟨a, lv, ls, e1, ⟨dx, fs, rv, cv, pt, st, core, o⟩, _⟩, _⟩ := h1.node
  obtain ⟨ps2, ⟨b, lv2, ls2, e2, ⟨dx2, fs2, rv2, cv2, pt2, st2, core2, o2⟩, _⟩, _⟩ := h2.node
  subst e1 e2
  exact ⟨_, isFn_of hn, a, b, dx, dx2, fs, fs2, rfl, rfl, o.at_, o2.at_, f, S, h1, h2, ok⟩
theorem sc_equal : FnScope ["_law_told", "_law_due"] ["_law_told", "_law_due"] (defScope (top 103)) := ⟨rfl, rfl, rfl, by decide +kernel, rfl, by decide +kernel, by decide +kernel⟩
section
variable {w : World} {K : PySem.W.Frag} {mg : Str → Option Value} {base : Heap}
theorem cal_equal (T : Txt K mg) : Cal Pg w K mg base 73 "_law_equal" (spEqual K) [] := by
  refine cal_of T.d__law_equal sc_equal (fun _ _ _ _ _ _ us hl => match us, hl with | [_, _], _ => rfl) (fun vs H Q E h => ?_) (fun f cdv A outer s H vs Q E hr h => ?_)
  · obtain ⟨v, u, f, S, rfl, _⟩ := h; rfl
  have ms := nofree T (x := "str") (by decide +kernel)
  refine ⟨_, pss_one (ps_ret (pe_and (pe_cmpR (op_eqG (rcG_own (fm_eq T)) (hr.mono (by decide))) (pv 0) (pv 1) (nomark _))
    (pe_and (pe_cmpR (op_eqG (rcG_own (fm_eq T)) (hr.mono (by decide))) (pv 1) (pv 0) (nomark _))
    (pe_and (pe_cmpR op_eq (pe_callTy (cr_strOwn (fm_str T) hr) (by rfl) ms boot_str (pa_cons (pv 0) pa_nil)) (pe_callTy (cr_strOwn (fm_str T) hr) (by rfl) ms boot_str (pa_cons (pv 1) pa_nil)) (nomark _))
    (pe_one (pe_cmpR (op_eqG (rcG_tup (dlet_mon K) (eqG_letter (P := Pg) (w := w) (base := base) T rfl rfl rfl rfl rfl)) (hr.mono (by decide))) (pe_prp (prp_letters T) hr (pv 0)) (pe_prp (prp_letters T) hr (pv 1)) (nomark _))))))), ?_⟩
  obtain ⟨v, u, f, S, rfl, h1, h2, ok, hn, k⟩ := h
  refine ⟨_, rfl, _, rfl, eq_pair hn h1 h2 ok, fun H1 s1 => ⟨_, rfl, iteT ?_⟩⟩
  have i1 := Same.imm s1
  refine ⟨_, rfl, _, rfl, eq_pair hn (h2.imm i1) (h1.imm i1) ok, fun H2 s2 => ⟨_, rfl, iteT ?_⟩⟩
  have s12 := Same.trans s1 s2
  have h1' := h1.imm (Same.imm s12)
  have h2' := h2.imm (Same.imm s12)
  obtain ⟨a, C, dx, fs, rfl, ha, hC⟩ := h1'.fc
  refine ⟨_, rfl, a, C, dx, fs, rfl, ha, hC, _, f, S, rfl, h1', ok, fun v3 H3 s3 e3 => ⟨_, e3, ?_⟩⟩
  have h2'' := h2'.imm (Same.imm s3)
  obtain ⟨b, C2, dx2, fs2, rfl, hb, hC2⟩ := h2''.fc
  refine ⟨_, rfl, b, C2, dx2, fs2, rfl, hb, hC2, _, f, S, rfl, h2'', ok, fun v4 H4 s4 e4 => ⟨_, e4, ?_⟩⟩
  subst e3 e4
  have s14 := Same.trans s12 (Same.trans s3 s4)
  obtain ⟨qs1, n1, _⟩ := (h1.imm (Same.imm s14)).node
  obtain ⟨qs2, n2, _⟩ := (h2.imm (Same.imm s14)).node
  refine ⟨rfl, _, rfl, ifT rfl ?_⟩
  obtain ⟨a', lva, lsa, e1, ⟨dxa, fsa, rva, cva, pta, sta, coa, oa⟩, hla, hoa⟩ := n1
  cases e1
  obtain ⟨b', lvb, lsb, e2, ⟨dxb, fsb, rvb, cvb, ptb, stb, cob, ob⟩, hlb, hob⟩ := n2
  cases e2
  refine ⟨_, rfl, rd_get oa.at_ (fc_of K f) oa.fld.s ⟨_, rfl, rd_get ob.at_ (fc_of K f) ob.fld.s ⟨⟨sta, stb, lva, lvb, rfl, rfl, SqT.of oa.s, SqT.of ob.s, ?_, fun i x y hx hy => ?_⟩, fun H' e => k _ _ (Same.trans s14 e) rfl⟩⟩⟩
  · rw [hla.len, hlb.len, hoa.unique hob]
  · obtain ⟨l, hl, hL⟩ := hla.get' hx
    obtain ⟨l', hl', hL'⟩ := hlb.get' hy
    rw [hoa.unique hob] at hl
    rw [hl] at hl'
    cases hl'
    have hm : l ∈ f.occ := (hob.mem l).mp (List.mem_of_getElem? hl)
    exact dlet_of (ok.inS l hm).2.2 hL hL'
end
end K9

/-! ## F55 -/
namespace K9
open PySem PySem.Spec PyProof.Rows L2
/-! The law's put_right: the plain part. -/
theorem woven_occ {a x y s w g f : Fm} {l : Ltr} (h : f ∈ Fm.woven a x y s w g) (hl : l ∈ f.occ) : l ∈ a.occ ∨ l ∈ x.occ ∨ l ∈ y.occ ∨ l ∈ s.occ ∨ l ∈ w.occ ∨ l ∈ g.occ := by
  simp only [Fm.woven, List.mem_cons, List.not_mem_nil, or_false] at h
  rcases h with rfl | rfl | rfl | rfl | rfl | rfl | rfl | rfl | rfl | rfl | rfl <;> simp only [Fm.occ, Fm.wDeep, Fm.wAround, Fm.wTable, List.mem_append, List.not_mem_nil, false_or, or_false] at hl <;> grind
theorem wv_occ {M : Mn} {f : Fm} {l : Ltr} (h : f ∈ wv (fun k => .letter (M.ltr k))) (hl : l ∈ f.occ) : ∃ k, k < 6 ∧ l = M.ltr k := by
  rcases woven_occ h hl with h | h | h | h | h | h
  · exact ⟨0, by decide, List.mem_singleton.mp h⟩
  · exact ⟨1, by decide, List.mem_singleton.mp h⟩
  · exact ⟨2, by decide, List.mem_singleton.mp h⟩
  · exact ⟨3, by decide, List.mem_singleton.mp h⟩
  · exact ⟨4, by decide, List.mem_singleton.mp h⟩
  · exact ⟨5, by decide, List.mem_singleton.mp h⟩
/-- what stands for a letter -/
def sgm (M : Mn) (g : Nat → Fm) (l : Ltr) : Fm := g (M.ls.idxOf l.name)
theorem sgm_at {M : Mn} (ok : M.Ok) (g : Nat → Fm) {k : Nat} (hk : k < 6) : sgm M g (M.ltr k) = g k := by
  unfold sgm
  rw [show (M.ltr k).name = M.lab k from rfl, idxOf_at ok.nm.ls.nd (ok.lab (by omega))]
theorem lab_inj {M : Mn} (ok : M.Ok) {j k : Nat} (hj : j < 7) (hk : k < 7) (e : M.lab j = M.lab k) : j = k := by
  have h1 := idxOf_at ok.nm.ls.nd (ok.lab hj)
  have h2 := idxOf_at ok.nm.ls.nd (ok.lab hk)
  rw [e] at h1
  omega
/-- pieces in the six places -/
def Pcs (S : Sys) (M : Mn) (g : Nat → Fm) : Prop := ∀ k, k < 6 → Fm.Pc S (M.row k) (M.col k) (g k)
theorem Pcs.six {S : Sys} {M : Mn} {g : Nat → Fm} (ok : M.Ok) (h : Pcs S M g) : Fm.Six S M.n M.p (g 0) (g 1) (g 2) (g 3) (g 4) (g 5) :=
  ⟨ok.nm.sn, ok.nm.sp, ok.nm.ne, h 0 (by decide), h 1 (by decide), h 2 (by decide), h 3 (by decide), h 4 (by decide), h 5 (by decide)⟩
theorem pcs_letters {M : Mn} (ok : M.Ok) : Pcs M.sys M (fun k => .letter (M.ltr k)) := fun k hk => pc_leaf (lf_letter ok hk)
theorem wv_sub {S : Sys} {M : Mn} {g : Nat → Fm} (ok : M.Ok) (h : Pcs S M g) : (wv (fun k => .letter (M.ltr k))).map (Fm.sub (sgm M g)) = wv g := by
  have r : ∀ k, k < 6 → (Fm.letter (M.ltr k)).rows = (sgm M g (M.ltr k)).rows := fun k hk => by
    rw [sgm_at ok g hk, (h k hk).r]
    rfl
  have e := Fm.woven_sub (σ := sgm M g) (l0 := M.ltr 0) (l1 := M.ltr 1) (l2 := M.ltr 2) (l3 := M.ltr 3) (l4 := M.ltr 4) (l5 := M.ltr 5) (r 0 (by decide)) (r 2 (by decide)) (r 5 (by decide))
  unfold wv
  rw [e, sgm_at ok g (by decide), sgm_at ok g (by decide), sgm_at ok g (by decide), sgm_at ok g (by decide), sgm_at ok g (by decide), sgm_at ok g (by decide)]
theorem wv_len (f : Nat → Fm) : (wv f).length = 11 := rfl
/-- of the dict's entries those whose names are among ns -/
def pickE (ns : List Str) (es : List (Str × V)) : List (Str × V) := es.filter fun e => decide (e.1 ∈ ns)
theorem pickE_succ {ns : List Str} {es : List (Str × V)} {i : Nat} {e : Str × V} (h : es[i]? = some e) : pickE ns (es.take (i + 1)) = pickE ns (es.take i) ++ (if e.1 ∈ ns then [e] else []) := by
  unfold pickE
  rw [List.take_succ, h, List.filter_append]
  congr 1
  show List.filter (fun e => decide (e.1 ∈ ns)) [e] = _
  rw [List.filter_cons]
  by_cases hc : e.1 ∈ ns <;> simp [hc]
theorem inV_strs (z : Str) (ns : List Str) : inV (.str z) (ns.map V.str) = decide (z ∈ ns) := by
  induction ns with
  | nil => rfl
  | cons a l ih =>
    have e : inV (.str z) ((a :: l).map V.str) = ((a == z) || inV (.str z) (l.map V.str)) := rfl
    rw [e, ih, Bool.eq_iff_iff]
    rw [Bool.or_eq_true, beq_iff_eq, decide_eq_true_iff, decide_eq_true_iff, List.mem_cons]
    exact ⟨fun h => h.elim (fun e => .inl e.symm) .inr, fun h => h.elim (fun e => .inl e.symm) .inr⟩
theorem strs_flat (ns : List Str) : (ns.map V.str).all flatV = true := by
  rw [List.all_eq_true]
  intro x hx
  obtain ⟨z, _, rfl⟩ := List.mem_map.mp hx
  rfl
end K9

/-! ## F56 -/
namespace K9
open PySem PySem.Spec PyProof.Rows L2
/-! The law's put_right. -/
theorem nodup_snd {es : List (Str × V)} (nd : (es.map (·.1)).Nodup) {n : Str} {v u : V} (h1 : (n, v) ∈ es) (h2 : (n, u) ∈ es) : v = u := by
  induction es with
  | nil => cases h1
  | cons e es ih =>
    rw [List.map_cons, List.nodup_cons] at nd
    rcases List.mem_cons.mp h1 with e1 | h1
    · rcases List.mem_cons.mp h2 with e2 | h2
      · rw [← e1] at e2
        exact (Prod.mk.inj e2).2.symm
      · exact absurd (List.mem_map.mpr ⟨_, h2, by rw [← e1]⟩) nd.1
    · rcases List.mem_cons.mp h2 with e2 | h2
      · exact absurd (List.mem_map.mpr ⟨_, h1, by rw [← e2]⟩) nd.1
      · exact ih nd.2 h1 h2
theorem val_mem {es : List (Str × V)} (nd : (es.map (·.1)).Nodup) {e : Str × V} (h : e ∈ es) : valV (kvOf es) (Sum.inr e.1) = some e.2 := by
  obtain ⟨v, hv, hm⟩ := val_kv (n := e.1) (List.mem_map.mpr ⟨e, h, rfl⟩)
  rw [hv, nodup_snd nd hm (show (e.1, e.2) ∈ es from h)]
theorem pickE_sub {ns : List Str} {es : List (Str × V)} : (pickE ns es).Sublist es := List.filter_sublist
theorem pickE_nd {ns : List Str} {es : List (Str × V)} (nd : (es.map (·.1)).Nodup) : ((pickE ns es).map (·.1)).Nodup := List.Sublist.nodup (pickE_sub.map _) nd
theorem pickE_mem {ns : List Str} {es : List (Str × V)} {e : Str × V} : e ∈ pickE ns es ↔ e ∈ es ∧ e.1 ∈ ns := by
  unfold pickE
  rw [List.mem_filter, decide_eq_true_iff]
theorem pickE_notin {ns : List Str} {es : List (Str × V)} (nd : (es.map (·.1)).Nodup) {i : Nat} {e : Str × V} (h : es[i]? = some e) : e.1 ∉ (pickE ns (es.take i)).map (·.1) := fun hc => by
  obtain ⟨e', he', e1⟩ := List.mem_map.mp hc
  have hm := (pickE_mem.mp he').1
  obtain ⟨j, hj, hje⟩ := List.mem_take_iff_getElem.mp hm
  have hi := (List.getElem?_eq_some_iff.mp h).1
  have h1 : (es.map (·.1))[i]? = (es.map (·.1))[j]? := by
    rw [List.getElem?_map, List.getElem?_map, h, List.getElem?_eq_getElem (by omega), hje]
    show some e.1 = some e'.1
    rw [e1]
  have := (List.getElem?_inj (by rw [List.length_map]; exact hi) nd).mp h1
  omega
/-- the chosen formulas after i turns -/
structure ChE (K : PySem.W.Frag) (M : Mn) (H : Hp) (g : Nat → Fm) (es : List (Str × V)) (i : Nat) : Prop where
  nd : (es.map (·.1)).Nodup
  is : ∀ e ∈ es, ∃ k, k < i ∧ k < 6 ∧ e.1 = M.lab k ∧ IsF K H (g k) e.2
  no : ∀ k, k < 6 → M.lab k ∉ es.map (·.1) → g k = .letter (M.ltr k)
  len : es.length ≤ i
theorem ChE.imm {K : PySem.W.Frag} {M : Mn} {H H' : Hp} {g : Nat → Fm} {es : List (Str × V)} {i : Nat} (im : Imm H H') (h : ChE K M H g es i) : ChE K M H' g es i :=
  ⟨h.nd, fun e he => let ⟨k, a, b, c, d⟩ := h.is e he; ⟨k, a, b, c, d.imm im⟩, h.no, h.len⟩
/-- what substituted is asked: the chosen entries whose names stand in the formula -/
theorem put_hes {K : PySem.W.Frag} {M : Mn} (ok : M.Ok) {H : Hp} {g : Nat → Fm} {es : List (Str × V)} {i : Nat} (ch : ChE K M H g es i) (pcs : Pcs M.sys M g) {f : Fm} (hf : f ∈ wv (fun k => .letter (M.ltr k))) {ls : List Ltr} (lo : LetsOk f ls) :
    (∀ l ∈ f.occ, DAt K H (kvOf (pickE (ls.map (·.name)) es)) (sgm M g) l) ∧
    (∀ e ∈ pickE (ls.map (·.name)) es, ∃ l ∈ f.occ, l.name = e.1 ∧ IsF K H (sgm M g l) e.2 ∧ valV (kvOf (pickE (ls.map (·.name)) es)) (Sum.inr e.1) = some e.2 ∧ (sgm M g l).sides = ([l.rows], [l.cols]) ∧ LNice l) := by
  have key : ∀ e ∈ es, ∀ k, k < 6 → e.1 = M.lab k → IsF K H (g k) e.2 := fun e he k hk e1 => by
    obtain ⟨k', _, h2, h3, h4⟩ := ch.is e he
    rw [lab_inj ok (show k < 7 by omega) (show k' < 7 by omega) (e1.symm.trans h3)]
    exact h4
  constructor
  · intro l hl
    obtain ⟨k, hk, rfl⟩ := wv_occ hf hl
    by_cases hm : M.lab k ∈ es.map (·.1)
    · obtain ⟨e, he, e1⟩ := List.mem_map.mp hm
      have hin : M.lab k ∈ (pickE (ls.map (·.name)) es).map (·.1) := List.mem_map.mpr ⟨e, pickE_mem.mpr ⟨he, by rw [e1]; exact List.mem_map.mpr ⟨M.ltr k, (lo.mem _).mpr hl, rfl⟩⟩, e1⟩
      obtain ⟨v, hv, hm2⟩ := val_kv hin
      refine .inl ⟨v, hv, ?_⟩
      rw [sgm_at ok g hk]
      exact key _ (pickE_mem.mp hm2).1 k hk rfl
    · refine .inr ⟨val_kv_none fun hc => ?_, ?_⟩
      · obtain ⟨e, he, e1⟩ := List.mem_map.mp hc
        exact hm (List.mem_map.mpr ⟨e, (pickE_mem.mp he).1, e1⟩)
      · rw [sgm_at ok g hk]
        exact ch.no k hk hm
  · intro e he
    obtain ⟨h1, h2⟩ := pickE_mem.mp he
    obtain ⟨l, hl, e1⟩ := List.mem_map.mp h2
    have hlo := (lo.mem l).mp hl
    obtain ⟨k, hk, rfl⟩ := wv_occ hf hlo
    refine ⟨_, hlo, e1, ?_, val_mem (pickE_nd ch.nd) he, ?_, (ok.ltr hk).nice⟩
    · rw [sgm_at ok g hk]
      exact key e h1 k hk e1.symm
    · rw [sgm_at ok g hk]
      exact (pcs k hk).sd
theorem LetsOk.few {M : Mn} {f : Fm} {ls : List Ltr} (h : LetsOk f ls) (ok : M.Ok) (hf : f ∈ wv (fun k => .letter (M.ltr k))) : ls.length ≤ 7 := by
  have := List.Nodup.length_le_of_subset h.nd (l₂ := M.ls) fun n hn => by
    obtain ⟨l, hl, rfl⟩ := List.mem_map.mp hn
    obtain ⟨k, hk, rfl⟩ := wv_occ hf ((h.mem l).mp hl)
    exact List.mem_of_getElem? (ok.lab (by omega))
  rw [List.length_map, ok.nm.ls.len] at this
  exact this
def spPut (K : PySem.W.Frag) : Sp := fun vs H Q _ => ∃ (c p m L : Addr) (n : Nat) (M : Mn), vs = [.ref p, .ref m, .ref L] ∧ Purse c p n H ∧ n < 10000 ∧ MenuAt H m M ∧ M.Ok ∧ m ≠ p ∧ L ≠ p ∧ LetsAt K H L (fun k => .letter (M.ltr k)) ∧ Drawn c p (n + 200) (fun v _ => v = .bl true) H Q
abbrev nPut : List Str := ["_law_purse_here", "_law_menu_here", "_law_letters_here", "_law_chosen", "_law_others", "_law_k", "_law_one", "_law_due", "_law_labels", "_law_table", "_law_label", "_law_letter"]
theorem sc_put : FnScope nPut ["_law_purse_here", "_law_menu_here", "_law_letters_here"] (defScope (top 104)) := ⟨rfl, rfl, rfl, by decide +kernel, rfl, by decide +kernel, by decide +kernel⟩
theorem ixN_nat {n k : Nat} (h : k < n) : ixN n (0 + (k : Int)) = some k := by
  unfold ixN
  rw [if_pos (by omega), if_pos (by omega)]
  simp
section
variable {w : World} {K : PySem.W.Frag} {mg : Str → Option Value} {base : Heap}
theorem cal_put (T : Txt K mg) : Cal Pg w K mg base 77 "_law_put_right" (spPut K) [] := by
  refine cal_of T.d__law_put_right sc_put (fun _ _ _ _ _ _ us hl => match us, hl with | [_, _, _], _ => rfl) (fun vs H Q E h => ?_) (fun f cdv A outer s H vs Q E hr h => ?_)
  · obtain ⟨c, p, m, L, n, M, rfl, _⟩ := h; rfl
  have ml := nofree T (x := "list") (by decide +kernel)
  have mr := nofree T (x := "range") (by decide +kernel)
  have mz := nofree T (x := "zip") (by decide +kernel)
  have hu1 : (A.deeper (envOfC "_law_put_right" (defScope (top 104)) s.heap.objs.size f cdv)).units + 1 < cLine := by have := hr.units; omega
  refine ⟨_, pss_cons (ps_par (i := 3) (j := 4) (by rfl) sc_put.nd rfl rfl (by decide) rfl rfl (pa_cons pe_dnewK (pa_cons (pe_callTy (listOf9 K) (by rfl) ml (by decide +kernel) (pa_cons (pv 2) pa_nil)) pa_nil)) (by rfl))
    (pss_cons (ps_for PassesOwn.never rfl (pi_range1 (by rfl) mr (pa_cons pe_int pa_nil)) (pg_name (i := 5) sc_put.nd rfl (Or.inl rfl))
      (pss_one (ps_if (pt_cmpR op_eq (pe_c (cal_draw T) hr (pa_cons (pv 0) (pa_cons pe_int pa_nil))) pe_int (nomark _))
        (pss_cons (ps_asg (pe_c (cal_build T 4) hr (pa_cons (pe_ix (ixT9 K) (pe_c (cal_spec T 2 (by decide)) hr (pa_cons (pv 0) (pa_cons (pv 1) (pa_cons (pe_ix (ixT9 K) (pe_ix (ixL9 K) (pv 1) (pv 5) (fun _ _ => rfl)) pe_int (fun _ _ => rfl)) (pa_cons (pe_ix (ixT9 K) (pe_ix (ixL9 K) (pv 1) (pv 5) (fun _ _ => rfl)) pe_int (fun _ _ => rfl)) (pa_cons pe_int (pa_cons pe_int pa_nil))))))) pe_int (fun _ _ => rfl)) (pa_cons (pv 2) pa_nil))) (pg_sub (pv 4) (pv 5) set_list))
        (pss_one (ps_dput hu1 (pv 3) (pe_ix (ixT9 K) (pe_ix (ixL9 K) (pv 1) (pv 5) (fun _ _ => rfl)) pe_int (fun _ _ => rfl)) (pe_ix (ixL9 K) (pv 4) (pv 5) (fun _ _ => rfl)) rfl))) pss_nil)))
    (pss_cons (ps_for PassesOwn.never rfl (pi_zip (by rfl) mz (pa_cons (pe_c (cal_woven T) hr (pa_cons (pv 2) pa_nil)) (pa_cons (pe_c (cal_woven T) hr (pa_cons (pv 4) pa_nil)) pa_nil))) (pg_tup rfl (pgs_cons (pg_name (i := 6) sc_put.nd rfl (Or.inl rfl)) (pgs_cons (pg_name (i := 7) sc_put.nd rfl (Or.inl rfl)) pgs_nil)))
      (pss_cons (ps_par (i := 8) (j := 9) (by rfl) sc_put.nd rfl rfl (by decide) rfl rfl (pa_cons (pe_lc (own := [("_law_letter", 11)]) (g := gName 11) (tt := tYes) rfl sc_put.nd (tup9 K (pe_prp (prp_letters T) hr (pv 6))) (blkOk_by (N := nPut) (sc := defScope (top 104)) (by decide +kernel)) (fun _ _ _ _ _ => pg_name (i := 11) sc_put.nd rfl (Or.inl rfl)) (fun _ _ _ _ _ => pts_nil)
          (fun _ _ _ _ _ => pe_prp (prp_lname T) hr (pv 11))) (pa_cons pe_dnewK pa_nil)) (by rfl))
      (pss_cons (ps_lock (ps_for PassesOwn.never rfl (pi_keys (pv 3)) (pg_name (i := 10) sc_put.nd rfl (Or.inl rfl)) (pss_one (ps_if (pt_cmpR op_in_seq (pv 10) (pv 8) rfl) (pss_one (ps_dput hu1 (pv 9) (pv 10) (pe_dget hu1 (pv 3) (pv 10) (fun _ _ => rfl)) rfl)) pss_nil))))
      (pss_one (ps_if (pt_not (pt_val (pe_c (cal_equal T) hr (pa_cons (pe_c (cal_substituted T) hr (pa_cons (pv 6) (pa_cons (pv 9) pa_nil))) (pa_cons (pv 7) pa_nil))))) (pss_one ps_never) pss_nil)))))
    (pss_one (ps_ret pe_bl)))), ?_⟩
  obtain ⟨c, p, m, L, n, M, rfl, hP, hn, hM, ok, nmp, nLp, hL, k⟩ := h
  have L1000 : ∀ {j : Nat}, j ≤ 1000 → j ≤ sizeLine := fun h => Nat.le_trans h thousand_line
  obtain ⟨pxs, hpx⟩ := hP.at_
  obtain ⟨lvs0, hl1, hl2, hl3⟩ := hL
  intro C hC
  have nCp : C ≠ p := (ne_of_none hpx hC).symm
  have nCL : C ≠ L := (ne_of_none hl1 hC).symm
  have sC := Same.upd hC (o := .dK (kvOf []))
  refine ⟨_, rfl, L, lvs0, rfl, .inl (SqL.of (sC _ _ hl1)), fun O hO => ⟨_, _, rfl, ?_⟩⟩
  have hC1 : (upd H C (.dK (kvOf []))) C = some (.dK (kvOf [])) := upd_same
  have nOC : O ≠ C := (ne_of_none hC1 hO).symm
  have hO0 : H O = none := Same.free sC hO
  have nOp : O ≠ p := (ne_of_none hpx hO0).symm
  have nOL : O ≠ L := (ne_of_none hl1 hO0).symm
  have sO := Same.trans sC (Same.upd hO (o := .lst lvs0))
  have hO1 : (upd (upd H C (.dK (kvOf []))) O (.lst lvs0)) O = some (.lst lvs0) := upd_same
  have hC2 : (upd (upd H C (.dK (kvOf []))) O (.lst lvs0)) C = some (.dK (kvOf [])) := by rw [upd_ne nOC.symm]; exact hC1
  obtain ⟨H1, eH1⟩ : ∃ G, G = upd (upd H C (.dK (kvOf []))) O (.lst lvs0) := ⟨_, rfl⟩
  rw [← eH1] at sO hO1 hC2
  refine of_heap eH1 ?_
  refine ⟨6, rfl, by decide, by decide, ?_⟩
  refine for_range (n := 6) (fun i σ' H' => ∃ o5 g es lvs, σ' = [some (.ref p), some (.ref m), some (.ref L), some (.ref C), some (.ref O), o5, none, none, none, none, none, none] ∧ Off p H H' ∧ Purse c p (n + 22 * i) H' ∧ H' C = some (.dK (kvOf es)) ∧ H' O = some (.lst lvs) ∧ lvs.length = 6 ∧ (∀ k, k < 6 → ∃ v, lvs[k]? = some v ∧ IsF K H' (g k) v) ∧ Pcs M.sys M g ∧ ChE K M H' g es i)
    ⟨none, fun k => .letter (M.ltr k), [], lvs0, rfl, Same.off sO, hP.same sO, hC2, hO1, hl2, fun k hk => let ⟨v, a, b⟩ := hl3 k hk; ⟨v, a, b.imm (Same.imm sO)⟩, pcs_letters ok, ⟨by simp, fun e he => (nomatch he), fun k _ _ => rfl, Nat.le_refl _⟩⟩ ?_ ?_
  · rintro i σ' H2 hi ⟨o5, g, es, lvs, rfl, o2, P2, hC3, hO3, hlen, hvs, pcs, ch⟩
    obtain ⟨p2, hp2⟩ := P2.at_
    refine ⟨_, rfl, c, p, n + 22 * i, 2, rfl, P2, by omega, by decide, by decide, fun v H3 o3 P3 hv => ?_⟩
    obtain ⟨j, hj, rfl⟩ := hv
    have im3 := o3.imm hp2
    have o03 := Off.trans o2 o3
    have hC4 := o3 _ _ nCp hC3
    have hO4 := o3 _ _ nOp hO3
    refine ⟨rfl, _, rfl, ?_⟩
    by_cases hj0 : j = 0
    rotate_left
    · refine ifF (fun e => hj0 (by have := V.int.inj e; omega)) ?_
      exact ⟨_, g, es, lvs, rfl, o03, P3.keep (by omega) (fun _ e => e) (fun _ e => e), hC4, hO4, hlen, fun k hk => let ⟨v, a, b⟩ := hvs k hk; ⟨v, a, b.imm im3⟩, pcs, ⟨ch.nd, fun e he => let ⟨k, a, b, c, d⟩ := ch.is e he; ⟨k, by omega, b, c, d.imm im3⟩, ch.no, Nat.le_trans ch.len (Nat.le_succ _)⟩⟩
    subst hj0
    refine ifT rfl ?_
    have im03 := o03.imm hpx
    have hM3 := hM.keep im03 (fun o e => o03 _ _ nmp e)
    obtain ⟨rvs, hm3, lrv, hent⟩ := id hM3
    obtain ⟨t, ht1, ht2⟩ := hent i hi
    have ei : ((0 : Int) + (i : Int)) = (i : Int) := by omega
    have hix : atI rvs (0 + (i : Int)) = some (.ref t) := by rw [ei]; exact atI_nat ht1
    refine ⟨_, rfl, _, rfl, _, rfl, _, rfl, m, rvs, _, .ref t, rfl, rfl, SqL.of hm3, hix, t, _, 1, .str (M.row i), rfl, rfl, SqT.of ht2, rfl, _, rfl, _, rfl, m, rvs, _, .ref t, rfl, rfl, SqL.of hm3, hix, t, _, 2, .str (M.col i), rfl, rfl, SqT.of ht2, rfl,
      c, p, m, n + 22 * i + 1, M, M.row i, M.col i, rfl, P3, by omega, hM3, ok, nmp, M.isr i, M.isc i, fun v H4 o4 P4 hv => ?_⟩
    obtain ⟨x, a, b, ⟨t', u, pr, rfl, ht', hu, hpr⟩, fx, px⟩ := hv
    obtain ⟨p3, hp3⟩ := P3.at_
    have im4 := o4.imm hp3
    have o04 := Off.trans o03 o4
    have im04 := o04.imm hpx
    have hL4 : LetsAt K H4 L (fun k => .letter (M.ltr k)) := ⟨lvs0, o04 _ _ nLp hl1, hl2, fun k hk => let ⟨v, a, b⟩ := hl3 k hk; ⟨v, a, b.imm im04⟩⟩
    refine ⟨t', _, 0, u, rfl, rfl, SqT.of ht', rfl, _, rfl, u, L, x, M.ltr, M.sys, rfl, hu, by rw [← Tr.dep_lv M.ltr]; exact px.lv, fx, hL4, px.ok, fun v3 H5 s5 hF => ?_⟩
    have im45 := Imm.trans im4 (Same.imm s5)
    have hO5 := s5 _ _ (o4 _ _ nOp hO4)
    have hC5 := s5 _ _ (o4 _ _ nCp hC4)
    refine ⟨_, rfl, _, rfl, O, lvs, _, i, rfl, rfl, hO5, by rw [hlen]; exact ixN_nat hi, ?_⟩
    have im6 : Imm H5 (upd H5 O (.lst (lvs.set i v3))) := Imm.lst hO5
    have hO6 : (upd H5 O (.lst (lvs.set i v3))) O = some (.lst (lvs.set i v3)) := upd_same
    have hC6 : (upd H5 O (.lst (lvs.set i v3))) C = some (.dK (kvOf es)) := by rw [upd_ne nOC.symm]; exact hC5
    have o06 : Off p H (upd H5 O (.lst (lvs.set i v3))) := fun b u n e => by
      rw [upd_ne (ne_of_none e hO0)]
      exact s5 _ _ (o04 _ _ n e)
    have P6 : Purse c p (n + 22 * i + 21) (upd H5 O (.lst (lvs.set i v3))) := (P4.same s5).keep (by omega) (fun o e => by rw [upd_ne nOp.symm]; exact e) (fun o e => by
      have : c ≠ O := fun z => by
        subst z
        obtain ⟨cells, t0, r0, _, h2, _⟩ := hP.ex
        rw [hO0] at h2
        cases h2
      rw [upd_ne this]; exact e)
    obtain ⟨H6, eH6⟩ : ∃ G, G = upd H5 O (.lst (lvs.set i v3)) := ⟨_, rfl⟩
    rw [← eH6] at im6 hO6 hC6 o06 P6
    refine of_heap eH6 ?_
    have im36 := Imm.trans im45 im6
    have im26 := Imm.trans im3 im36
    have hset : (lvs.set i v3)[i]? = some v3 := by rw [List.getElem?_set_self (by omega)]
    have hm6 : H6 m = some (.lst rvs) := by
      have := hM.keep (o06.imm hpx) (fun o e => o06 _ _ nmp e)
      obtain ⟨rvs', h1, _⟩ := this
      have hm0 := o03 m
      obtain ⟨rv0, g1, _⟩ := hM
      have e1 := o03 _ _ nmp g1
      rw [hm3] at e1
      cases e1
      exact o06 _ _ nmp g1
    have ht6 := im36 _ _ rfl ht2
    have notin : M.lab i ∉ es.map (·.1) := fun hc => by
      obtain ⟨e, he, e1⟩ := List.mem_map.mp hc
      obtain ⟨k', h1, h2, h3, _⟩ := ch.is e he
      have := lab_inj ok (show k' < 7 by omega) (show i < 7 by omega) (h3.symm.trans e1)
      omega
    refine ⟨_, rfl, _, rfl, O, _, _, v3, rfl, rfl, SqL.of hO6, by rw [ei]; exact atI_nat hset, _, rfl, _, rfl, _, rfl, m, rvs, _, .ref t, rfl, rfl, SqL.of hm6, hix, t, _, 0, .str (M.lab i), rfl, rfl, SqT.of ht6, rfl, C, _, rfl, DPut.k (k := Sum.inr (M.lab i)) (v := v3) hC6 (by simp [kvOf]; have := ch.len; exact Nat.lt_of_lt_of_le (show es.length < 1000 by omega) thousand_line), ?_⟩
    rw [put_kv notin]
    have im7 : Imm H6 (upd H6 C (.dK (kvOf (es ++ [(M.lab i, v3)])))) := Imm.dK hC6
    have im27 := Imm.trans im26 im7
    have im57 := Imm.trans im6 im7
    refine ⟨_, fun k => if k = i then x.fm M.ltr else g k, es ++ [(M.lab i, v3)], lvs.set i v3, rfl, fun b u n e => ?_, P6.keep (by omega) (fun o e => by rw [upd_ne nCp.symm]; exact e) (fun o e => ?_), upd_same, by rw [upd_ne nOC]; exact hO6, by rw [List.length_set]; exact hlen, fun k hk => ?_, fun k hk => ?_, ⟨?_, fun e he => ?_, fun k hk hno => ?_, ?_⟩⟩
    · rw [upd_ne (ne_of_none e hC)]
      exact o06 _ _ n e
    · have : c ≠ C := fun z => by
        subst z
        obtain ⟨cells, t0, r0, _, h2, _⟩ := hP.ex
        rw [hC] at h2
        cases h2
      rw [upd_ne this]; exact e
    · by_cases hki : k = i
      · subst hki
        exact ⟨v3, hset, by dsimp only; rw [if_pos rfl]; exact hF.imm im57⟩
      · obtain ⟨v, a, b⟩ := hvs k hk
        exact ⟨v, by rw [List.getElem?_set_ne (fun z => hki z.symm)]; exact a, by dsimp only; rw [if_neg hki]; exact b.imm im27⟩
    · by_cases hki : k = i
      · subst hki
        dsimp only; rw [if_pos rfl]; exact px
      · dsimp only; rw [if_neg hki]; exact pcs k hk
    · rw [List.map_append, List.nodup_append]
      exact ⟨ch.nd, by simp, fun a ha b hb => by simp at hb; subst hb; exact fun e => notin (e ▸ ha)⟩
    · rcases List.mem_append.mp he with he | he
      · obtain ⟨k, h1, h2, h3, h4⟩ := ch.is e he
        exact ⟨k, by omega, h2, h3, by rw [if_neg (by omega)]; exact h4.imm im27⟩
      · rw [List.mem_singleton.mp he]
        exact ⟨i, by omega, hi, rfl, by dsimp only; rw [if_pos rfl]; exact hF.imm im57⟩
    · rw [List.map_append] at hno
      have hki : k ≠ i := fun z => hno (by subst z; simp)
      rw [if_neg hki]
      exact ch.no k hk (fun z => hno (List.mem_append.mpr (.inl z)))
    · rw [List.length_append]
      have := ch.len
      exact Nat.add_le_add this (Nat.le_refl 1)
  · rintro σ' H2 ⟨o5, g, es, lvs, rfl, o2, P2, hC3, hO3, hlen, hvs, pcs, ch⟩
    have im02 := o2.imm hpx
    have hL2 : LetsAt K H2 L (fun k => .letter (M.ltr k)) := ⟨lvs0, o2 _ _ nLp hl1, hl2, fun k hk => let ⟨v, a, b⟩ := hl3 k hk; ⟨v, a, b.imm im02⟩⟩
    refine ⟨_, rfl, L, (fun k => .letter (M.ltr k)), M.sys, M.n, M.p, rfl, hL2, (pcs_letters ok).six ok, fun R1 H3 us1 s1 hR1n hR1 al1 => ?_⟩
    refine ⟨_, rfl, O, g, M.sys, M.n, M.p, rfl, ⟨lvs, s1 _ _ hO3, hlen, fun k hk => let ⟨v, a, b⟩ := hvs k hk; ⟨v, a, b.imm (Same.imm s1)⟩⟩, pcs.six ok, fun R2 H4 us2 s2 hR2n hR2 al2 => ?_⟩
    have l1 : us1.length = 11 := al1.len
    have l2 : us2.length = 11 := al2.len
    have hR1' := s2 _ _ hR1
    have s12 := Same.trans s1 s2
    have hC4 := s12 _ _ hC3
    have ch4 := ch.imm (Same.imm s12)
    have al1' := al1.imp fun v f h => h.imm (Same.imm s2)
    have okW := Fm.Six.woven (pcs.six ok)
    have okL := Fm.Six.woven ((pcs_letters ok).six ok)
    have esub := wv_sub ok pcs
    refine ⟨R1, R2, us1, us2, rfl, SqL.of hR1', SqL.of hR2, ?_⟩
    refine RZ.for_zipL (by rw [l1, l2]) (fun i σ' H' => ∃ o6 o7 o8 o9 o10, σ' = [some (.ref p), some (.ref m), some (.ref L), some (.ref C), some (.ref O), o5, o6, o7, o8, o9, o10, none] ∧ Same H4 H') ⟨none, none, none, none, none, rfl, Same.refl _⟩ (fun i σ' H' ⟨_, _, _, _, _, _, s⟩ => ⟨SqL.of (s _ _ hR1'), SqL.of (s _ _ hR2)⟩) ?_ ?_
    · rintro i x y T' σ' H5 hx hy ⟨o6, o7, o8, o9, o10, rfl, s5⟩ hT
      have s6 := Same.trans s5 (Same.upd hT (o := .tup [x, y]))
      have hT1 : (upd H5 T' (.tup [x, y])) T' = some (.tup [x, y]) := upd_same
      obtain ⟨H6, eH6⟩ : ∃ G, G = upd H5 T' (.tup [x, y]) := ⟨_, rfl⟩
      rw [← eH6] at s6 hT1
      refine ⟨T', _, rfl, SqT.of (by rw [← eH6]; exact hT1), rfl, _, _, rfl, _, _, rfl, rfl, ?_⟩
      rw [← eH6]
      obtain ⟨f0, hf0, hx1⟩ := al1'.get' hx
      obtain ⟨f1, hf1, hy1⟩ := al2.get' hy
      have ef : f1 = f0.sub (sgm M g) := by
        rw [← esub, List.getElem?_map, hf0] at hf1
        exact (Option.some.inj hf1).symm
      subst ef
      have hm0 := List.mem_of_getElem? hf0
      have hm1 := List.mem_of_getElem? hf1
      have hx2 := hx1.imm (Same.imm s6)
      have hy2 := hy1.imm (Same.imm s6)
      obtain ⟨ps, n1, _⟩ := hx2.node
      obtain ⟨a, lv, ls, rfl, ⟨dx, fs, rv, cv, pt, st, core, o⟩, hlv, hls⟩ := n1
      refine ⟨_, rfl, rd_get o.at_ (fc_of K f0) o.fld.s ⟨st, rfl, ⟨_, SqT.of o.s⟩, fun D hD => ?_⟩⟩
      refine map_it (walk_tup' (K := K) (a := st) (xs := lv)) (fun j z _ => ∃ l, ls[j]? = some l ∧ z = .str l.name) (fun _ _ _ _ _ h => h) hD (fun H' s => SqT.of (s _ _ o.s)) ?_ (fun j z H7 Q7 hj hz mm q7 => ?_) (fun ys H7 s7 hD1 hl1 hl2 => ?_)
      · have := hls.few ok hm0
        rw [hlv.len]
        exact L1000 (by omega)
      · obtain ⟨l, hl, hlL⟩ := hlv.get' hz
        exact ⟨_, rfl, rd_lname (hlL.imm (Same.imm mm.same)) (q7 _ _ (Same.refl _) ⟨l, hl, rfl⟩)⟩
      · have ens : ys = (ls.map (·.name)).map V.str := by
          rw [List.map_map]
          refine List.ext_getElem? fun j => ?_
          by_cases hj : j < ys.length
          · have e : ys[j]? = some ys[j] := List.getElem?_eq_getElem hj
            obtain ⟨l, hl, hz⟩ := hl2 j _ e
            rw [e, List.getElem?_map, hl, hz]
            rfl
          · rw [List.getElem?_eq_none (by omega), List.getElem?_eq_none (by rw [List.length_map]; have := hlv.len; omega)]
        rw [ens] at hD1
        refine fun Tb hTb => ⟨_, _, rfl, ?_⟩
        have hes := fun (H' : Hp) (i : Imm H4 H') => put_hes (K := K) ok (ch4.imm i) pcs hm0 hls
        have lns : (ls.map (·.name)).length = ls.length := List.length_map _
        generalize ls.map (·.name) = ns at *
        have h6Tb : H6 Tb = none := Same.free s7 hTb
        have hC6 : H6 C = some (.dK (kvOf es)) := s6 _ _ hC4
        have nDTb : D ≠ Tb := ne_of_none hD1 hTb
        have nCTb : C ≠ Tb := ne_of_none (s7 _ _ hC6) hTb
        have nDC : D ≠ C := (ne_of_none hC6 hD).symm
        have s8 := Same.trans s7 (Same.upd hTb (o := .dK []))
        have hTb8 : (upd H7 Tb (.dK [])) Tb = some (.dK []) := upd_same
        have hD8 : (upd H7 Tb (.dK [])) D = some (.lst (ns.map V.str)) := by rw [upd_ne nDTb]; exact hD1
        obtain ⟨H8, eH8⟩ : ∃ G, G = upd H7 Tb (.dK []) := ⟨_, rfl⟩
        rw [← eH8] at s8 hTb8 hD8
        refine of_heap eH8 ?_
        have hC8 := s8 _ _ hC6
        refine ⟨C, _, hC8, trivial, fun od => ?_⟩
        have hC9 : (upd H8 C (.frz od (.dK (kvOf es)))) C = some (.frz od (.dK (kvOf es))) := upd_same
        have hD9 : (upd H8 C (.frz od (.dK (kvOf es)))) D = some (.lst (ns.map V.str)) := by rw [upd_ne nDC]; exact hD8
        have hTb9 : (upd H8 C (.frz od (.dK (kvOf es)))) Tb = some (.dK []) := by rw [upd_ne nCTb.symm]; exact hTb8
        have o9 : ∀ b u, b ≠ C → H6 b = some u → (upd H8 C (.frz od (.dK (kvOf es)))) b = some u := fun b u n e => by rw [upd_ne n]; exact s8 _ _ e
        obtain ⟨H9, eH9⟩ : ∃ G, G = upd H8 C (.frz od (.dK (kvOf es))) := ⟨_, rfl⟩
        rw [← eH9] at hC9 hD9 hTb9 o9
        refine of_heap eH9 ?_
        refine ⟨_, rfl, C, od, rfl, .inl ⟨_, hC9, ?_⟩⟩
        have lkv : (kvOf es).length = es.length := by simp [kvOf]
        refine for_it (walk_keys (o := od)) (fun j σ' H' => ∃ o10, σ' = [some (.ref p), some (.ref m), some (.ref L), some (.ref C), some (.ref O), o5, some (.ref a), some y, some (.ref D), some (.ref Tb), o10, none] ∧ Off Tb H9 H' ∧ H' Tb = some (.dK (kvOf (pickE ns (es.take j))))) ⟨_, rfl, Off.refl, hTb9⟩ (fun j σ' H' _ ⟨_, _, o, _⟩ => o _ _ nCTb hC9) ?_ ?_
        · rintro j z σ' H10 H11 hj ⟨o10', rfl, off, hTb10⟩ hz
          obtain ⟨rfl, kk, vv, hk, rfl⟩ := hz
          obtain ⟨e, he, heq⟩ : ∃ e, es[j]? = some e ∧ (Sum.inr e.1, e.2) = (kk, vv) := by
            unfold kvOf at hk
            rw [List.getElem?_map] at hk
            exact Option.map_eq_some_iff.mp hk
          cases heq
          have hD10 := off _ _ nDTb hD9
          have hC10 := off _ _ nCTb hC9
          refine ⟨_, rfl, _, rfl, D, _, rfl, .inl (SqL.of hD10), rfl, strs_flat ns, decide (e.1 ∈ ns), by rw [← inV_strs]; rfl, ?_⟩
          by_cases hin : e.1 ∈ ns
          · refine ifT hin ⟨_, rfl, _, rfl, C, e.2, rfl, .inl ⟨kvOf es, Sum.inr e.1, .inr ⟨od, hC10⟩, rfl, (val_mem ch4.nd (List.mem_of_getElem? he)).symm⟩, _, rfl, _, rfl, Tb, _, rfl, DPut.k (k := Sum.inr e.1) (v := e.2) hTb10 ?_, ?_⟩
            · have h1 := (pickE_sub (ns := ns) (es := es.take j)).length_le
              rw [List.length_take] at h1
              have h2 := ch4.len
              simp only [kvOf, List.length_map]
              exact Nat.lt_of_lt_of_le (show _ < 1000 by omega) thousand_line
            · rw [put_kv (pickE_notin ch4.nd he)]
              refine ⟨_, rfl, Off.trans off Off.upd, ?_⟩
              rw [pickE_succ he, if_pos hin]
              exact upd_same
          · refine ifF hin ⟨_, rfl, off, ?_⟩
            rw [pickE_succ he, if_neg hin, List.append_nil]
            exact hTb10
        · rintro σ' H10 ⟨o10', rfl, off, hTb10⟩
          rw [lkv, List.take_length] at hTb10
          refine ⟨off _ _ nCTb hC9, ?_⟩
          have sX : Same H6 (upd H10 C (.dK (kvOf es))) := fun b u e => by
            by_cases hb : b = C
            · subst hb
              rw [upd_same]
              rw [hC6] at e
              exact e
            · rw [upd_ne hb]
              exact off b u (ne_of_none e h6Tb) (o9 b u hb e)
          have hTb11 : (upd H10 C (.dK (kvOf es))) Tb = some (.dK (kvOf (pickE ns es))) := by rw [upd_ne nCTb.symm]; exact hTb10
          obtain ⟨H11, eH11⟩ : ∃ G, G = upd H10 C (.dK (kvOf es)) := ⟨_, rfl⟩
          rw [← eH11] at sX hTb11
          refine of_heap eH11 ?_
          have iX := Same.imm sX
          have i4 := Imm.trans (Same.imm s6) iX
          have lp : (pickE ns es).length ≤ 60 := by
            have h1 := (pickE_sub (ns := ns) (es := es)).length_le
            have h2 := ch4.len
            omega
          obtain ⟨hat, hee⟩ := hes _ i4
          have okf := (okW _ hm1).1
          refine ⟨_, rfl, _, rfl, .ref a, Tb, pickE ns es, f0, sgm M g, M.sys, rfl, hTb11, lp, hx2.imm iX, (okL _ hm0).1.lim.l, okf, hat, hee, fun v' H12 s12 hv => ?_⟩
          refine ⟨_, rfl, v', y, f0.sub (sgm M g), M.sys, rfl, hv, (hy2.imm iX).imm (Same.imm s12), okf, (okW _ hm1).2, fun v'' H13 s13 e => ?_⟩
          subst e
          exact ⟨_, rfl, iteF ⟨_, _, _, _, _, rfl, Same.trans s6 (Same.trans sX (Same.trans s12 s13))⟩⟩
    · rintro σ' H5 ⟨o6, o7, o8, o9, o10, rfl, s5⟩
      have s25 := Same.trans s12 s5
      exact k _ _ (Off.trans o2 (Same.off s25)) ((P2.same s25).keep (by omega) (fun _ e => e) (fun _ e => e)) rfl
end
end K9

/-! ## F57 -/
namespace K9
open PySem PySem.Spec PyProof.Rows L2
/-! The law's moved_right. -/
/-- letters in the six places, with other numbers -/
structure Hs (M : Mn) (h : Nat → Ltr) : Prop where
  nm : ∀ k, k < 6 → (h k).name = M.lab k
  r : ∀ k, k < 6 → (h k).rows = M.row k
  c : ∀ k, k < 6 → (h k).cols = M.col k
  s : ∀ k, k < 6 → (h k).sym = Mn.sym k
  ok : ∀ k, k < 6 → (h k).Ok
theorem hs_letters {M : Mn} (ok : M.Ok) : Hs M M.ltr := ⟨fun _ _ => rfl, fun _ _ => rfl, fun _ _ => rfl, fun _ _ => rfl, fun k hk => ok.ltr hk⟩
theorem Hs.pcs {M : Mn} {h : Nat → Ltr} (ok : M.Ok) (a : Hs M h) : Pcs (sysOf M.ls h) M (fun k => .letter (h k)) := fun k hk => by
  obtain ⟨h1, h2⟩ := ok.at_ (L := h) hk (a.nm k hk)
  have b := Fm.Bn.letter (S := sysOf M.ls h) (a.ok k hk) h1 h2
  rw [a.r k hk, a.c k hk] at b
  refine pc_of b.mono fun n => ?_
  show [[(h k).about]] = _
  rw [(a.ok k hk).a (.inl (by rw [a.r k hk, a.c k hk]; exact n))]
/-- another number for a letter -/
def mv (M : Mn) (k : Nat) (q : Rat) : Ltr := ⟨M.lab k, M.row k, M.col k, Mn.sym k, q⟩
theorem mv_ok {M : Mn} (ok : M.Ok) {k : Nat} (hk : k = 0 ∨ k = 3 ∨ k = 5) {q : Rat} (hq : BdR 8 q) : (mv M k q).Ok := by
  have hm : M.lab k ∈ M.ls := List.mem_of_getElem? (ok.lab (by omega))
  have hn := ok.nm.sn
  have hp := ok.nm.sp
  rcases hk with rfl | rfl | rfl
  · exact ⟨ok.nm.ls.is _ hm, hn, hn, .inl rfl, fun e => absurd rfl e, fun e => by rcases e with e | e; exact absurd rfl e; exact absurd e (show ¬ (Str.ofString "plain" = Str.ofString "skew") by decide +kernel), hq⟩
  · exact ⟨ok.nm.ls.is _ hm, hp, hp, .inr (.inl rfl), fun _ => rfl, fun e => by rcases e with e | e; exact absurd rfl e; exact absurd e (show ¬ (Str.ofString "symmetric" = Str.ofString "skew") by decide +kernel), hq⟩
  · exact ⟨ok.nm.ls.is _ hm, hp, hp, .inl rfl, fun e => absurd rfl e, fun e => by rcases e with e | e; exact absurd rfl e; exact absurd e (show ¬ (Str.ofString "plain" = Str.ofString "skew") by decide +kernel), hq⟩
theorem Hs.put {M : Mn} {h : Nat → Ltr} (a : Hs M h) {i : Nat} {q : Rat} (hq : (mv M i q).Ok) : Hs M (fun k => if k = i then mv M i q else h k) := by
  refine ⟨fun k hk => ?_, fun k hk => ?_, fun k hk => ?_, fun k hk => ?_, fun k hk => ?_⟩ <;> by_cases e : k = i
  · subst e; rw [if_pos rfl]; rfl
  · rw [if_neg e]; exact a.nm k hk
  · subst e; rw [if_pos rfl]; rfl
  · rw [if_neg e]; exact a.r k hk
  · subst e; rw [if_pos rfl]; rfl
  · rw [if_neg e]; exact a.c k hk
  · subst e; rw [if_pos rfl]; rfl
  · rw [if_neg e]; exact a.s k hk
  · subst e; rw [if_pos rfl]; exact hq
  · rw [if_neg e]; exact a.ok k hk
def mvKs : List Nat := [0, 3, 5]
/-- the chosen numbers after i turns -/
structure ChM (K : PySem.W.Frag) (M : Mn) (H : Hp) (h : Nat → Ltr) (es : List (Str × V)) (i : Nat) : Prop where
  nd : (es.map (·.1)).Nodup
  is : ∀ e ∈ es, ∃ k, k ∈ mvKs.take i ∧ e.1 = M.lab k ∧ NumV K H e.2 (h k).about
  no : ∀ k, k < 6 → M.lab k ∉ es.map (·.1) → h k = M.ltr k
  len : es.length ≤ i
theorem mvKs_lt {k i : Nat} (h : k ∈ mvKs.take i) : k = 0 ∨ k = 3 ∨ k = 5 := by
  have := List.mem_of_mem_take h
  simpa [mvKs] using this
theorem ChM.imm {K : PySem.W.Frag} {M : Mn} {H H' : Hp} {h : Nat → Ltr} {es : List (Str × V)} {i : Nat} (im : Imm H H') (a : ChM K M H h es i) : ChM K M H' h es i :=
  ⟨a.nd, fun e he => let ⟨k, b, c, d⟩ := a.is e he; ⟨k, b, c, d.imm im⟩, a.no, a.len⟩
def sgl (M : Mn) (h : Nat → Ltr) (l : Ltr) : Ltr := h (M.ls.idxOf l.name)
theorem sgl_at {M : Mn} (ok : M.Ok) (h : Nat → Ltr) {k : Nat} (hk : k < 6) : sgl M h (M.ltr k) = h k := by
  unfold sgl
  rw [show (M.ltr k).name = M.lab k from rfl, idxOf_at ok.nm.ls.nd (ok.lab (by omega))]
theorem mov_hes {K : PySem.W.Frag} {M : Mn} (ok : M.Ok) {H : Hp} {h : Nat → Ltr} {es : List (Str × V)} {i : Nat} (ch : ChM K M H h es i) (hs : Hs M h) {f : Fm} (hf : f ∈ wv (fun k => .letter (M.ltr k))) {ls : List Ltr} (lo : LetsOk f ls) :
    (∀ l ∈ f.occ, l.name ∉ (pickE (ls.map (·.name)) es).map (·.1) → sgl M h l = l) ∧ (∀ l ∈ f.occ, ∀ k ∈ f.occ, l.name = k.name → l = k) ∧
    (∀ e ∈ pickE (ls.map (·.name)) es, ∃ l ∈ f.occ, l.name = e.1 ∧ ∃ q, NumV K H e.2 q ∧ valV (kvOf (pickE (ls.map (·.name)) es)) (Sum.inr e.1) = some e.2 ∧ sgl M h l = ⟨l.name, l.rows, l.cols, l.sym, q⟩ ∧ (sgl M h l).Ok) := by
  refine ⟨fun l hl hno => ?_, fun l hl k hk e => name_inj lo.nd ((lo.mem l).mpr hl) ((lo.mem k).mpr hk) e, fun e he => ?_⟩
  · obtain ⟨k, hk, rfl⟩ := wv_occ hf hl
    rw [sgl_at ok h hk]
    refine ch.no k hk fun hc => hno ?_
    obtain ⟨e, he, e1⟩ := List.mem_map.mp hc
    exact List.mem_map.mpr ⟨e, pickE_mem.mpr ⟨he, by rw [e1]; exact List.mem_map.mpr ⟨M.ltr k, (lo.mem _).mpr hl, rfl⟩⟩, e1⟩
  · obtain ⟨h1, h2⟩ := pickE_mem.mp he
    obtain ⟨l, hl, e1⟩ := List.mem_map.mp h2
    have hlo := (lo.mem l).mp hl
    obtain ⟨k, hk, rfl⟩ := wv_occ hf hlo
    obtain ⟨k', g1, g2, g3⟩ := ch.is e h1
    have hk' : k' < 6 := by rcases mvKs_lt g1 with r | r | r <;> omega
    have ek : k = k' := lab_inj ok (show k < 7 by omega) (show k' < 7 by omega) (e1.trans g2)
    subst ek
    refine ⟨_, hlo, e1, (h k).about, g3, val_mem (pickE_nd ch.nd) he, ?_, ?_⟩
    · rw [sgl_at ok h hk]
      have a1 := hs.nm k hk
      have a2 := hs.r k hk
      have a3 := hs.c k hk
      have a4 := hs.s k hk
      show h k = ⟨M.lab k, M.row k, M.col k, Mn.sym k, (h k).about⟩
      rw [← a1, ← a2, ← a3, ← a4]
    · rw [sgl_at ok h hk]
      exact hs.ok k hk
abbrev nMov : List Str := ["_law_purse_here", "_law_menu_here", "_law_letters_here", "_law_chosen", "_law_others", "_law_k", "_law_number", "_law_one", "_law_due", "_law_labels", "_law_table", "_law_label", "_law_told", "_law_letter"]
theorem sc_mov : FnScope nMov ["_law_purse_here", "_law_menu_here", "_law_letters_here"] (defScope (top 105)) := ⟨rfl, rfl, rfl, by decide +kernel, rfl, by decide +kernel, by decide +kernel⟩
section
variable {w : World} {K : PySem.W.Frag} {mg : Str → Option Value} {base : Heap}
theorem cal_mov (T : Txt K mg) : Cal Pg w K mg base 77 "_law_moved_right" (spPut K) [] := by
  refine cal_of T.d__law_moved_right sc_mov (fun _ _ _ _ _ _ us hl => match us, hl with | [_, _, _], _ => rfl) (fun vs H Q E h => ?_) (fun f cdv A outer s H vs Q E hr h => ?_)
  · obtain ⟨c, p, m, L, n, M, rfl, _⟩ := h; rfl
  have ml := nofree T (x := "list") (by decide +kernel)
  have mz := nofree T (x := "zip") (by decide +kernel)
  obtain ⟨lf, lfd, lmk, lg, lF, lkb⟩ := (mak_Letter (w := w) (base := base) T).ex
  have hu1 : (A.deeper (envOfC "_law_moved_right" (defScope (top 105)) s.heap.objs.size f cdv)).units + 1 < cLine := by have := hr.units; omega
  refine ⟨_, pss_cons (ps_par (i := 3) (j := 4) (by rfl) sc_mov.nd rfl rfl (by decide) rfl rfl (pa_cons pe_dnewK (pa_cons (pe_callTy (listOf9 K) (by rfl) ml (by decide +kernel) (pa_cons (pv 2) pa_nil)) pa_nil)) (by rfl))
    (pss_cons (ps_for PassesOwn.never rfl (lst9 K (pe_lst (pa_cons pe_int (pa_cons pe_int (pa_cons pe_int pa_nil))))) (pg_name (i := 5) sc_mov.nd rfl (Or.inl rfl))
      (pss_cons (ps_set (i := 6) sc_mov.nd rfl (Or.inl rfl) (pe_mk (mak_ratio2 T) hr (pa_cons (pe_op op_sub (pe_c (cal_draw T) hr (pa_cons (pv 0) (pa_cons pe_int pa_nil))) pe_int) (pa_cons (pe_op op_add pe_int (pe_c (cal_draw T) hr (pa_cons (pv 0) (pa_cons pe_int pa_nil)))) pa_nil))))
      (pss_one (ps_if (pt_cmpR op_gt (pe_c (cal_draw T) hr (pa_cons (pv 0) (pa_cons pe_int pa_nil))) pe_int (nomark _))
        (pss_cons (ps_asg (pe_makeK lmk lF (hr.mono (by decide)) (by rfl) lg lkb pass0 (pa_cons (pe_ix (ixT9 K) (pe_ix (ixL9 K) (pv 1) (pv 5) (fun _ _ => rfl)) pe_int (fun _ _ => rfl)) (pa_cons (pe_ix (ixT9 K) (pe_ix (ixL9 K) (pv 1) (pv 5) (fun _ _ => rfl)) pe_int (fun _ _ => rfl)) (pa_cons (pe_ix (ixT9 K) (pe_ix (ixL9 K) (pv 1) (pv 5) (fun _ _ => rfl)) pe_int (fun _ _ => rfl)) pa_nil)))
          (pk_cons (pe_ix (ixT9 K) (pe_ix (ixL9 K) (pv 1) (pv 5) (fun _ _ => rfl)) pe_int (fun _ _ => rfl)) (pk_cons (pv 6) pk_nil))) (pg_sub (pv 4) (pv 5) set_list))
        (pss_one (ps_dput hu1 (pv 3) (pe_ix (ixT9 K) (pe_ix (ixL9 K) (pv 1) (pv 5) (fun _ _ => rfl)) pe_int (fun _ _ => rfl)) (pv 6) rfl))) pss_nil))))
    (pss_cons (ps_for PassesOwn.never rfl (pi_zip (by rfl) mz (pa_cons (pe_c (cal_woven T) hr (pa_cons (pv 2) pa_nil)) (pa_cons (pe_c (cal_woven T) hr (pa_cons (pv 4) pa_nil)) pa_nil))) (pg_tup rfl (pgs_cons (pg_name (i := 7) sc_mov.nd rfl (Or.inl rfl)) (pgs_cons (pg_name (i := 8) sc_mov.nd rfl (Or.inl rfl)) pgs_nil)))
      (pss_cons (ps_par (i := 9) (j := 10) (by rfl) sc_mov.nd rfl rfl (by decide) rfl rfl (pa_cons (pe_lc (own := [("_law_letter", 13)]) (g := gName 13) (tt := tYes) rfl sc_mov.nd (tup9 K (pe_prp (prp_letters T) hr (pv 7))) (blkOk_by (N := nMov) (sc := defScope (top 105)) (by decide +kernel)) (fun _ _ _ _ _ => pg_name (i := 13) sc_mov.nd rfl (Or.inl rfl)) (fun _ _ _ _ _ => pts_nil)
          (fun _ _ _ _ _ => pe_prp (prp_lname T) hr (pv 13))) (pa_cons pe_dnewK pa_nil)) (by rfl))
      (pss_cons (ps_lock (ps_for PassesOwn.never rfl (pi_keys (pv 3)) (pg_name (i := 11) sc_mov.nd rfl (Or.inl rfl)) (pss_one (ps_if (pt_cmpR op_in_seq (pv 11) (pv 9) rfl) (pss_one (ps_dput hu1 (pv 10) (pv 11) (pe_dget hu1 (pv 3) (pv 11) (fun _ _ => rfl)) rfl)) pss_nil))))
      (pss_cons (ps_set (i := 12) sc_mov.nd rfl (Or.inl rfl) (pe_c (cal_moved T) hr (pa_cons (pv 7) (pa_cons (pv 10) pa_nil))))
      (pss_one (ps_if (PW.pt (pw_or (pt_not (pt_val (pe_c (cal_equal T) hr (pa_cons (pv 12) (pa_cons (pv 8) pa_nil))))) (pw_or1 (pt_cmpR (op_neI (ok := isMat K) (opm_mEq T) (fun C h => h ▸ T.mNe) hr) (pe_prp (prp_middle T) hr (pv 12)) (pe_prp (prp_middle T) hr (pv 8)) (nomark _))))) (pss_one ps_never) pss_nil))))))
    (pss_one (ps_ret pe_bl)))), ?_⟩
  obtain ⟨c, p, m, L, n, M, rfl, hP, hn, hM, ok, nmp, nLp, hL, k⟩ := h
  have L1000 : ∀ {j : Nat}, j ≤ 1000 → j ≤ sizeLine := fun h => Nat.le_trans h thousand_line
  obtain ⟨pxs, hpx⟩ := hP.at_
  obtain ⟨lvs0, hl1, hl2, hl3⟩ := hL
  intro C hC
  have nCp : C ≠ p := (ne_of_none hpx hC).symm
  have sC := Same.upd hC (o := .dK (kvOf []))
  refine ⟨_, rfl, L, lvs0, rfl, .inl (SqL.of (sC _ _ hl1)), fun O hO => ⟨_, _, rfl, ?_⟩⟩
  have hC1 : (upd H C (.dK (kvOf []))) C = some (.dK (kvOf [])) := upd_same
  have nOC : O ≠ C := (ne_of_none hC1 hO).symm
  have hO0 : H O = none := Same.free sC hO
  have nOp : O ≠ p := (ne_of_none hpx hO0).symm
  have sO := Same.trans sC (Same.upd hO (o := .lst lvs0))
  have hO1 : (upd (upd H C (.dK (kvOf []))) O (.lst lvs0)) O = some (.lst lvs0) := upd_same
  have hC2 : (upd (upd H C (.dK (kvOf []))) O (.lst lvs0)) C = some (.dK (kvOf [])) := by rw [upd_ne nOC.symm]; exact hC1
  obtain ⟨H1, eH1⟩ : ∃ G, G = upd (upd H C (.dK (kvOf []))) O (.lst lvs0) := ⟨_, rfl⟩
  rw [← eH1] at sO hO1 hC2
  refine of_heap eH1 ?_
  refine ⟨L1000 (show 3 ≤ 1000 by decide), fun Z hZ => ⟨Z, rfl, ⟨_, SqL.of upd_same⟩, ?_⟩⟩
  have hZ1 : (upd H1 Z (.lst [.int 0, .int 3, .int 5])) Z = some (.lst [.int 0, .int 3, .int 5]) := upd_same
  have sZ := Same.trans sO (Same.upd hZ (o := .lst [.int 0, .int 3, .int 5]))
  have nZC : Z ≠ C := (ne_of_none hC2 hZ).symm
  have nZO : Z ≠ O := (ne_of_none hO1 hZ).symm
  have nZp : Z ≠ p := (ne_of_none (sO _ _ hpx) hZ).symm
  have hC2' : (upd H1 Z (.lst [.int 0, .int 3, .int 5])) C = some (.dK (kvOf [])) := by rw [upd_ne nZC.symm]; exact hC2
  have hO1' : (upd H1 Z (.lst [.int 0, .int 3, .int 5])) O = some (.lst lvs0) := by rw [upd_ne nZO.symm]; exact hO1
  refine for_list (xs := [.int 0, .int 3, .int 5]) (fun i σ' H' => ∃ o5 o6 h es lvs, σ' = [some (.ref p), some (.ref m), some (.ref L), some (.ref C), some (.ref O), o5, o6, none, none, none, none, none, none, none] ∧ Off p H H' ∧ Purse c p (n + 3 * i) H' ∧ H' Z = some (.lst [.int 0, .int 3, .int 5]) ∧ H' C = some (.dK (kvOf es)) ∧ H' O = some (.lst lvs) ∧ lvs.length = 6 ∧ (∀ k, k < 6 → ∃ v, lvs[k]? = some v ∧ IsF K H' (.letter (h k)) v) ∧ Hs M h ∧ ChM K M H' h es i)
    ⟨none, none, M.ltr, [], lvs0, rfl, Same.off sZ, hP.same sZ, hZ1, hC2', hO1', hl2, fun k hk => let ⟨v, a, b⟩ := hl3 k hk; ⟨v, a, b.imm (Same.imm sZ)⟩, hs_letters ok, ⟨by simp, fun e he => (nomatch he), fun k _ _ => rfl, Nat.le_refl _⟩⟩ (fun i σ' H' _ ⟨_, _, _, _, _, _, _, _, e, _⟩ => SqL.of e) ?_ ?_
  · rintro i z σ' H2 hz ⟨o5, o6, h, es, lvs, rfl, o2, P2, hZ2, hC3, hO3, hlen, hvs, hs, ch⟩
    obtain ⟨kk, hkk, rfl, hk035⟩ : ∃ kk : Nat, mvKs[i]? = some kk ∧ z = .int (kk : Nat) ∧ (kk = 0 ∨ kk = 3 ∨ kk = 5) := by
      match i, hz with
      | 0, hz => cases hz; exact ⟨0, rfl, rfl, .inl rfl⟩
      | 1, hz => cases hz; exact ⟨3, rfl, rfl, .inr (.inl rfl)⟩
      | 2, hz => cases hz; exact ⟨5, rfl, rfl, .inr (.inr rfl)⟩
      | i + 3, hz => simp at hz
    have hi : i < 3 := (List.getElem?_eq_some_iff.mp hkk).1
    have hk6 : kk < 6 := by omega
    obtain ⟨p2, hp2⟩ := P2.at_
    refine ⟨_, rfl, c, p, n + 3 * i, 9, rfl, P2, by omega, by decide, by decide, fun v H3 o3 P3 hv => ?_⟩
    obtain ⟨j1, hj1, rfl⟩ := hv
    refine ⟨_, _, rfl, rfl, _, rfl, c, p, n + 3 * i + 1, 3, rfl, P3, by omega, by decide, by decide, fun v H4 o4 P4 hv => ?_⟩
    obtain ⟨j2, hj2, rfl⟩ := hv
    refine ⟨_, _, rfl, rfl, fun rx rdx hrx hrd hrne => ⟨rx, rdx, (j1 : Int) - 4, 1 + (j2 : Int), rfl, by omega, Nat.lt_of_lt_of_le (show (1 + (j2 : Int)).natAbs < 2 ^ 8 by omega) (Nat.pow_le_pow_right (show 0 < 2 by decide) (show 8 ≤ 9000 by decide)), upd_same, fun H5 a5 => ⟨rfl, ?_⟩⟩⟩
    have s5 : Same H4 H5 := At1.same hrx hrd a5
    have hR : IsR K H5 (.ref rx) (Rat.divInt ((j1 : Int) - 4) (1 + (j2 : Int))) := ⟨rx, rdx, rfl, a5.at_⟩
    have hq : BdR 8 (Rat.divInt ((j1 : Int) - 4) (1 + (j2 : Int))) := BdR.divInt (by omega) (by omega) (by omega)
    generalize Rat.divInt ((j1 : Int) - 4) (1 + (j2 : Int)) = q at *
    have P5 := P4.same s5
    refine ⟨_, rfl, c, p, n + 3 * i + 2, 3, rfl, P5, by omega, by decide, by decide, fun v H6 o6' P6 hv => ?_⟩
    obtain ⟨j3, hj3, rfl⟩ := hv
    have o26 : Off p H2 H6 := Off.trans o3 (Off.trans o4 (Off.trans (Same.off s5) o6'))
    have im26 := o26.imm hp2
    have im56 := o6'.imm P5.at_.choose_spec
    have o06 := Off.trans o2 o26
    have hR6 := hR.imm im56
    have hC6 := o26 _ _ nCp hC3
    have hO6 := o26 _ _ nOp hO3
    have hZ6 := o26 _ _ nZp hZ2
    refine ⟨_, _, rfl, rfl, _, rfl, ?_⟩
    by_cases hj0 : j3 > 0
    rotate_left
    · refine ifF (show ¬ (j3 : Int) > 0 by omega) ?_
      exact ⟨_, _, h, es, lvs, rfl, o06, P6.keep (by omega) (fun _ e => e) (fun _ e => e), hZ6, hC6, hO6, hlen, fun k hk => let ⟨v, a, b⟩ := hvs k hk; ⟨v, a, b.imm im26⟩, hs, ⟨ch.nd, fun e he => let ⟨k, a, b, c⟩ := ch.is e he; ⟨k, (List.take_sublist_take_left (Nat.le_succ i)).mem a, b, c.imm im26⟩, ch.no, Nat.le_trans ch.len (Nat.le_succ _)⟩⟩
    refine ifT (show (j3 : Int) > 0 by omega) ?_
    have im06 := o06.imm hpx
    have hM6 := hM.keep im06 (fun o e => o06 _ _ nmp e)
    obtain ⟨rvs, hm6, lrv, hent⟩ := id hM6
    obtain ⟨t, ht1, ht2⟩ := hent kk hk6
    have hix : atI rvs (kk : Int) = some (.ref t) := atI_nat ht1
    refine ⟨_, rfl, _, rfl, m, rvs, _, .ref t, rfl, rfl, SqL.of hm6, hix, t, _, 0, .str (M.lab kk), rfl, rfl, SqT.of ht2, rfl, _, rfl, _, rfl, m, rvs, _, .ref t, rfl, rfl, SqL.of hm6, hix, t, _, 1, .str (M.row kk), rfl, rfl, SqT.of ht2, rfl, _, rfl, _, rfl, m, rvs, _, .ref t, rfl, rfl, SqL.of hm6, hix, t, _, 2, .str (M.col kk), rfl, rfl, SqT.of ht2, rfl,
      _, rfl, _, rfl, m, rvs, _, .ref t, rfl, rfl, SqL.of hm6, hix, t, _, 3, .str (Mn.sym kk), rfl, rfl, SqT.of ht2, rfl, _, rfl, rfl, rfl, fun x dx hx hdx ne => ?_⟩
    have s7 := new_same (K := K) (C := He.ga K "Letter") hx hdx
    refine ⟨x, dx, H6, mv M kk q, .ref rx, rfl, s7, hx, upd_same, .inr hR6, mv_ok ok hk035 hq, fun H7 o7 hL7 => ⟨rfl, ?_⟩⟩
    have s67 : Same H6 H7 := same_of_off s7 hx o7
    have hO7 := s67 _ _ hO6
    have hC7 := s67 _ _ hC6
    refine ⟨_, rfl, _, rfl, O, lvs, _, kk, rfl, rfl, hO7, by rw [hlen]; have := ixN_nat hk6; rw [Int.zero_add] at this; exact this, ?_⟩
    have im8 : Imm H7 (upd H7 O (.lst (lvs.set kk (.ref x)))) := Imm.lst hO7
    have hO8 : (upd H7 O (.lst (lvs.set kk (.ref x)))) O = some (.lst (lvs.set kk (.ref x))) := upd_same
    have hC8 : (upd H7 O (.lst (lvs.set kk (.ref x)))) C = some (.dK (kvOf es)) := by rw [upd_ne nOC.symm]; exact hC7
    have hZ8 : (upd H7 O (.lst (lvs.set kk (.ref x)))) Z = some (.lst [.int 0, .int 3, .int 5]) := by rw [upd_ne nZO]; exact s67 _ _ hZ6
    have hm8 : (upd H7 O (.lst (lvs.set kk (.ref x)))) m = some (.lst rvs) := by
      have : m ≠ O := fun z => by
        obtain ⟨rv0, g1, _⟩ := hM
        rw [z, hO0] at g1
        cases g1
      rw [upd_ne this]; exact s67 _ _ hm6
    have o08 : Off p H (upd H7 O (.lst (lvs.set kk (.ref x)))) := fun b u n e => by
      rw [upd_ne (ne_of_none e hO0)]
      exact s67 _ _ (o06 _ _ n e)
    have ncO : c ≠ O := fun z => by
      obtain ⟨cells, t0, r0, _, h2, _⟩ := hP.ex
      rw [z, hO0] at h2
      cases h2
    have ncC : c ≠ C := fun z => by
      obtain ⟨cells, t0, r0, _, h2, _⟩ := hP.ex
      rw [z, hC] at h2
      cases h2
    have P8 : Purse c p (n + 3 * i + 3) (upd H7 O (.lst (lvs.set kk (.ref x)))) := (P6.same s67).keep (by omega) (fun o e => by rw [upd_ne nOp.symm]; exact e) (fun o e => by rw [upd_ne ncO]; exact e)
    obtain ⟨H8, eH8⟩ : ∃ G, G = upd H7 O (.lst (lvs.set kk (.ref x))) := ⟨_, rfl⟩
    rw [← eH8] at im8 hO8 hC8 hZ8 hm8 o08 P8
    refine of_heap eH8 ?_
    have im68 := Imm.trans (Same.imm s67) im8
    have im28 := Imm.trans im26 im68
    have ht8 := im68 _ _ rfl ht2
    have notin : M.lab kk ∉ es.map (·.1) := fun hc => by
      obtain ⟨e, he, e1⟩ := List.mem_map.mp hc
      obtain ⟨k', g1, g2, _⟩ := ch.is e he
      have h035 := mvKs_lt g1
      have ek := lab_inj ok (show k' < 7 by omega) (show kk < 7 by omega) (g2.symm.trans e1)
      subst ek
      obtain ⟨j, hj, hje⟩ := List.mem_take_iff_getElem.mp g1
      have nd : mvKs.Nodup := by decide
      have := (List.getElem?_inj (show i < mvKs.length from hi) nd).mp (by rw [hkk, List.getElem?_eq_getElem (by omega), hje] : mvKs[i]? = mvKs[j]?)
      omega
    have hset : (lvs.set kk (.ref x))[kk]? = some (.ref x) := by rw [List.getElem?_set_self (by omega)]
    refine ⟨_, rfl, _, rfl, _, rfl, _, rfl, m, rvs, _, .ref t, rfl, rfl, SqL.of hm8, hix, t, _, 0, .str (M.lab kk), rfl, rfl, SqT.of ht8, rfl, C, _, rfl, DPut.k (k := Sum.inr (M.lab kk)) (v := .ref rx) hC8 (by simp [kvOf]; have := ch.len; exact Nat.lt_of_lt_of_le (show es.length < 1000 by omega) thousand_line), ?_⟩
    rw [put_kv notin]
    have im9 : Imm H8 (upd H8 C (.dK (kvOf (es ++ [(M.lab kk, .ref rx)])))) := Imm.dK hC8
    have im29 := Imm.trans im28 im9
    have im79 := Imm.trans im8 im9
    have im69 := Imm.trans im68 im9
    refine ⟨_, _, fun k => if k = kk then mv M kk q else h k, es ++ [(M.lab kk, .ref rx)], lvs.set kk (.ref x), rfl, fun b u n e => ?_, P8.keep (by omega) (fun o e => by rw [upd_ne nCp.symm]; exact e) (fun o e => by rw [upd_ne ncC]; exact e), by rw [upd_ne nZC]; exact hZ8, upd_same, by rw [upd_ne nOC]; exact hO8, by rw [List.length_set]; exact hlen, fun k hk => ?_, hs.put (mv_ok ok hk035 hq), ⟨?_, fun e he => ?_, fun k hk hno => ?_, ?_⟩⟩
    · rw [upd_ne (ne_of_none e hC)]
      exact o08 _ _ n e
    · by_cases hki : k = kk
      · subst hki
        exact ⟨.ref x, hset, by dsimp only; rw [if_pos rfl]; exact hL7.imm im79⟩
      · obtain ⟨v, a, b⟩ := hvs k hk
        exact ⟨v, by rw [List.getElem?_set_ne (fun z => hki z.symm)]; exact a, by dsimp only; rw [if_neg hki]; exact b.imm im29⟩
    · rw [List.map_append, List.nodup_append]
      exact ⟨ch.nd, by simp, fun a ha b hb => by simp at hb; subst hb; exact fun e => notin (e ▸ ha)⟩
    · rcases List.mem_append.mp he with he | he
      · obtain ⟨k', g1, g2, g3⟩ := ch.is e he
        refine ⟨k', (List.take_sublist_take_left (Nat.le_succ i)).mem g1, g2, ?_⟩
        have hki : k' ≠ kk := fun z => notin (List.mem_map.mpr ⟨e, he, by rw [g2, z]⟩)
        rw [if_neg hki]
        exact g3.imm im29
      · rw [List.mem_singleton.mp he]
        refine ⟨kk, ?_, rfl, ?_⟩
        · rw [List.take_succ, hkk]
          exact List.mem_append.mpr (.inr List.mem_cons_self)
        · rw [if_pos rfl]
          exact .inr (hR6.imm im69)
    · rw [List.map_append] at hno
      have hki : k ≠ kk := fun z => hno (by subst z; simp)
      rw [if_neg hki]
      exact ch.no k hk (fun z => hno (List.mem_append.mpr (.inl z)))
    · rw [List.length_append]
      have := ch.len
      exact Nat.add_le_add this (Nat.le_refl 1)
  · rintro σ' H2 ⟨o5, o6, h, es, lvs, rfl, o2, P2, hZ2, hC3, hO3, hlen, hvs, hs, ch⟩
    have ch : ChM K M H2 h es 3 := ch
    have P2 : Purse c p (n + 3 * 3) H2 := P2
    have im02 := o2.imm hpx
    have hL2 : LetsAt K H2 L (fun k => .letter (M.ltr k)) := ⟨lvs0, o2 _ _ nLp hl1, hl2, fun k hk => let ⟨v, a, b⟩ := hl3 k hk; ⟨v, a, b.imm im02⟩⟩
    refine ⟨_, rfl, L, (fun k => .letter (M.ltr k)), M.sys, M.n, M.p, rfl, hL2, (pcs_letters ok).six ok, fun R1 H3 us1 s1 hR1n hR1 al1 => ?_⟩
    have pcs := hs.pcs ok
    refine ⟨_, rfl, O, (fun k => .letter (h k)), sysOf M.ls h, M.n, M.p, rfl, ⟨lvs, s1 _ _ hO3, hlen, fun k hk => let ⟨v, a, b⟩ := hvs k hk; ⟨v, a, b.imm (Same.imm s1)⟩⟩, pcs.six ok, fun R2 H4 us2 s2 hR2n hR2 al2 => ?_⟩
    have l1 : us1.length = 11 := al1.len
    have l2 : us2.length = 11 := al2.len
    have hR1' := s2 _ _ hR1
    have s12 := Same.trans s1 s2
    have hC4 := s12 _ _ hC3
    have ch4 := ch.imm (Same.imm s12)
    have al1' := al1.imp fun v f h => h.imm (Same.imm s2)
    have okW := Fm.Six.woven (pcs.six ok)
    have okL := Fm.Six.woven ((pcs_letters ok).six ok)
    have esub := wv_sub ok pcs
    refine ⟨R1, R2, us1, us2, rfl, SqL.of hR1', SqL.of hR2, ?_⟩
    refine RZ.for_zipL (by rw [l1, l2]) (fun i σ' H' => ∃ o7 o8 o9 o10 o11 o12, σ' = [some (.ref p), some (.ref m), some (.ref L), some (.ref C), some (.ref O), o5, o6, o7, o8, o9, o10, o11, o12, none] ∧ Same H4 H') ⟨none, none, none, none, none, none, rfl, Same.refl _⟩ (fun i σ' H' ⟨_, _, _, _, _, _, _, s⟩ => ⟨SqL.of (s _ _ hR1'), SqL.of (s _ _ hR2)⟩) ?_ ?_
    · rintro i x y T' σ' H5 hx hy ⟨o7, o8, o9, o10, o11, o12, rfl, s5⟩ hT
      have s6 := Same.trans s5 (Same.upd hT (o := .tup [x, y]))
      have hT1 : (upd H5 T' (.tup [x, y])) T' = some (.tup [x, y]) := upd_same
      obtain ⟨H6, eH6⟩ : ∃ G, G = upd H5 T' (.tup [x, y]) := ⟨_, rfl⟩
      rw [← eH6] at s6 hT1
      refine ⟨T', _, rfl, SqT.of (by rw [← eH6]; exact hT1), rfl, _, _, rfl, _, _, rfl, rfl, ?_⟩
      rw [← eH6]
      obtain ⟨f0, hf0, hx1⟩ := al1'.get' hx
      obtain ⟨f1, hf1, hy1⟩ := al2.get' hy
      have ef : f1 = f0.sub (sgm M (fun k => .letter (h k))) := by
        rw [← esub, List.getElem?_map, hf0] at hf1
        exact (Option.some.inj hf1).symm
      subst ef
      have hm0 := List.mem_of_getElem? hf0
      have hm1 := List.mem_of_getElem? hf1
      have hx2 := hx1.imm (Same.imm s6)
      have hy2 := hy1.imm (Same.imm s6)
      obtain ⟨ps, n1, _⟩ := hx2.node
      obtain ⟨a, lv, ls, rfl, ⟨dx, fs, rv, cv, pt, st, core, o⟩, hlv, hls⟩ := n1
      refine ⟨_, rfl, rd_get o.at_ (fc_of K f0) o.fld.s ⟨st, rfl, ⟨_, SqT.of o.s⟩, fun D hD => ?_⟩⟩
      refine map_it (walk_tup' (K := K) (a := st) (xs := lv)) (fun j z _ => ∃ l, ls[j]? = some l ∧ z = .str l.name) (fun _ _ _ _ _ h => h) hD (fun H' s => SqT.of (s _ _ o.s)) ?_ (fun j z H7 Q7 hj hz mm q7 => ?_) (fun ys H7 s7 hD1 hl1 hl2 => ?_)
      · have := hls.few ok hm0
        rw [hlv.len]
        exact L1000 (by omega)
      · obtain ⟨l, hl, hlL⟩ := hlv.get' hz
        exact ⟨_, rfl, rd_lname (hlL.imm (Same.imm mm.same)) (q7 _ _ (Same.refl _) ⟨l, hl, rfl⟩)⟩
      · have ens : ys = (ls.map (·.name)).map V.str := by
          rw [List.map_map]
          refine List.ext_getElem? fun j => ?_
          by_cases hj : j < ys.length
          · have e : ys[j]? = some ys[j] := List.getElem?_eq_getElem hj
            obtain ⟨l, hl, hz⟩ := hl2 j _ e
            rw [e, List.getElem?_map, hl, hz]
            rfl
          · rw [List.getElem?_eq_none (by omega), List.getElem?_eq_none (by rw [List.length_map]; have := hlv.len; omega)]
        rw [ens] at hD1
        refine fun Tb hTb => ⟨_, _, rfl, ?_⟩
        have hes := fun (H' : Hp) (i : Imm H4 H') => mov_hes (K := K) ok (ch4.imm i) hs hm0 hls
        have lns : (ls.map (·.name)).length = ls.length := List.length_map _
        generalize ls.map (·.name) = ns at *
        have h6Tb : H6 Tb = none := Same.free s7 hTb
        have hC6 : H6 C = some (.dK (kvOf es)) := s6 _ _ hC4
        have nDTb : D ≠ Tb := ne_of_none hD1 hTb
        have nCTb : C ≠ Tb := ne_of_none (s7 _ _ hC6) hTb
        have nDC : D ≠ C := (ne_of_none hC6 hD).symm
        have s8 := Same.trans s7 (Same.upd hTb (o := .dK []))
        have hTb8 : (upd H7 Tb (.dK [])) Tb = some (.dK []) := upd_same
        have hD8 : (upd H7 Tb (.dK [])) D = some (.lst (ns.map V.str)) := by rw [upd_ne nDTb]; exact hD1
        obtain ⟨H8, eH8⟩ : ∃ G, G = upd H7 Tb (.dK []) := ⟨_, rfl⟩
        rw [← eH8] at s8 hTb8 hD8
        refine of_heap eH8 ?_
        have hC8 := s8 _ _ hC6
        refine ⟨C, _, hC8, trivial, fun od => ?_⟩
        have hC9 : (upd H8 C (.frz od (.dK (kvOf es)))) C = some (.frz od (.dK (kvOf es))) := upd_same
        have hD9 : (upd H8 C (.frz od (.dK (kvOf es)))) D = some (.lst (ns.map V.str)) := by rw [upd_ne nDC]; exact hD8
        have hTb9 : (upd H8 C (.frz od (.dK (kvOf es)))) Tb = some (.dK []) := by rw [upd_ne nCTb.symm]; exact hTb8
        have o9 : ∀ b u, b ≠ C → H6 b = some u → (upd H8 C (.frz od (.dK (kvOf es)))) b = some u := fun b u n e => by rw [upd_ne n]; exact s8 _ _ e
        obtain ⟨H9, eH9⟩ : ∃ G, G = upd H8 C (.frz od (.dK (kvOf es))) := ⟨_, rfl⟩
        rw [← eH9] at hC9 hD9 hTb9 o9
        refine of_heap eH9 ?_
        refine ⟨_, rfl, C, od, rfl, .inl ⟨_, hC9, ?_⟩⟩
        have lkv : (kvOf es).length = es.length := by simp [kvOf]
        refine for_it (walk_keys (o := od)) (fun j σ' H' => ∃ o11, σ' = [some (.ref p), some (.ref m), some (.ref L), some (.ref C), some (.ref O), o5, o6, some (.ref a), some y, some (.ref D), some (.ref Tb), o11, o12, none] ∧ Off Tb H9 H' ∧ H' Tb = some (.dK (kvOf (pickE ns (es.take j))))) ⟨_, rfl, Off.refl, hTb9⟩ (fun j σ' H' _ ⟨_, _, o, _⟩ => o _ _ nCTb hC9) ?_ ?_
        · rintro j z σ' H10 H11 hj ⟨o10', rfl, off, hTb10⟩ hz
          obtain ⟨rfl, kk, vv, hk, rfl⟩ := hz
          obtain ⟨e, he, heq⟩ : ∃ e, es[j]? = some e ∧ (Sum.inr e.1, e.2) = (kk, vv) := by
            unfold kvOf at hk
            rw [List.getElem?_map] at hk
            exact Option.map_eq_some_iff.mp hk
          cases heq
          have hD10 := off _ _ nDTb hD9
          have hC10 := off _ _ nCTb hC9
          refine ⟨_, rfl, _, rfl, D, _, rfl, .inl (SqL.of hD10), rfl, strs_flat ns, decide (e.1 ∈ ns), by rw [← inV_strs]; rfl, ?_⟩
          by_cases hin : e.1 ∈ ns
          · refine ifT hin ⟨_, rfl, _, rfl, C, e.2, rfl, .inl ⟨kvOf es, Sum.inr e.1, .inr ⟨od, hC10⟩, rfl, (val_mem ch4.nd (List.mem_of_getElem? he)).symm⟩, _, rfl, _, rfl, Tb, _, rfl, DPut.k (k := Sum.inr e.1) (v := e.2) hTb10 ?_, ?_⟩
            · have h1 := (pickE_sub (ns := ns) (es := es.take j)).length_le
              rw [List.length_take] at h1
              have h2 := ch4.len
              simp only [kvOf, List.length_map]
              exact Nat.lt_of_lt_of_le (show _ < 1000 by omega) thousand_line
            · rw [put_kv (pickE_notin ch4.nd he)]
              refine ⟨_, rfl, Off.trans off Off.upd, ?_⟩
              rw [pickE_succ he, if_pos hin]
              exact upd_same
          · refine ifF hin ⟨_, rfl, off, ?_⟩
            rw [pickE_succ he, if_neg hin, List.append_nil]
            exact hTb10
        · rintro σ' H10 ⟨o10', rfl, off, hTb10⟩
          rw [lkv, List.take_length] at hTb10
          refine ⟨off _ _ nCTb hC9, ?_⟩
          have sX : Same H6 (upd H10 C (.dK (kvOf es))) := fun b u e => by
            by_cases hb : b = C
            · subst hb
              rw [upd_same]
              rw [hC6] at e
              exact e
            · rw [upd_ne hb]
              exact off b u (ne_of_none e h6Tb) (o9 b u hb e)
          have hTb11 : (upd H10 C (.dK (kvOf es))) Tb = some (.dK (kvOf (pickE ns es))) := by rw [upd_ne nCTb.symm]; exact hTb10
          obtain ⟨H11, eH11⟩ : ∃ G, G = upd H10 C (.dK (kvOf es)) := ⟨_, rfl⟩
          rw [← eH11] at sX hTb11
          refine of_heap eH11 ?_
          have iX := Same.imm sX
          have i4 := Imm.trans (Same.imm s6) iX
          have lp : (pickE ns es).length ≤ 60 := by
            have h1 := (pickE_sub (ns := ns) (es := es)).length_le
            have h2 := ch4.len
            omega
          obtain ⟨hid, hinj, hee⟩ := hes _ i4
          have okf := (okW _ hm1).1
          refine ⟨_, rfl, _, rfl, .ref a, Tb, pickE ns es, f0, sgl M h, sysOf M.ls h, rfl, hTb11, lp, pickE_nd ch4.nd, hx2.imm iX, (okL _ hm0).1.lim.l, okf, hid, hinj, hee, fun v' H12 s12 hv => ?_⟩
          have hv' : IsF K H12 (f0.sub (sgm M (fun k => .letter (h k)))) v' := hv
          have hy12 := (hy2.imm iX).imm (Same.imm s12)
          refine ⟨_, rfl, _, rfl, v', y, f0.sub (sgm M (fun k => .letter (h k))), sysOf M.ls h, rfl, hv', hy12, okf, (okW _ hm1).2, fun v'' H13 s13 e => ?_⟩
          subst e
          obtain ⟨q1, nd1, _⟩ := (hv'.imm (Same.imm s13)).node
          obtain ⟨q2, nd2, _⟩ := (hy12.imm (Same.imm s13)).node
          refine ⟨_, rfl, iteF ⟨_, rfl, rd_middle nd1 fun c1 hc1 => ⟨_, rfl, rd_middle nd2 fun c2 hc2 => ?_⟩⟩⟩
          have hc1' := hc1
          have hc2' := hc2
          obtain ⟨a1, dx1, cv1, wv1, rfl, ha1, _⟩ := hc1'
          obtain ⟨a2, dx2, cv2, wv2, rfl, ha2, _⟩ := hc2'
          refine ⟨⟨a1, a2, _, dx1, dx2, _, _, rfl, rfl, ha1, ha2, rfl, _, hc1, hc2⟩, fun H14 e14 => ⟨_, rfl, iteF ?_⟩⟩
          exact ⟨_, _, _, _, _, _, rfl, Same.trans s6 (Same.trans sX (Same.trans s12 (Same.trans s13 e14)))⟩
    · rintro σ' H5 ⟨o7, o8, o9, o10, o11, o12, rfl, s5⟩
      have s25 := Same.trans s12 s5
      exact k _ _ (Off.trans o2 (Same.off s25)) ((P2.same s25).keep (by omega) (fun _ e => e) (fun _ e => e)) rfl
end
end K9

/-! ## F58 -/
namespace K9
open PySem PySem.Spec PyProof.Rows L2
/-! The law. -/
def spLaw9 (K : PySem.W.Frag) : Sp := fun vs H Q _ => ∃ (a : Addr) (ns : List Int), vs = [.ref a] ∧ SqL K H a (ns.map V.int) ∧ ns.length ≤ 100 ∧ ∀ H', Q (.bl true) H'
theorem sc_law : FnScope ["_law_script", "_law_purse_here", "_law_menu_here", "_law_letters_here"] ["_law_script"] (defScope (top 106)) := ⟨rfl, rfl, rfl, by decide +kernel, rfl, by decide +kernel, by decide +kernel⟩
section
variable {w : World} {K : PySem.W.Frag} {mg : Str → Option Value} {base : Heap}
theorem ok_law (T : Txt K mg) {f : Addr} {fd : FuncData} (F : FunD K "law" "law" (defArgs (top 106)) (defBody (top 106)) (defScope (top 106)) [] [] f fd) : FnOk Pg w K mg base CX0 79 f fd ["_law_script"] (spLaw9 K) := by
  refine F.ok sc_law (fun vs H Q E h => ?_) (fun cdv A outer s H vs Q E hr h => ?_)
  · obtain ⟨a, ns, rfl, _⟩ := h; rfl
  have hbody : ∃ t, PSs (cx9 Pg w K mg base ["_law_script", "_law_purse_here", "_law_menu_here", "_law_letters_here"] "law" (defScope (top 106)) f cdv A outer s H E) (defBody (top 106)) t ∧ t { nx := fun _ H' => Q .non H', rt := Q } (start ["_law_script", "_law_purse_here", "_law_menu_here", "_law_letters_here"] vs) H := by
    refine ⟨_, pss_cons (ps_set (i := 1) sc_law.nd rfl (Or.inl rfl) (pe_c (cal_purse T) hr (pa_cons (pv 0) pa_nil)))
      (pss_cons (ps_set (i := 2) sc_law.nd rfl (Or.inl rfl) (pe_c (cal_menu T) hr (pa_cons (pv 1) pa_nil)))
      (pss_cons (ps_set (i := 3) sc_law.nd rfl (Or.inl rfl) (pe_c (cal_letters T) hr (pa_cons (pv 2) pa_nil)))
      (pss_one (ps_ret (pe_and (pe_c (cal_put T) hr (pa_cons (pv 1) (pa_cons (pv 2) (pa_cons (pv 3) pa_nil)))) (pe_one (pe_c (cal_mov T) hr (pa_cons (pv 1) (pa_cons (pv 2) (pa_cons (pv 3) pa_nil)))))))))), ?_⟩
    obtain ⟨a, ns, rfl, ha, hl, k⟩ := h
    refine ⟨_, rfl, a, ns, rfl, ha, hl, fun c p H1 s1 P1 => ?_⟩
    refine ⟨_, rfl, c, p, 0, rfl, P1, by decide, fun v H2 o2 P2 hv => ?_⟩
    obtain ⟨m, M, rfl, nmp, hm0, hM, ok⟩ := hv
    refine ⟨_, rfl, m, M, rfl, hM, ok, fun L H3 s3 hL0 hL => ?_⟩
    have nLp : L ≠ p := fun e => by
      obtain ⟨xs, hx⟩ := P2.at_
      rw [e, hx] at hL0
      cases hL0
    have P3 := P2.same s3
    have hM3 := hM.keep (Same.imm s3) (fun o e => s3 _ _ e)
    refine ⟨_, rfl, _, rfl, _, rfl, c, p, m, L, 10, M, rfl, P3, by decide, hM3, ok, nmp, nLp, hL, fun v H4 o4 P4 e => ?_⟩
    subst e
    have hp3 := P3.at_.choose_spec
    have i4 := o4.imm hp3
    refine ⟨_, rfl, iteT ?_⟩
    refine ⟨_, rfl, _, rfl, _, rfl, c, p, m, L, 210, M, rfl, P4, by decide, hM3.keep i4 (fun o e => o4 _ _ nmp e), ok, nmp, nLp, hL.keep i4 (fun o e => o4 _ _ nLp e), fun v H5 o5 P5 e => ?_⟩
    subst e
    exact k H5
  obtain ⟨t, a, b⟩ := hbody
  exact ⟨t, a.nox, b⟩
end
end K9

/-! ## F59 -/
namespace K9
open PySem PySem.Spec PyProof.Rows L2
/-! The head: what is looked at behind the top. -/
theorem DX.funD {K : PySem.W.Frag} {d : DX} (e : fnO K (d.ad K) = d.val) (c : d.ok K = true) : ∃ fd, FunD K d.name d.qual (defArgs d.st) (defBody d.st) (defScope d.st) d.dvs [] (d.ad K) fd := by
  obtain ⟨kp, c2⟩ := Bool.and_eq_true_iff.mp c
  unfold fnO at e
  generalize hq : K.lookup (d.ad K) = u at *
  match u, hq, e, c2 with
  | some ⟨oc, od, .func ⟨n1, n2, n3, n4, n5, n6, n7, n8, n9, n10, n11, n12, n13, n14, n15⟩, osl⟩, hq, e, c2 =>
    have e2 := Option.some.inj e
    simp only [Prod.mk.injEq] at e2
    obtain ⟨rfl, rfl, rfl, rfl, rfl, rfl, rfl⟩ := e2
    have c3 : (n7.isEmpty && (PySem.W.codeIn K n13 d.qual && He.dflB K n8 d.dvs)) = true := c2
    obtain ⟨k0, k1⟩ := Bool.and_eq_true_iff.mp c3
    obtain ⟨k1, k2⟩ := Bool.and_eq_true_iff.mp k1
    obtain rfl := List.isEmpty_iff.mp k0
    exact ⟨_, ⟨oc, od, n8, n9, n10, n11, n12, n13, n14, osl, rfl, hq, k1, He.dflB_ok k2, .inl rfl⟩, kp⟩
/-! ### an __init__ that closes over __class__ -/
theorem cellB_ok {K : PySem.W.Frag} {cc D : Addr} (h : cellB K cc D = true) : ∃ a b c, K.lookup cc = some ⟨a, b, .cell (some (.ref D)), c⟩ := by
  unfold cellB at h
  split at h
  · rename_i a b d c hq
    have e : d = D := of_decide_eq_true h
    subst e
    exact ⟨a, b, c, hq⟩
  · cases h
theorem fileV_ok {F : Str} {o : Option Value} (h : fileV F o = true) : ∃ z t, o = some (.str z t) ∧ (F == z) = true := by
  unfold fileV at h
  split at h
  · rename_i z t
    exact ⟨z, t, rfl, h⟩
  · cases h
theorem fileB_ok {F : Str} {K : PySem.W.Frag} {c : Addr} (h : fileB F K c = true) : ∃ oc2 od2 vs2 sl2 file tf, K.lookup c = some ⟨oc2, od2, .fields vs2, sl2⟩ ∧ vs2[2]? = some (.str file tf) ∧ (F == file) = true := by
  unfold fileB at h
  split at h
  · rename_i a b vs d hq
    obtain ⟨z, t, h1, h2⟩ := fileV_ok h
    exact ⟨a, b, vs, d, z, t, hq, h1, h2⟩
  · cases h
theorem fsD_ok {F : Str} {K : PySem.W.Frag} {q : KindI} {z : FuncData} (h : fsD F K q z = true) : ∃ cc c, z.closure = [(("__class__" : Str), cc)] ∧ z.code = .ref c ∧ z.defaults = .none ∧ PySem.W.codeIn K (.ref c) q.qInit = true ∧ He.kwdB K z.kwdefaults q.kws = true ∧ cellB K cc (He.ga K q.nm) = true ∧ fileB F K c = true := by
  unfold fsD at h
  split at h
  · rename_i n cc c h1 h2 h3
    obtain ⟨k0, k1⟩ := Bool.and_eq_true_iff.mp h
    obtain ⟨k1, k2⟩ := Bool.and_eq_true_iff.mp k1
    obtain ⟨k2, k3⟩ := Bool.and_eq_true_iff.mp k2
    obtain ⟨k3, k4⟩ := Bool.and_eq_true_iff.mp k3
    obtain rfl := of_decide_eq_true k0
    exact ⟨cc, c, h1, h2, h3, k1, k2, k3, k4⟩
  · cases h
theorem fs_ok {P : Program} {K : PySem.W.Frag} {q : KindI} (e : fnO K (fsA K q) = fsV q) (c : fsB P.main.file K q = true) : ∃ fd, FunS P K "__init__" q.qInit (defArgs (inCls q.i q.jInit)) (defBody (inCls q.i q.jInit)) (defScope (inCls q.i q.jInit)) q.kws (He.ga K q.nm) (fsA K q) fd := by
  obtain ⟨kp, c2⟩ := Bool.and_eq_true_iff.mp c
  unfold fnO at e
  generalize hq : K.lookup (fsA K q) = u at *
  match u, hq, e, c2 with
  | some ⟨oc, od, .func ⟨n1, n2, n3, n4, n5, n6, n7, n8, n9, n10, n11, n12, n13, n14, n15⟩, osl⟩, hq, e, c2 =>
    have e2 := Option.some.inj e
    simp only [Prod.mk.injEq] at e2
    obtain ⟨rfl, rfl, rfl, rfl, rfl, rfl, rfl⟩ := e2
    obtain ⟨cc, cd, h1, h2, h3, k1, k2, k3, k4⟩ := fsD_ok c2
    dsimp only at h1 h2 h3 k2
    subst h1 h2 h3
    obtain ⟨x1, x2, x3, hx⟩ := cellB_ok k3
    exact ⟨_, ⟨oc, od, n9, n10, n11, n12, cd, cc, n14, osl, x1, x2, x3, rfl, hq, k1, He.kwdB_ok k2, hx, fileB_ok k4⟩, kp⟩
/-! ### looks -/
theorem isB_ok {a b : Option (Option Value)} (h : isB a b = true) : a = b := He.eqO_ok h
theorem clsB_ok {K : PySem.W.Frag} {C : Addr} (h : clsB K C = true) : Cls K C := by
  simp only [clsB, Bool.and_eq_true] at h
  exact ⟨h.1.1.1, h.1.1.2, h.1.2, isB_ok h.2⟩
theorem optB_ok {a : Option Bool} {b : Bool} (h : optB a b = true) : a = some b := of_decide_eq_true h
theorem ownB_ok {K : PySem.W.Frag} {C : Addr} (h : ownB K C = true) : OwnC K C := by
  simp only [ownB, Bool.and_eq_true] at h
  exact ⟨clsB_ok h.1.1.1.1, isB_ok h.1.1.1.2, isB_ok h.1.1.2, optB_ok h.1.2, optB_ok h.2⟩
theorem notIntB_ok {K : PySem.W.Frag} {C : Addr} (h : notIntB K C = true) : NotInt K C := by
  simp only [notIntB, Bool.and_eq_true] at h
  exact ⟨ownB_ok h.1.1, optB_ok h.1.2, optB_ok h.2⟩
theorem notNumB_ok {K : PySem.W.Frag} {C : Addr} (h : notNumB K C = true) : NotNum K C := by
  simp only [notNumB, Bool.and_eq_true] at h
  exact ⟨notIntB_ok h.1, optB_ok h.2⟩
theorem naB_ok {K : PySem.W.Frag} {C : Addr} {l : List Str} (h : naB K C l = true) : ∀ f ∈ l, NoAttr K C f := fun f hf => isB_ok (List.all_eq_true.mp h f hf)
theorem metB_ok {K : PySem.W.Frag} {C f : Addr} {m : Str} (h : metB K C m f = true) : Meth K C m f ∧ PySem.W.fnIn K f = true := by
  simp only [metB, Bool.and_eq_true] at h
  exact ⟨⟨isB_ok h.1.1.1, h.1.1.2, h.1.2⟩, h.2⟩
theorem recB_ok {K : PySem.W.Frag} {p g : Addr} {t : String} (h : recB K p t g = true) : ∃ rest, PySem.W.recIn K p t = some (.ref g :: rest) := by
  unfold recB at h
  generalize hq : PySem.W.recIn K p t = u at *
  match u, hq, h with
  | some (.ref z :: r), hq, h =>
    have e : z = g := of_decide_eq_true h
    subst e
    exact ⟨r, rfl⟩
theorem prB9_ok {K : PySem.W.Frag} {C p g : Addr} {m : Str} (h : prB9 K C m p g = true) : PropOf K C m p g := by
  simp only [prB9, Bool.and_eq_true] at h
  exact ⟨isB_ok h.1.1.1, isB_ok h.1.1.2, optB_ok h.1.2, recB_ok h.2⟩
theorem mkB_ok {K : PySem.W.Frag} {C f : Addr} (h : mkB K C f = true) : Mk K C f := by
  simp only [mkB, Bool.and_eq_true] at h
  exact ⟨h.1.1.1, isB_ok h.1.1.2, h.1.2, h.2⟩
theorem supB_ok {K : PySem.W.Frag} {C g : Addr} (h : supB K C g = true) : SupI K C C g "__init__" := by
  simp only [supB, Bool.and_eq_true] at h
  exact ⟨optB_ok h.1.1.1, isB_ok h.1.1.2, of_decide_eq_true h.1.2, h.2⟩
theorem neB_ok {K : PySem.W.Frag} {C : Addr} (h : neB K C = true) : NeC K C := by
  simp only [neB, Bool.and_eq_true] at h
  exact ⟨isB_ok h.1, optB_ok h.2⟩
theorem cmV_ok {K : PySem.W.Frag} {m : Str} {o : Option PySem.W.CFound} (h : cmV K m o = true) : o = some (.get (.builtin "classmethod.__get__") (.ref (cmP K m)) .none (.ref (cM K))) := by
  unfold cmV at h
  split at h
  · rename_i s p C
    simp only [Bool.and_eq_true, decide_eq_true_eq] at h
    obtain ⟨⟨h1, h2⟩, h3⟩ := h
    rw [h1, h2, h3]
  · cases h
theorem cmB_ok {K : PySem.W.Frag} {m : Str} (h : cmB K m = true) : ClX.CMet K (cM K) (.type "type") m (cmP K m) (cmG K m) := by
  unfold cmB at h
  obtain ⟨h, h3⟩ := Bool.and_eq_true_iff.mp h
  obtain ⟨h1, h2⟩ := Bool.and_eq_true_iff.mp h
  exact ⟨cmV_ok h1, recB_ok h2, h3⟩
def hookX (n : Nat) : PySem.W.Hook where
  α := AlX
  obs := fun s => obsXG n s.heap.get?
  val := fun _ => valX
  says := fun _ h => ∃ K : PySem.W.Frag, K.In h ∧ obsX K = valX
  of := fun _ _ e => ⟨_, He.frG_in, e⟩
  keeps := fun _ _ _ z k => z.elim fun K h => ⟨K, h.1.keeps k, h.2⟩
theorem obsXG_eq {n : Nat} {g : Addr → Option Obj} {s : Shared} (h : ∀ a, g a = s.heap.get? a) : obsXG n g = (hookX n).obs s := by
  obtain rfl : g = s.heap.get? := funext h
  rfl
theorem fun_of {K : PySem.W.Frag} (e : obsX K = valX) {d : DX} (hd : d ∈ fxL) : ∃ fd, FunD K d.name d.qual (defArgs d.st) (defBody d.st) (defScope d.st) d.dvs [] (d.ad K) fd := by
  have h1 : (looks K).all id = true := congrArg (fun z : AlX => z.1) e
  have h2 : fxL.map (fun d => fnO K (d.ad K)) = fxL.map DX.val := congrArg (fun z : AlX => z.2.1) e
  have h3 : fxL.all (DX.ok K) = true := List.all_eq_true.mp h1 _ (List.mem_of_getElem? (i := 11) rfl)
  exact DX.funD (List.map_inj_left.mp h2 d hd) (List.all_eq_true.mp h3 d hd)
theorem look_of {K : PySem.W.Frag} (e : obsX K = valX) (i : Nat) {b : Bool} (h : (looks K)[i]? = some b) : b = true := by
  have h1 : (looks K).all id = true := congrArg (fun z : AlX => z.1) e
  exact List.all_eq_true.mp h1 _ (List.mem_of_getElem? h)
theorem init_of {K : PySem.W.Frag} (e : obsX K = valX) {q : KindI} (hq : q ∈ kinds) : fnO K (fsA K q) = fsV q := List.map_inj_left.mp (congrArg (fun z : AlX => z.2.2) e) q hq
theorem sp_mem {q : KindI} (hq : q ∈ kinds) : mm q.nm "spelling" q.qSp (inCls q.i q.jSp) [] ∈ fxL := by
  have h : mm q.nm "spelling" q.qSp (inCls q.i q.jSp) [] ∈ kinds.map fun q => mm q.nm "spelling" q.qSp (inCls q.i q.jSp) [] := List.mem_map.mpr ⟨q, hq, rfl⟩
  exact (List.mem_append.mpr (.inr (List.mem_append.mpr (.inr (List.mem_append.mpr (.inr (List.mem_append.mpr (.inr (List.mem_append.mpr (.inr (List.mem_append.mpr (.inr (List.mem_append.mpr (.inr (List.mem_append.mpr (.inr h))))))))))))))))
theorem kinds_nd : (kinds.map (·.nm)).Nodup := by decide +kernel
theorem kinds_inj : ∀ q ∈ kinds, ∀ q' ∈ kinds, q.nm = q'.nm → q = q' := by
  have h := kinds_nd
  generalize kinds = l at *
  induction l with
  | nil => intro q hq; cases hq
  | cons a l ih =>
    rw [List.map_cons, List.nodup_cons] at h
    intro q hq q' hq' e
    rcases List.mem_cons.mp hq with r | hl
    · rcases List.mem_cons.mp hq' with r' | hl'
      · rw [r, r']
      · exact absurd (List.mem_map.mpr ⟨q', hl', by rw [← r, e]⟩) h.1
    · rcases List.mem_cons.mp hq' with r' | hl'
      · exact absurd (List.mem_map.mpr ⟨q, hl, by rw [← r', e]⟩) h.1
      · exact ih h.2 q hl q' hl' e
section
variable {K : PySem.W.Frag} {h : Heap} {mg : Str → Option Value}
theorem glob_ok (X : K.In h) (G : h.Ns mainGlobals mg) {x : Str} (c : gloB K x = true) : mg x = some (.ref (He.ga K x)) := He.glo_ok X G c
theorem def_ok (X : K.In h) (G : h.Ns mainGlobals mg) (e : obsX K = valX) (x : Str) (i : Nat) (hx : gloB K x = true) (hd : dd x i ∈ fxL) : DefF K mg x (top i) [] := by
  obtain ⟨fd, F⟩ := fun_of e hd
  exact ⟨_, fd, glob_ok X G hx, F⟩
theorem met_ok (e : obsX K = valX) {C : Addr} {x m q : Str} {st : Stmt} (c : Cls K C) (b : metB K C m (He.ma K (He.ga K x) m) = true) (hd : mm x m q st [] ∈ fxL) : MetF K C m q st := by
  obtain ⟨fd, F⟩ := fun_of e hd
  obtain ⟨b1, b2⟩ := metB_ok b
  exact ⟨_, fd, c, b1, b2, F⟩
theorem prp_ok (e : obsX K = valX) {C : Addr} {x m q : Str} {st : Stmt} (c : Cls K C) {p : Addr} (b : prB9 K C m p (ptr K (He.ga K x) m) = true) (hd : pp x m q st ∈ fxL) : PrpF K C m q st := by
  obtain ⟨fd, F⟩ := fun_of e hd
  exact ⟨_, _, fd, c, prB9_ok b, F⟩
theorem part_at {K : PySem.W.Frag} {C : Addr} (b : partNs.all (fun m => prB9 K C m (He.ma K (aP K) m) (ptr K (aP K) m)) = true) (i : Nat) {m : Str} (h : partNs[i]? = some m) : prB9 K C m (He.ma K (aP K) m) (ptr K (aP K) m) = true := List.all_eq_true.mp b m (List.mem_of_getElem? h)
theorem form_at {K : PySem.W.Frag} {C : Addr} (b : formNs.all (fun m => metB K C m (He.ma K (aF K) m)) = true) (i : Nat) {m : Str} (h : formNs[i]? = some m) : metB K C m (He.ma K (aF K) m) = true := List.all_eq_true.mp b m (List.mem_of_getElem? h)
theorem kind_ok (X : K.In h) (G : h.Ns mainGlobals mg) (e : obsX K = valX) {q : KindI} (hq : q ∈ kinds) : FcF K mg (He.ga K q.nm) q ∧ (q.nm ≠ "Letter" → MetF K (He.ga K q.nm) "__eq__" "Formula.__eq__" (inCls 70 9)) := by
  have hk : kindB K q = true := List.all_eq_true.mp (look_of e 7 rfl) q hq
  unfold kindB at hk
  simp only [Bool.and_eq_true, Bool.or_eq_true, decide_eq_true_eq] at hk
  obtain ⟨⟨⟨⟨⟨⟨⟨⟨⟨⟨⟨⟨⟨⟨⟨h1, h2⟩, h3⟩, h4⟩, h5⟩, h6⟩, h7⟩, h8⟩, h9⟩, h10⟩, h11⟩, h12⟩, h13⟩, h14⟩, h15⟩, h16⟩ := hk
  have n := notNumB_ok h1
  have c := n.ni.own.cl
  obtain ⟨fi, FI⟩ := fs_ok (P := Pg) (init_of e hq) h8
  obtain ⟨fp, FP⟩ := fun_of e (d := mm "Part" "__init__" "Part.__init__" (inCls 48 1) [.int 1]) (List.mem_of_getElem? (i := 67) rfl)
  obtain ⟨u, hu⟩ := He.conB_ok h10
  refine ⟨{
    num := n
    part := optB_ok h2
    form := optB_ok h3
    glob := glob_ok X G h4
    na := naB_ok h5
    cls := h6
    make := ⟨_, fi, mkB_ok h7, FI⟩
    sup := ⟨_, fp, supB_ok h9, FP⟩
    kindC := ⟨u, hu⟩
    spelling := met_ok e c h11 (sp_mem hq)
    ne := neB_ok h12
    pKind := prp_ok (x := "Part") e c (part_at h13 0 rfl) (List.mem_of_getElem? (i := 68) rfl)
    pRows := prp_ok (x := "Part") e c (part_at h13 1 rfl) (List.mem_of_getElem? (i := 69) rfl)
    pColumns := prp_ok (x := "Part") e c (part_at h13 2 rfl) (List.mem_of_getElem? (i := 70) rfl)
    pParts := prp_ok (x := "Part") e c (part_at h13 3 rfl) (List.mem_of_getElem? (i := 71) rfl)
    pLetters := prp_ok (x := "Part") e c (part_at h13 4 rfl) (List.mem_of_getElem? (i := 72) rfl)
    pWeight := prp_ok (x := "Part") e c (part_at h13 5 rfl) (List.mem_of_getElem? (i := 73) rfl)
    pLevels := prp_ok (x := "Part") e c (part_at h13 6 rfl) (List.mem_of_getElem? (i := 74) rfl)
    pMiddle := prp_ok (x := "Part") e c (part_at h13 7 rfl) (List.mem_of_getElem? (i := 75) rfl)
    pTransposed := prp_ok (x := "Formula") e c h14 (List.mem_of_getElem? (i := 76) rfl)
    mInverse := met_ok (x := "Formula") e c (form_at h15 0 rfl) (List.mem_of_getElem? (i := 77) rfl)
    mAdd := met_ok (x := "Formula") e c (form_at h15 1 rfl) (List.mem_of_getElem? (i := 78) rfl)
    mSub := met_ok (x := "Formula") e c (form_at h15 2 rfl) (List.mem_of_getElem? (i := 79) rfl)
    mMul := met_ok (x := "Formula") e c (form_at h15 3 rfl) (List.mem_of_getElem? (i := 80) rfl)
    mPow := met_ok (x := "Formula") e c (form_at h15 4 rfl) (List.mem_of_getElem? (i := 81) rfl)
    mItem := met_ok (x := "Formula") e c (form_at h15 5 rfl) (List.mem_of_getElem? (i := 82) rfl)
    mStr := met_ok (x := "Formula") e c (form_at h15 6 rfl) (List.mem_of_getElem? (i := 83) rfl)
  }, fun hn => met_ok (x := "Formula") e c (h16.resolve_left hn) (List.mem_of_getElem? (i := 84) rfl)⟩
theorem pair_ok (e : obsX K = valX) {q q' : KindI} (hq : q ∈ kinds) (hq' : q' ∈ kinds) : (He.ga K q.nm = He.ga K q'.nm ∧ q.nm = q'.nm) ∨ (He.ga K q.nm ≠ He.ga K q'.nm ∧ PySem.W.subIn K (.ref (He.ga K q'.nm)) (.ref (He.ga K q.nm)) = some false) := by
  have h1 := List.all_eq_true.mp (look_of e 9 rfl) q hq
  have h2 : pairB K q q' = true := List.all_eq_true.mp h1 q' hq'
  unfold pairB at h2
  simp only [Bool.or_eq_true, Bool.and_eq_true, decide_eq_true_eq, Bool.not_eq_true', decide_eq_false_iff_not] at h2
  exact h2.imp id fun z => ⟨z.1, optB_ok z.2⟩
theorem bin_ok (e : obsX K = valX) {q q' : KindI} (hq : q ∈ kinds) (hq' : q' ∈ kinds) {m : String} (hm : m ∈ (["add", "sub", "mul"] : List String)) : BinC K m (He.ga K q.nm) (He.ga K q'.nm) = true := by
  have s1 : selB K q = true := List.all_eq_true.mp (look_of e 8 rfl) q hq
  have s2 : selB K q' = true := List.all_eq_true.mp (look_of e 8 rfl) q' hq'
  unfold selB at s1 s2
  obtain ⟨a1, a2⟩ := Bool.and_eq_true_iff.mp s1
  obtain ⟨b1, b2⟩ := Bool.and_eq_true_iff.mp s2
  have a3 := isB_ok (List.all_eq_true.mp a2 m hm)
  have b3 := isB_ok (List.all_eq_true.mp b2 m hm)
  unfold BinC
  rw [a1, b1, a3, b3]
  rcases pair_ok e hq hq' with ⟨p1, _⟩ | ⟨p1, p2⟩
  · simp [p1]
  · simp [p2]
theorem txt_of (X : K.In h) (G : h.Ns mainGlobals mg) (e : obsX K = valX) : Txt K mg := by
  have c0 : conB9 K = true := look_of e 0 rfl
  have c1 : ratB K = true := look_of e 1 rfl
  have c2 : matB K = true := look_of e 2 rfl
  have c3 : binB K = true := look_of e 3 rfl
  have c4 : letB K = true := look_of e 4 rfl
  have c5 := look_of e 5 rfl
  have c6 := look_of e 6 rfl
  have c10 := look_of e 10 rfl
  have gd : ∀ x, x ∈ dnL → gloB K x = true := fun x hx => List.all_eq_true.mp c6 x hx
  unfold conB9 at c0
  unfold ratB at c1
  unfold matB at c2
  unfold binB at c3
  unfold letB at c4
  simp only [Bool.and_eq_true] at c0 c1 c2 c3 c4
  obtain ⟨⟨⟨⟨⟨⟨⟨⟨⟨⟨⟨⟨k1, k2⟩, k3⟩, k4⟩, k5⟩, k6⟩, k7⟩, k8⟩, k9⟩, k10⟩, k11⟩, k12⟩, k13⟩ := c0
  obtain ⟨⟨⟨⟨⟨⟨⟨⟨⟨r1, r2⟩, r3⟩, r4⟩, r5⟩, r6⟩, r7⟩, r8⟩, r9⟩, r10⟩ := c1
  obtain ⟨⟨⟨⟨⟨⟨⟨⟨m1, m2⟩, m3⟩, m4⟩, m5⟩, m6⟩, m7⟩, m8⟩, ⟨⟨⟨m9, m10⟩, m11⟩, m12⟩⟩ := c2
  obtain ⟨⟨⟨b1, b2⟩, b3⟩, b4⟩ := c3
  obtain ⟨⟨⟨⟨⟨⟨⟨⟨⟨l1, l2⟩, l3⟩, l4⟩, l5⟩, l6⟩, l7⟩, l8⟩, l9⟩, l10⟩ := c4
  have rn := notIntB_ok r1
  have rc := rn.own.cl
  have mn := notNumB_ok m1
  have mc := mn.ni.own.cl
  have kc : ∀ {q : KindI}, q ∈ kinds → Cls K (He.ga K q.nm) := fun hq => (kind_ok X G e hq).1.num.ni.own.cl
  have cls : ∀ (i : Nat) {q : KindI}, kinds[i]? = some q → Cls K (He.ga K q.nm) := fun i q hq => kc (List.mem_of_getElem? hq)
  have mp : ∀ (i : Nat) {m : Str}, (["entries", "rows", "columns", "transposed"] : List Str)[i]? = some m → prB9 K (cM K) m (He.ma K (cM K) m) (ptr K (cM K) m) = true := fun i m hm => List.all_eq_true.mp m6 m (List.mem_of_getElem? hm)
  have mt : ∀ (i : Nat) {m : Str}, (["inverse", "__add__", "__sub__", "__mul__", "__getitem__", "__eq__"] : List Str)[i]? = some m → metB K (cM K) m (He.ma K (cM K) m) = true := fun i m hm => List.all_eq_true.mp m7 m (List.mem_of_getElem? hm)
  obtain ⟨fri, FRI⟩ := fun_of e (d := mm "Ratio" "__init__" "Ratio.__init__" (inCls 33 0) [.int 1]) (List.mem_of_getElem? (i := 48) rfl)
  obtain ⟨fmi, FMI⟩ := fun_of e (d := mm "Matrix" "__init__" "Matrix.__init__" (inCls 65 0) []) (List.mem_of_getElem? (i := 54) rfl)
  obtain ⟨fe, FE⟩ := fun_of e (d := kk "eye" "Matrix.eye" (inCls 65 5)) (List.mem_of_getElem? (i := 59) rfl)
  obtain ⟨fz, FZ⟩ := fun_of e (d := kk "zero" "Matrix.zero" (inCls 65 6)) (List.mem_of_getElem? (i := 60) rfl)
  exact {
    free := fun x hx => He.free_ok X G (List.all_eq_true.mp c5 x hx)
    noTop := isB_ok k8
    kSIDE := He.int_ok X G k1
    kWEIGHT := He.int_ok X G k2
    kLEVELS := He.int_ok X G k3
    kPOWER := He.int_ok X G k4
    kSMALL := He.str_ok X G k5
    kCAPITALS := He.str_ok X G k6
    kLATER := He.str_ok X G k7
    rNot := rn
    rSelf := optB_ok r2
    rInt := optB_ok r3
    rGlob := glob_ok X G k9
    rNN := naB_ok r4 _ List.mem_cons_self
    rND := naB_ok r4 _ (List.mem_cons_of_mem _ List.mem_cons_self)
    rInit := ⟨_, fri, mkB_ok r5, glob_ok X G k9, FRI⟩
    rTop := prp_ok (x := "Ratio") e rc r6 (List.mem_of_getElem? (i := 49) rfl)
    rBottom := prp_ok (x := "Ratio") e rc r7 (List.mem_of_getElem? (i := 50) rfl)
    rMul := met_ok (x := "Ratio") e rc r8 (List.mem_of_getElem? (i := 51) rfl)
    rEq := met_ok (x := "Ratio") e rc r9 (List.mem_of_getElem? (i := 52) rfl)
    rStr := met_ok (x := "Ratio") e rc r10 (List.mem_of_getElem? (i := 53) rfl)
    mNum := mn
    mSelf := optB_ok m2
    mRat := optB_ok m3
    mGlob := glob_ok X G k10
    mNa := naB_ok m4
    mInit := ⟨_, fmi, mkB_ok m5, glob_ok X G k10, FMI⟩
    mEntries := prp_ok (x := "Matrix") e mc (mp 0 rfl) (List.mem_of_getElem? (i := 55) rfl)
    mRows := prp_ok (x := "Matrix") e mc (mp 1 rfl) (List.mem_of_getElem? (i := 56) rfl)
    mColumns := prp_ok (x := "Matrix") e mc (mp 2 rfl) (List.mem_of_getElem? (i := 57) rfl)
    mTransposed := prp_ok (x := "Matrix") e mc (mp 3 rfl) (List.mem_of_getElem? (i := 58) rfl)
    mRead := ⟨.type "type", ⟨m9, isB_ok m10⟩, ⟨_, _, fe, cmB_ok m11, FE⟩, ⟨_, _, fz, cmB_ok m12, FZ⟩⟩
    mInverse := met_ok (x := "Matrix") e mc (mt 0 rfl) (List.mem_of_getElem? (i := 61) rfl)
    mAdd := met_ok (x := "Matrix") e mc (mt 1 rfl) (List.mem_of_getElem? (i := 62) rfl)
    mSub := met_ok (x := "Matrix") e mc (mt 2 rfl) (List.mem_of_getElem? (i := 63) rfl)
    mMul := met_ok (x := "Matrix") e mc (mt 3 rfl) (List.mem_of_getElem? (i := 64) rfl)
    mItem := met_ok (x := "Matrix") e mc (mt 4 rfl) (List.mem_of_getElem? (i := 65) rfl)
    mEq := met_ok (x := "Matrix") e mc (mt 5 rfl) (List.mem_of_getElem? (i := 66) rfl)
    mNe := neB_ok m8
    mBin := ⟨b1, b2, b3, b4⟩
    pGlob := glob_ok X G k11
    fGlob := glob_ok X G k12
    singular := ⟨_, glob_ok X G k13⟩
    fc := fun q hq => (kind_ok X G e hq).1
    fcEq := fun q hq hn => (kind_ok X G e hq).2 hn
    fcIs := fun q hq q' hq' z => (pair_ok e hq hq').elim (fun r => kinds_inj q hq q' hq' r.2) (fun r => absurd z r.1)
    fcBin := fun C D hC hD => by
      obtain ⟨q, hq, rfl⟩ := hC
      obtain ⟨q', hq', rfl⟩ := hD
      exact ⟨bin_ok e hq hq' (by decide), bin_ok e hq hq' (by decide), bin_ok e hq hq' (by decide)⟩
    fcBinI := fun C hC => by
      obtain ⟨q, hq, rfl⟩ := hC
      exact Bool.and_eq_true_iff.mp (List.all_eq_true.mp c10 q hq)
    lEq := met_ok (x := "Letter") e (cls 0 rfl) l1 (List.mem_of_getElem? (i := 85) rfl)
    lName := prp_ok (x := "Letter") e (cls 0 rfl) l3 (List.mem_of_getElem? (i := 86) rfl)
    lSymmetry := prp_ok (x := "Letter") e (cls 0 rfl) l4 (List.mem_of_getElem? (i := 87) rfl)
    lAbout := prp_ok (x := "Letter") e (cls 0 rfl) l5 (List.mem_of_getElem? (i := 88) rfl)
    lSelf := optB_ok l2
    sNumber := prp_ok (x := "Scaled") e (cls 5 rfl) l6 (List.mem_of_getElem? (i := 89) rfl)
    wExponent := prp_ok (x := "Power") e (cls 9 rfl) l7 (List.mem_of_getElem? (i := 90) rfl)
    bTable := prp_ok (x := "Blocks") e (cls 10 rfl) l8 (List.mem_of_getElem? (i := 91) rfl)
    cRow := prp_ok (x := "Corner") e (cls 11 rfl) l9 (List.mem_of_getElem? (i := 92) rfl)
    cColumn := prp_ok (x := "Corner") e (cls 11 rfl) l10 (List.mem_of_getElem? (i := 93) rfl)
    d_is_integer := def_ok X G e "is_integer" 31 (gd _ (List.mem_of_getElem? (i := 0) rfl)) (List.mem_of_getElem? (i := 0) rfl)
    d_common := def_ok X G e "common" 32 (gd _ (List.mem_of_getElem? (i := 1) rfl)) (List.mem_of_getElem? (i := 1) rfl)
    d_is_number := def_ok X G e "is_number" 34 (gd _ (List.mem_of_getElem? (i := 2) rfl)) (List.mem_of_getElem? (i := 2) rfl)
    d_as_ratio := def_ok X G e "as_ratio" 35 (gd _ (List.mem_of_getElem? (i := 3) rfl)) (List.mem_of_getElem? (i := 3) rfl)
    d_is_size_name := def_ok X G e "is_size_name" 42 (gd _ (List.mem_of_getElem? (i := 4) rfl)) (List.mem_of_getElem? (i := 4) rfl)
    d_is_letter_name := def_ok X G e "is_letter_name" 43 (gd _ (List.mem_of_getElem? (i := 5) rfl)) (List.mem_of_getElem? (i := 5) rfl)
    d_is_side := def_ok X G e "is_side" 44 (gd _ (List.mem_of_getElem? (i := 6) rfl)) (List.mem_of_getElem? (i := 6) rfl)
    d_as_side := def_ok X G e "as_side" 45 (gd _ (List.mem_of_getElem? (i := 7) rfl)) (List.mem_of_getElem? (i := 7) rfl)
    d_is_index := def_ok X G e "is_index" 46 (gd _ (List.mem_of_getElem? (i := 8) rfl)) (List.mem_of_getElem? (i := 8) rfl)
    d_check_formula := def_ok X G e "check_formula" 49 (gd _ (List.mem_of_getElem? (i := 9) rfl)) (List.mem_of_getElem? (i := 9) rfl)
    d_check_letters := def_ok X G e "check_letters" 50 (gd _ (List.mem_of_getElem? (i := 10) rfl)) (List.mem_of_getElem? (i := 10) rfl)
    d_check_square := def_ok X G e "check_square" 51 (gd _ (List.mem_of_getElem? (i := 11) rfl)) (List.mem_of_getElem? (i := 11) rfl)
    d_checked_terms := def_ok X G e "checked_terms" 52 (gd _ (List.mem_of_getElem? (i := 12) rfl)) (List.mem_of_getElem? (i := 12) rfl)
    d_sides_of := def_ok X G e "sides_of" 53 (gd _ (List.mem_of_getElem? (i := 13) rfl)) (List.mem_of_getElem? (i := 13) rfl)
    d_letter_of := def_ok X G e "letter_of" 54 (gd _ (List.mem_of_getElem? (i := 14) rfl)) (List.mem_of_getElem? (i := 14) rfl)
    d_checked_side := def_ok X G e "checked_side" 55 (gd _ (List.mem_of_getElem? (i := 15) rfl)) (List.mem_of_getElem? (i := 15) rfl)
    d_spelled_side := def_ok X G e "spelled_side" 56 (gd _ (List.mem_of_getElem? (i := 16) rfl)) (List.mem_of_getElem? (i := 16) rfl)
    d_whole_table := def_ok X G e "whole_table" 58 (gd _ (List.mem_of_getElem? (i := 17) rfl)) (List.mem_of_getElem? (i := 17) rfl)
    d_turned := def_ok X G e "turned" 59 (gd _ (List.mem_of_getElem? (i := 18) rfl)) (List.mem_of_getElem? (i := 18) rfl)
    d_multiplied := def_ok X G e "multiplied" 60 (gd _ (List.mem_of_getElem? (i := 19) rfl)) (List.mem_of_getElem? (i := 19) rfl)
    d_dotted := def_ok X G e "dotted" 61 (gd _ (List.mem_of_getElem? (i := 20) rfl)) (List.mem_of_getElem? (i := 20) rfl)
    d_eliminated_table := def_ok X G e "eliminated_table" 62 (gd _ (List.mem_of_getElem? (i := 21) rfl)) (List.mem_of_getElem? (i := 21) rfl)
    d_are_entries := def_ok X G e "are_entries" 64 (gd _ (List.mem_of_getElem? (i := 22) rfl)) (List.mem_of_getElem? (i := 22) rfl)
    d_check_size := def_ok X G e "check_size" 66 (gd _ (List.mem_of_getElem? (i := 23) rfl)) (List.mem_of_getElem? (i := 23) rfl)
    d_matrix_of := def_ok X G e "matrix_of" 67 (gd _ (List.mem_of_getElem? (i := 24) rfl)) (List.mem_of_getElem? (i := 24) rfl)
    d_added := def_ok X G e "added" 68 (gd _ (List.mem_of_getElem? (i := 25) rfl)) (List.mem_of_getElem? (i := 25) rfl)
    d_is_table := def_ok X G e "is_table" 83 (gd _ (List.mem_of_getElem? (i := 26) rfl)) (List.mem_of_getElem? (i := 26) rfl)
    d_joined_row := def_ok X G e "joined_row" 84 (gd _ (List.mem_of_getElem? (i := 27) rfl)) (List.mem_of_getElem? (i := 27) rfl)
    d_remade := def_ok X G e "remade" 85 (gd _ (List.mem_of_getElem? (i := 28) rfl)) (List.mem_of_getElem? (i := 28) rfl)
    d_check_mapping := def_ok X G e "check_mapping" 87 (gd _ (List.mem_of_getElem? (i := 29) rfl)) (List.mem_of_getElem? (i := 29) rfl)
    d_exchanged := def_ok X G e "exchanged" 88 (gd _ (List.mem_of_getElem? (i := 30) rfl)) (List.mem_of_getElem? (i := 30) rfl)
    d_substituted := def_ok X G e "substituted" 89 (gd _ (List.mem_of_getElem? (i := 31) rfl)) (List.mem_of_getElem? (i := 31) rfl)
    d_moved := def_ok X G e "moved" 90 (gd _ (List.mem_of_getElem? (i := 32) rfl)) (List.mem_of_getElem? (i := 32) rfl)
    d__law_purse := def_ok X G e "_law_purse" 92 (gd _ (List.mem_of_getElem? (i := 33) rfl)) (List.mem_of_getElem? (i := 33) rfl)
    d__law_draw := def_ok X G e "_law_draw" 93 (gd _ (List.mem_of_getElem? (i := 34) rfl)) (List.mem_of_getElem? (i := 34) rfl)
    d__law_pick := def_ok X G e "_law_pick" 94 (gd _ (List.mem_of_getElem? (i := 35) rfl)) (List.mem_of_getElem? (i := 35) rfl)
    d__law_names := def_ok X G e "_law_names" 95 (gd _ (List.mem_of_getElem? (i := 36) rfl)) (List.mem_of_getElem? (i := 36) rfl)
    d__law_menu := def_ok X G e "_law_menu" 96 (gd _ (List.mem_of_getElem? (i := 37) rfl)) (List.mem_of_getElem? (i := 37) rfl)
    d__law_leaf := def_ok X G e "_law_leaf" 97 (gd _ (List.mem_of_getElem? (i := 38) rfl)) (List.mem_of_getElem? (i := 38) rfl)
    d__law_spec := def_ok X G e "_law_spec" 98 (gd _ (List.mem_of_getElem? (i := 39) rfl)) (List.mem_of_getElem? (i := 39) rfl)
    d__law_join := def_ok X G e "_law_join" 99 (gd _ (List.mem_of_getElem? (i := 40) rfl)) (List.mem_of_getElem? (i := 40) rfl)
    d__law_letters := def_ok X G e "_law_letters" 100 (gd _ (List.mem_of_getElem? (i := 41) rfl)) (List.mem_of_getElem? (i := 41) rfl)
    d__law_build := def_ok X G e "_law_build" 101 (gd _ (List.mem_of_getElem? (i := 42) rfl)) (List.mem_of_getElem? (i := 42) rfl)
    d__law_woven := def_ok X G e "_law_woven" 102 (gd _ (List.mem_of_getElem? (i := 43) rfl)) (List.mem_of_getElem? (i := 43) rfl)
    d__law_equal := def_ok X G e "_law_equal" 103 (gd _ (List.mem_of_getElem? (i := 44) rfl)) (List.mem_of_getElem? (i := 44) rfl)
    d__law_put_right := def_ok X G e "_law_put_right" 104 (gd _ (List.mem_of_getElem? (i := 45) rfl)) (List.mem_of_getElem? (i := 45) rfl)
    d__law_moved_right := def_ok X G e "_law_moved_right" 105 (gd _ (List.mem_of_getElem? (i := 46) rfl)) (List.mem_of_getElem? (i := 46) rfl)
    d_law := def_ok X G e "law" 106 (gd _ (List.mem_of_getElem? (i := 47) rfl)) (List.mem_of_getElem? (i := 47) rfl)
  }
end
end K9

namespace K9
open PySem PySem.W PySem.Calls PyProof.Rows
def ob9 (s : SharedT) : AlX := obsXG 4 (HandSHeadRun.getT s)
theorem ob9_eq (s : SharedT) : ob9 s = (hookX 4).obs s.abs := obsXG_eq (HandSHeadRun.getT_eq s)
/-- two looks at the same end -/
theorem end2 {α β γ : Type} {o : Option α} {f : α → β} {g : α → γ} {b : β} {c : γ} (h1 : o.map f = some b) (h2 : o.map g = some c) : o.map (fun s => (f s, g s)) = some (b, c) := by
  cases o with
  | none => cases h1
  | some s =>
    have e1 : f s = b := Option.some.inj h1
    have e2 : g s = c := Option.some.inj h2
    show some (f s, g s) = some (b, c)
    rw [e1, e2]
theorem fx_split {β : Type} (f : DX → β) : fxL.map f = fxA.map f ++ (fxB.map f ++ fxC.map f) := by
  unfold fxA fxB fxC
  rw [← List.map_append, List.take_append_drop, ← List.map_append, List.take_append_drop]
theorem fx_all (p : DX → Bool) : fxL.all p = (fxA.all p && (fxB.all p && fxC.all p)) := by
  unfold fxA fxB fxC
  rw [← List.all_append, List.take_append_drop, ← List.all_append, List.take_append_drop]
theorem looks_all (K : Frag) : (looks K).all id = (lk1 K && (lk2 K && (lk3 K && fxL.all (DX.ok K)))) := by
  unfold looks lk1 lk2 lk3
  simp only [List.all_cons, List.all_nil, id, Bool.and_true]
  generalize conB9 K = b1
  generalize ratB K = b2
  generalize matB K = b3
  generalize binB K = b4
  generalize letB K = b5
  generalize (freeNs.all fun x => (He.Fa.free x).ok K) = b6
  generalize dnL.all (gloB K) = b7
  generalize kinds.all (kindB K) = b8
  generalize kinds.all (selB K) = b9
  generalize (kinds.all fun q => kinds.all (pairB K q)) = b10
  generalize (kinds.all fun q => BinI K "mul" (He.ga K q.nm) && BinI K "pow" (He.ga K q.nm)) = b11
  generalize fxL.all (DX.ok K) = b12
  cases b1 <;> cases b2 <;> cases b3 <;> cases b4 <;> cases b5 <;> simp only [Bool.false_and, Bool.and_false, Bool.true_and]
  cases b6 <;> cases b7 <;> cases b8 <;> simp only [Bool.false_and, Bool.and_false, Bool.true_and, Bool.and_assoc]
theorem ob9_end {o : Option SharedT} (h1 : o.map (fun s => lk1 (kS s)) = some true) (h2 : o.map (fun s => lk2 (kS s)) = some true) (h3 : o.map (fun s => lk3 (kS s)) = some true)
    (h4 : o.map (fun s => fxA.all (DX.ok (kS s))) = some true) (h5 : o.map (fun s => fxB.all (DX.ok (kS s))) = some true) (h6 : o.map (fun s => fxC.all (DX.ok (kS s))) = some true)
    (h7 : o.map (fun s => fnA (kS s) fxA) = some (fxA.map DX.val)) (h8 : o.map (fun s => fnA (kS s) fxB) = some (fxB.map DX.val))
    (h9 : o.map (fun s => (fnA (kS s) fxC, kinds.map fun q => fnO (kS s) (fsA (kS s) q))) = some (fxC.map DX.val, kinds.map fsV)) : o.map ob9 = some valX := by
  cases o with
  | none => cases h1
  | some s =>
    have e1 : lk1 (kS s) = true := Option.some.inj h1
    have e2 : lk2 (kS s) = true := Option.some.inj h2
    have e3 : lk3 (kS s) = true := Option.some.inj h3
    have e4 : fxA.all (DX.ok (kS s)) = true := Option.some.inj h4
    have e5 : fxB.all (DX.ok (kS s)) = true := Option.some.inj h5
    have e6 : fxC.all (DX.ok (kS s)) = true := Option.some.inj h6
    have e7 : (fxA.map fun d => fnO (kS s) (d.ad (kS s))) = fxA.map DX.val := Option.some.inj h7
    have e8 : (fxB.map fun d => fnO (kS s) (d.ad (kS s))) = fxB.map DX.val := Option.some.inj h8
    have e9 : (fnA (kS s) fxC, kinds.map fun q => fnO (kS s) (fsA (kS s) q)) = (fxC.map DX.val, kinds.map fsV) := Option.some.inj h9
    have e10 : (fxC.map fun d => fnO (kS s) (d.ad (kS s))) = fxC.map DX.val := congrArg Prod.fst e9
    have e11 : (kinds.map fun q => fnO (kS s) (fsA (kS s) q)) = kinds.map fsV := congrArg Prod.snd e9
    show some (obsX (kS s)) = some valX
    have a1 : (looks (kS s)).all id = true := by rw [looks_all, fx_all, e1, e2, e3, e4, e5, e6]; rfl
    have a2 : fxL.map (fun d => fnO (kS s) (d.ad (kS s))) = fxL.map DX.val := by rw [fx_split, fx_split DX.val, e7, e8, e10]
    unfold obsX valX
    rw [a1, a2, e11]
theorem run9 (w : World) : HandSHeadRun.RunEq R9 q9 (hookX 4) ob9 20000 nm9 w := fun os =>
  end2 (r1 w os) (end2 (r2 w os) (ob9_end (s1 w os) (s2 w os) (s3 w os) (s4 w os) (s5 w os) (s6 w os) (s7 w os) (s8 w os) (s9 w os)))
theorem facts9 {w : World} {K : Frag} {h : Heap} {mg : PySem.Str → Option Value} {f : Addr} (X : K.In h) (G : h.Ns mainGlobals mg) (hfa : mg ("law" : PySem.Str) = some (.ref f)) (c : obsX K = valX) :
    ∃ fd : FuncData, (∀ (s : Shared) (v : Value), BindsTo s fd ⟨[v], []⟩ [("_law_script", v)]) ∧ ∀ base : Heap, K.In base → base.Ns mainGlobals mg → L2.FnOk Pg w K mg base L2.CX0 79 f fd ["_law_script"] (spLaw9 K) := by
  have T := txt_of X G c
  obtain ⟨f', fd, hf, F⟩ := T.d_law.ex
  have e := hfa.symm.trans hf
  cases e
  have b := L2.FunD.bindsA (ps := ["_law_script"]) F fun _ _ _ _ _ _ us hl => match us, hl with | [_], _ => rfl
  exact ⟨fd, fun s v => b s [v] rfl, fun base _ _ => ok_law T F⟩
end K9
open PySem PySem.W PySem.Calls PyProof.Rows
theorem PySem.Challenge.cw_matrixforms_k99_blocks_put_in_holds : PySem.Challenge.rw_matrixforms_k99_blocks_put_in.Holds := by
  w_on; o_law
  refine HandSHeadRun.head_any (r := OpenLaw.row PySem.Challenge.rw_matrixforms_k99_blocks_put_in) (q := view (OpenLaw.row PySem.Challenge.rw_matrixforms_k99_blocks_put_in).prog [106]) (H := K9.hookX 4) (ob := K9.ob9) (M := 20000) (loose := K9.nm9) (d := HandSHeadRun.topDef (OpenLaw.row PySem.Challenge.rw_matrixforms_k99_blocks_put_in).prog 106) (kwd := []) K9.ob9_eq
    (by kernel_rfl) (fun s => by kernel_rfl) K9.run9 (by kernel_rfl) (by kernel_rfl) (by kernel_rfl) (by rfl) (by first | assumption | decide +kernel) (by decide +kernel) ⟨rfl, rfl, rfl, rfl, rfl, by decide +kernel⟩ ?hw ?hc
  case hw => w_witness2
  case hc =>
    refine L2.walk_ofE (l := PySem.Challenge.rw_matrixforms_k99_blocks_put_in) (n := 63) (k := 79) (x := "_law_script") (CX := L2.CX0) rfl (by decide) (by kernel_rfl) ⟨rfl, by decide, by decide⟩ ?F (fun _ _ _ _ z => z)
    intro w mg fa h Y G hmg0
    obtain ⟨K, KX, c⟩ := Y
    have hmg : mg ("law" : PySem.Str) = some (.ref fa) := by
      have e : (HandSHeadRun.topDef (OpenLaw.row PySem.Challenge.rw_matrixforms_k99_blocks_put_in).prog 106).name = ("law" : PySem.Str) := by kernel_rfl
      rw [← e]
      exact hmg0
    obtain ⟨fd, hb, hF⟩ := K9.facts9 (w := w) KX G hmg c
    exact ⟨K, fd, K9.spLaw9 K, KX, hb, fun H a ns hl _ hS => ⟨a, ns, rfl, hS, by omega, fun _ => rfl⟩, hF⟩
