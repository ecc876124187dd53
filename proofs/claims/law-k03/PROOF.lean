import PyProof.Rows.All
import Wide.All
import OpenK.AllK
import Wide.FinOn
import HandS.Head0
import HandS.Head1
import HandS.Head2
import HandS.HeadEnd
import HandS.HeadHook1
import HandS.HeadHook2
import HandS.HeadHook3
import HandS.HeadHook4
import HandS.Words
import HandS.Lambda
import HandS.Exc
import HandS.ExcInit
import HandS.ExcField
import HandS.Base
import HandS.Call
import HandS.List
import HandS.Dict
import HandS.Iter
import KE.KDictCopyH
import KE.KDictPairs
import KE.KDictDisplayH
import HandS.Comp
import HandS.Ends
import HandS.ExcOwn
import HandS.Text
import HandS.EndTab
import HandS.Wide
import HandS.WideBits
import HandS.Flow
import HandS.IsInst
import HandS.RaiseMore
import PyProof.ReprRoads
import HandS.WordsExc
import KE.KNestM
import HandS.NoneIn
import HandS.Style
import HandS.Zip
import HandS.Deep
import HandS.FStr
import HandS.Star
import HandS.Codes
import HandS.ExcIs
import HandS.SlotsOwn
import KE.KOpsOwn
import HandS.Property
import PyProof.InstNe
import HandS.ExcValue
import HandS.ClsMeth
import HandS.MakeKw
import KE.KCallOwn
import KE.GoesEnum
import KE.GoesMore
import KE.KRevSl
import KE.KDictZip
import HandS.GenList
import OpenK.KMore
import HandS.SortInts
import HandS.Conv
import KE.OsSort
import HandS.New0
import PyProof.Rows.Chain
import HandS.SetFor
import HandS.Strs
import HandS.SortKw
import HandS.IterVal
import HandS.OwnIter
import HandS.OwnEq
import KE.BitLaws
import PySem.Challenge.RW_curveboxes_k03_boxes_together
set_option Elab.async false
set_option linter.all false
set_option maxRecDepth 100000
section
namespace PP
open PySem PySem.Spec PyProof.Rows L2
def tys : List String := ["NoneType", "bool", "int", "str", "list", "tuple", "dict"]
def naB (K : PySem.W.Frag) (C : Addr) (fs : List Str) : Bool := fs.all fun f => decide (PySem.W.findIn K (.ref C) f = some none)
def clsB (K : PySem.W.Frag) (C : Addr) : Bool := PySem.W.plainGet K C Str.empty && (PySem.W.hasDictIn K C && (PySem.W.plainOver K C && (decide (PySem.W.findIn K (.ref C) "__setattr__" = some (some (.builtin "object.__setattr__"))))))
/-- what is asked of __class__ -/
def cgB (K : PySem.W.Frag) (C : Addr) : Bool := decide (PySem.W.findIn K (.ref C) "__class__" = some (some (.builtin "object.__class__"))) && (decide (PySem.W.specialIn K (.builtin "object.__class__") "__get__" = some (some (.builtin "getset_descriptor.__get__"))) && (decide (PySem.W.takesIn K (.builtin "object.__class__") = some true) && decide (PySem.W.mroIn K C (.type "object") = some true)))
def xcB (K : PySem.W.Frag) (C : Addr) : Bool := xfB K C && cgB K C
/-- isinstance: the built-in types, then each class with its answer -/
def isoB (K : PySem.W.Frag) (u : Addr) (cs : List (Addr × Bool)) : Bool := (tys.all fun t => decide (PySem.W.kitOne K (.type t) (.ref u) = some false)) && cs.all fun p => decide (PySem.W.kitOne K (.ref p.1) (.ref u) = some p.2)
/-- < <= == ..: neither a built-in type nor a class goes first -/
def nfB (K : PySem.W.Frag) (C : Addr) (Cs : List Addr) : Bool := (tys.all fun t => PySem.W.notFirst K C (.type t)) && Cs.all fun D => PySem.W.notFirst K C (.ref D)
def refO : Option (Option Value) → Bool
  | some none => true | some (some (.ref _)) => true | _ => false
def bcB (K : PySem.W.Frag) (C : Addr) (op : Operator) : Bool := PySem.W.selfFirst K C && (refO (PySem.W.findIn K (.ref C) (dunderR op.info.2)) && tys.all fun t => (PySem.W.findIn K (.type t) (PySem.dunder op.info.2)).isSome && ((PySem.W.findIn K (.type t) (dunderR op.info.2)).isSome && decide (PySem.W.subIn K (.type t) (.ref C) = some false)))
def neB (K : PySem.W.Frag) (C : Addr) : Bool := decide (PySem.W.findIn K (.ref C) "__ne__" = some (some (.builtin "object.__ne__"))) && decide (PySem.W.mroIn K C (.type "object") = some true)
/-- an except clause of the class at CE -/
def exmB (K : PySem.W.Frag) (CE : Addr) (Cs : List Addr) : Bool := Cs.all fun C => decide (PySem.W.exmOne K (.ref C) (.ref CE) = some true)
def ttOf (K : PySem.W.Frag) (names : List Str) : List (Addr × Str) := names.filterMap fun x => (PySem.W.tabIn K x).map fun p => (p.2, x ++ ".<locals>." ++ "<lambda>")
def csOf (names : List Str) (K : PySem.W.Frag) : List (Addr × Addr) := names.filterMap fun x => PySem.W.tabIn K x
def ttB (K : PySem.W.Frag) (names : List Str) (P : Addr) (y : Str) : Bool := (ttOf K names).all fun q => !(q.1 == P) || decide (q.2 = y)
def isbB (K : PySem.W.Frag) (cs : List Addr) : Bool := tys.all fun t => cs.all fun C => decide (PySem.W.kitOne K (.ref C) (.type t) = some false)
/-- no way in place of its own -/
def ipB (K : PySem.W.Frag) (C : Addr) (nm : String) : Bool := match PySem.W.clsIn K C with
  | some cd => cd.mro.all fun c => PySem.W.findIn K c (PySem.dunderI nm) == some none
  | none => false
/-- the addresses that can be reached in so many steps, each once -/
def addAll {β : Type} : List Addr → Nat → List Addr → (Nat → List Addr → β) → β
  | [], s, acc, k => k s acc
  | b :: r, s, acc, k => cond (Nat.testBit s b) (addAll r s acc k) (addAll r (s ||| (1 <<< b)) (b :: acc) k)
def frontG {β : Type} (g : Addr → Option Obj) : List Addr → Nat → List Addr → (Nat → List Addr → β) → β
  | [], s, acc, k => k s acc
  | a :: r, s, acc, k => addAll (match g a with | some o => He.refsD o | none => []) s acc fun s acc => frontG g r s acc k
def bfsG (g : Addr → Option Obj) : Nat → List Addr → Nat → List Addr → List Addr
  | 0, _, _, all => all
  | n + 1, front, s, all => frontG g front s [] fun s new => bfsG g n new s (all ++ new)
def adrG (g : Addr → Option Obj) (n : Nat) : List Addr := bfsG g n [mainGlobals] (1 <<< mainGlobals) [mainGlobals]
/-- a Hook of any data -/
def hookP {α : Type} (n : Nat) (F : PySem.W.Frag → α) (val : World → α) : PySem.W.Hook where
  α := α
  obs := fun s => F (He.frT s.heap.get? (PySem.cStatics :: adrG s.heap.get? n))
  val := val
  says := fun w h => ∃ K : PySem.W.Frag, K.In h ∧ F K = val w
  of := fun _ _ e => ⟨_, He.frT_in, e⟩
  keeps := fun _ _ _ ⟨K, hK, c⟩ k => ⟨K, PySem.W.Frag.In.keeps hK k, c⟩
def obP {α : Type} (n : Nat) (F : PySem.W.Frag → α) (s : PySem.W.SharedT) : α := F (He.frT (HandSHeadRun.getT s) (PySem.cStatics :: adrG (HandSHeadRun.getT s) n))
/-- the function at an address: what is told of it -/
def fnA (K : PySem.W.Frag) (a : Addr) : He.FnW := match K.lookup a with
  | some ⟨_, _, .func fd, _⟩ => some (fd.name, fd.qualname, fd.params, fd.body, fd.scope, fd.globals, fd.closure, fd.builtins)
  | _ => none
/-- no defaults, and a code of this name -/
def fnC (K : PySem.W.Frag) (a : Addr) (q : Str) : Bool := match K.lookup a with
  | some ⟨_, _, .func fd, _⟩ => decide (fd.defaults = .none) && PySem.W.codeIn K fd.code q
  | _ => false
def intT (K : PySem.W.Frag) (x : Str) (i : Int) : Bool := match PySem.W.nsIn K mainGlobals x with
  | some (some (.int j _)) => decide (j = i)
  | _ => false
def strT (K : PySem.W.Frag) (x z : Str) : Bool := match PySem.W.nsIn K mainGlobals x with
  | some (some (.str y _)) => decide (y = z)
  | _ => false
/-- the function within a property, a static or a class method -/
def recA (K : PySem.W.Frag) (p : Addr) (c : String) : Addr := match PySem.W.recIn K p c with
  | some (.ref f :: _) => f
  | _ => 0
def recB (K : PySem.W.Frag) (p : Addr) (c : String) : Bool := match PySem.W.recIn K p c with
  | some (.ref _ :: _) => true
  | _ => false
/-- the object of an exception class of one's own with its own __init__ -/
def exlB (K : PySem.W.Frag) (C : Addr) : Bool := match K.lookup C with
  | some ⟨.type "type", _, .cls cd, sl⟩ => (match cd.mro, sl.toList with
    | .ref C' :: bm, [_, _, _, _, some (.builtin n), _] => C' == C && n == "ValueError.__new__" && !cd.hasDel && cd.hasDict && PySem.HandSPX.refsVE bm
    | _, _ => false)
  | _ => false
/-- a static or class method, found on the class -/
def getA (K : PySem.W.Frag) (C : Addr) (m : Str) : Addr := match PySem.W.findCls K (.ref C) (.type "type") m with
  | some (.get (.builtin _) (.ref p) .none (.ref _)) => p
  | _ => 0
def getB (K : PySem.W.Frag) (C : Addr) (m : Str) (b : String) : Bool := match PySem.W.findCls K (.ref C) (.type "type") m with
  | some (.get (.builtin b') (.ref _) .none (.ref C')) => decide (b' = b) && decide (C' = C)
  | _ => false
/-- what is told of a def -/
def fnV (x q : Str) (st : Stmt) : He.FnW := some (x, q, defArgs st, .stmts (defBody st), defScope st, mainGlobals, [], builtinsNs)
/-- found on an object -/
def mA (K : PySem.W.Frag) (C : Addr) (m : Str) : Addr := match PySem.W.findIn K (.ref C) m with
  | some (some (.ref f)) => f
  | _ => 0
/-- bound to an address in the module -/
def gA (K : PySem.W.Frag) (x : Str) : Addr := match PySem.W.nsIn K mainGlobals x with
  | some (some (.ref f)) => f
  | _ => 0
/-- the function's tuple of defaults -/
def dfA (K : PySem.W.Frag) (f : Addr) : Addr := match K.lookup f with
  | some ⟨_, _, .func fd, _⟩ => (match fd.defaults with | .ref T => T | _ => 0)
  | _ => 0
/-- the function's code -/
def coA (K : PySem.W.Frag) (f : Addr) : Addr := match K.lookup f with
  | some ⟨_, _, .func fd, _⟩ => (match fd.code with | .ref T => T | _ => 0)
  | _ => 0
/-- what stands in the code's table -/
def taA (K : PySem.W.Frag) (c : Addr) : Addr := match K.lookup c with
  | some ⟨_, _, .fields v, _⟩ => (match (v[11]? : Option Value) with | some (.ref T) => T | _ => 0)
  | _ => 0
/-- defaults at T, and a code of this name -/
def fnCD (K : PySem.W.Frag) (a T : Addr) (q : Str) : Bool := match K.lookup a with
  | some ⟨_, _, .func fd, _⟩ => decide (fd.defaults = .ref T) && PySem.W.codeIn K fd.code q
  | _ => false
/-- no defaults, the code at C of this name -/
def fnCC (K : PySem.W.Frag) (a C : Addr) (q : Str) : Bool := match K.lookup a with
  | some ⟨_, _, .func fd, _⟩ => decide (fd.defaults = .none) && (decide (fd.code = .ref C) && PySem.W.codeIn K (.ref C) q)
  | _ => false
def lcB (K : PySem.W.Frag) (c t : Addr) : Bool := match K.lookup c with
  | some ⟨_, _, .fields v, _⟩ => decide (v[11]? = some (.ref t))
  | _ => false
/-- ints of any tokens -/
def intsV : List Value → Option (List Int)
  | [] => some []
  | .int i _ :: r => (intsV r).map (i :: ·)
  | _ => none
/-- a tuple of ints (defaults) -/
def dfB (K : PySem.W.Frag) (T : Addr) (is : List Int) : Bool := match K.lookup T with
  | some ⟨_, _, .seq vs _, _⟩ => decide (intsV vs.toList = some is)
  | _ => false
end PP
end
section
set_option maxHeartbeats 4000000
namespace LW
open PySem PySem.Spec PyProof.Rows L2 PP
def top (i : Nat) : Stmt := PySem.Challenge.pw_curveboxes_k03_boxes_together.main.body.getD i (.Pass ⟨0, 0, 0, 0⟩)
abbrev st0 : Stmt := top 4
abbrev st1 : Stmt := top 5
abbrev st2 : Stmt := top 7
abbrev st3 : Stmt := inClass (top 12) 0
abbrev st4 : Stmt := inClass (top 14) 0
abbrev st5 : Stmt := top 19
abbrev st6 : Stmt := top 22
abbrev st7 : Stmt := top 23
abbrev st8 : Stmt := top 24
abbrev st9 : Stmt := inClass (top 25) 0
abbrev st10 : Stmt := inClass (top 25) 2
abbrev st11 : Stmt := inClass (top 25) 8
abbrev st12 : Stmt := inClass (top 25) 9
abbrev st13 : Stmt := inClass (top 25) 14
abbrev st14 : Stmt := inClass (top 25) 15
abbrev st15 : Stmt := inClass (top 25) 16
abbrev st16 : Stmt := inClass (top 25) 17
abbrev st17 : Stmt := inClass (top 25) 18
abbrev st18 : Stmt := top 26
abbrev st19 : Stmt := top 28
abbrev st20 : Stmt := top 29
abbrev st21 : Stmt := top 30
abbrev st22 : Stmt := top 31
abbrev st23 : Stmt := top 32
abbrev st24 : Stmt := top 33
abbrev st25 : Stmt := top 34
abbrev st26 : Stmt := top 35
abbrev st27 : Stmt := top 36
abbrev st28 : Stmt := top 37
abbrev st29 : Stmt := top 38
abbrev st30 : Stmt := top 39
abbrev st31 : Stmt := top 40
abbrev st32 : Stmt := top 41
abbrev st33 : Stmt := top 42
abbrev st34 : Stmt := top 43
abbrev st35 : Stmt := top 44
def lamN : List Str := ["_law_two_right", "law"]
end LW
end
section
set_option maxHeartbeats 0
namespace LW
open PySem PySem.Spec PyProof.Rows L2 PP
abbrev Rw : PySem.W.OpenRow := PySem.W.OpenLaw.row PySem.Challenge.rw_curveboxes_k03_boxes_together
abbrev qv : Program := PySem.W.view Rw.prog [43, 44]
def loose : List PySem.Str := ([Str.ofString "__name__", Str.ofString "_wall", Str.ofString "MOST_SIDE", Str.ofString "FIGURES", Str.ofString "is_integer", Str.ofString "is_between", Str.ofString "is_pair", Str.ofString "number_in", Str.ofString "CurveError", Str.ofString "BadInput", Str.ofString "Refused", Str.ofString "BadBox", Str.ofString "BadMany", Str.ofString "BadText", Str.ofString "TooMany", Str.ofString "MOST_CELLS", Str.ofString "MOST_SHIFT", Str.ofString "need_box", Str.ofString "moved_by", Str.ofString "need_shift"] : List PySem.Str) ++ ([Str.ofString "is_within", Str.ofString "common_box", Str.ofString "least_box", Str.ofString "Box", Str.ofString "box_numbers", Str.ofString "_law_top", Str.ofString "_law_pen", Str.ofString "_law_draw", Str.ofString "_law_pick", Str.ofString "_law_number", Str.ofString "_law_side", Str.ofString "_law_four", Str.ofString "_law_made", Str.ofString "_law_told", Str.ofString "_law_near", Str.ofString "_law_common", Str.ofString "_law_least", Str.ofString "_law_bound", Str.ofString "_law_heard", Str.ofString "_law_due"] : List PySem.Str)
def C0 (K : PySem.W.Frag) : Addr := gA K "CurveError"
def C1 (K : PySem.W.Frag) : Addr := gA K "BadInput"
def C3 (K : PySem.W.Frag) : Addr := gA K "BadBox"
def C6 (K : PySem.W.Frag) : Addr := gA K "BadText"
def C5 (K : PySem.W.Frag) : Addr := gA K "Box"
def f0 (K : PySem.W.Frag) : Addr := gA K "is_integer"
def f1 (K : PySem.W.Frag) : Addr := gA K "is_between"
def f2 (K : PySem.W.Frag) : Addr := gA K "number_in"
def f3 (K : PySem.W.Frag) : Addr := mA K (C3 K) "__init__"
def f4 (K : PySem.W.Frag) : Addr := mA K (C6 K) "__init__"
def f5 (K : PySem.W.Frag) : Addr := gA K "need_box"
def f6 (K : PySem.W.Frag) : Addr := gA K "is_within"
def f7 (K : PySem.W.Frag) : Addr := gA K "common_box"
def f8 (K : PySem.W.Frag) : Addr := gA K "least_box"
def f9 (K : PySem.W.Frag) : Addr := mA K (C5 K) "__init__"
def T9 (K : PySem.W.Frag) : Addr := dfA K (f9 K)
def p10 (K : PySem.W.Frag) : Addr := getA K (C5 K) "read"
def f10 (K : PySem.W.Frag) : Addr := recA K (p10 K) "classmethod"
def f11 (K : PySem.W.Frag) : Addr := mA K (C5 K) "__and__"
def f12 (K : PySem.W.Frag) : Addr := mA K (C5 K) "__or__"
def f13 (K : PySem.W.Frag) : Addr := mA K (C5 K) "__le__"
def f14 (K : PySem.W.Frag) : Addr := mA K (C5 K) "__lt__"
def f15 (K : PySem.W.Frag) : Addr := mA K (C5 K) "__ge__"
def f16 (K : PySem.W.Frag) : Addr := mA K (C5 K) "__gt__"
def f17 (K : PySem.W.Frag) : Addr := mA K (C5 K) "__eq__"
def f18 (K : PySem.W.Frag) : Addr := gA K "box_numbers"
def T18 (K : PySem.W.Frag) : Addr := dfA K (f18 K)
def f19 (K : PySem.W.Frag) : Addr := gA K "_law_top"
def f20 (K : PySem.W.Frag) : Addr := gA K "_law_pen"
def f21 (K : PySem.W.Frag) : Addr := gA K "_law_draw"
def f22 (K : PySem.W.Frag) : Addr := gA K "_law_pick"
def f23 (K : PySem.W.Frag) : Addr := gA K "_law_number"
def f24 (K : PySem.W.Frag) : Addr := gA K "_law_side"
def f25 (K : PySem.W.Frag) : Addr := gA K "_law_four"
def f26 (K : PySem.W.Frag) : Addr := gA K "_law_made"
def f27 (K : PySem.W.Frag) : Addr := gA K "_law_told"
def f28 (K : PySem.W.Frag) : Addr := gA K "_law_near"
def f29 (K : PySem.W.Frag) : Addr := gA K "_law_common"
def f30 (K : PySem.W.Frag) : Addr := gA K "_law_least"
def f31 (K : PySem.W.Frag) : Addr := gA K "_law_bound"
def f32 (K : PySem.W.Frag) : Addr := gA K "_law_heard"
def f33 (K : PySem.W.Frag) : Addr := gA K "_law_due"
def f34 (K : PySem.W.Frag) : Addr := gA K "_law_two_right"
def cc34 (K : PySem.W.Frag) : Addr := coA K (f34 K)
def ta34 (K : PySem.W.Frag) : Addr := taA K (cc34 K)
def f35 (K : PySem.W.Frag) : Addr := gA K "law"
def cc35 (K : PySem.W.Frag) : Addr := coA K (f35 K)
def ta35 (K : PySem.W.Frag) : Addr := taA K (cc35 K)
def Fk (K : PySem.W.Frag) : List He.FnW := ([fnA K (f0 K), fnA K (f1 K), fnA K (f2 K), fnA K (f3 K), fnA K (f4 K), fnA K (f5 K), fnA K (f6 K), fnA K (f7 K), fnA K (f8 K), fnA K (f9 K), fnA K (f10 K), fnA K (f11 K), fnA K (f12 K), fnA K (f13 K), fnA K (f14 K), fnA K (f15 K), fnA K (f16 K), fnA K (f17 K), fnA K (f18 K), fnA K (f19 K)] : List He.FnW) ++ ([fnA K (f20 K), fnA K (f21 K), fnA K (f22 K), fnA K (f23 K), fnA K (f24 K), fnA K (f25 K), fnA K (f26 K), fnA K (f27 K), fnA K (f28 K), fnA K (f29 K), fnA K (f30 K), fnA K (f31 K), fnA K (f32 K), fnA K (f33 K), fnA K (f34 K), fnA K (f35 K)] : List He.FnW)
def Fv : List He.FnW := ([fnV "is_integer" "is_integer" st0, fnV "is_between" "is_between" st1, fnV "number_in" "number_in" st2, fnV "__init__" "BadBox.__init__" st3, fnV "__init__" "BadText.__init__" st4, fnV "need_box" "need_box" st5, fnV "is_within" "is_within" st6, fnV "common_box" "common_box" st7, fnV "least_box" "least_box" st8, fnV "__init__" "Box.__init__" st9, fnV "read" "Box.read" st10, fnV "__and__" "Box.__and__" st11, fnV "__or__" "Box.__or__" st12, fnV "__le__" "Box.__le__" st13, fnV "__lt__" "Box.__lt__" st14, fnV "__ge__" "Box.__ge__" st15, fnV "__gt__" "Box.__gt__" st16, fnV "__eq__" "Box.__eq__" st17, fnV "box_numbers" "box_numbers" st18, fnV "_law_top" "_law_top" st19] : List He.FnW) ++ ([fnV "_law_pen" "_law_pen" st20, fnV "_law_draw" "_law_draw" st21, fnV "_law_pick" "_law_pick" st22, fnV "_law_number" "_law_number" st23, fnV "_law_side" "_law_side" st24, fnV "_law_four" "_law_four" st25, fnV "_law_made" "_law_made" st26, fnV "_law_told" "_law_told" st27, fnV "_law_near" "_law_near" st28, fnV "_law_common" "_law_common" st29, fnV "_law_least" "_law_least" st30, fnV "_law_bound" "_law_bound" st31, fnV "_law_heard" "_law_heard" st32, fnV "_law_due" "_law_due" st33, fnV "_law_two_right" "_law_two_right" st34, fnV "law" "law" st35] : List He.FnW)
def Bk0 (K : PySem.W.Frag) : Bool := (decide (PySem.W.nsIn K mainGlobals "CurveError" = some (some (.ref (C0 K))))) && ((decide (PySem.W.nsIn K mainGlobals "BadInput" = some (some (.ref (C1 K))))) && ((decide (PySem.W.nsIn K mainGlobals "BadBox" = some (some (.ref (C3 K))))) && ((decide (PySem.W.nsIn K mainGlobals "BadText" = some (some (.ref (C6 K))))) && ((decide (PySem.W.nsIn K mainGlobals "Box" = some (some (.ref (C5 K))))) && ((xcB K (C0 K)) && ((naB K (C0 K) []) && ((xcB K (C1 K)) && ((naB K (C1 K) []) && ((xcB K (C3 K)) && ((naB K (C3 K) ["part"]) && ((exlB K (C3 K)) && (((decide (PySem.W.findIn K (.ref (C3 K)) "__setattr__" = some (some (.builtin "object.__setattr__"))) && (decide (PySem.W.subIn K (.ref (C3 K)) (.type "BaseException") = some true) && (decide (PySem.W.typeIn K (.ref (C3 K)) = some (.type "type")) && PySem.W.keepIn K (.ref (C3 K)))))) && ((decide (PySem.W.findIn K (.ref (C3 K)) "__init__" = some (some (.ref (f3 K))))) && ((decide (PySem.W.typeIn K (.ref (f3 K)) = some (.type "function"))) && ((xcB K (C6 K)) && ((naB K (C6 K) ["line", "word"]) && ((exlB K (C6 K)) && (((decide (PySem.W.findIn K (.ref (C6 K)) "__setattr__" = some (some (.builtin "object.__setattr__"))) && (decide (PySem.W.subIn K (.ref (C6 K)) (.type "BaseException") = some true) && (decide (PySem.W.typeIn K (.ref (C6 K)) = some (.type "type")) && PySem.W.keepIn K (.ref (C6 K)))))) && ((decide (PySem.W.findIn K (.ref (C6 K)) "__init__" = some (some (.ref (f4 K))))) && ((decide (PySem.W.typeIn K (.ref (f4 K)) = some (.type "function"))) && ((clsB K (C5 K)) && ((cgB K (C5 K)) && ((naB K (C5 K) ["x", "y", "width", "height"]) && ((decide (PySem.W.findIn K (.ref (C5 K)) "__init__" = some (some (.ref (f9 K)))))))))))))))))))))))))))))
def Bk1 (K : PySem.W.Frag) : Bool := (PySem.W.makesIn K (C5 K)) && ((PySem.W.isFn K (.ref (f9 K))) && ((PySem.W.keepIn K (.ref (C5 K))) && ((decide (PySem.W.nsIn K mainGlobals "is_integer" = some (some (.ref (f0 K))))) && ((fnC K (f0 K) "is_integer") && ((PySem.W.keepIn K (.ref (f0 K))) && ((decide (PySem.W.nsIn K mainGlobals "is_between" = some (some (.ref (f1 K))))) && ((fnC K (f1 K) "is_between") && ((PySem.W.keepIn K (.ref (f1 K))) && ((decide (PySem.W.nsIn K mainGlobals "number_in" = some (some (.ref (f2 K))))) && ((fnC K (f2 K) "number_in") && ((PySem.W.keepIn K (.ref (f2 K))) && ((fnC K (f3 K) "BadBox.__init__") && ((PySem.W.keepIn K (.ref (f3 K))) && ((fnC K (f4 K) "BadText.__init__") && ((PySem.W.keepIn K (.ref (f4 K))) && ((decide (PySem.W.nsIn K mainGlobals "need_box" = some (some (.ref (f5 K))))) && ((fnC K (f5 K) "need_box") && ((PySem.W.keepIn K (.ref (f5 K))) && ((decide (PySem.W.nsIn K mainGlobals "is_within" = some (some (.ref (f6 K))))) && ((fnC K (f6 K) "is_within") && ((PySem.W.keepIn K (.ref (f6 K))) && ((decide (PySem.W.nsIn K mainGlobals "common_box" = some (some (.ref (f7 K))))) && ((fnC K (f7 K) "common_box") && ((PySem.W.keepIn K (.ref (f7 K)))))))))))))))))))))))))))
def Bk2 (K : PySem.W.Frag) : Bool := (decide (PySem.W.nsIn K mainGlobals "least_box" = some (some (.ref (f8 K))))) && ((fnC K (f8 K) "least_box") && ((PySem.W.keepIn K (.ref (f8 K))) && ((fnCD K (f9 K) (T9 K) "Box.__init__") && ((PySem.W.keepIn K (.ref (f9 K))) && ((dfB K (T9 K) [1, 1]) && ((getB K (C5 K) "read" "classmethod.__get__") && ((recB K (p10 K) "classmethod") && ((PySem.W.readsIn K (C5 K) (.type "type")) && ((decide (PySem.W.specialIn K (.ref (C5 K)) "__getattribute__" = some (some (.builtin "type.__getattribute__")))) && ((PySem.W.fnIn K (f10 K)) && ((fnC K (f10 K) "Box.read") && ((PySem.W.keepIn K (.ref (f10 K))) && ((decide (PySem.W.findIn K (.ref (C5 K)) "__and__" = some (some (.ref (f11 K))))) && ((PySem.W.isFn K (.ref (f11 K))) && ((fnC K (f11 K) "Box.__and__") && ((PySem.W.keepIn K (.ref (f11 K))) && ((decide (PySem.W.findIn K (.ref (C5 K)) "__or__" = some (some (.ref (f12 K))))) && ((PySem.W.isFn K (.ref (f12 K))) && ((fnC K (f12 K) "Box.__or__") && ((PySem.W.keepIn K (.ref (f12 K))) && ((decide (PySem.W.findIn K (.ref (C5 K)) "__le__" = some (some (.ref (f13 K))))) && ((PySem.W.isFn K (.ref (f13 K))) && ((fnC K (f13 K) "Box.__le__") && ((PySem.W.keepIn K (.ref (f13 K)))))))))))))))))))))))))))
def Bk3 (K : PySem.W.Frag) : Bool := (decide (PySem.W.findIn K (.ref (C5 K)) "__lt__" = some (some (.ref (f14 K))))) && ((PySem.W.isFn K (.ref (f14 K))) && ((fnC K (f14 K) "Box.__lt__") && ((PySem.W.keepIn K (.ref (f14 K))) && ((decide (PySem.W.findIn K (.ref (C5 K)) "__ge__" = some (some (.ref (f15 K))))) && ((PySem.W.isFn K (.ref (f15 K))) && ((fnC K (f15 K) "Box.__ge__") && ((PySem.W.keepIn K (.ref (f15 K))) && ((decide (PySem.W.findIn K (.ref (C5 K)) "__gt__" = some (some (.ref (f16 K))))) && ((PySem.W.isFn K (.ref (f16 K))) && ((fnC K (f16 K) "Box.__gt__") && ((PySem.W.keepIn K (.ref (f16 K))) && ((decide (PySem.W.findIn K (.ref (C5 K)) "__eq__" = some (some (.ref (f17 K))))) && ((PySem.W.isFn K (.ref (f17 K))) && ((fnC K (f17 K) "Box.__eq__") && ((PySem.W.keepIn K (.ref (f17 K))) && ((decide (PySem.W.nsIn K mainGlobals "box_numbers" = some (some (.ref (f18 K))))) && ((fnCD K (f18 K) (T18 K) "box_numbers") && ((PySem.W.keepIn K (.ref (f18 K))) && ((dfB K (T18 K) [0, 0]) && ((decide (PySem.W.nsIn K mainGlobals "_law_top" = some (some (.ref (f19 K))))) && ((fnC K (f19 K) "_law_top") && ((PySem.W.keepIn K (.ref (f19 K))) && ((decide (PySem.W.nsIn K mainGlobals "_law_pen" = some (some (.ref (f20 K))))) && ((fnC K (f20 K) "_law_pen")))))))))))))))))))))))))
def Bk4 (K : PySem.W.Frag) : Bool := (PySem.W.keepIn K (.ref (f20 K))) && ((decide (PySem.W.nsIn K mainGlobals "_law_draw" = some (some (.ref (f21 K))))) && ((fnC K (f21 K) "_law_draw") && ((PySem.W.keepIn K (.ref (f21 K))) && ((decide (PySem.W.nsIn K mainGlobals "_law_pick" = some (some (.ref (f22 K))))) && ((fnC K (f22 K) "_law_pick") && ((PySem.W.keepIn K (.ref (f22 K))) && ((decide (PySem.W.nsIn K mainGlobals "_law_number" = some (some (.ref (f23 K))))) && ((fnC K (f23 K) "_law_number") && ((PySem.W.keepIn K (.ref (f23 K))) && ((decide (PySem.W.nsIn K mainGlobals "_law_side" = some (some (.ref (f24 K))))) && ((fnC K (f24 K) "_law_side") && ((PySem.W.keepIn K (.ref (f24 K))) && ((decide (PySem.W.nsIn K mainGlobals "_law_four" = some (some (.ref (f25 K))))) && ((fnC K (f25 K) "_law_four") && ((PySem.W.keepIn K (.ref (f25 K))) && ((decide (PySem.W.nsIn K mainGlobals "_law_made" = some (some (.ref (f26 K))))) && ((fnC K (f26 K) "_law_made") && ((PySem.W.keepIn K (.ref (f26 K))) && ((decide (PySem.W.nsIn K mainGlobals "_law_told" = some (some (.ref (f27 K))))) && ((fnC K (f27 K) "_law_told") && ((PySem.W.keepIn K (.ref (f27 K))) && ((decide (PySem.W.nsIn K mainGlobals "_law_near" = some (some (.ref (f28 K))))) && ((fnC K (f28 K) "_law_near") && ((PySem.W.keepIn K (.ref (f28 K)))))))))))))))))))))))))))
def Bk5 (K : PySem.W.Frag) : Bool := (decide (PySem.W.nsIn K mainGlobals "_law_common" = some (some (.ref (f29 K))))) && ((fnC K (f29 K) "_law_common") && ((PySem.W.keepIn K (.ref (f29 K))) && ((decide (PySem.W.nsIn K mainGlobals "_law_least" = some (some (.ref (f30 K))))) && ((fnC K (f30 K) "_law_least") && ((PySem.W.keepIn K (.ref (f30 K))) && ((decide (PySem.W.nsIn K mainGlobals "_law_bound" = some (some (.ref (f31 K))))) && ((fnC K (f31 K) "_law_bound") && ((PySem.W.keepIn K (.ref (f31 K))) && ((decide (PySem.W.nsIn K mainGlobals "_law_heard" = some (some (.ref (f32 K))))) && ((fnC K (f32 K) "_law_heard") && ((PySem.W.keepIn K (.ref (f32 K))) && ((decide (PySem.W.nsIn K mainGlobals "_law_due" = some (some (.ref (f33 K))))) && ((fnC K (f33 K) "_law_due") && ((PySem.W.keepIn K (.ref (f33 K))) && ((decide (PySem.W.nsIn K mainGlobals "_law_two_right" = some (some (.ref (f34 K))))) && ((fnCC K (f34 K) (cc34 K) "_law_two_right") && ((PySem.W.keepIn K (.ref (f34 K))) && ((lcB K (cc34 K) (ta34 K)) && ((decide (PySem.W.tabIn K "_law_two_right" = some ((cc34 K), (ta34 K)))) && ((ttB K lamN (ta34 K) (("_law_two_right" : Str) ++ ".<locals>." ++ "<lambda>")) && ((decide (PySem.W.nsIn K mainGlobals "law" = some (some (.ref (f35 K))))) && ((fnCC K (f35 K) (cc35 K) "law") && ((PySem.W.keepIn K (.ref (f35 K))) && ((lcB K (cc35 K) (ta35 K))))))))))))))))))))))))))
def Bk6 (K : PySem.W.Frag) : Bool := (decide (PySem.W.tabIn K "law" = some ((cc35 K), (ta35 K)))) && ((ttB K lamN (ta35 K) (("law" : Str) ++ ".<locals>." ++ "<lambda>")) && ((isoB K (C3 K) [((C0 K), false), ((C1 K), false), ((C3 K), true), ((C6 K), false), ((C5 K), false)]) && ((isoB K (C5 K) [((C0 K), false), ((C1 K), false), ((C3 K), false), ((C6 K), false), ((C5 K), true)]) && ((isbB K [(C0 K), (C1 K), (C3 K), (C6 K), (C5 K)]) && ((exmB K (C0 K) [(C0 K), (C1 K), (C3 K), (C6 K)]) && ((nfB K (C5 K) [(C0 K), (C1 K), (C3 K), (C6 K), (C5 K)]) && ((neB K (C5 K)) && ((bcB K (C5 K) .BitAnd) && ((bcB K (C5 K) .BitOr) && ((ipB K (C5 K) (PySem.Operator.BitAnd).info.2) && ((ipB K (C5 K) (PySem.Operator.BitOr).info.2) && ((decide (PySem.W.nsIn K mainGlobals "abs" = some none)) && ((decide (PySem.W.nsIn K mainGlobals "all" = some none)) && ((decide (PySem.W.nsIn K mainGlobals "bool" = some none)) && ((decide (PySem.W.nsIn K mainGlobals "int" = some none)) && ((decide (PySem.W.nsIn K mainGlobals "isinstance" = some none)) && ((decide (PySem.W.nsIn K mainGlobals "len" = some none)) && ((decide (PySem.W.nsIn K mainGlobals "list" = some none)) && ((decide (PySem.W.nsIn K mainGlobals "max" = some none)) && ((decide (PySem.W.nsIn K mainGlobals "min" = some none)) && ((decide (PySem.W.nsIn K mainGlobals "range" = some none)) && ((decide (PySem.W.nsIn K mainGlobals "repr" = some none)) && ((decide (PySem.W.nsIn K mainGlobals "str" = some none)) && ((strT K "FIGURES" "0123456789")))))))))))))))))))))))))
def Bk7 (K : PySem.W.Frag) : Bool := (intT K "MOST_SIDE" 1267650600228229401496703205376)
def HOk (K : PySem.W.Frag) : List He.FnW × List Bool := (Fk K, [Bk0 K, Bk1 K, Bk2 K, Bk3 K, Bk4 K, Bk5 K, Bk6 K, Bk7 K, (PP.csOf lamN K).all fun p => (K.lookup p.2).isNone])
def Ov (_ : World) : List He.FnW × List Bool := (Fv, [true, true, true, true, true, true, true, true, true])
theorem run (w : World) : HandSHeadRun.RunEq Rw qv (hookP 6 HOk Ov) (obP 6 HOk) 40000 loose w := by
  intro os
  kernel_rfl
end LW
end
section
set_option maxHeartbeats 1000000
namespace L2
open PySem PySem.Spec PyProof.Rows
/-- a key, the tuple that bears it, the value -/
abbrev T3 := List Int × Addr × V
abbrev RT3 : List T3 → List (List Int × Addr × Value) → Prop := Paired fun p q => p.1 = q.1 ∧ p.2.1 = q.2.1 ∧ RelV p.2.2 q.2.2
/-- the object at a is this one -/
def dtO (a : Addr) (od : Obj) : HO := .ext fun h => h.get? a = some od
/-- .. a dict of these -/
def ObjDt (a : Addr) (od : Obj) (es : List T3) : Prop :=
  es.length ≤ sizeLine ∧ (a == sysModules) = false ∧ (es.map (·.1)).Nodup ∧ od.ExactDict ∧ ∃ (xs : List (List Int × Addr × Value)) (des : Array DictEntry) (ep : Nat), RT3 es xs ∧ od.data = .dict des ep ∧ ∀ (P : Program) (w : World), des.toList = xs.map (entryOfKey (tupleKind (intKind P w)))
/-- the keys' tuples stand -/
def KT3 (K : PySem.W.Frag) (H : Hp) (es : List T3) : Prop := ∀ e ∈ es, SqT K H e.2.1 (e.1.map V.int)
def getT3 (es : List T3) (k : List Int) : Option V := (es.find? fun e => decide (e.1 = k)).map (·.2.2)
theorem RT3.get {es : List T3} {xs : List (List Int × Addr × Value)} (r : RT3 es xs) (k : List Int) : RelO (getT3 es k) ((atKey xs k).map (·.2)) := by
  induction r with
  | nil => exact True.intro
  | @cons p q ps qs h t ih =>
    obtain ⟨h1, h2, h3⟩ := h
    by_cases e : p.1 = k
    · have e' : q.1 = k := h1.symm.trans e
      have a : getT3 (p :: ps) k = some p.2.2 := by simp [getT3, List.find?_cons, e]
      have b : atKey (q :: qs) k = some q.2 := by simp [atKey, List.find?_cons, e']
      rw [a, b]; exact h3
    · have e' : ¬ q.1 = k := fun z => e (h1.trans z)
      have a : getT3 (p :: ps) k = getT3 ps k := by simp [getT3, List.find?_cons, e]
      have b : atKey (q :: qs) k = atKey qs k := by simp [atKey, List.find?_cons, e']
      rw [a, b]; exact ih
theorem RT3.keys {es : List T3} {xs : List (List Int × Addr × Value)} (r : RT3 es xs) : es.map (·.1) = xs.map (·.1) := by
  induction r with
  | nil => rfl
  | cons h t ih => rw [List.map_cons, List.map_cons, ih, h.1]
theorem items_int {P : Program} {w : World} : ∀ {ks : List Int} {us : List Value}, Vals (ks.map V.int) us → ItemsAre (intKind P w) ks us
  | [], _, r => by rw [List.map_nil] at r; cases r; exact .nil
  | k :: ks, _, r => by
    rw [List.map_cons] at r
    cases r with
    | cons h t =>
      refine .cons ?_ (items_int t)
      obtain ⟨tk, e⟩ := (show ∃ t, _ = Value.int k t from h)
      subst e
      simp [intKind, Value.isInt]
theorem dtO_code {a c : Addr} {od : Obj} {q : Str} {es : List T3} (o : ObjDt a od es) : dtO a od ≠ LamX.CodeO c q := by
  intro h
  obtain ⟨_, _, _, _, _, des, ep, _, hd, _⟩ := o
  have hφ : (fun h : Heap => h.get? a = some od) = fun h => ∃ (oc : Obj) (vs : Array Value) (t : Tok), h.get? c = some oc ∧ oc.data = .fields vs ∧ vs[1]? = some (.str q t) := by
    unfold dtO LamX.CodeO at h
    injection h
  let co : Obj := { cls := .none, data := .fields #[.none, .str q 0] }
  let hp : Heap := { objs := Array.replicate (c + 1) co }
  have hg : ∀ b, b ≤ c → hp.get? b = some co := fun b hb => by
    have e : hp.objs[b]? = some co := by
      show (Array.replicate (c + 1) co)[b]? = some co
      rw [Array.getElem?_replicate, if_pos (show b < c + 1 from Nat.lt_succ_of_le hb)]
    unfold Heap.get?
    rw [e]
  have hn : ∀ b o, hp.get? b = some o → o = co := fun b o ho => by
    unfold Heap.get? at ho
    have e : hp.objs[b]? = if b < c + 1 then some co else none := by
      show (Array.replicate (c + 1) co)[b]? = _
      rw [Array.getElem?_replicate]
    rw [e] at ho
    split at ho
    · cases ho
    · split at ho
      · cases ho; rfl
      · cases ho
  have h1 : (fun h : Heap => ∃ (oc : Obj) (vs : Array Value) (t : Tok), h.get? c = some oc ∧ oc.data = .fields vs ∧ vs[1]? = some (.str q t)) hp :=
    ⟨co, _, 0, hg c (Nat.le_refl _), rfl, rfl⟩
  rw [← hφ] at h1
  have h2 := hn a od h1
  rw [h2] at hd
  cases hd
section
variable {X : Cx} {pins : List (Addr × Obj)} {σ : St} {H : Hp} {s : Shared} {a b : Addr} {od : Obj} {es : List T3} {k : List Int} {v : V} {A : Around} {E : Value → Shared → Prop}
theorem key3 (I : Inv X pins σ H s) (hb : SqT X.K H b (k.map V.int)) : (tupleKind (intKind X.prog X.w)).is s.heap k b := by
  obtain ⟨its, r, ⟨o, e1, e2, n, e3⟩, _⟩ := I.tuple hb
  exact ⟨o, its.toArray, n, e1, e2, e3, by simpa using items_int r⟩
theorem dt3_at (I : Inv X pins σ H s) (e : Rd H a (dtO a od)) : s.heap.get? a = some od := (e.ok I.hok).1
theorem rt3_mem : ∀ {es : List T3} {xs : List (List Int × Addr × Value)}, RT3 es xs → ∀ x ∈ xs, ∃ e ∈ es, e.1 = x.1 ∧ e.2.1 = x.2.1
  | _, _, .nil, x, hx => nomatch hx
  | _, _, .cons (a := p) (b := q) h t, x, hx => by
    rcases List.mem_cons.mp hx with rfl | hx
    · exact ⟨p, List.mem_cons_self, h.1, h.2.1⟩
    · obtain ⟨e, he, r⟩ := rt3_mem t x hx
      exact ⟨e, List.mem_cons_of_mem _ he, r⟩
theorem dt3_of (I : Inv X pins σ H s) (h : s.heap.get? a = some od) (o : ObjDt a od es) (hk : KT3 X.K H es) : ∃ xs, RT3 es xs ∧ s.heap.DictOfH (tupleKind (intKind X.prog X.w)) a xs := by
  obtain ⟨z, hd, hn, hx, xs, des, ep, r, hdt, hent⟩ := o
  refine ⟨xs, r, od, des, ep, h, hx, hdt, hent _ _, fun x hx => ?_, by rw [← r.keys]; exact hn⟩
  obtain ⟨e, he, h1, h2⟩ := rt3_mem r x hx
  rw [← h1, ← h2]
  exact key3 I (hk e he)
theorem dt3 (I : Inv X pins σ H s) (e : Rd H a (dtO a od)) (o : ObjDt a od es) (hk : KT3 X.K H es) : ∃ xs, RT3 es xs ∧ s.heap.DictOfH (tupleKind (intKind X.prog X.w)) a xs := dt3_of I (dt3_at I e) o hk
/-- d[y] -/
theorem ix_dt (hu : X.A.units + 1 < cLine) : IxR X (fun x y H Q => ∃ (a b : Addr) (od : Obj) (es : List T3) (k : List Int) (v : V), x = .ref a ∧ y = .ref b ∧ Rd H a (dtO a od) ∧ ObjDt a od es ∧ KT3 X.K H es ∧ SqT X.K H b (k.map V.int) ∧ getT3 es k = some v ∧ Q v H) := by
  intro value slice pins s σ H x y v u Q I rx ry h hs
  obtain ⟨a, b, od, es, k, z, rfl, rfl, e, o, hk, hb, g, q⟩ := h
  cases rx
  cases ry
  obtain ⟨xs, r, m⟩ := dt3 I e o hk
  have rg := r.get k
  rw [g] at rg
  obtain ⟨w', hw, rw'⟩ := RelO.some_of (v := z) (o := (atKey xs k).map (·.2)) rg
  obtain ⟨p, hp, hp2⟩ := Option.map_eq_some_iff.mp hw
  refine subscriptTail_builtinR (x := w') m.typeIs slot_dict_getitem.lookup (wpAny_getItem_heap (Q := fun r s' => r = w' ∧ EP X pins σ Q r s') (tupleKind_room_in1 hu) (key3 I hb) m hp ⟨hp2, ?_⟩) hs
  rw [hp2]
  exact ⟨z, H, I.tok _, rw', q⟩
/-- y in d -/
theorem op_in_dt (hu : X.A.units + 1 < cLine) : OpR X (compareOp .In) (fun x y H Q => ∃ (a b : Addr) (od : Obj) (es : List T3) (k : List Int), y = .ref a ∧ x = .ref b ∧ Rd H a (dtO a od) ∧ ObjDt a od es ∧ KT3 X.K H es ∧ SqT X.K H b (k.map V.int) ∧ Q (.bl (getT3 es k).isSome) H) := by
  intro pins s σ H x y v u Q I rx ry h
  obtain ⟨a, b, od, es, k, rfl, rfl, e, o, hk, hb, q⟩ := h
  cases rx
  cases ry
  obtain ⟨xs, r, m⟩ := dt3 I e o hk
  refine wpAny_in_heap (tupleKind_room_in1 hu) (key3 I hb) o.2.1 m ⟨.bl _, H, I.tok _, ?_, q⟩
  have q := (r.get k).isSome_eq
  rw [Option.isSome_map] at q
  rw [q]; rfl
end
end L2
end
section
namespace PP
open PySem L2
inductive D where
  | non | bl (b : Bool) | int (i : Int) | str (s : Str)
  | lst (xs : List D) | tup (xs : List D) | kst (xs : List D)
  | dK (ks : List Key) (vs : List D) | dT (ks : List (List Int)) (vs : List D)
  | obj (c : Nat) (ks : List Nat) (vs : List D)
  | cls (c : Nat)
  | err (c : Nat) (ks : List Nat) (vs : List D)
/-- as plain data; none where a dict or an object is within -/
inductive O2 where
  | add | sub | mul | fdiv | mod | pow | shl | shr | band | bor | bxor | lt | le | gt | ge | eq | ne | isin | notin | is | isnot
inductive O1 where
  | neg | inv | rev
inductive B where
  | len | int | abs | list | tuple | repr | str | isInt | isBool | isTuple | isList | isStr | max2 | min2 | bool
  | all | any | sum | maxL | minL | sorted | isLT | zipL | split | join | index | strIx | rev | rngL | sset | sortR
  | inst (c : Nat) | dcp | dprs | dprK
mutual
inductive Tg where
  | nm (i : Nat) | tup (ts : Tgs)
inductive Tgs where
  | nil | cons (t : Tg) (ts : Tgs)
end
mutual
inductive Ex where
  | var (i : Nat)
  | cst (d : D)
  | op2 (o : O2) (a b : Ex)
  | op1 (o : O1) (a : Ex)
  | chain (o p : O2) (a b c : Ex)
  | chain3 (o p r : O2) (a b c d : Ex)
  | and (a b : Ex) | or (a b : Ex) | not (a : Ex)
  | ife (c a b : Ex)
  | tup (es : Exs) | lst (es : Exs) | dic
  | call (f : Nat) (ms : List Bool) (es : Exs)
  | callP (f : Nat) (ms : List Bool) (pm : List Nat) (es : Exs)
  | bi (b : B) (es : Exs)
  | ix (a i : Ex)
  | slice (a : Ex) (bl bh : Bool) (lo hi : Ex)
  | fld (a : Ex) (k : Nat)
  | opo (o : O2) (cs ts : List Nat) (a b : Ex)
  | callD (f : Nat) (ms : List Bool) (es : Exs) (ds : List D)
  | mk (c : Nat) (ms : List Bool) (es : Exs) (ds : List D)
  | mth (io : Bool) (a : Ex) (m : Nat) (cs : List Nat) (ms : List Bool) (es : Exs) (ds : List D)
  | isObj (cs : List Nat) (a : Ex)
  | prp (a : Ex) (m : Nat) (cs : List Nat)
  | ino (neg : Bool) (cs : List Nat) (a b : Ex)
  | neo (cs : List Nat) (a b : Ex)
  | lc (vs : List Nat) (tg : Tg) (it : It) (hc : Bool) (c e : Ex)
  | popI (i : Nat) (e : Ex)
  | bm (b : B) (o e : Ex)
  | lenO (cs : List Nat) (a : Ex)
  | fstr (es : Exs)
  | strO (cs : List Nat) (a : Ex)
  | mkP (c : Nat) (pm : List Nat) (es : Exs)
  | mkEP (c : Nat) (ks : List Nat) (pm : List Nat) (es : Exs)
  | mkE (c : Nat) (ks : List Nat) (es : Exs)
  | heard (f : Nat) (vs : List Nat) (e : Ex)
  | heardK (f : Nat) (vs : List Nat) (e : Ex)
  | ixK (i : Nat) (k : Ex) | dgt (i : Nat) (k x : Ex)
  | ask (i : Nat)
  | callS (f : Nat) (es : Exs)
  | cmt (c m n : Nat) (es : Exs)
  | mkL (i c n : Nat) (es : Exs)
  | mkLS (i c : Nat) (es : Exs)
  | getO (cs : List Nat) (a b : Ex)
  | calO (cs : List Nat) (n : Nat) (a : Ex) (es : Exs)
  | mkS (c : Nat) (es : Exs)
  | opu (m : Nat) (cs : List Nat) (a : Ex)
  | keep (a : Ex)
  | dicT | dis1 (i j m n : Int) | dgtT (a k x : Ex) | booO (cs : List Nat) (a : Ex)
  | mkF (c n : Nat) (es : Exs) | callF (f n : Nat) (es : Exs) | neL (cs : List Nat) (a b : Ex)
inductive Exs where
  | nil | cons (e : Ex) (es : Exs) | star (e : Ex) (es : Exs)
inductive It where
  | seq (e : Ex) | rng (lo hi : Ex) | down (lo hi : Ex) | enum (e : Ex) | zip (a b : Ex) | str (e : Ex) | keys (i : Nat) | keysT (e : Ex) | own (cs : List Nat) (j : Nat) (e : Ex)
end
inductive SE where
  | c (d : D) | l (ds : List D) | lt (ds : List D)
mutual
inductive S where
  | asg (i : Nat) (e : Ex)
  | setI (i : Nat) (x e : Ex)
  | setK (i : Nat) (x e : Ex)
  | setT (i : Nat) (x e : Ex)
  | app (i : Nat) (e : Ex)
  | ext (i : Nat) (e : Ex)
  | aug (i : Nat) (o : O2) (e : Ex)
  | ex (e : Ex)
  | iff (c : Ex) (a b : Ss)
  | forr (i : Nat) (n : Ex) (b : Ss)
  | forl (i : Nat) (l : Ex) (b : Ss)
  | whil (c : Ex) (b : Ss)
  | ret (e : Ex) | retN | pass | brk | cont | never
  | par (is : List Nat) (es : Exs)
  | parK (i j : Nat) (a b : Ex)
  | parL (i j : Nat) (a : Ex) (d : D)
  | parL3 (i j k : Nat) (a : Ex) (d d2 : D)
  | parN (i j : Nat) (a : Ex)
  | parS (is : List Nat) (ses : List SE)
  | unp (is : List Nat) (e : Ex)
  | setF (i : Nat) (cs : List Nat) (k : Nat) (e : Ex)
  | fort (tg : Tg) (it : It) (b : Ss)
  | raise (c : Nat) (ks : List Nat) (es : Exs)
  | tryC (b : Ss) (cs : List Nat) (i j : Nat)
inductive Ss where
  | nil | cons (s : S) (r : Ss)
end
inductive Sl where
  | un | fz (d : D) | ow (d : D) | io (d : D) | fn
abbrev Env := List Sl
inductive U where
  | d (x : D) | sl (i : Nat) | nw (x : D)
abbrev Exn := Nat × List Nat × List D
inductive R (α : Type) where
  | ok (a : α) (env : Env) | exc (x : Exn) (env : Env) | bad
def R.bind {α β : Type} (r : R α) (f : α → Env → R β) : R β := match r with
  | .ok a env => f a env
  | .exc x env => .exc x env
  | .bad => .bad
@[simp] theorem R.bind_ok {α β : Type} (a : α) (env : Env) (f : α → Env → R β) : (R.ok a env).bind f = f a env := rfl
@[simp] theorem R.bind_exc {α β : Type} (x : Exn) (env : Env) (f : α → Env → R β) : (R.exc x env : R α).bind f = .exc x env := rfl
@[simp] theorem R.bind_bad {α β : Type} (f : α → Env → R β) : (R.bad : R α).bind f = .bad := rfl
def orBad {α β : Type} (o : Option α) (f : α → R β) : R β := match o with
  | some a => f a
  | none => .bad
@[simp] theorem orBad_some {α β : Type} (a : α) (f : α → R β) : orBad (some a) f = f a := rfl
@[simp] theorem orBad_none {α β : Type} (f : α → R β) : orBad (none : Option α) f = .bad := rfl
def getS (env : Env) (i : Nat) : Sl := env.getD i .un
def rdS : Sl → Option D
  | .fz d => some d | .ow d => some d | .io d => some d | .un => none | .fn => none
def rdU (env : Env) : U → Option D
  | .d x => some x | .nw x => some x | .sl i => rdS (getS env i)
def rdAll (env : Env) : List U → Option (List D)
  | [] => some []
  | u :: us => match rdU env u, rdAll env us with
    | some d, some ds => some (d :: ds)
    | _, _ => none
def pend : U → U
  | .nw x => .d x | u => u
/-- take a value for good: an owned list is owned no more -/
def fzU (env : Env) : U → Option (D × Env)
  | .d x => some (x, env) | .nw x => some (x, env)
  | .sl i => match getS env i with
    | .fz d => some (d, env) | .ow d => some (d, env.set i (.fz d)) | _ => none
def LIM : Nat := 100000
def truD : D → Option Bool
  | .non => some false | .bl b => some b | .int i => some (i != 0)
  | .str s => if s.length ≤ LIM then some ((s.length : Int) != 0) else none
  | .lst xs => some (!xs.isEmpty) | .tup xs => some (!xs.isEmpty) | .kst xs => some (!xs.isEmpty)
  | _ => none
mutual
def toPy : D → Option PyData
  | .non => some .none | .bl b => some (.bool b) | .int i => some (.int i) | .str s => some (.str s)
  | .lst xs => (toPyAll xs).map .list | .tup xs => (toPyAll xs).map .tuple | .kst xs => (toPyAll xs).map .list
  | _ => none
def toPyAll : List D → Option (List PyData)
  | [] => some []
  | d :: ds => match toPy d, toPyAll ds with
    | some p, some ps => some (p :: ps)
    | _, _ => none
end
def eqP (x y : D) : Option Bool := match toPy x, toPy y with
  | some p, some q => if SeqAt.shaped p && SeqAt.shaped q then some (PyData.eqv p q) else none
  | _, _ => none
def eqD (x y : D) : Option Bool := match x, y with
  | .str a, .str b => some (decide (a = b))
  | x, y => eqP x y
/-- x in a list of data -/
def inD (x : D) (ys : List D) : Option D := match toPy x, toPyAll ys with
  | some p, some ps => if SeqAt.shaped p && SeqAt.shaped (.list ps) then some (.bl (ps.any fun z => PyData.eqv z p)) else none
  | _, _ => none
/-- one sign in a text -/
def inS (x y : Str) : Option D := match x.cps.toList with
  | [c] => some (.bl (decide (c ∈ y.cps.toList)))
  | _ => none
def bnd64 (i : Int) : Bool := decide (-(2 ^ 64) < i) && decide (i < 2 ^ 64)
def mulOk (i j : Int) : Bool := bnd64 i || bnd64 j || decide (i.natAbs.log2 + j.natAbs.log2 < 1000000)
def divOk (j : Int) : Bool := decide (0 < j) && decide (j.natAbs.log2 < 9000)
def shlOk (i j : Int) : Bool := decide (0 ≤ j) && decide (j ≤ 1000000) && decide (i.natAbs.log2 < 1000000)
def powOk (i j : Int) : Bool := decide (0 ≤ j) && decide (j ≤ 1000000) && decide (i.natAbs < 2 ^ 64)
/-- a text so many times -/
def repS (z : Str) (k : Nat) : Str := ⟨(List.replicate k z.cps).foldl (· ++ ·) #[]⟩
def intsD : List D → Option (List Int)
  | [] => some []
  | .int b :: r => (intsD r).map (b :: ·)
  | _ => none
def getK (ks : List Key) (vs : List D) (k : Key) : Option D := ((ks.zip vs).find? fun kv => decide (kv.1 = k)).map (·.2)
def putKP (kvs : List (Key × D)) (k : Key) (d : D) : List (Key × D) :=
  if (kvs.any fun kv => decide (kv.1 = k)) = true then kvs.map (fun kv => if kv.1 = k then (kv.1, d) else kv) else kvs ++ [(k, d)]
def getDT (ks : List (List Int)) (vs : List D) (k : List Int) : Option D := ((ks.zip vs).find? fun p => decide (p.1 = k)).map (·.2)
def putPT (ps : List (List Int × D)) (k : List Int) (d : D) : List (List Int × D) :=
  if (ps.any fun p => decide (p.1 = k)) = true then ps.map (fun p => if p.1 = k then (p.1, d) else p) else ps ++ [(k, d)]
def mkDT (ps : List (List Int × D)) : D := .dT (ps.map (·.1)) (ps.map (·.2))
def keyTD (k : List Int) : D := .tup (k.map .int)
def keyTI : D → Option (List Int)
  | .tup ys => intsD ys | _ => none
/-- keys that may be copied -/
def okT : List Int → Bool
  | [x, y] => decide (0 ≤ x) && decide (x < 32) && decide (0 ≤ y) && decide (y < 32)
  | _ => false
def pairsDT : List D → Option (List (List Int × D))
  | [] => some []
  | .tup [.tup ys, v] :: r => match intsD ys, pairsDT r with
    | some k, some ps => some ((k, v) :: ps)
    | _, _ => none
  | _ => none
def pairsDK : List D → Option (List (Key × D))
  | [] => some []
  | .tup [.int i, v] :: r => (pairsDK r).map fun ps => (.inl i, v) :: ps
  | _ => none
/-- a number in a tuple of numbers -/
def inT : D → List D → Option D
  | .int i, ys => match intsD ys with
    | some ns => some (.bl (ns.any fun n => n == i))
    | none => inD (.int i) ys
  | x, ys => inD x ys
def op2 : O2 → D → D → Option D
  | .add, .int i, .int j => some (.int (i + j))
  | .add, .lst xs, .lst ys => if xs.length + ys.length ≤ LIM then some (.lst (xs ++ ys)) else none
  | .add, .str x, .str y => if x.length + y.length ≤ LIM then some (.str (x ++ y)) else none
  | .sub, .int i, .int j => some (.int (i - j))
  | .mul, .int i, .int j => if mulOk i j then some (.int (i * j)) else none
  | .mul, .lst xs, .int j => if decide (0 ≤ j) && decide (j ≤ 1000) && decide (xs.length * j.toNat ≤ LIM) then some (.lst (List.replicate j.toNat xs).flatten) else none
  | .mul, .str z, .int j => if decide (2 ≤ j) && decide (j ≤ 1000) && decide (1 ≤ z.length) && decide (z.length * j.toNat ≤ LIM) then some (.str (repS z j.toNat)) else none
  | .fdiv, .int i, .int j => if divOk j then some (.int (i / j)) else none
  | .mod, .int i, .int j => if 0 < j then some (.int (i % j)) else none
  | .pow, .int i, .int j => if powOk i j then some (.int (i ^ j.toNat)) else none
  | .shl, .int i, .int j => if shlOk i j then some (.int (i * 2 ^ j.toNat)) else none
  | .shr, .int i, .int j => if 0 ≤ j then some (.int (i / 2 ^ j.toNat)) else none
  | .band, .int i, .int j => some (.int (Builtin.bitAnd i j))
  | .bor, .int i, .int j => some (.int (Builtin.bitOr i j))
  | .bxor, .int i, .int j => some (.int (Builtin.bitXor i j))
  | .lt, .int i, .int j => some (.bl (decide (i < j)))
  | .le, .int i, .int j => some (.bl (decide (i ≤ j)))
  | .gt, .int i, .int j => some (.bl (decide (j < i)))
  | .ge, .int i, .int j => some (.bl (decide (j ≤ i)))
  | .eq, x, y => (eqD x y).map .bl
  | .ne, x, y => (eqD x y).map fun b => .bl (!b)
  | .isin, x, .lst ys => inD x ys
  | .isin, x, .kst ys => inD x ys
  | .isin, x, .dT ks vs => (keyTI x).map fun k => .bl (getDT ks vs k).isSome
  | .isin, x, .tup ys => inT x ys
  | .isin, .str x, .str y => inS x y
  | .notin, x, .lst ys => (inD x ys).map fun d => match d with | .bl b => .bl (!b) | d => d
  | .notin, x, .kst ys => (inD x ys).map fun d => match d with | .bl b => .bl (!b) | d => d
  | .notin, x, .tup ys => (inD x ys).map fun d => match d with | .bl b => .bl (!b) | d => d
  | .notin, x, .dT ks vs => (keyTI x).map fun k => .bl (!(getDT ks vs k).isSome)
  | .notin, .str x, .str y => (inS x y).map fun d => match d with | .bl b => .bl (!b) | d => d
  | .is, x, .non => some (.bl (match x with | .non => true | _ => false))
  | .isnot, x, .non => some (.bl (match x with | .non => false | _ => true))
  | .is, x, .bl b => some (.bl (match x with | .bl c => b == c | _ => false))
  | .isnot, x, .bl b => some (.bl (match x with | .bl c => !(b == c) | _ => true))
  | _, _, _ => none
def op1 : O1 → D → Option D
  | .neg, .int i => some (.int (-i))
  | .inv, .int i => some (.int (Builtin.bitNot i))
  | .rev, .lst xs => some (.lst xs.reverse)
  | .rev, .kst xs => some (.lst xs.reverse)
  | .rev, .tup xs => some (.tup xs.reverse)
  | _, _ => none
def cutD (xs : List D) (lo hi : Option Int) : List D := (xs.drop (HT.sIx xs.length 0 lo)).take (HT.sIx xs.length xs.length hi - HT.sIx xs.length 0 lo)
def ixD : D → D → Option D
  | .lst xs, .int i => atI xs i
  | .tup xs, .int i => atI xs i
  | .kst xs, .int i => atI xs i
  | .dT ks vs, .tup ys => (intsD ys).bind fun k => getDT ks vs k
  | .str z, .int i => if z.length ≤ LIM then (atI z.cps.toList i).map fun c => .str ⟨#[c]⟩ else none
  | _, _ => none
def blsD : List D → Option (List Bool)
  | [] => some []
  | .bl b :: r => (blsD r).map (b :: ·)
  | _ => none
def strsD : List D → Option (List Str)
  | [] => some []
  | .str b :: r => (strsD r).map (b :: ·)
  | _ => none
/-- the place of x in a list of data -/
def indexP (p : PyData) : List PyData → Nat → Option Nat
  | [], _ => none
  | z :: r, j => if PyData.eqv z p then some j else indexP p r (j + 1)
def indexD (x : D) (ys : List D) : Option D := match toPy x, toPyAll ys with
  | some p, some ps => if SeqAt.shaped p && SeqAt.shaped (.list ps) then (indexP p ps 0).map fun (j : Nat) => .int j else none
  | _, _ => none
/-- none twice -/
def ddp : List Int → List Int
  | [] => []
  | a :: r => if (ddp r).contains a then ddp r else a :: ddp r
/-- built-in functions: what they give (fresh lists come as .nw) -/
def biD : B → List D → Option D
  | .len, [.lst xs] => some (.int xs.length)
  | .len, [.tup xs] => some (.int xs.length)
  | .len, [.kst xs] => some (.int xs.length)
  | .len, [.str x] => if x.length ≤ LIM then some (.int x.length) else none
  | .tuple, [.lst xs] => some (.tup xs)
  | .tuple, [.kst xs] => some (.tup xs)
  | .tuple, [.tup xs] => some (.tup xs)
  | .str, [.int i] => if decide (i.natAbs.log2 < 1920) then some (.str (toString i)) else none
  | .int, [.str x] => if x.length ≤ 640 then (PySem.intText? x).map .int else none
  | .all, [.lst xs] => (blsD xs).map fun bs => .bl (bs.all id)
  | .any, [.lst xs] => (blsD xs).map fun bs => .bl (bs.any id)
  | .isLT, [x] => match x with | .obj _ _ _ => none | .dT _ _ => none | .cls _ => none | .err _ _ _ => none | .lst _ => some (.bl true) | .kst _ => some (.bl true) | .tup _ => some (.bl true) | _ => some (.bl false)
  | .split, [.str x, .str y] => if x.length ≤ LIM && !(y.length == 0) then some (.lst ((Txt.split x y).map .str)) else none
  | .join, [.str x, .lst ys] => (strsD ys).bind fun zs => if (zs.map (·.length)).sum + zs.length * x.length ≤ LIM then some (.str (Txt.join x zs)) else none
  | .index, [.lst xs, x] => indexD x xs
  | .index, [.kst xs, x] => indexD x xs
  | .rev, [.lst xs] => some (.lst xs.reverse)
  | .rev, [.kst xs] => some (.lst xs.reverse)
  | .rev, [.tup xs] => some (.tup xs.reverse)
  | .sum, [.lst xs] => (intsD xs).map fun ns => .int ns.sum
  | .sorted, [.lst xs] => (intsD xs).map fun ns => .lst ((ns.mergeSort fun a b => decide (a ≤ b)).map .int)
  | .sortR, [.lst xs] => (intsD xs).map fun ns => .lst ((ns.mergeSort fun a b => decide (a ≤ b)).reverse.map .int)
  | .sset, [.lst xs] => (intsD xs).bind fun ns => if ns.length ≤ 4000 then some (.lst (((ddp ns).mergeSort fun a b => decide (a ≤ b)).map .int)) else none
  | .rngL, [.int n] => if (decide (0 ≤ n) && decide (n ≤ (LIM : Int))) = true then some (.lst ((List.range n.toNat).map fun (k : Nat) => .int (k : Int))) else none
  | .inst c, [] => some (.obj c [] [])
  | .dcp, [.dT ks vs] => if ks.all okT then some (.dT ks vs) else none
  | .dprs, [.lst ps] => (pairsDT ps).map fun qs => mkDT (qs.foldl (fun acc q => putPT acc q.1 q.2) [])
  | .dprK, [.lst ps] => (pairsDK ps).map fun qs => .dK ((qs.foldl (fun acc q => putKP acc q.1 q.2) []).map (·.1)) ((qs.foldl (fun acc q => putKP acc q.1 q.2) []).map (·.2))
  | .maxL, [.lst xs] => (intsD xs).bind fun ns => ns.max?.map .int
  | .minL, [.lst xs] => (intsD xs).bind fun ns => ns.min?.map .int
  | .zipL, [.lst xs, .lst ys] => if xs.length ≤ LIM then some (.lst ((xs.zip ys).map fun p => .tup [p.1, p.2])) else none
  | .int, [.int i] => some (.int i)
  | .int, [.bl b] => some (.int (if b then 1 else 0))
  | .bool, [.bl b] => some (.bl b)
  | .bool, [.int i] => some (.bl (i != 0))
  | .abs, [.int i] => some (.int (if i < 0 then -i else i))
  | .max2, [.int i, .int j] => some (.int (if j > i then j else i))
  | .min2, [.int i, .int j] => some (.int (if j < i then j else i))
  | .list, [.lst xs] => some (.lst xs)
  | .list, [.tup xs] => some (.lst xs)
  | .list, [.kst xs] => some (.lst xs)
  | .isInt, [x] => match x with | .cls _ => none | .dT _ _ => none | .int _ => some (.bl true) | .bl _ => some (.bl true) | _ => some (.bl false)
  | .isBool, [x] => match x with | .cls _ => none | .dT _ _ => none | .bl _ => some (.bl true) | _ => some (.bl false)
  | .isTuple, [x] => match x with | .cls _ => none | .dT _ _ => none | .tup _ => some (.bl true) | _ => some (.bl false)
  | .isList, [x] => match x with | .cls _ => none | .dT _ _ => none | .lst _ => some (.bl true) | .kst _ => some (.bl true) | _ => some (.bl false)
  | .isStr, [x] => match x with | .cls _ => none | .dT _ _ => none | .str _ => some (.bl true) | _ => some (.bl false)
  | .repr, [x] => match x with
    | .dK [] [] => some (.str "{}")
    | x => match toPy x with
      | some p => if p.showable && !p.hasDict && decide (p.shown.length ≤ LIM) && decide (p.depth ≤ 64) then some (.str p.shown) else none
      | none => none
  | _, _ => none
inductive Ar where
  | fz (d : D) | io (d : D)
inductive RC where
  | ok (r : U) (outs : List D) | exc (x : Exn) (outs : List D) | bad
abbrev CallF := Nat → List Ar → RC
/-- the arguments of a call, once all are evaluated -/
def argsOf (env : Env) : List Bool → List U → Option (List Ar)
  | [], [] => some []
  | false :: ms, .d x :: us => (argsOf env ms us).map (.fz x :: ·)
  | true :: ms, .sl i :: us => match getS env i with
    | .ow d => (argsOf env ms us).map (.io d :: ·)
    | .io d => (argsOf env ms us).map (.io d :: ·)
    | _ => none
  | _, _ => none
/-- the slots that a call may change -/
def ioSlots : List U → List Nat
  | [] => []
  | .sl i :: us => i :: ioSlots us
  | _ :: us => ioSlots us
def setIO (s : Sl) (d : D) : Sl := match s with
  | .ow _ => .ow d | .io _ => .io d | s => s
def putIO (env : Env) : List Nat → List D → Env
  | i :: is, d :: ds => putIO (env.set i (setIO (getS env i) d)) is ds
  | _, _ => env
def dupFree : List Nat → Bool
  | [] => true
  | i :: is => !is.contains i && dupFree is
/-- in another order -/
def permL {α : Type} (pm : List Nat) (xs : List α) : List α := pm.filterMap fun i => xs[i]?
/-- a bound of a slice -/
def partD (u : U) (env : Env) : R (Option Int) := orBad (rdU env u) fun d => match d with
  | .int i => .ok (some i) env
  | _ => .bad
def optP (b : Bool) (f : Env → R U) (env : Env) : R (Option Int) := match b with
  | true => (f env).bind partD
  | false => .ok none env
/-- a def's call, once its arguments stand -/
def runC (cl : CallF) (f : Nat) (ms : List Bool) (us : List U) (env : Env) : R U := orBad (argsOf env ms us) fun as =>
  if dupFree (ioSlots us) then match cl f as with
    | .ok r outs => .ok r (putIO env (ioSlots us) outs)
    | .exc x outs => .exc x (putIO env (ioSlots us) outs)
    | .bad => .bad
  else .bad
/-- the number of a class's special thing -/
def spec (c m : Nat) : Nat := 1000 + 1000 * c + m
def opc : O2 → Nat
  | .add => 1 | .sub => 2 | .mul => 3 | .fdiv => 4 | .mod => 5 | .pow => 6 | .shl => 7 | .shr => 8 | .band => 9 | .bor => 10 | .bxor => 11 | .lt => 12 | .le => 13 | .gt => 14 | .ge => 15 | .eq => 16 | .ne => 16 | .isin => 17 | .notin => 17 | .is => 18 | .isnot => 18
def fldD : List Nat → List D → Nat → Option D
  | k :: ks, v :: vs, j => if k = j then some v else fldD ks vs j
  | _, _, _ => none
def putD : List Nat → List D → Nat → D → List Nat × List D
  | k :: ks, v :: vs, j, x => if k = j then (k :: ks, x :: vs) else (k :: (putD ks vs j x).1, v :: (putD ks vs j x).2)
  | _, _, j, x => ([j], [x])
def fldOf : D → Nat → Option D
  | .obj _ ks vs, j => fldD ks vs j
  | .err _ ks vs, j => fldD ks vs j
  | _, _ => none
/-- who takes a method's call: its class, how it is handed in -/
def recvU (io : Bool) (env : Env) (u : U) : Option (Nat × U × Env) := match io with
  | true => match u with
    | .sl i => match getS env i with
      | .ow (.obj c _ _) => some (c, .sl i, env)
      | .io (.obj c _ _) => some (c, .sl i, env)
      | _ => none
    | _ => none
  | false => match fzU env u with
    | some (.obj c ks vs, env') => some (c, .d (.obj c ks vs), env')
    | _ => none
def isObjOf (cs : List Nat) : D → Bool
  | .obj c _ _ => cs.contains c
  | .err c _ _ => cs.contains c
  | _ => false
def isDT : D → Bool
  | .dT _ _ => true | _ => false
def isClsD : D → Bool
  | .cls _ => true | .dT _ _ => true | _ => false
/-- no plain value: a class, an exception -/
def oddD : D → Bool
  | .cls _ => true | .err _ _ _ => true | .dT _ _ => true | _ => false
def kdD : D → Nat
  | .non => 0 | .bl _ => 1 | .int _ => 2 | .str _ => 3 | .lst _ => 4 | .kst _ => 4 | .tup _ => 5 | .dK _ _ => 6 | .dT _ _ => 6 | .obj _ _ _ => 7 | .cls _ => 8 | .err _ _ _ => 9
def isCmpO : O2 → Bool
  | .lt => true | .le => true | .gt => true | .ge => true | .eq => true | .ne => true | _ => false
/-- which right ones an own operator takes here -/
def okR (o : O2) (ts : List Nat) (c : Nat) : D → Bool
  | .obj c' _ _ => isCmpO o || c == c'
  | .cls _ => false
  | .err _ _ _ => false
  | .dT _ _ => false
  | y => isCmpO o || ts.contains (kdD y)
/-- an operator where the left one may be an object of an own class -/
def ownOp (cl : CallF) (o : O2) (cs ts : List Nat) (x y : D) (env : Env) : R U := match x with
  | .obj c ks vs => if !(cs.contains c && okR o ts c y) then .bad else match cl (spec c (opc o)) [.fz (.obj c ks vs), .fz y] with
    | .ok r _ => match o with
      | .ne => match r with
        | .d (.bl t) => .ok (.nw (.bl (!t))) env
        | _ => .bad
      | _ => .ok r env
    | .exc x _ => .exc x env
    | .bad => .bad
  | x => orBad (op2 o x y) fun z => .ok (.nw z) env
/-- x in o, by o's own def -/
def ownIn (cl : CallF) (neg : Bool) (cs : List Nat) (x y : D) (env : Env) : R U := match y with
  | .obj c ks vs => if !cs.contains c then .bad else match cl (spec c 17) [.fz (.obj c ks vs), .fz x] with
    | .ok (.d (.bl t)) _ => .ok (.nw (.bl (if neg then !t else t))) env
    | .exc x _ => .exc x env
    | _ => .bad
  | y => orBad (op2 (if neg then .notin else .isin) x y) fun z => .ok (.nw z) env
/-- x != y, x of a class with its own == -/
def ownNe (cl : CallF) (cs : List Nat) (x y : D) (env : Env) : R U := match x with
  | .obj c ks vs => if !(cs.contains c && !oddD y) then .bad else match cl (spec c 16) [.fz (.obj c ks vs), .fz y] with
    | .ok (.d (.bl t)) _ => .ok (.nw (.bl (!t))) env
    | .exc x _ => .exc x env
    | _ => .bad
  | x => orBad (op2 .ne x y) fun z => .ok (.nw z) env
/-- an own sign ahead -/
def ownUn (cl : CallF) (m : Nat) (cs : List Nat) (x : D) (env : Env) : R U := match x with
  | .obj c ks vs => if !cs.contains c then .bad else match cl (spec c m) [.fz (.obj c ks vs)] with
    | .ok r _ => .ok r env
    | .exc x _ => .exc x env
    | .bad => .bad
  | _ => .bad
/-- x[y], x of a class with its own __getitem__ -/
def ownGet (cl : CallF) (cs : List Nat) (x y : D) (env : Env) : R U := match x with
  | .obj c ks vs => if !cs.contains c then .bad else match cl (spec c 18) [.fz (.obj c ks vs), .fz y] with
    | .ok r _ => .ok r env
    | .exc x _ => .exc x env
    | .bad => .bad
  | _ => .bad
def isObD : D → Bool
  | .obj _ _ _ => true | _ => false
/-- x(..), x of a class with its own __call__ -/
def ownCal (cl : CallF) (cs : List Nat) (x : D) (ds : List D) (env : Env) : R U := match x with
  | .obj c ks vs => if !cs.contains c then .bad else match cl (spec c 20) ((.obj c ks vs :: ds).map .fz) with
    | .ok r _ => .ok r env
    | .exc x _ => .exc x env
    | .bad => .bad
  | _ => .bad
/-- the class c stands at a name -/
def isClsN (c : Nat) : Sl → Bool
  | .fz (.cls c') => c == c' | _ => false
mutual
/-- equal by own ==s, told True by each -/
def eqOO (cl : CallF) (cs : List Nat) : D → D → Bool
  | .obj c ks vs, .obj c' ks' vs' => cs.contains c && (match cl (spec c 16) [.fz (.obj c ks vs), .fz (.obj c' ks' vs')] with
    | .ok (.d (.bl true)) _ => true
    | _ => false)
  | .lst xs, .lst ys => eqOOs cl cs xs ys
  | x, y => match eqP x y with
    | some true => true
    | _ => false
def eqOOs (cl : CallF) (cs : List Nat) : List D → List D → Bool
  | [], [] => true
  | x :: xs, y :: ys => eqOO cl cs x y && eqOOs cl cs xs ys
  | _, _ => false
end
mutual
/-- how deep lists stand in lists -/
def dpO : D → Nat
  | .lst xs => dpOs xs + 1
  | _ => 0
def dpOs : List D → Nat
  | [] => 0
  | x :: xs => max (dpO x) (dpOs xs)
end
/-- two lists whose items are equal by own ==s -/
def eqLL (cl : CallF) (cs : List Nat) : D → D → Bool
  | .lst xs, .lst ys => decide (dpOs xs ≤ 2) && eqOOs cl cs xs ys
  | _, _ => false
/-- a new object, made by __init__ -/
def makeO (cl : CallF) (c : Nat) (as : List Ar) (env : Env) : R U := match cl (spec c 0) (.io (.obj c [] []) :: as) with
  | .ok (.d .non) [o] => .ok (.nw o) env
  | .exc x _ => .exc x env
  | _ => .bad
def allFz : List Ar → Bool
  | [] => true | .fz _ :: as => allFz as | .io _ :: _ => false
/-- a list comprehension's turns -/
def lcD (body : D → Env → R (Option D)) : List D → Env → List D → R (List D)
  | [], env, acc => .ok acc env
  | d :: r, env, acc => match body d env with
    | .ok (some x) env1 => if acc.length < LIM then lcD body r env1 (acc ++ [x]) else .bad
    | .ok none env1 => lcD body r env1 acc
    | _ => .bad
def wipeE (env : Env) : List Nat → Env
  | [] => env
  | i :: vs => wipeE (env.set i .un) vs
def calmS : Sl → Bool
  | .un => true | .fz _ => true | _ => false
/-- the comprehension's own names are again what they were -/
def backE (env0 env : Env) : List Nat → Env
  | [] => env
  | i :: vs => backE env0 (env.set i (getS env0 i)) vs
mutual
def storeG : Tg → D → Env → Option Env
  | .nm i, d, env => some (env.set i (.fz d))
  | .tup ts, .tup ds, env => storeGs ts ds env
  | .tup _, _, _ => none
def storeGs : Tgs → List D → Env → Option Env
  | .nil, [], env => some env
  | .cons t ts, d :: ds, env => (storeG t d env).bind (storeGs ts ds)
  | _, _, _ => none
end
def itemsD : D → Option (List D)
  | .lst xs => some xs | .tup xs => some xs | .kst xs => some xs | _ => none
def listD : D → Option (List D)
  | .lst xs => some xs | .kst xs => some xs | _ => none
def enumD : Nat → List D → List D
  | _, [] => []
  | i, d :: r => .tup [.int i, d] :: enumD (i + 1) r
def zipD (x y : D) : Option (List D) := match x, y with
  | .tup xs, .tup ys => some ((xs.zip ys).map fun p => .tup [p.1, p.2])
  | x, y => match listD x, listD y with
    | some xs, some ys => some ((xs.zip ys).map fun p => .tup [p.1, p.2])
    | _, _ => none
def b40 (i : Int) : Bool := decide (-(2 ^ 40) ≤ i) && decide (i < 2 ^ 40)
/-- one turn -/
def lcTurn (vs : List Nat) (tg : Tg) (hc : Bool) (tst : Env → R U) (elt : Env → R U) (d : D) (env : Env) : R (Option D) := orBad (storeG tg d (wipeE env vs)) fun env1 => match hc with
  | true => (tst env1).bind fun u env2 => orBad (rdU env2 u) fun x => orBad (truD x) fun t => match t with
    | true => (elt env2).bind fun u env3 => orBad (fzU env3 u) fun p => .ok (some p.1) p.2
    | false => .ok none env2
  | false => (elt env1).bind fun u env3 => orBad (fzU env3 u) fun p => .ok (some p.1) p.2
def lcAll (vs : List Nat) (env : Env) (r : R (List D)) : R U := if !(vs.all fun i => calmS (getS env i)) then .bad else match r with
  | .ok ds env1 => .ok (.nw (.lst ds)) (backE env env1 vs)
  | _ => .bad
def popD (xs : List D) (i : Int) : Option (D × List D) := if xs.length ≤ LIM then (ixN xs.length i).bind fun j => xs[j]?.map fun d => (d, xs.eraseIdx j) else none
/-- whose method it is -/
def recvB : B → D → Bool
  | .index, .lst _ => true | .index, .kst _ => true
  | .split, .str _ => true | .join, .str _ => true
  | _, _ => false
/-- a part of an f-string -/
def fmtD : D → Option Str
  | .str z => if z.length ≤ LIM then some z else none
  | .int i => if i.natAbs.log2 < 1920 then some (toString i) else none
  | _ => none
/-- slots are taken for good -/
def frzAll : List Nat → Env → Option Env
  | [], env => some env
  | i :: is, env => (fzU env (.sl i)).bind fun p => frzAll is p.2
/-- what is frozen alone -/
def maskS : Sl → Sl
  | .fz d => .fz d | _ => .un
def maskE (env : Env) : Env := env.map maskS
/-- the def that asks a lambda, told what comes of it -/
def hearC (cl : CallF) (f : Nat) (o : D) (env : Env) : R U := match cl f [.fz o] with
  | .ok r _ => .ok r env
  | .exc x _ => .exc x env
  | .bad => .bad
mutual
/-- no list, dict or object within -/
def noLst : D → Bool
  | .non => true | .bl _ => true | .int _ => true | .str _ => true | .tup xs => noLsts xs | _ => false
def noLsts : List D → Bool
  | [] => true | d :: r => noLst d && noLsts r
end
/-- the names are again what they were -/
def keepC (env : Env) : R U → R U
  | .ok (.d d) _ => if noLst d then .ok (.d d) env else .bad
  | _ => .bad
/-- all that is owned, frozen -/
def frzS : Sl → Sl
  | .ow d => .fz d | s => s
def frzE (env : Env) : Env := env.map frzS
/-- .. they own what they owned -/
def keepV (env : Env) : R U → R U
  | .ok (.nw (.lst ds)) _ => if noLsts ds then .ok (.nw (.lst ds)) env else .bad
  | .ok (.nw d) _ => if noLst d then .ok (.nw d) env else .bad
  | .ok (.d d) _ => if noLst d then .ok (.d d) env else .bad
  | _ => .bad
def askCl (o : D) (cl : CallF) : CallF := fun g as => if g = 999 then match as, o with
    | [], .tup [.non, d] => .ok (.d d) []
    | [], .err c ks vs => .exc (c, ks, vs) []
    | _, _ => .bad
  else cl g as
def askR (r : RC) (env : Env) : R U := match r with
  | .ok (.d d) _ => .ok (.d d) env
  | .exc x _ => .exc x env
  | _ => .bad
def putKD (ks : List Key) (vs : List D) (k : Key) (d : D) : D := .dK ((putKP (ks.zip vs) k d).map (·.1)) ((putKP (ks.zip vs) k d).map (·.2))
def dkS (s : Sl) : Option (List Key × List D) := match rdS s with
  | some (.dK ks vs) => some (ks, vs) | _ => none
def isDk : Sl → Bool
  | .ow (.dK _ _) => true | .io (.dK _ _) => true | _ => false
/-- an own dict -/
def dkW : Sl → Option (List Key × List D)
  | .ow (.dK ks vs) => some (ks, vs) | _ => none
def keyD : Key → D
  | .inl n => .int n | .inr z => .str z
def keyI : D → Option Key
  | .int n => some (.inl n) | _ => none
def isDtS : Sl → Bool
  | .ow (.dT _ _) => true | .io (.dT _ _) => true | _ => false
def dtS : Sl → Option (List (List Int) × List D)
  | .ow (.dT ks vs) => some (ks, vs) | .io (.dT ks vs) => some (ks, vs) | _ => none
/-- an owned list -/
def isLs : Sl → Bool
  | .ow (.lst _) => true | .io (.lst _) => true | _ => false
mutual
def ev (cl : CallF) : Ex → Env → R U
  | .var i, env => match getS env i with
    | .un => .bad
    | .fz d => .ok (.d d) env
    | _ => .ok (.sl i) env
  | .cst d, env => .ok (.d d) env
  | .op2 o a b, env => (ev cl a env).bind fun u env1 => (ev cl b env1).bind fun w env2 =>
      orBad (rdU env2 (pend u)) fun x => orBad (rdU env2 w) fun y => orBad (op2 o x y) fun z => .ok (.nw z) env2
  | .op1 o a, env => (ev cl a env).bind fun u env1 => orBad (rdU env1 u) fun x => orBad (op1 o x) fun z => .ok (.nw z) env1
  | .chain3 o p r a b c d, env => (ev cl a env).bind fun u env1 => (ev cl b env1).bind fun w env2 =>
      orBad (rdU env2 (pend u)) fun x => orBad (rdU env2 (pend w)) fun y => orBad (op2 o x y) fun z => match z with
        | .bl true => (ev cl c env2).bind fun q env3 => orBad (rdU env3 (pend w)) fun y' => orBad (rdU env3 (pend q)) fun x2 => orBad (op2 p y' x2) fun z2 => match z2 with
          | .bl true => (ev cl d env3).bind fun q2 env4 => orBad (rdU env4 (pend q)) fun y2 => orBad (rdU env4 q2) fun x3 => orBad (op2 r y2 x3) fun z3 => .ok (.nw z3) env4
          | .bl false => .ok (.nw (.bl false)) env3
          | _ => .bad
        | .bl false => .ok (.nw (.bl false)) env2
        | _ => .bad
  | .chain o p a b c, env => (ev cl a env).bind fun u env1 => (ev cl b env1).bind fun w env2 =>
      orBad (rdU env2 (pend u)) fun x => orBad (rdU env2 (pend w)) fun y => orBad (op2 o x y) fun z => match z with
        | .bl true => (ev cl c env2).bind fun q env3 => orBad (rdU env3 (pend w)) fun y' => orBad (rdU env3 q) fun r => orBad (op2 p y' r) fun z' => .ok (.nw z') env3
        | .bl false => .ok (.nw (.bl false)) env2
        | _ => .bad
  | .and a b, env => (ev cl a env).bind fun u env1 => orBad (rdU env1 u) fun x => orBad (truD x) fun t => match t with
        | true => ev cl b env1
        | false => .ok (pend u) env1
  | .or a b, env => (ev cl a env).bind fun u env1 => orBad (rdU env1 u) fun x => orBad (truD x) fun t => match t with
        | true => .ok (pend u) env1
        | false => ev cl b env1
  | .not a, env => (ev cl a env).bind fun u env1 => orBad (rdU env1 u) fun x => orBad (truD x) fun t => .ok (.nw (.bl (!t))) env1
  | .ife c a b, env => (ev cl c env).bind fun u env1 => orBad (rdU env1 u) fun x => orBad (truD x) fun t => match t with
        | true => ev cl a env1
        | false => ev cl b env1
  | .tup es, env => (evF cl es env).bind fun ds env1 => if ds.length ≤ LIM then .ok (.nw (.tup ds)) env1 else .bad
  | .lst es, env => (evF cl es env).bind fun ds env1 => if ds.length ≤ LIM then .ok (.nw (.lst ds)) env1 else .bad
  | .dic, env => .ok (.nw (.dK [] [])) env
  | .call f ms es, env => (evC cl ms es env).bind fun us env1 => orBad (argsOf env1 ms us) fun as =>
      if dupFree (ioSlots us) then match cl f as with
        | .ok r outs => .ok r (putIO env1 (ioSlots us) outs)
        | .exc x outs => .exc x (putIO env1 (ioSlots us) outs)
        | .bad => .bad
      else .bad
  | .callP f ms pm es, env => (evC cl (ms.map fun _ => false) es env).bind fun us env1 => orBad (argsOf env1 ms (permL pm us)) fun as =>
      if dupFree (ioSlots (permL pm us)) && decide (us.length = ms.length) then match cl f as with
        | .ok r outs => .ok r (putIO env1 (ioSlots (permL pm us)) outs)
        | .exc x outs => .exc x (putIO env1 (ioSlots (permL pm us)) outs)
        | .bad => .bad
      else .bad
  | .bi b es, env => (evR cl es env).bind fun us env1 => orBad (rdAll env1 us) fun ds => orBad (biD b ds) fun z => .ok (.nw z) env1
  | .ix a i, env => (ev cl a env).bind fun u env1 => (ev cl i env1).bind fun w env2 =>
      orBad (rdU env2 (pend u)) fun x => orBad (rdU env2 w) fun y => orBad (ixD x y) fun z => .ok (.d z) env2
  | .slice a bl bh lo hi, env => (ev cl a env).bind fun u env1 => (optP bl (ev cl lo) env1).bind fun l env2 => (optP bh (ev cl hi) env2).bind fun h env3 => orBad (rdU env3 (pend u)) fun x => match x with
        | .lst xs => .ok (.nw (.lst (cutD xs l h))) env3
        | .kst xs => .ok (.nw (.lst (cutD xs l h))) env3
        | .tup xs => if HT.sIx xs.length 0 l = 0 ∧ HT.sIx xs.length xs.length h = xs.length then .bad else .ok (.nw (.tup (cutD xs l h))) env3
        | .str z => if z.length ≤ LIM then .ok (.nw (.str (cutS z l h))) env3 else .bad
        | _ => .bad
  | .fld a k, env => (ev cl a env).bind fun u env1 => orBad (rdU env1 u) fun x => orBad (fldOf x k) fun z => .ok (.d z) env1
  | .opo o cs ts a b, env => (ev cl a env).bind fun u env1 => orBad (fzU env1 u) fun p => (ev cl b p.2).bind fun w env2 => orBad (fzU env2 w) fun q => ownOp cl o cs ts p.1 q.1 q.2
  | .callD f ms es ds, env => (evC cl ms es env).bind fun us env1 => runC cl f (ms ++ ds.map fun _ => false) (us ++ ds.map .d) env1
  | .mk c ms es ds, env => (evC cl ms es env).bind fun us env1 => orBad (argsOf env1 (ms ++ ds.map fun _ => false) (us ++ ds.map .d)) fun as => if allFz as then makeO cl c as env1 else .bad
  | .mth io a m cs ms es ds, env => (ev cl a env).bind fun u env1 => orBad (recvU io env1 u) fun p => if !cs.contains p.1 then .bad else (evC cl ms es p.2.2).bind fun us env2 =>
      runC cl (spec p.1 m) (io :: (ms ++ ds.map fun _ => false)) (p.2.1 :: (us ++ ds.map .d)) env2
  | .prp a m cs, env => (ev cl a env).bind fun u env1 => orBad (recvU false env1 u) fun p => if !cs.contains p.1 then .bad else orBad (rdU p.2.2 p.2.1) fun x => match cl (spec p.1 m) [.fz x] with
      | .ok r _ => .ok r p.2.2
      | _ => .bad
  | .ino neg cs a b, env => (ev cl a env).bind fun u env1 => orBad (fzU env1 u) fun p => (ev cl b p.2).bind fun w env2 => orBad (fzU env2 w) fun q => ownIn cl neg cs p.1 q.1 q.2
  | .neo cs a b, env => (ev cl a env).bind fun u env1 => orBad (fzU env1 u) fun p => (ev cl b p.2).bind fun w env2 => orBad (fzU env2 w) fun q => ownNe cl cs p.1 q.1 q.2
  | .lc vs tg it hc c e, env => (itD cl it env).bind fun ds env1 => lcAll vs env1 (lcD (lcTurn vs tg hc (ev cl c) (ev cl e)) ds env1 [])
  | .popI i e, env => if !isLs (getS env i) then .bad else (ev cl e env).bind fun u env1 => orBad (rdU env1 u) fun k => match getS env1 i, k with
      | .ow (.lst xs), .int n => orBad (popD xs n) fun p => .ok (.d p.1) (env1.set i (.ow (.lst p.2)))
      | .io (.lst xs), .int n => orBad (popD xs n) fun p => .ok (.d p.1) (env1.set i (.io (.lst p.2)))
      | _, _ => .bad
  | .bm b o e, env => (ev cl o env).bind fun u env1 => orBad (rdU env1 u) fun x0 => if !recvB b x0 then .bad else (ev cl e env1).bind fun w env2 => orBad (rdU env2 (pend u)) fun x => orBad (rdU env2 w) fun y => orBad (biD b [x, y]) fun z => .ok (.nw z) env2
  | .booO cs a, env => (ev cl a env).bind fun u env1 => orBad (recvU false env1 u) fun p => if !cs.contains p.1 then .bad else orBad (rdU p.2.2 p.2.1) fun x => match cl (spec p.1 24) [.fz x] with
      | .ok (.d (.bl b)) _ => .ok (.nw (.bl b)) p.2.2
      | _ => .bad
  | .lenO cs a, env => (ev cl a env).bind fun u env1 => orBad (recvU false env1 u) fun p => if !cs.contains p.1 then .bad else orBad (rdU p.2.2 p.2.1) fun x => match cl (spec p.1 19) [.fz x] with
      | .ok (.d (.int n)) _ => if decide (0 ≤ n) && decide (n < 2 ^ 40) then .ok (.nw (.int n)) p.2.2 else .bad
      | _ => .bad
  | .fstr es, env => (evJ cl es Str.empty env).bind fun z env1 => .ok (.nw (.str z)) env1
  | .strO cs a, env => (ev cl a env).bind fun u env1 => orBad (recvU false env1 u) fun p => if !cs.contains p.1 then .bad else orBad (rdU p.2.2 p.2.1) fun x => match cl (spec p.1 21) [.fz x] with
      | .ok (.d (.str z)) _ => .ok (.nw (.str z)) p.2.2
      | _ => .bad
  | .mkP c pm es, env => (evC cl (pm.map fun _ => false) es env).bind fun us env1 => orBad (argsOf env1 (pm.map fun _ => false) (permL pm us)) fun as => if allFz as && decide (us.length = pm.length) then makeO cl c as env1 else .bad
  | .mkEP c ks pm es, env => (evF cl es env).bind fun ds env1 => if (permL pm ds).length = ks.length ∧ ds.length = ks.length then .ok (.d (.err c ks (permL pm ds).reverse)) env1 else .bad
  | .mkE c ks es, env => (evF cl es env).bind fun ds env1 => if ds.length = ks.length then .ok (.d (.err c ks ds.reverse)) env1 else .bad
  | .heard f vs e, env => orBad (frzAll vs env) fun env1 => match ev cl e (maskE env1) with
      | .ok u env2 => orBad (fzU env2 u) fun p => hearC cl f (.tup [.non, p.1]) env1
      | .exc x _ => hearC cl f (.err x.1 x.2.1 x.2.2) env1
      | .bad => .bad
  | .ixK i k, env => orBad (dkS (getS env i)) fun _ => (ev cl k env).bind fun w env1 => orBad (rdU env1 w) fun y => orBad (dkS (getS env1 i)) fun p => orBad (keyI y) fun n => orBad (getK p.1 p.2 n) fun d => .ok (.d d) env1
  | .dgt i k x, env => orBad (dkS (getS env i)) fun _ => (ev cl k env).bind fun w env1 => (ev cl x env1).bind fun z env2 => orBad (fzU env2 z) fun q => orBad (rdU q.2 (pend w)) fun y => orBad (dkS (getS q.2 i)) fun p => orBad (keyI y) fun n =>
    .ok (.d ((getK p.1 p.2 n).getD q.1)) q.2
  | .heardK f vs e, env => orBad (frzAll vs env) fun env1 => match ev cl e (maskE env1) with
      | .ok u env2 => orBad (fzU env2 u) fun p => keepC env (hearC cl f (.tup [.non, p.1]) env1)
      | .exc x _ => keepC env (hearC cl f (.err x.1 x.2.1 x.2.2) env1)
      | .bad => .bad
  | .ask i, env => match getS env i with
      | .fn => askR (cl 999 []) env
      | _ => .bad
  | .getO cs a b, env => (ev cl a env).bind fun u env1 => orBad (fzU env1 u) fun p => (ev cl b p.2).bind fun w env2 => orBad (fzU env2 w) fun q => ownGet cl cs p.1 q.1 q.2
  | .calO cs n a es, env => (ev cl a env).bind fun u env1 => orBad (fzU env1 u) fun p => if !isObD p.1 then .bad else (evF cl es p.2).bind fun ds env2 => if ds.length = n then ownCal cl cs p.1 ds env2 else .bad
  | .cmt c m n es, env => (evF cl es env).bind fun ds env1 => if ds.length = n then (match cl (spec c m) ((.cls c :: ds).map .fz) with
      | .ok r _ => .ok r env1
      | .exc x _ => .exc x env1
      | .bad => .bad) else .bad
  | .mkL i c n es, env => if !isClsN c (getS env i) then .bad else (evF cl es env).bind fun ds env1 => if ds.length = n then makeO cl c (ds.map .fz) env1 else .bad
  | .mkLS i c es, env => if !isClsN c (getS env i) then .bad else (evF cl es env).bind fun ds env1 => makeO cl c (ds.map .fz) env1
  | .callS f es, env => (evF cl es env).bind fun ds env1 => match cl f (ds.map .fz) with
      | .ok r _ => .ok r env1
      | .exc x _ => .exc x env1
      | .bad => .bad
  | .mkS c es, env => (evF cl es env).bind fun ds env1 => makeO cl c (ds.map .fz) env1
  | .neL cs a b, env => (ev cl a env).bind fun u env1 => orBad (fzU env1 u) fun p => (ev cl b p.2).bind fun w env2 => orBad (fzU env2 w) fun q => if eqLL cl cs p.1 q.1 then .ok (.nw (.bl false)) q.2 else .bad
  | .mkF c n es, env => (evF cl es env).bind fun ds env1 => if ds.length = n then makeO cl c (ds.map .fz) env1 else .bad
  | .callF f n es, env => (evF cl es env).bind fun ds env1 => if ds.length = n then (match cl f (ds.map .fz) with
      | .ok r _ => .ok r env1
      | .exc x _ => .exc x env1
      | .bad => .bad) else .bad
  | .keep a, env => if (frzE env).all calmS then keepV env (ev cl a (frzE env)) else .bad
  | .opu m cs a, env => (ev cl a env).bind fun u env1 => orBad (fzU env1 u) fun p => ownUn cl m cs p.1 p.2
  | .dicT, env => .ok (.nw (.dT [] [])) env
  | .dis1 i j m n, env => .ok (.nw (.dT [[i, j]] [.tup [.int m, .int n]])) env
  | .dgtT a k x, env => (ev cl a env).bind fun u env0 => orBad (fzU env0 u) fun t => if !isDT t.1 then .bad else (ev cl k t.2).bind fun w env1 => orBad (fzU env1 w) fun y => (ev cl x y.2).bind fun z env2 => orBad (fzU env2 z) fun q => match t.1 with
      | .dT ks vs => orBad (keyTI y.1) fun n => .ok (.d ((getDT ks vs n).getD q.1)) q.2
      | _ => .bad
  | .isObj cs a, env => (ev cl a env).bind fun u env1 => orBad (rdU env1 u) fun x => if isClsD x then .bad else .ok (.nw (.bl (isObjOf cs x))) env1
/-- all taken for good -/
def evF (cl : CallF) : Exs → Env → R (List D)
  | .nil, env => .ok [] env
  | .cons e es, env => (ev cl e env).bind fun u env1 => orBad (fzU env1 u) fun p => (evF cl es p.2).bind fun ds env2 => .ok (p.1 :: ds) env2
  | .star e es, env => (ev cl e env).bind fun u env1 => orBad (fzU env1 u) fun p => orBad (itemsD p.1) fun xs => (evF cl es p.2).bind fun ds env2 => .ok (xs ++ ds) env2
/-- all read -/
def evR (cl : CallF) : Exs → Env → R (List U)
  | .nil, env => .ok [] env
  | .cons e es, env => (ev cl e env).bind fun u env1 => (evR cl es env1).bind fun us env2 => .ok (pend u :: us) env2
  | .star _ _, _ => .bad
/-- the parts of an f-string -/
def evJ (cl : CallF) : Exs → Str → Env → R Str
  | .nil, acc, env => .ok acc env
  | .cons e es, acc, env => (ev cl e env).bind fun u env1 => orBad (rdU env1 u) fun d => orBad (fmtD d) fun y => if (acc ++ y).length ≤ LIM then evJ cl es (acc ++ y) env1 else .bad
  | .star _ _, _, _ => .bad
/-- a call's: taken for good, or handed in to be changed -/
def evC (cl : CallF) : List Bool → Exs → Env → R (List U)
  | _, .nil, env => .ok [] env
  | m :: ms, .cons e es, env => (ev cl e env).bind fun u env1 => match m with
      | true => match u with
        | .sl i => (evC cl ms es env1).bind fun us env2 => .ok (.sl i :: us) env2
        | _ => .bad
      | false => orBad (fzU env1 u) fun p => (evC cl ms es p.2).bind fun us env2 => .ok (.d p.1 :: us) env2
  | ms, .star e es, env => (ev cl e env).bind fun u env1 => orBad (fzU env1 u) fun p => orBad (itemsD p.1) fun xs => (evC cl ms es p.2).bind fun us env2 => .ok (xs.map .d ++ us) env2
  | [], .cons _ _, _ => .bad
/-- what is walked -/
def itD (cl : CallF) : It → Env → R (List D)
  | .seq e, env => (ev cl e env).bind fun u env1 => orBad (fzU env1 u) fun p => orBad (itemsD p.1) fun xs => .ok xs p.2
  | .rng lo hi, env => (ev cl lo env).bind fun u env1 => (ev cl hi env1).bind fun w env2 => orBad (rdU env2 (pend u)) fun x => orBad (rdU env2 w) fun y => match x, y with
      | .int m, .int n => if b40 m && b40 n then .ok ((List.range (n - m).toNat).map fun (k : Nat) => .int (m + k)) env2 else .bad
      | _, _ => .bad
  | .down lo hi, env => (ev cl lo env).bind fun u env1 => (ev cl hi env1).bind fun w env2 => orBad (rdU env2 (pend u)) fun x => orBad (rdU env2 w) fun y => match x, y with
      | .int m, .int n => if b40 m && b40 n then .ok ((List.range (m - n).toNat).map fun (k : Nat) => .int (m - k)) env2 else .bad
      | _, _ => .bad
  | .enum e, env => (ev cl e env).bind fun u env1 => orBad (fzU env1 u) fun p => orBad (itemsD p.1) fun xs => .ok (enumD 0 xs) p.2
  | .zip a b, env => (ev cl a env).bind fun u env1 => orBad (fzU env1 u) fun p => (ev cl b p.2).bind fun w env2 => orBad (fzU env2 w) fun q => orBad (zipD p.1 q.1) fun xs => .ok xs q.2
  | .str e, env => (ev cl e env).bind fun u env1 => orBad (rdU env1 u) fun x => match x with
      | .str z => .ok (z.cps.toList.map fun c => .str ⟨#[c]⟩) env1
      | _ => .bad
  | .keysT e, env => (ev cl e env).bind fun u env1 => orBad (fzU env1 u) fun p => match p.1 with
      | .dT ks _ => .ok (ks.map keyTD) p.2
      | _ => .bad
  | .keys i, env => orBad (dkW (getS env i)) fun p => .ok (p.1.map keyD) (env.set i (.fz (.dK p.1 p.2)))
  | .own cs j e, env => (ev cl e env).bind fun u env1 => orBad (recvU false env1 u) fun p => if !cs.contains p.1 then .bad else orBad (rdU p.2.2 p.2.1) fun x => orBad (fldOf x j) fun d => orBad (itemsD d) fun xs => .ok xs p.2.2
end
inductive Fl where
  | next | brk | cont | ret (u : U)
/-- what is stored at a name: an owned thing, or a frozen one -/
def slOf : U → D → Sl
  | .nw _, .lst ds => .ow (.lst ds)
  | .nw _, .dK ks vs => .ow (.dK ks vs)
  | .nw _, .dT ks vs => .ow (.dT ks vs)
  | .nw _, .obj c ks vs => .ow (.obj c ks vs)
  | _, d => .fz d
def isIO : Sl → Bool
  | .io _ => true | _ => false
/-- name = value -/
def asgU (env : Env) (i : Nat) (u : U) : Option Env :=
  match u with
  | .nw d => some (env.set i (slOf (.nw d) d))
  | .d d => some (env.set i (.fz d))
  | .sl j => (fzU env (.sl j)).map fun p => p.2.set i (.fz p.1)
/-- several names -/
def slSE : SE → Sl
  | .c d => .fz d | .l ds => .ow (.lst ds) | .lt ds => .ow (.lst [.tup ds])
def setSE : List Nat → List SE → Env → Option Env
  | [], [], env => some env
  | i :: is, s :: ss, env => setSE is ss (env.set i (slSE s))
  | _, _, _ => none
def storeAll : List Nat → List D → Env → Option Env
  | [], [], env => some env
  | i :: is, d :: ds, env => storeAll is ds (env.set i (.fz d))
  | _, _, _ => none
def setD (xs : List D) (i : Int) (d : D) : Option (List D) := (ixN xs.length i).map fun j => xs.set j d
/-- the loop over items -/
def forD (body : Env → R Fl) (i : Nat) : List D → Env → R Fl
  | [], env => .ok .next env
  | d :: r, env => (body (env.set i (.fz d))).bind fun fl env1 => match fl with
      | .next => forD body i r env1
      | .cont => forD body i r env1
      | .brk => .ok .next env1
      | .ret u => .ok (.ret u) env1
/-- the loop over items, any target -/
def forG (body : Env → R Fl) (tg : Tg) : List D → Env → R Fl
  | [], env => .ok .next env
  | d :: r, env => orBad (storeG tg d env) fun env0 => (body env0).bind fun fl env1 => match fl with
      | .next => forG body tg r env1
      | .cont => forG body tg r env1
      | .brk => .ok .next env1
      | .ret u => .ok (.ret u) env1
def whD (test : Env → R Bool) (body : Env → R Fl) : Nat → Env → R Fl
  | 0, _ => .bad
  | n + 1, env => (test env).bind fun t env1 => match t with
      | false => .ok .next env1
      | true => (body env1).bind fun fl env2 => match fl with
        | .next => whD test body n env2
        | .cont => whD test body n env2
        | .brk => .ok .next env2
        | .ret u => .ok (.ret u) env2
def evT (cl : CallF) (e : Ex) (env : Env) : R Bool := (ev cl e env).bind fun u env1 => orBad (rdU env1 u) fun x => orBad (truD x) fun t => .ok t env1
def FUEL : Nat := 100000
def retU (env : Env) : U → Option (U × Env)
  | .d x => some (.d x, env) | .nw x => some (.nw x, env)
  | .sl i => match getS env i with
    | .ow x => some (.nw x, env.set i .un) | .fz x => some (.d x, env) | _ => none
mutual
def ex (cl : CallF) : S → Env → R Fl
  | .asg i e, env => (ev cl e env).bind fun u env1 => orBad (asgU env1 i u) fun env2 => .ok .next env2
  | .setK i x e, env => (ev cl e env).bind fun u env1 => orBad (fzU env1 u) fun q => if !isDk (getS q.2 i) then .bad else (ev cl x q.2).bind fun w env3 => orBad (rdU env3 w) fun y => if !isDk (getS env3 i) then .bad else
      orBad (dkS (getS env3 i)) fun p => orBad (keyI y) fun n => if p.1.length < LIM then .ok .next (env3.set i (setIO (getS env3 i) (putKD p.1 p.2 n q.1))) else .bad
  | .setT i x e, env => (ev cl e env).bind fun u env1 => orBad (fzU env1 u) fun q => if !isDtS (getS q.2 i) then .bad else (ev cl x q.2).bind fun w env3 => orBad (fzU env3 w) fun y => orBad (dtS (getS y.2 i)) fun p => orBad (keyTI y.1) fun n =>
      if p.1.length < LIM then .ok .next (y.2.set i (setIO (getS y.2 i) (mkDT (putPT (p.1.zip p.2) n q.1)))) else .bad
  | .setI i x e, env => (ev cl e env).bind fun u env1 => orBad (fzU env1 u) fun p => if !isLs (getS p.2 i) then .bad else (ev cl x p.2).bind fun w env2 =>
      orBad (rdU env2 w) fun k => match getS env2 i, k with
        | .ow (.lst xs), .int n => orBad (setD xs n p.1) fun ys => .ok .next (env2.set i (.ow (.lst ys)))
        | .io (.lst xs), .int n => orBad (setD xs n p.1) fun ys => .ok .next (env2.set i (.io (.lst ys)))
        | _, _ => .bad
  | .app i e, env => if !isLs (getS env i) then .bad else (ev cl e env).bind fun u env1 => orBad (fzU env1 u) fun p => match getS p.2 i with
        | .ow (.lst xs) => if xs.length < LIM then .ok .next (p.2.set i (.ow (.lst (xs ++ [p.1])))) else .bad
        | .io (.lst xs) => if xs.length < LIM then .ok .next (p.2.set i (.io (.lst (xs ++ [p.1])))) else .bad
        | _ => .bad
  | .ext i e, env => if !isLs (getS env i) then .bad else (ev cl e env).bind fun u env1 => orBad (fzU env1 u) fun p => match getS p.2 i, p.1 with
        | .ow (.lst xs), .lst ys => if xs.length + ys.length < LIM then .ok .next (p.2.set i (.ow (.lst (xs ++ ys)))) else .bad
        | .io (.lst xs), .lst ys => if xs.length + ys.length < LIM then .ok .next (p.2.set i (.io (.lst (xs ++ ys)))) else .bad
        | _, _ => .bad
  | .aug i o e, env => match getS env i with
        | .fz (.int n) => (ev cl e env).bind fun u env1 => orBad (rdU env1 u) fun y => match y with
          | .int m => match o with
            | .add => .ok .next (env1.set i (.fz (.int (n + m))))
            | .sub => .ok .next (env1.set i (.fz (.int (n - m))))
            | _ => .bad
          | _ => .bad
        | _ => .bad
  | .ex e, env => (ev cl e env).bind fun _ env1 => .ok .next env1
  | .iff c a b, env => (evT cl c env).bind fun t env1 => match t with
      | true => exs cl a env1
      | false => exs cl b env1
  | .forr i n b, env => (ev cl n env).bind fun u env1 => orBad (rdU env1 u) fun y => match y with
      | .int m => if decide (-(2 ^ 40) ≤ m) && decide (m < 2 ^ 40) then forD (exs cl b) i ((List.range m.toNat).map fun (k : Nat) => .int k) env1 else .bad
      | _ => .bad
  | .forl i l b, env => (ev cl l env).bind fun u env1 => orBad (fzU env1 u) fun p => match p.1 with
      | .lst xs => forD (exs cl b) i xs p.2
      | .tup xs => forD (exs cl b) i xs p.2
      | .kst xs => forD (exs cl b) i xs p.2
      | _ => .bad
  | .fort tg it b, env => (itD cl it env).bind fun ds env1 => forG (exs cl b) tg ds env1
  | .whil c b, env => whD (evT cl c) (exs cl b) FUEL env
  | .ret e, env => (ev cl e env).bind fun u env1 => orBad (retU env1 u) fun r => .ok (.ret r.1) r.2
  | .retN, env => .ok (.ret (.d .non)) env
  | .pass, env => .ok .next env
  | .never, _ => .bad
  | .par is es, env => (evF cl es env).bind fun ds env1 => orBad (storeAll is ds env1) fun env2 => .ok .next env2
  | .parK i j a b, env => (ev cl a env).bind fun u env1 => orBad (fzU env1 u) fun p => (ev cl b p.2).bind fun w env3 => orBad (asgU env3 j w) fun env4 => .ok .next (env4.set i (.fz p.1))
  | .parL i j a d, env => (ev cl a env).bind fun u env1 => orBad (asgU env1 i u) fun env2 => .ok .next (env2.set j (.fz d))
  | .parL3 i j k a d d2, env => (ev cl a env).bind fun u env1 => orBad (asgU env1 i u) fun env2 => .ok .next ((env2.set j (.fz d)).set k (.fz d2))
  | .parN i j a, env => (ev cl a env).bind fun u env1 => orBad (asgU env1 i u) fun env2 => orBad (asgU env2 j (.nw (.lst []))) fun env3 => .ok .next env3
  | .parS is ses, env => orBad (setSE is ses env) fun env2 => .ok .next env2
  | .unp is e, env => (ev cl e env).bind fun u env1 => orBad (rdU env1 u) fun d => match d with
      | .tup ds => orBad (storeAll is ds env1) fun env2 => .ok .next env2
      | .lst ds => orBad (storeAll is ds env1) fun env2 => .ok .next env2
      | .kst ds => orBad (storeAll is ds env1) fun env2 => .ok .next env2
      | _ => .bad
  | .setF i cs k e, env => (ev cl e env).bind fun u env1 => orBad (fzU env1 u) fun p => match getS p.2 i with
      | .ow (.obj c ks vs) => if (decide (ks.length < 100) && decide (vs.length = ks.length) && cs.contains c) = true then .ok .next (p.2.set i (.ow (.obj c (putD ks vs k p.1).1 (putD ks vs k p.1).2))) else .bad
      | .io (.obj c ks vs) => if (decide (ks.length < 100) && decide (vs.length = ks.length) && cs.contains c) = true then .ok .next (p.2.set i (.io (.obj c (putD ks vs k p.1).1 (putD ks vs k p.1).2))) else .bad
      | _ => .bad
  | .brk, env => .ok .brk env
  | .cont, env => .ok .cont env
  | .raise c ks es, env => (evF cl es env).bind fun ds env1 => if ds.length = ks.length then .exc (c, ks, ds.reverse) env1 else .bad
  | .tryC b cs i j, env => match exs cl b env with
      | .exc x env1 => if cs.contains x.1 then .ok .next (((env1.set i .un).set j (.fz (.err x.1 x.2.1 x.2.2))).set i .un) else .bad
      | r => r
def exs (cl : CallF) : Ss → Env → R Fl
  | .nil, env => .ok .next env
  | .cons s r, env => (ex cl s env).bind fun fl env1 => match fl with
      | .next => exs cl r env1
      | f => .ok f env1
end
/-- a def: how many names, its body -/
structure Fn where
  n : Nat
  body : Ss
  star : Option Nat := none
  lam : Bool := false
/-- what is left over is a tuple -/
def restD : List Ar → Option (List D)
  | [] => some []
  | .fz d :: r => (restD r).map (d :: ·)
  | .io _ :: _ => none
def packA : Nat → List Ar → Option (List Ar)
  | 0, as => (restD as).bind fun ds => if ds.length ≤ LIM then some [.fz (.tup ds)] else none
  | n + 1, a :: as => (packA n as).map (a :: ·)
  | _ + 1, [] => none
def startE : Nat → List Ar → Env
  | n + 1, .fz d :: as => .fz d :: startE n as
  | n + 1, .io d :: as => .io d :: startE n as
  | n + 1, [] => .un :: startE n []
  | 0, _ => []
/-- what stands in the slots that were handed in -/
def outsOf : List Ar → Env → Option (List D)
  | [], _ => some []
  | .fz _ :: as, env => outsOf as env.tail
  | .io _ :: as, env => match env.head? with
    | some (.io d) => (outsOf as env.tail).map (d :: ·)
    | _ => none
/-- a result that can't be owned is a plain one -/
def isMutD : D → Bool
  | .lst _ => true | .dK _ _ => true | .dT _ _ => true | .obj _ _ _ => true | _ => false
def nrm (x : D) : U := if isMutD x = true then .nw x else .d x
def finO : Option (List D) → Fl → RC
  | some outs, .next => .ok (.d .non) outs
  | some outs, .ret (.d x) => .ok (.d x) outs
  | some outs, .ret (.nw x) => .ok (nrm x) outs
  | _, _ => .bad
def finX : Option (List D) → Exn → RC
  | some outs, x => .exc x outs
  | none, _ => .bad
def finR (as : List Ar) : R Fl → RC
  | .ok fl env => finO (outsOf as env) fl
  | .exc x env => finX (outsOf as env) x
  | .bad => .bad
def runF (cl : CallF) (F : Fn) (as : List Ar) : RC := finR as (exs cl F.body (startE F.n as))
/-- what the def that asks begins with -/
def lamE (n : Nat) : Env := (startE n []).set 0 .fn
/-- calls, to a depth -/
def calls (fs : Nat → Option Fn) : Nat → CallF
  | 0, _, _ => .bad
  | k + 1, f, as => match fs f with
    | some F => match F.lam with
      | false => match F.star with
        | none => runF (calls fs k) F as
        | some n => match packA n as with
          | some bs => runF (calls fs k) F bs
          | none => .bad
      | true => match as with
        | [.fz o] => finR [] (exs (askCl o (calls fs k)) F.body (lamE F.n))
        | _ => .bad
    | none => .bad
end PP
end
section
set_option maxHeartbeats 1000000
namespace PP
open PySem L2
structure Tbl where
  K : PySem.W.Frag
  cn : Nat → Option Addr
  fn : Nat → Str
  fo : Nat → Nat → Bool
  tt : List (Addr × Str)
  ec : Nat → Bool
/-- the class, where it has such fields -/
def Tbl.ck (T : Tbl) (c : Nat) (ks : List Nat) : Option Addr := if (!T.ec c && ks.all (T.fo c)) = true then T.cn c else none
/-- .. an exception's -/
def Tbl.cx (T : Tbl) (c : Nat) (ks : List Nat) : Option Addr := if (T.ec c && ks.all (T.fo c)) = true then T.cn c else none
abbrev Ext (H H' : Hp) : Prop := ∀ a o, H a = some o → H' a = some o
theorem Ext.rfl' (H : Hp) : Ext H H := fun _ _ h => h
theorem Ext.tr {H H1 H2 : Hp} (a : Ext H H1) (b : Ext H1 H2) : Ext H H2 := fun x o h => b x o (a x o h)
theorem ext_upd {H : Hp} {p : Addr} {o : HO} (h : H p = none) : Ext H (upd H p o) := fun a u e => by
  rw [upd_ne (ne_of_none e h)]; exact e
theorem Ext.sqL {K : PySem.W.Frag} {H H' : Hp} {a : Addr} {xs : List V} (e : Ext H H') (h : SqL K H a xs) : SqL K H' a xs := by
  rcases h with (h | ⟨o, h⟩) | h
  · exact .inl (.inl (e _ _ h))
  · exact .inl (.inr ⟨o, e _ _ h⟩)
  · exact .inr h
theorem Ext.rd {H H' : Hp} {a : Addr} {o : HO} (e : Ext H H') (h : Rd H a o) : Rd H' a o := by
  rcases h with h | ⟨u, h⟩
  · exact .inl (e _ _ h)
  · exact .inr ⟨u, e _ _ h⟩
theorem Ext.sqT {K : PySem.W.Frag} {H H' : Hp} {a : Addr} {xs : List V} (e : Ext H H') (h : SqT K H a xs) : SqT K H' a xs := by
  rcases h with (h | ⟨o, h⟩) | h
  · exact .inl (.inl (e _ _ h))
  · exact .inl (.inr ⟨o, e _ _ h⟩)
  · exact .inr h
theorem Ext.kt3 {K : PySem.W.Frag} {H H' : Hp} {es : List T3} (e : Ext H H') (h : KT3 K H es) : KT3 K H' es := fun x hx => e.sqT (h x hx)
/-- kept, but for a table -/
def Kp (o : HO) (x : Option HO) : Prop := x = some o ∨ ∃ ps ps', o = .tbl ps ∧ x = some (.tbl ps')
theorem Kp.at {o : HO} {x : Option HO} (h : Kp o x) (n : ∀ ps, o ≠ .tbl ps) : x = some o := by
  rcases h with h | ⟨ps, _, h, _⟩
  · exact h
  · exact (n ps h).elim
theorem Kp.some {o : HO} {x : Option HO} (h : Kp o x) : ∃ u, x = .some u := by
  rcases h with h | ⟨_, _, _, h⟩ <;> exact ⟨_, h⟩
theorem Kp.tr {o u : HO} {x y : Option HO} (h : Kp o x) (e : x = .some u) (k : Kp u y) : Kp o y := by
  rcases h with h | ⟨ps, ps', h, h'⟩
  · rw [h] at e; cases e; exact k
  · rw [h'] at e; cases e
    rcases k with k | ⟨qs, qs', k, k'⟩
    · exact .inr ⟨ps, ps', h, k⟩
    · exact .inr ⟨ps, qs', h, k'⟩
def ExtW (H H' : Hp) : Prop := ∀ a o, H a = some o → Kp o (H' a)
theorem ExtW.of {H H' : Hp} (e : Ext H H') : ExtW H H' := fun a o h => .inl (e a o h)
theorem ExtW.tr {H H1 H2 : Hp} (a : ExtW H H1) (b : ExtW H1 H2) : ExtW H H2 := fun x o h => by
  obtain ⟨u, hu⟩ := (a x o h).some
  exact (a x o h).tr hu (b x u hu)
theorem ExtW.no {H H' : Hp} (e : ExtW H H') {a : Addr} (h : H' a = none) : H a = none := by
  cases q : H a with
  | none => rfl
  | some o => obtain ⟨u, hu⟩ := (e a o q).some; rw [h] at hu; cases hu
theorem Ext.tabs {T : List (Addr × Str)} {H H' : Hp} (e : Ext H H') (t : LamX.Tabs T H) : LamX.Tabs T H' := t.ext e
/-- an object that is no table and no code object changes -/
theorem tabs_upd {T : List (Addr × Str)} {H : Hp} {a : Addr} {o u : HO} (h : H a = some u) (n1 : ∀ ps, u ≠ .tbl ps) (n2 : ∀ c q, u ≠ LamX.CodeO c q) (t : LamX.Tabs T H) : LamX.Tabs T (upd H a o) := fun p hp => by
  obtain ⟨ps, h1, h2, h3⟩ := t p hp
  refine ⟨ps, ?_, h2, fun pos cv hc => ?_⟩
  · rw [upd_ne (fun z => by rw [z, h] at h1; exact n1 ps (Option.some.inj h1))]; exact h1
  · obtain ⟨c, e1, e2⟩ := h3 pos cv hc
    refine ⟨c, e1, ?_⟩
    rw [upd_ne (fun z => by rw [z, h] at e2; exact n2 _ _ (Option.some.inj e2))]; exact e2
/-- an exception that is at hand -/
def ErrO (C : Addr) (d : Option Addr) (a : Addr) : HO := .ext fun h => ∃ (oe : Obj) (vs : Array Value), h.get? a = some oe ∧ Zc (.ref C) d oe ∧ oe.data = .fields vs
theorem Ext.no {H H' : Hp} (e : Ext H H') {a : Addr} (h : H' a = none) : H a = none := by
  cases q : H a with
  | none => rfl
  | some o => rw [e a o q] at h; cases h
mutual
/-- the value v stands for the data, in the heap H -/
def Rep (T : Tbl) (H : Hp) : D → V → Prop
  | .non, v => v = .non
  | .bl b, v => v = .bl b
  | .int i, v => v = .int i
  | .str s, v => v = .str s
  | .lst ds, v => ∃ a xs, v = .ref a ∧ Rd H a (.lst xs) ∧ RepAll T H ds xs
  | .tup ds, v => ∃ a xs, v = .ref a ∧ SqT T.K H a xs ∧ RepAll T H ds xs
  | .kst ds, v => ∃ a xs, v = .ref a ∧ SqL T.K H a xs ∧ RepAll T H ds xs
  | .dK ks vs, v => ∃ a xs, v = .ref a ∧ Rd H a (.dK (ks.zip xs)) ∧ xs.length = ks.length ∧ RepAll T H vs xs
  | .dT ks vs, v => ∃ a od es, v = .ref a ∧ Rd H a (dtO a od) ∧ ObjDt a od es ∧ es.map (·.1) = ks ∧ KT3 T.K H es ∧ RepAll T H vs (es.map (·.2.2))
  | .obj c ks vs, v => ∃ a C dx xs, v = .ref a ∧ T.ck c ks = some C ∧ H a = some (.ins C dx ((ks.map T.fn).zip xs)) ∧ xs.length = ks.length ∧ RepAll T H vs xs
  | .cls c, v => ∃ C, T.cn c = some C ∧ v = .ref C
  | .err c ks vs, v => ∃ a C d, v = .ref a ∧ T.cx c ks = some C ∧ H a = some (ErrO C d a) ∧ ((ks = [] ∧ d = none) ∨ ∃ dd xs, d = some dd ∧ H dd = some (.xd ((ks.map T.fn).zip xs)) ∧ xs.length = ks.length ∧ RepAll T H vs xs)
def RepAll (T : Tbl) (H : Hp) : List D → List V → Prop
  | [], vs => vs = []
  | d :: ds, vs => ∃ v r, vs = v :: r ∧ Rep T H d v ∧ RepAll T H ds r
end
/-- an owned thing: its own object isn't frozen, its parts are -/
def RepO (T : Tbl) (H0 H : Hp) : D → V → Prop
  | .lst ds, v => ∃ a xs, v = .ref a ∧ H0 a = none ∧ H a = some (.lst xs) ∧ RepAll T H0 ds xs
  | .dK ks vs, v => ∃ a xs, v = .ref a ∧ H0 a = none ∧ H a = some (.dK (ks.zip xs)) ∧ xs.length = ks.length ∧ RepAll T H0 vs xs
  | .dT ks vs, v => ∃ a od es, v = .ref a ∧ H0 a = none ∧ H a = some (dtO a od) ∧ ObjDt a od es ∧ es.map (·.1) = ks ∧ KT3 T.K H0 es ∧ RepAll T H0 vs (es.map (·.2.2))
  | .obj c ks vs, v => ∃ a C dx xs, v = .ref a ∧ H0 a = none ∧ T.ck c ks = some C ∧ H a = some (.ins C dx ((ks.map T.fn).zip xs)) ∧ xs.length = ks.length ∧ RepAll T H0 vs xs
  | _, _ => False
/-- a value to be read: frozen, or owned -/
def RdV (T : Tbl) (H0 H : Hp) (d : D) (v : V) : Prop := Rep T H0 d v ∨ RepO T H0 H d v
/-- what an operation gives: a new thing (not of H), or a frozen one -/
def RepG (T : Tbl) (H0' H' H : Hp) (d : D) (v : V) : Prop := if isMutD d = true then ∃ a, v = .ref a ∧ H a = none ∧ RepO T H0' H' d v else Rep T H0' d v
mutual
theorem Rep.mono {T : Tbl} {H H' : Hp} (e : Ext H H') : ∀ (d : D) (v : V), Rep T H d v → Rep T H' d v
  | .non, _, h => by simpa only [Rep] using h
  | .bl _, _, h => by simpa only [Rep] using h
  | .int _, _, h => by simpa only [Rep] using h
  | .str _, _, h => by simpa only [Rep] using h
  | .lst ds, _, h => by
    simp only [Rep] at h ⊢
    obtain ⟨a, xs, h1, h2, h3⟩ := h
    exact ⟨a, xs, h1, e.rd h2, RepAll.mono e _ _ h3⟩
  | .tup ds, _, h => by
    simp only [Rep] at h ⊢
    obtain ⟨a, xs, h1, h2, h3⟩ := h
    exact ⟨a, xs, h1, e.sqT h2, RepAll.mono e _ _ h3⟩
  | .kst ds, _, h => by
    simp only [Rep] at h ⊢
    obtain ⟨a, xs, h1, h2, h3⟩ := h
    exact ⟨a, xs, h1, e.sqL h2, RepAll.mono e _ _ h3⟩
  | .dK ks vs, _, h => by
    simp only [Rep] at h ⊢
    obtain ⟨a, xs, h1, h2, hl, h3⟩ := h
    exact ⟨a, xs, h1, e.rd h2, hl, RepAll.mono e _ _ h3⟩
  | .dT ks vs, _, h => by
    simp only [Rep] at h ⊢
    obtain ⟨a, od, es, h1, h2, ho, hk, ht, h3⟩ := h
    exact ⟨a, od, es, h1, e.rd h2, ho, hk, e.kt3 ht, RepAll.mono e _ _ h3⟩
  | .obj c ks vs, _, h => by
    simp only [Rep] at h ⊢
    obtain ⟨a, C, dx, xs, h1, hc, h2, hl, h3⟩ := h
    exact ⟨a, C, dx, xs, h1, hc, e _ _ h2, hl, RepAll.mono e _ _ h3⟩
  | .cls _, _, h => by simpa only [Rep] using h
  | .err c ks vs, _, h => by
    simp only [Rep] at h ⊢
    obtain ⟨a, C, d, h1, hc, h2, h3⟩ := h
    refine ⟨a, C, d, h1, hc, e _ _ h2, ?_⟩
    rcases h3 with h3 | ⟨dd, xs, e1, e2, e3, e4⟩
    · exact .inl h3
    · exact .inr ⟨dd, xs, e1, e _ _ e2, e3, RepAll.mono e _ _ e4⟩
theorem RepAll.mono {T : Tbl} {H H' : Hp} (e : Ext H H') : ∀ (ds : List D) (vs : List V), RepAll T H ds vs → RepAll T H' ds vs
  | [], _, h => by simpa only [RepAll] using h
  | d :: ds, _, h => by
    simp only [RepAll] at h ⊢
    obtain ⟨v, r, h1, h2, h3⟩ := h
    exact ⟨v, r, h1, Rep.mono e _ _ h2, RepAll.mono e _ _ h3⟩
end
theorem RepAll.len {T : Tbl} {H : Hp} : ∀ {ds : List D} {vs : List V}, RepAll T H ds vs → vs.length = ds.length
  | [], _, h => by simp only [RepAll] at h; subst h; rfl
  | d :: ds, _, h => by
    simp only [RepAll] at h
    obtain ⟨v, r, rfl, _, h3⟩ := h
    simp [RepAll.len h3]
theorem RepAll.app {T : Tbl} {H : Hp} : ∀ {ds es : List D} {vs us : List V}, RepAll T H ds vs → RepAll T H es us → RepAll T H (ds ++ es) (vs ++ us)
  | [], _, _, _, h, h' => by simp only [RepAll] at h; subst h; simpa using h'
  | d :: ds, _, _, _, h, h' => by
    simp only [RepAll] at h
    obtain ⟨v, r, rfl, h2, h3⟩ := h
    simp only [List.cons_append, RepAll]
    exact ⟨v, _, rfl, h2, RepAll.app h3 h'⟩
theorem RepAll.get {T : Tbl} {H : Hp} : ∀ {ds : List D} {vs : List V} {i : Nat} {d : D}, RepAll T H ds vs → ds[i]? = some d → ∃ v, vs[i]? = some v ∧ Rep T H d v
  | [], _, _, _, h, e => by simp at e
  | d :: ds, _, 0, _, h, e => by
    simp only [RepAll] at h
    obtain ⟨v, r, rfl, h2, h3⟩ := h
    simp at e; subst e
    exact ⟨v, rfl, h2⟩
  | d :: ds, _, i + 1, _, h, e => by
    simp only [RepAll] at h
    obtain ⟨v, r, rfl, h2, h3⟩ := h
    simpa using RepAll.get h3 (by simpa using e)
theorem RepAll.set {T : Tbl} {H : Hp} {d : D} {v : V} (hd : Rep T H d v) : ∀ {ds : List D} {vs : List V} (i : Nat), RepAll T H ds vs → RepAll T H (ds.set i d) (vs.set i v)
  | [], _, _, h => by simp only [RepAll] at h; subst h; simp [RepAll]
  | e :: ds, _, 0, h => by
    simp only [RepAll] at h
    obtain ⟨u, r, rfl, h2, h3⟩ := h
    simp only [List.set_cons_zero, RepAll]
    exact ⟨v, r, rfl, hd, h3⟩
  | e :: ds, _, i + 1, h => by
    simp only [RepAll] at h
    obtain ⟨u, r, rfl, h2, h3⟩ := h
    simp only [List.set_cons_succ, RepAll]
    exact ⟨u, _, rfl, h2, RepAll.set hd i h3⟩
theorem RepAll.take {T : Tbl} {H : Hp} : ∀ {ds : List D} {vs : List V} (n : Nat), RepAll T H ds vs → RepAll T H (ds.take n) (vs.take n)
  | _, _, 0, h => by simp [RepAll]
  | [], _, _ + 1, h => by simp only [RepAll] at h; subst h; simp [RepAll]
  | e :: ds, _, i + 1, h => by
    simp only [RepAll] at h
    obtain ⟨u, r, rfl, h2, h3⟩ := h
    simp only [List.take_succ_cons, RepAll]
    exact ⟨u, _, rfl, h2, RepAll.take i h3⟩
theorem RepAll.drop {T : Tbl} {H : Hp} : ∀ {ds : List D} {vs : List V} (n : Nat), RepAll T H ds vs → RepAll T H (ds.drop n) (vs.drop n)
  | _, _, 0, h => by simpa using h
  | [], _, _ + 1, h => by simp only [RepAll] at h; subst h; simp [RepAll]
  | e :: ds, _, i + 1, h => by
    simp only [RepAll] at h
    obtain ⟨u, r, rfl, h2, h3⟩ := h
    simpa using RepAll.drop i h3
theorem RepAll.atI {T : Tbl} {H : Hp} {ds : List D} {vs : List V} {i : Int} {d : D} (h : RepAll T H ds vs) (e : L2.atI ds i = some d) : ∃ v, L2.atI vs i = some v ∧ Rep T H d v := by
  unfold L2.atI at e ⊢
  rw [h.len]
  cases q : ixN ds.length i with
  | none => rw [q] at e; cases e
  | some j =>
    rw [q] at e
    exact RepAll.get h e
structure Ctx where
  T : Tbl
  H0e : Hp
  He : Hp
  ioAt : List (Option Addr)
  fa : Addr
def Ctx.io (C : Ctx) (a : Addr) : Prop := some a ∈ C.ioAt
structure Ctx.Ok (C : Ctx) : Prop where
  ioNo : ∀ a, C.io a → C.H0e a = none ∧ C.He a ≠ none
  ex : Ext C.H0e C.He
def ownS : Sl → Bool
  | .ow _ => true | .io _ => true | _ => false
def SlOk (C : Ctx) (H0 H : Hp) (i : Nat) (o : Option (Option V)) : Sl → Prop
  | .un => True
  | .fz d => ∃ v, o = some (some v) ∧ Rep C.T H0 d v
  | .ow d => ∃ a, o = some (some (.ref a)) ∧ C.He a = none ∧ RepO C.T H0 H d (.ref a)
  | .io d => ∃ a, o = some (some (.ref a)) ∧ C.ioAt[i]? = some (some a) ∧ RepO C.T H0 H d (.ref a)
  | .fn => o = some (some (.ref C.fa))
structure Sim (C : Ctx) (σ : L2.St) (H0 H : Hp) (env : Env) : Prop where
  ok : C.Ok
  ex : Ext H0 H
  ex0 : Ext C.H0e H0
  fresh : ∀ a, C.H0e a = none → H0 a ≠ none → C.He a = none
  keep : ∀ a o, C.He a = some o → ¬ C.io a → Kp o (H a)
  ioH : ∀ a, C.io a → H a ≠ none
  len : env.length = σ.length
  slots : ∀ i, SlOk C H0 H i (σ[i]?) (getS env i)
  inj : ∀ i j a, i ≠ j → ownS (getS env i) = true → ownS (getS env j) = true → σ[i]? = some (some (.ref a)) → σ[j]? = some (some (.ref a)) → False
  tabs : LamX.Tabs C.T.tt H
  tno : ∀ p ∈ C.T.tt, H0 p.1 = none
/-- a new thing -/
def RepN (C : Ctx) (σ : L2.St) (H0 H : Hp) (env : Env) (d : D) (v : V) : Prop :=
  if isMutD d = true then ∃ a, v = .ref a ∧ C.He a = none ∧ RepO C.T H0 H d v ∧ ∀ i, ownS (getS env i) = true → σ[i]? ≠ some (some (.ref a)) else Rep C.T H0 d v
def UOk (C : Ctx) (σ : L2.St) (H0 H : Hp) (env : Env) : U → V → Prop
  | .d x, v => Rep C.T H0 x v
  | .sl i, v => σ[i]? = some (some v)
  | .nw x, v => RepN C σ H0 H env x v
/-- an exception: its class, its own dict -/
def XOk (T : Tbl) (H0 H : Hp) (x : Exn) (cls : Value) (d : Option Addr) : Prop :=
  ∃ C, T.cx x.1 x.2.1 = some C ∧ cls = .ref C ∧ ((x.2.1 = [] ∧ d = none) ∨ ∃ dd xs, d = some dd ∧ H0 dd = some (.xd ((x.2.1.map T.fn).zip xs)) ∧ xs.length = x.2.1.length ∧ RepAll T H0 x.2.2 xs)
structure Gr (T : Tbl) (H0 H H0' H' : Hp) : Prop where
  e0 : Ext H0 H0'
  e : ExtW H H'
  e01 : Ext H0' H'
  new : ∀ a, H0 a = none → H0' a ≠ none → H a = none
  tb : LamX.Tabs T.tt H → LamX.Tabs T.tt H'
theorem Gr.rfl' {T : Tbl} {H0 H : Hp} (e : Ext H0 H) : Gr T H0 H H0 H := ⟨Ext.rfl' _, .of (Ext.rfl' _), e, fun a h h' => (h' h).elim, fun t => t⟩
theorem Gr.tr {T : Tbl} {H0 H H0' H' H0'' H'' : Hp} (a : Gr T H0 H H0' H') (b : Gr T H0' H' H0'' H'') : Gr T H0 H H0'' H'' :=
  ⟨a.e0.tr b.e0, a.e.tr b.e, b.e01, fun x h h' => by
    cases q : H0' x with
    | none => exact a.e.no (b.new x q h')
    | some o => exact a.new x h (by rw [q]; exact nofun), fun t => b.tb (a.tb t)⟩
/-- a frozen new object -/
theorem Gr.froz {T : Tbl} {H0 H : Hp} {p : Addr} {o : HO} (e : Ext H0 H) (hp : H p = none) : Gr T H0 H (upd H0 p o) (upd H p o) := by
  refine ⟨ext_upd (e.no hp), .of (ext_upd hp), fun a u h => ?_, fun a h h' => ?_, fun t => (ext_upd hp).tabs t⟩
  · by_cases z : a = p
    · subst z; rw [upd_same] at h ⊢; exact h
    · rw [upd_ne z] at h ⊢; exact e _ _ h
  · by_cases z : a = p
    · subst z; exact hp
    · rw [upd_ne z] at h'; exact (h' h).elim
/-- an owned new object -/
theorem Gr.own {T : Tbl} {H0 H : Hp} {p : Addr} {o : HO} (e : Ext H0 H) (hp : H p = none) : Gr T H0 H H0 (upd H p o) :=
  ⟨Ext.rfl' _, .of (ext_upd hp), e.tr (ext_upd hp), fun a h h' => (h' h).elim, fun t => (ext_upd hp).tabs t⟩
section
variable {C : Ctx} {σ : L2.St} {H0 H H0' H' : Hp} {env : Env}
theorem RepO.keep {T : Tbl} {d : D} {a : Addr} (e0 : Ext H0 H0') (hn : H0' a = none) (hk : H' a = H a) (h : RepO T H0 H d (.ref a)) : RepO T H0' H' d (.ref a) := by
  cases d with
  | lst ds =>
    obtain ⟨b, xs, e, h1, h2, h3⟩ := h
    cases e
    exact ⟨a, xs, rfl, hn, hk.trans h2, RepAll.mono e0 _ _ h3⟩
  | dK ks vs =>
    obtain ⟨b, xs, e, h1, h2, hl, h3⟩ := h
    cases e
    exact ⟨a, xs, rfl, hn, hk.trans h2, hl, RepAll.mono e0 _ _ h3⟩
  | dT ks vs =>
    obtain ⟨b, od, es, e, h1, h2, ho, hq, ht, h3⟩ := h
    cases e
    exact ⟨a, od, es, rfl, hn, hk.trans h2, ho, hq, e0.kt3 ht, RepAll.mono e0 _ _ h3⟩
  | obj c ks vs =>
    obtain ⟨b, Ca, dx, xs, e, h1, hc, h2, hl, h3⟩ := h
    cases e
    exact ⟨a, Ca, dx, xs, rfl, hn, hc, hk.trans h2, hl, RepAll.mono e0 _ _ h3⟩
  | _ => exact h.elim
theorem RepO.some {T : Tbl} {d : D} {a : Addr} (h : RepO T H0 H d (.ref a)) : H0 a = none ∧ ∃ o, H a = .some o := by
  cases d with
  | lst ds => obtain ⟨b, xs, e, h1, h2, h3⟩ := h; cases e; exact ⟨h1, _, h2⟩
  | dK ks vs => obtain ⟨b, xs, e, h1, h2, hl, h3⟩ := h; cases e; exact ⟨h1, _, h2⟩
  | dT ks vs => obtain ⟨b, od, es, e, h1, h2, _⟩ := h; cases e; exact ⟨h1, _, h2⟩
  | obj c ks vs => obtain ⟨b, Ca, dx, xs, e, h1, hc, h2, hl, h3⟩ := h; cases e; exact ⟨h1, _, h2⟩
  | _ => exact h.elim
theorem RepO.kind {T : Tbl} {d : D} {a : Addr} {o : HO} (h : RepO T H0 H d (.ref a)) (ho : H a = .some o) : (∀ ps, o ≠ .tbl ps) ∧ ∀ c q, o ≠ LamX.CodeO c q := by
  cases d with
  | lst ds => obtain ⟨b, xs, e, h1, h2, h3⟩ := h; cases e; rw [ho] at h2; cases h2; exact ⟨nofun, fun _ _ z => by cases z⟩
  | dK ks vs => obtain ⟨b, xs, e, h1, h2, hl, h3⟩ := h; cases e; rw [ho] at h2; cases h2; exact ⟨nofun, fun _ _ z => by cases z⟩
  | dT ks vs => obtain ⟨b, od, es, e, h1, h2, hd, _⟩ := h; cases e; rw [ho] at h2; cases h2; exact ⟨nofun, fun c q => dtO_code hd⟩
  | obj c ks vs => obtain ⟨b, Ca, dx, xs, e, h1, hc, h2, hl, h3⟩ := h; cases e; rw [ho] at h2; cases h2; exact ⟨nofun, fun _ _ z => by cases z⟩
  | _ => exact h.elim
theorem RepO.ref {T : Tbl} {d : D} {v : V} (h : RepO T H0 H d v) : isMutD d = true ∧ ∃ a, v = .ref a := by
  cases d with
  | lst ds => obtain ⟨b, xs, e, h1, h2, h3⟩ := h; exact ⟨rfl, b, e⟩
  | dK ks vs => obtain ⟨b, xs, e, h1, h2, hl, h3⟩ := h; exact ⟨rfl, b, e⟩
  | dT ks vs => obtain ⟨b, od, es, e, _⟩ := h; exact ⟨rfl, b, e⟩
  | obj c ks vs => obtain ⟨b, Ca, dx, xs, e, h1, hc, h2, hl, h3⟩ := h; exact ⟨rfl, b, e⟩
  | _ => exact h.elim
/-- an owned thing becomes frozen -/
theorem RepO.kindT {T : Tbl} {d : D} {a : Addr} {o : HO} (h : RepO T H0 H d (.ref a)) (ho : H a = .some o) : (∀ ps, o ≠ .tup ps) ∧ ∀ x u, o ≠ .frz x u := by
  cases d with
  | lst ds => obtain ⟨b, xs, e, h1, h2, h3⟩ := h; cases e; rw [ho] at h2; cases h2; exact ⟨(fun _ z => by cases z), (fun _ _ z => by cases z)⟩
  | dK ks vs => obtain ⟨b, xs, e, h1, h2, hl, h3⟩ := h; cases e; rw [ho] at h2; cases h2; exact ⟨(fun _ z => by cases z), (fun _ _ z => by cases z)⟩
  | dT ks vs => obtain ⟨b, od, es, e, h1, h2, _⟩ := h; cases e; rw [ho] at h2; cases h2; exact ⟨(fun _ z => by cases z), (fun _ _ z => by cases z)⟩
  | obj c ks vs => obtain ⟨b, Ca, dx, xs, e, h1, hc, h2, hl, h3⟩ := h; cases e; rw [ho] at h2; cases h2; exact ⟨(fun _ z => by cases z), (fun _ _ z => by cases z)⟩
  | _ => exact h.elim
theorem RepO.froz {T : Tbl} {d : D} {a : Addr} {o : HO} (ho : H a = .some o) (h : RepO T H0 H d (.ref a)) : Rep T (upd H0 a o) d (.ref a) := by
  have en : Ext H0 (upd H0 a o) := ext_upd h.some.1
  cases d with
  | lst ds =>
    obtain ⟨b, xs, e, h1, h2, h3⟩ := h
    cases e
    rw [ho] at h2; cases h2
    simp only [Rep]
    exact ⟨a, xs, rfl, .inl upd_same, RepAll.mono en _ _ h3⟩
  | dK ks vs =>
    obtain ⟨b, xs, e, h1, h2, hl, h3⟩ := h
    cases e
    rw [ho] at h2; cases h2
    simp only [Rep]
    exact ⟨a, xs, rfl, .inl upd_same, hl, RepAll.mono en _ _ h3⟩
  | dT ks vs =>
    obtain ⟨b, od, es, e, h1, h2, hd, hq, ht, h3⟩ := h
    cases e
    rw [ho] at h2; cases h2
    simp only [Rep]
    exact ⟨a, od, es, rfl, .inl upd_same, hd, hq, en.kt3 ht, RepAll.mono en _ _ h3⟩
  | obj c ks vs =>
    obtain ⟨b, Ca, dx, xs, e, h1, hc, h2, hl, h3⟩ := h
    cases e
    rw [ho] at h2; cases h2
    simp only [Rep]
    exact ⟨a, Ca, dx, xs, rfl, hc, upd_same, hl, RepAll.mono en _ _ h3⟩
  | _ => exact h.elim
/-- the slots are as they were where the owned objects stand as they stood -/
theorem SlOk.step {i : Nat} {o : Option (Option V)} {s : Sl} (e0 : Ext H0 H0') (hk : ∀ a, ownS s = true → o = some (some (.ref a)) → H0' a = none ∧ H' a = H a) (h : SlOk C H0 H i o s) : SlOk C H0' H' i o s := by
  cases s with
  | un => trivial
  | fn => exact h
  | fz d => obtain ⟨v, h1, h2⟩ := h; exact ⟨v, h1, Rep.mono e0 _ _ h2⟩
  | ow d => obtain ⟨a, h1, h2, h3⟩ := h; exact ⟨a, h1, h2, h3.keep e0 (hk a rfl h1).1 (hk a rfl h1).2⟩
  | io d => obtain ⟨a, h1, h2, h3⟩ := h; exact ⟨a, h1, h2, h3.keep e0 (hk a rfl h1).1 (hk a rfl h1).2⟩
theorem Sim.own (S : Sim C σ H0 H env) {i : Nat} {a : Addr} (h : ownS (getS env i) = true) (e : σ[i]? = some (some (.ref a))) : H0 a = none ∧ ∃ o, H a = some o := by
  have q := S.slots i
  cases z : getS env i with
  | un => rw [z] at h; cases h
  | fn => rw [z] at h; cases h
  | fz d => rw [z] at h; cases h
  | ow d => rw [z] at q; obtain ⟨b, h1, h2, h3⟩ := q; rw [e] at h1; cases h1; exact h3.some
  | io d => rw [z] at q; obtain ⟨b, h1, h2, h3⟩ := q; rw [e] at h1; cases h1; exact h3.some
theorem Sim.ownK (S : Sim C σ H0 H env) {i : Nat} {a : Addr} {o : HO} (h : ownS (getS env i) = true) (e : σ[i]? = some (some (.ref a))) (ho : H a = some o) : (∀ ps, o ≠ .tbl ps) ∧ ∀ c q, o ≠ LamX.CodeO c q := by
  have q := S.slots i
  cases z : getS env i with
  | un => rw [z] at h; cases h
  | fn => rw [z] at h; cases h
  | fz d => rw [z] at h; cases h
  | ow d => rw [z] at q; obtain ⟨b, h1, h2, h3⟩ := q; rw [e] at h1; cases h1; exact h3.kind ho
  | io d => rw [z] at q; obtain ⟨b, h1, h2, h3⟩ := q; rw [e] at h1; cases h1; exact h3.kind ho
theorem Sim.he (S : Sim C σ H0 H env) {a : Addr} (h : H a = none) : C.He a = none := by
  cases q : C.He a with
  | none => rfl
  | some o =>
    by_cases z : C.io a
    · exact (S.ioH a z h).elim
    · obtain ⟨u, hu⟩ := (S.keep a o q z).some; rw [h] at hu; cases hu
theorem Sim.gr (S : Sim C σ H0 H env) (g : Gr C.T H0 H H0' H') : Sim C σ H0' H' env where
  ok := S.ok
  ex := g.e01
  ex0 := S.ex0.tr g.e0
  fresh := fun a h h' => by
    cases q : H0 a with
    | none => exact S.he (g.new a q h')
    | some o => exact S.fresh a h (by rw [q]; exact nofun)
  keep := fun a o h h' => by
    obtain ⟨u, hu⟩ := (S.keep a o h h').some
    exact (S.keep a o h h').tr hu (g.e a u hu)
  tabs := g.tb S.tabs
  tno := fun p hp => by
    obtain ⟨ps, h1, _⟩ := S.tabs p hp
    cases q : H0' p.1 with
    | none => rfl
    | some u => rw [g.new p.1 (S.tno p hp) (by rw [q]; exact nofun)] at h1; cases h1
  ioH := fun a h h' => by
    cases q : H a with
    | none => exact S.ioH a h q
    | some o => obtain ⟨u, hu⟩ := (g.e _ _ q).some; rw [h'] at hu; cases hu
  len := S.len
  slots := fun i => (S.slots i).step g.e0 fun a ho e => by
    obtain ⟨h0, o, h1⟩ := S.own ho e
    refine ⟨?_, by rw [(g.e _ _ h1).at (S.ownK ho e h1).1, h1]⟩
    cases q : H0' a with
    | none => rfl
    | some u => rw [g.new a h0 (by rw [q]; exact nofun)] at h1; cases h1
  inj := S.inj
theorem Sim.tnoU (S : Sim C σ H0 H env) {a : Addr} {o o' : HO} (h : H a = some o) (hk : ∀ ps, o ≠ .tbl ps) : ∀ p ∈ C.T.tt, upd H0 a o' p.1 = none := fun p hp => by
  obtain ⟨ps, h1, _⟩ := S.tabs p hp
  rw [upd_ne (fun z => by rw [z, h] at h1; exact hk ps (Option.some.inj h1))]
  exact S.tno p hp
theorem RepG.nw (S : Sim C σ H0 H env) {d : D} {v : V} (h : RepG C.T H0' H' H d v) : RepN C σ H0' H' env d v := by
  unfold RepN; unfold RepG at h
  split
  · rename_i z
    rw [if_pos z] at h
    obtain ⟨a, rfl, h1, h2⟩ := h
    refine ⟨a, rfl, S.he h1, h2, fun i ho e => ?_⟩
    obtain ⟨_, o, q⟩ := S.own ho e
    rw [h1] at q; cases q
  · rename_i z
    rw [if_neg z] at h
    exact h
/-- freezing an object that is owned by no slot -/
theorem Sim.frozN (S : Sim C σ H0 H env) {a : Addr} {o : HO} (hk : ∀ ps, o ≠ .tbl ps) (h0 : H0 a = none) (he : C.He a = none) (h : H a = some o) (hs : ∀ i, ownS (getS env i) = true → σ[i]? ≠ some (some (.ref a))) : Sim C σ (upd H0 a o) H env where
  ok := S.ok
  ex := fun b u q => by
    by_cases z : b = a
    · subst z; rw [upd_same] at q; cases q; exact h
    · rw [upd_ne z] at q; exact S.ex _ _ q
  ex0 := S.ex0.tr (ext_upd h0)
  fresh := fun b q q' => by
    by_cases z : b = a
    · subst z; exact he
    · rw [upd_ne z] at q'; exact S.fresh b q q'
  keep := S.keep
  ioH := S.ioH
  len := S.len
  slots := fun i => (S.slots i).step (ext_upd h0) fun b ho e => by
    have z : b ≠ a := fun z => hs i ho (by rw [← z]; exact e)
    exact ⟨by rw [upd_ne z]; exact (S.own ho e).1, rfl⟩
  inj := S.inj
  tabs := S.tabs
  tno := fun p hp => by
    obtain ⟨ps, h1, _⟩ := S.tabs p hp
    rw [upd_ne (fun z => by rw [z, h] at h1; exact hk ps (Option.some.inj h1))]
    exact S.tno p hp
/-- a value that waits: a new thing is frozen -/
theorem Sim.pend (S : Sim C σ H0 H env) {u : U} {v : V} (h : UOk C σ H0 H env u v) : ∃ H0', Ext H0 H0' ∧ Sim C σ H0' H env ∧ UOk C σ H0' H env (PP.pend u) v := by
  cases u with
  | d x => exact ⟨H0, Ext.rfl' _, S, h⟩
  | sl i => exact ⟨H0, Ext.rfl' _, S, h⟩
  | nw x =>
    have h' : RepN C σ H0 H env x v := h
    unfold RepN at h'
    split at h'
    · obtain ⟨a, rfl, h1, h2, h3⟩ := h'
      obtain ⟨h0, o, ho⟩ := h2.some
      exact ⟨upd H0 a o, ext_upd h0, S.frozN (h2.kind ho).1 h0 h1 ho h3, h2.froz ho⟩
    · exact ⟨H0, Ext.rfl' _, S, h'⟩
/-- what waits, waits on -/
theorem UOk.wait {u : U} {v : V} {env' : Env} {H1 : Hp} (h : UOk C σ H0 H env (PP.pend u) v) (e : Ext H0 H0') : UOk C σ H0' H1 env' (PP.pend u) v := by
  cases u with
  | d x => exact Rep.mono e _ _ h
  | sl i => exact h
  | nw x => exact Rep.mono e _ _ h
/-- reading -/
theorem Sim.rd (S : Sim C σ H0 H env) {u : U} {v : V} {d : D} (h : UOk C σ H0 H env u v) (hr : rdU env u = some d) : RdV C.T H0 H d v := by
  cases u with
  | d x => cases hr; exact .inl h
  | nw x =>
    cases hr
    have h' : RepN C σ H0 H env d v := h
    unfold RepN at h'
    split at h'
    · obtain ⟨a, rfl, h1, h2, h3⟩ := h'
      exact .inr h2
    · exact .inl h'
  | sl i =>
    have q := S.slots i
    have e : σ[i]? = some (some v) := h
    unfold rdU rdS at hr
    cases z : getS env i with
    | un => simp [z] at hr
    | fn => simp [z] at hr
    | fz x => simp [z] at hr; subst hr; rw [z] at q; obtain ⟨w, h1, h2⟩ := q; rw [e] at h1; cases h1; exact .inl h2
    | ow x => simp [z] at hr; subst hr; rw [z] at q; obtain ⟨w, h1, h2, h3⟩ := q; rw [e] at h1; cases h1; exact .inr h3
    | io x => simp [z] at hr; subst hr; rw [z] at q; obtain ⟨w, h1, h2, h3⟩ := q; rw [e] at h1; cases h1; exact .inr h3
end
end PP
end
section
set_option maxHeartbeats 1000000
namespace PP
open PySem L2
/-- what is wanted of a result -/
def RQ {α : Type} (C : Ctx) (W : WX) (σ : L2.St) (K : α → Env → Hp → Hp → Prop) (H0 : Hp) : R α → Prop
  | .ok a env => ∀ H0' H', Ext H0 H0' → Sim C σ H0' H' env → K a env H0' H'
  | .exc x env => ∀ cls d H0' H', Ext H0 H0' → Sim C σ H0' H' env → XOk C.T H0' H' x cls d → W cls d σ H'
  | .bad => False
def KV (C : Ctx) (σ : L2.St) (Q : VK) : U → Env → Hp → Hp → Prop := fun u env H0 H => ∀ v, UOk C σ H0 H env u v → Q v H
/-- an expression of the small syntax, read -/
def tI (C : Ctx) (W : WX) (cl : CallF) (e : Ex) : TE := fun σ H Q => ∃ H0 env, Sim C σ H0 H env ∧ RQ C W σ (KV C σ Q) H0 (ev cl e env)
def tT (C : Ctx) (W : WX) (cl : CallF) (e : Ex) : TT := fun σ H Q => ∃ H0 env, Sim C σ H0 H env ∧ RQ C W σ (fun b _ _ H' => Q b H') H0 (evT cl e env)
theorem RQ.mono {α : Type} {C : Ctx} {W : WX} {σ : L2.St} {K : α → Env → Hp → Hp → Prop} {H0 H1 : Hp} (e : Ext H0 H1) {r : R α} (h : RQ C W σ K H0 r) : RQ C W σ K H1 r := by
  cases r with
  | ok a env => exact fun H0' H' e' s => h H0' H' (e.tr e') s
  | exc x env => exact fun cls d H0' H' e' s x => h cls d H0' H' (e.tr e') s x
  | bad => exact h
theorem RQ.orB {α β : Type} {C : Ctx} {W : WX} {σ : L2.St} {K : β → Env → Hp → Hp → Prop} {H0 : Hp} {o : Option α} {f : α → R β} (h : RQ C W σ K H0 (orBad o f)) : ∃ a, o = some a ∧ RQ C W σ K H0 (f a) := by
  cases o with
  | none => exact h.elim
  | some a => exact ⟨a, rfl, h⟩
section
variable {C : Ctx} {W : WX} {σ : L2.St} {cl : CallF} {H0 H : Hp} {env : Env} {β : Type} {K : β → Env → Hp → Hp → Prop}
/-- an expression, then the rest -/
theorem seqI {a : Ex} {f : U → Env → R β} (S : Sim C σ H0 H env) (h : RQ C W σ K H0 ((ev cl a env).bind f)) {Q : VK}
    (hQ : ∀ u env1 v H01 H1, Ext H0 H01 → Sim C σ H01 H1 env1 → UOk C σ H01 H1 env1 u v → RQ C W σ K H01 (f u env1) → Q v H1) : tI C W cl a σ H Q := by
  refine ⟨H0, env, S, ?_⟩
  cases q : ev cl a env with
  | ok u env1 =>
    rw [q] at h
    exact fun H01 H1 e s v hu => hQ u env1 v H01 H1 e s hu (RQ.mono e h)
  | exc x env1 =>
    rw [q] at h
    exact fun cls d H0' H' e s x => h cls d H0' H' e s x
  | bad => rw [q] at h; exact h
theorem seqT {a : Ex} {f : Bool → Env → R β} (S : Sim C σ H0 H env) (h : RQ C W σ K H0 ((evT cl a env).bind f)) {Q : Bool → Hp → Prop}
    (hQ : ∀ b env1 H01 H1, Ext H0 H01 → Sim C σ H01 H1 env1 → RQ C W σ K H01 (f b env1) → Q b H1) : tT C W cl a σ H Q := by
  refine ⟨H0, env, S, ?_⟩
  cases q : evT cl a env with
  | ok u env1 =>
    rw [q] at h
    exact fun H01 H1 e s => hQ u env1 H01 H1 e s (RQ.mono e h)
  | exc x env1 =>
    rw [q] at h
    exact fun cls d H0' H' e s x => h cls d H0' H' e s x
  | bad => rw [q] at h; exact h
end
theorem peI {X : Cx} {e : Expr} {t t' : TE} (h : PE X e t) (i : ∀ σ H Q, t' σ H Q → t σ H Q) : PE X e t' := ⟨fun pins s σ H Q I q => h.run pins s σ H Q I (i σ H Q q)⟩
theorem ptI {X : Cx} {e : Expr} {t t' : TT} (h : PT X e t) (i : ∀ σ H Q, t' σ H Q → t σ H Q) : PT X e t' := ⟨fun pins s σ H Q I q => h.run pins s σ H Q I (i σ H Q q)⟩
theorem pwI {X : Cx} {e : Expr} {t t' : TT} (h : PW X e t) (i : ∀ σ H Q, t' σ H Q → t σ H Q) : PW X e t' := ⟨fun wh pins s σ H Q I q => h.run wh pins s σ H Q I (i σ H Q q)⟩
theorem orI {X : Cx} {f : Value → Value → Sem Value} {r r' : R2} (h : OpR X f r) (i : ∀ x y H Q, r' x y H Q → r x y H Q) : OpR X f r' := fun pins s σ H x y v u Q I rx ry q => h pins s σ H x y v u Q I rx ry (i x y H Q q)
section
variable {T : Tbl} {H0 H : Hp} {x : V}
theorem rd_non (h : RdV T H0 H .non x) : x = .non := by rcases h with h | h; exact (by simpa only [Rep] using h); exact h.elim
theorem rd_bl {b : Bool} (h : RdV T H0 H (.bl b) x) : x = .bl b := by rcases h with h | h; exact (by simpa only [Rep] using h); exact h.elim
theorem rd_int {i : Int} (h : RdV T H0 H (.int i) x) : x = .int i := by rcases h with h | h; exact (by simpa only [Rep] using h); exact h.elim
theorem rd_str {i : Str} (h : RdV T H0 H (.str i) x) : x = .str i := by rcases h with h | h; exact (by simpa only [Rep] using h); exact h.elim
theorem rd_lst (e : Ext H0 H) {ds : List D} (h : RdV T H0 H (.lst ds) x) : ∃ a xs, x = .ref a ∧ Rd H a (.lst xs) ∧ RepAll T H0 ds xs := by
  rcases h with h | h
  · simp only [Rep] at h
    obtain ⟨a, xs, h1, h2, h3⟩ := h
    exact ⟨a, xs, h1, e.rd h2, h3⟩
  · obtain ⟨a, xs, h1, h0, h2, h3⟩ := h
    exact ⟨a, xs, h1, .inl h2, h3⟩
theorem rd_tup (e : Ext H0 H) {ds : List D} (h : RdV T H0 H (.tup ds) x) : ∃ a xs, x = .ref a ∧ SqT T.K H a xs ∧ RepAll T H0 ds xs := by
  rcases h with h | h
  · simp only [Rep] at h
    obtain ⟨a, xs, h1, h2, h3⟩ := h
    exact ⟨a, xs, h1, e.sqT h2, h3⟩
  · exact h.elim
theorem rd_kst (e : Ext H0 H) {ds : List D} (h : RdV T H0 H (.kst ds) x) : ∃ a xs, x = .ref a ∧ SqL T.K H a xs ∧ RepAll T H0 ds xs := by
  rcases h with h | h
  · simp only [Rep] at h
    obtain ⟨a, xs, h1, h2, h3⟩ := h
    exact ⟨a, xs, h1, e.sqL h2, h3⟩
  · exact h.elim
theorem rd_dK (e : Ext H0 H) {ks : List Key} {ds : List D} (h : RdV T H0 H (.dK ks ds) x) : ∃ a xs, x = .ref a ∧ Rd H a (.dK (ks.zip xs)) ∧ xs.length = ks.length ∧ RepAll T H0 ds xs := by
  rcases h with h | h
  · simp only [Rep] at h
    obtain ⟨a, xs, h1, h2, h3⟩ := h
    exact ⟨a, xs, h1, e.rd h2, h3⟩
  · obtain ⟨a, xs, h1, h0, h2, h3⟩ := h
    exact ⟨a, xs, h1, .inl h2, h3⟩
theorem rd_dT (e : Ext H0 H) {ks : List (List Int)} {ds : List D} (h : RdV T H0 H (.dT ks ds) x) : ∃ a od es, x = .ref a ∧ Rd H a (dtO a od) ∧ ObjDt a od es ∧ es.map (·.1) = ks ∧ KT3 T.K H0 es ∧ RepAll T H0 ds (es.map (·.2.2)) := by
  rcases h with h | h
  · simp only [Rep] at h
    obtain ⟨a, od, es, h1, h2, h3⟩ := h
    exact ⟨a, od, es, h1, e.rd h2, h3⟩
  · obtain ⟨a, od, es, h1, h0, h2, h3⟩ := h
    exact ⟨a, od, es, h1, .inl h2, h3⟩
theorem ints_rep : ∀ {ys : List D} {k : List Int} {xs : List V}, intsD ys = some k → RepAll T H ys xs → xs = k.map V.int
  | [], k, xs, h, r => by cases h; simp only [RepAll] at r; exact r
  | d :: ys, k, xs, h, r => by
    simp only [RepAll] at r
    obtain ⟨v, r', rfl, r1, r2⟩ := r
    cases d with
    | int i =>
      simp only [intsD, Option.map_eq_some_iff] at h
      obtain ⟨k', h1, rfl⟩ := h
      have hv : v = .int i := by simpa only [Rep] using r1
      rw [hv, ints_rep h1 r2]; rfl
    | _ => cases h
theorem rd_key (e : Ext H0 H) {ys : List D} {k : List Int} (hk : intsD ys = some k) (h : RdV T H0 H (.tup ys) x) : ∃ b, x = .ref b ∧ SqT T.K H b (k.map V.int) := by
  obtain ⟨b, xs, rfl, h1, h2⟩ := rd_tup e h
  rw [ints_rep hk h2] at h1
  exact ⟨b, rfl, h1⟩
theorem getDT_rep : ∀ {es : List T3} {ks : List (List Int)} {ds : List D} {k : List Int} {d : D}, es.map (·.1) = ks → RepAll T H ds (es.map (·.2.2)) → getDT ks ds k = some d → ∃ w, getT3 es k = some w ∧ Rep T H d w
  | [], ks, ds, k, d, h, r, g => by subst h; simp [getDT] at g
  | e :: es, ks, ds, k, d, h, r, g => by
    subst h
    cases ds with
    | nil => simp [getDT] at g
    | cons d0 ds =>
      simp only [List.map_cons, RepAll] at r
      obtain ⟨v, r', h1, h2, h3⟩ := r
      cases h1
      by_cases c : e.1 = k
      · have g' : d0 = d := by simpa [getDT, List.find?_cons, c] using g
        subst g'
        exact ⟨e.2.2, by simp [getT3, List.find?_cons, c], h2⟩
      · have g' : getDT (es.map (·.1)) ds k = some d := by simpa [getDT, List.find?_cons, c] using g
        obtain ⟨w, h4, h5⟩ := getDT_rep rfl h3 g'
        exact ⟨w, by simpa [getT3, List.find?_cons, c] using h4, h5⟩
theorem getDT_some : ∀ {es : List T3} {ks : List (List Int)} {ds : List D} {k : List Int}, es.map (·.1) = ks → RepAll T H ds (es.map (·.2.2)) → (getDT ks ds k).isSome = (getT3 es k).isSome
  | [], ks, ds, k, h, r => by subst h; simp [getDT, getT3]
  | e :: es, ks, ds, k, h, r => by
    subst h
    cases ds with
    | nil => simp only [List.map_cons, RepAll] at r; cases r
    | cons d0 ds =>
      simp only [List.map_cons, RepAll] at r
      obtain ⟨v, r', h1, h2, h3⟩ := r
      cases h1
      have ih := getDT_some (k := k) rfl h3
      by_cases c : e.1 = k
      · simp [getDT, getT3, List.find?_cons, c]
      · have a1 : getDT ((e :: es).map (·.1)) (d0 :: ds) k = getDT (es.map (·.1)) ds k := by simp [getDT, List.find?_cons, c]
        have a2 : getT3 (e :: es) k = getT3 es k := by simp [getT3, List.find?_cons, c]
        rw [a1, a2]; exact ih
theorem lim_line : LIM ≤ sizeLine := by rw [PySem.sizeLine_eq]; decide
theorem rd_truth (e : Ext H0 H) {d : D} {b : Bool} (h : RdV T H0 H d x) (ht : truD d = some b) : TruV T.K x H b := by
  cases d with
  | non => cases rd_non h; cases ht; rfl
  | bl c => cases rd_bl h; cases ht; rfl
  | int i => cases rd_int h; cases ht; rfl
  | str z =>
    cases rd_str h
    simp only [truD] at ht
    split at ht
    · rename_i hl
      cases ht
      exact ⟨Nat.le_trans hl lim_line, rfl⟩
    · cases ht
  | lst ds =>
    obtain ⟨a, xs, rfl, h1, h2⟩ := rd_lst e h
    cases ht
    refine .inl ⟨xs, .inl h1, ?_⟩
    have := h2.len
    cases ds <;> cases xs <;> simp_all
  | tup ds =>
    obtain ⟨a, xs, rfl, h1, h2⟩ := rd_tup e h
    cases ht
    refine .inr (.inl ⟨xs, h1, ?_⟩)
    have := h2.len
    cases ds <;> cases xs <;> simp_all
  | kst ds =>
    obtain ⟨a, xs, rfl, h1, h2⟩ := rd_kst e h
    cases ht
    refine .inl ⟨xs, h1, ?_⟩
    have := h2.len
    cases ds <;> cases xs <;> simp_all
  | dK ks ds => cases ht
  | dT ks ds => cases ht
  | obj c ks ds => cases ht
  | cls c => cases ht
  | err c ks ds => cases ht
end
theorem RepG.flat {T : Tbl} {H0' H' H : Hp} {d : D} {v : V} (hf : isMutD d = false) (h : Rep T H0' d v) : RepG T H0' H' H d v := by
  unfold RepG
  rw [if_neg (by rw [hf]; decide)]
  exact h
theorem RepG.lst {T : Tbl} {H0 H : Hp} {ds : List D} {xs : List V} {p : Addr} (e : Ext H0 H) (hp : H p = none) (h : RepAll T H0 ds xs) : RepG T H0 (upd H p (.lst xs)) H (.lst ds) (.ref p) := by
  show (if true = true then _ else _)
  rw [if_pos rfl]
  exact ⟨p, rfl, hp, p, xs, rfl, e.no hp, upd_same, h⟩
/-- an operation by the data -/
def rD (T : Tbl) (g : D → D → Option D) : R2 := fun x y H Q => ∃ H0 dx dy d, Ext H0 H ∧ RdV T H0 H dx x ∧ RdV T H0 H dy y ∧ g dx dy = some d ∧ ∀ v H0' H', Gr T H0 H H0' H' → RepG T H0' H' H d v → Q v H'
section
variable {X : Cx} {T : Tbl}
/-- two ints in -/
theorem opInts {f : Value → Value → Sem Value} {o : O2} {c : Int → Int → Prop} {g : Int → Int → V} {gd : Int → Int → D} (h : OpR X f (rI c g)) (hf : ∀ i j, isMutD (gd i j) = false) (hr : ∀ T H i j, Rep T H (gd i j) (g i j))
    (inv : ∀ dx dy d, op2 o dx dy = some d → ∃ i j, dx = .int i ∧ dy = .int j ∧ c i j ∧ d = gd i j) : OpR X f (rD T (op2 o)) :=
  orI h fun x y H Q ⟨H0, dx, dy, d, e, hx, hy, hg, q⟩ => by
    obtain ⟨i, j, rfl, rfl, hc, rfl⟩ := inv dx dy d hg
    exact ⟨i, j, rd_int hx, rd_int hy, hc, q _ _ _ (Gr.rfl' e) (.flat (hf i j) (hr _ _ i j))⟩
theorem rI0I {g : Int → Int → V} {f : Value → Value → Sem Value} (h : OpR X f (rI0 g)) : OpR X f (rI (fun _ _ => True) g) := orI h fun x y H Q ⟨i, j, h1, h2, _, q⟩ => ⟨i, j, h1, h2, q⟩
theorem r_int (T : Tbl) (H : Hp) (i : Int) : Rep T H (.int i) (.int i) := by simp only [Rep]
theorem r_bl (T : Tbl) (H : Hp) (i : Bool) : Rep T H (.bl i) (.bl i) := by simp only [Rep]
theorem r_str (T : Tbl) (H : Hp) (i : Str) : Rep T H (.str i) (.str i) := by simp only [Rep]
theorem r_non (T : Tbl) (H : Hp) : Rep T H .non .non := by simp only [Rep]
theorem o_sub : OpR X (binaryOp .Sub) (rD T (op2 .sub)) := opInts (gd := fun i j => .int (i - j)) (rI0I op_sub) (fun _ _ => rfl) (fun T H i j => r_int T H _) (by
  intro dx dy d h
  cases dx <;> first | (cases h; done) | (cases dy <;> first | (cases h; done) | (cases h; exact ⟨_, _, rfl, rfl, trivial, rfl⟩)))
theorem op_fdivA : OpR X (binaryOp .FloorDiv) (rI CDivW fun i j => .int (i / j)) := op_fdivW
def CMulA (i j : Int) : Prop := CMul i j ∨ CMulW i j
theorem op_mulA : OpR X (binaryOp .Mult) (rI CMulA fun i j => .int (i * j)) := opI fun _ _ _ _ _ _ _ hc q => PyProof.Rows.mul_int q (hc.elim CMul.ok CMulW.ok)
theorem o_fdiv : OpR X (binaryOp .FloorDiv) (rD T (op2 .fdiv)) := opInts (gd := fun i j => .int (i / j)) op_fdivA (fun _ _ => rfl) (fun T H i j => r_int T H _) (by
  intro dx dy d h
  cases dx <;> first | (cases h; done) | (cases dy <;> first | (cases h; done) | skip)
  simp only [op2] at h
  split at h
  · rename_i z
    cases h
    refine ⟨_, _, rfl, rfl, ?_, rfl⟩
    simpa [divOk, CDivW] using z
  · cases h)
theorem o_mod : OpR X (binaryOp .Mod) (rD T (op2 .mod)) := opInts (gd := fun i j => .int (i % j)) op_mod (fun _ _ => rfl) (fun T H i j => r_int T H _) (by
  intro dx dy d h
  cases dx <;> first | (cases h; done) | (cases dy <;> first | (cases h; done) | skip)
  simp only [op2] at h
  split at h
  · rename_i z
    cases h
    exact ⟨_, _, rfl, rfl, z, rfl⟩
  · cases h)
theorem o_pow : OpR X (binaryOp .Pow) (rD T (op2 .pow)) := opInts (gd := fun i j => .int (i ^ j.toNat)) op_pow (fun _ _ => rfl) (fun T H i j => r_int T H _) (by
  intro dx dy d h
  cases dx <;> first | (cases h; done) | (cases dy <;> first | (cases h; done) | skip)
  simp only [op2] at h
  split at h
  · rename_i z
    cases h
    refine ⟨_, _, rfl, rfl, ?_, rfl⟩
    simpa [powOk, CPow, and_assoc] using z
  · cases h)
theorem o_band : OpR X (binaryOp .BitAnd) (rD T (op2 .band)) := opInts (gd := fun i j => .int (Builtin.bitAnd i j)) (rI0I op_and) (fun _ _ => rfl) (fun T H i j => r_int T H _) (by
  intro dx dy d h
  cases dx <;> first | (cases h; done) | (cases dy <;> first | (cases h; done) | (cases h; exact ⟨_, _, rfl, rfl, trivial, rfl⟩)))
theorem o_bor : OpR X (binaryOp .BitOr) (rD T (op2 .bor)) := opInts (gd := fun i j => .int (Builtin.bitOr i j)) (rI0I op_or) (fun _ _ => rfl) (fun T H i j => r_int T H _) (by
  intro dx dy d h
  cases dx <;> first | (cases h; done) | (cases dy <;> first | (cases h; done) | (cases h; exact ⟨_, _, rfl, rfl, trivial, rfl⟩)))
theorem o_lt : OpR X (compareOp .Lt) (rD T (op2 .lt)) := opInts (gd := fun i j => .bl (decide (i < j))) (rI0I op_lt) (fun _ _ => rfl) (fun T H i j => r_bl T H _) (by
  intro dx dy d h
  cases dx <;> first | (cases h; done) | (cases dy <;> first | (cases h; done) | (cases h; exact ⟨_, _, rfl, rfl, trivial, rfl⟩)))
theorem o_le : OpR X (compareOp .LtE) (rD T (op2 .le)) := opInts (gd := fun i j => .bl (decide (i ≤ j))) (rI0I op_le) (fun _ _ => rfl) (fun T H i j => r_bl T H _) (by
  intro dx dy d h
  cases dx <;> first | (cases h; done) | (cases dy <;> first | (cases h; done) | (cases h; exact ⟨_, _, rfl, rfl, trivial, rfl⟩)))
theorem o_gt : OpR X (compareOp .Gt) (rD T (op2 .gt)) := opInts (gd := fun i j => .bl (decide (j < i))) (rI0I op_gt) (fun _ _ => rfl) (fun T H i j => r_bl T H _) (by
  intro dx dy d h
  cases dx <;> first | (cases h; done) | (cases dy <;> first | (cases h; done) | (cases h; exact ⟨_, _, rfl, rfl, trivial, rfl⟩)))
theorem o_ge : OpR X (compareOp .GtE) (rD T (op2 .ge)) := opInts (gd := fun i j => .bl (decide (j ≤ i))) (rI0I op_ge) (fun _ _ => rfl) (fun T H i j => r_bl T H _) (by
  intro dx dy d h
  cases dx <;> first | (cases h; done) | (cases dy <;> first | (cases h; done) | (cases h; exact ⟨_, _, rfl, rfl, trivial, rfl⟩)))
/-- a readable list, as the machine has it -/
theorem rdM {pins : List (Addr × Obj)} {s : Shared} {σ : L2.St} {H : Hp} {l : Addr} {xs : List V} (I : Inv X pins σ H s) (h : Rd H l (.lst xs)) :
    ∃ (its : List Value) (n : Nat), Vals xs its ∧ xs.length = its.length ∧ xs.length ≤ sizeLine ∧ s.heap.get? l = some { cls := .type "list", data := .seq its.toArray n } := by
  obtain ⟨z, its, n, r, e⟩ := h.ok I.hok
  exact ⟨its, n, r, r.length, z, e⟩
/-- list + list, wherever they stand -/
theorem o_cat : OpR X (binaryOp .Add) (fun x y H Q => ∃ l b xs zs, x = .ref l ∧ y = .ref b ∧ Rd H l (.lst xs) ∧ Rd H b (.lst zs) ∧ xs.length + zs.length ≤ sizeLine ∧ ∀ p, H p = none → Q (.ref p) (upd H p (.lst (xs ++ zs)))) := by
  intro pins s σ H x y v u Q I rx ry h
  obtain ⟨l, b, xs, zs, rfl, rfl, hl, hb, hz, q⟩ := h
  cases rx
  cases ry
  obtain ⟨its, n, r, hh1, _, e⟩ := rdM I hl
  obtain ⟨its2, n2, r2, hh2, _, e2⟩ := rdM I hb
  refine PySem.P.add_list e e2 ?_ (by simp only [List.size_toArray]; omega)
  simp only [List.append_toArray]
  exact ⟨.ref _, _, I.lnew (t' := s.toks) (r.append r2) (by rw [List.length_append]; omega), rfl, q _ I.fresh⟩
section
open PySem.Spec PyProof.Rows
theorem o_rep : OpR X (binaryOp .Mult) (fun x y H Q => ∃ l k xs, x = .ref l ∧ y = .int k ∧ Rd H l (.lst xs) ∧ -(2 ^ 63) ≤ k ∧ k < 2 ^ 63 ∧ xs.length * k.toNat ≤ sizeLine ∧ ∀ p, H p = none → Q (.ref p) (upd H p (.lst (List.replicate k.toNat xs).flatten))) := by
  intro pins s σ H x y v u Q I rx ry h
  obtain ⟨l, k, xs, rfl, rfl, hH, h1, h2, hz, q⟩ := h
  cases rx
  obtain ⟨t, rfl⟩ := ry
  obtain ⟨its, n, r, hl, z, e⟩ := rdM I hH
  have hlen : its.toArray.size * k.toNat ≤ sizeLine := by rw [List.size_toArray, ← hl]; exact hz
  have hcap : ¬ its.toArray.size * k.toNat > (2 ^ 63 - 1) / 8 := by
    have : (sizeLine : Nat) ≤ (2 ^ 63 - 1) / 8 := by decide
    omega
  have hfit : ¬ (!Builtin.List.listFitsIndex k) = true := by
    rw [fitsIndex_both h1 h2]
    exact Bool.false_ne_true
  have hlong : ¬ Builtin.List.listTooLong (its.toArray.size * k.toNat) = true := by
    rw [notLongL hlen]
    exact Bool.false_ne_true
  have hnew : List.foldl (fun x1 x2 => x1 ++ x2) #[] (List.replicate (if its.toArray.isEmpty = true then 0 else k.toNat) its.toArray) = (List.replicate k.toNat its).flatten.toArray := by
    have f0 : ∀ m : Nat, List.foldl (fun x1 x2 => x1 ++ x2) #[] (List.replicate m its.toArray) = (List.replicate m its).flatten.toArray := fun m => by
      have := foldl_rep its m []
      rw [List.nil_append] at this
      exact this
    rw [f0]
    cases its with
    | nil => simp
    | cons a r' => rw [if_neg (by simp)]
  refine wpAny_binaryOp_repeat_ref (T := "list") (U := "int") (by decide) ⟨_, e, rfl⟩ (fun s' => typeIs_int s' k t) noFill_list_mul F.fills_int_mul F.slot_int_rmul repeat_list F.slot_int_index.lookup
    (call_meets F.slot_int_rmul (typeIs_int s k t) F.entry_int_rmul (F.args_int_rmul_2 _ _) (int___rmul___int_list k t l its.toArray n)
      ⟨e, rfl, ⟨_, e, rfl⟩, call_meets F.slot_list_mul ⟨_, e, rfl⟩ F.entry_list_mul (F.args_list_mul_2 _ _) (AutoListH.list___mul___list_int_3 l its.toArray n k t hfit hcap hlong) ⟨e, ?_⟩⟩)
  rw [hnew]
  exact ⟨.ref _, _, I.lnew (t' := s.toks) (r.rep k.toNat) (by rw [PyProof.Rows.lm_len_rep_flat, Nat.mul_comm]; exact hz), rfl, q _ I.fresh⟩
end
theorem RepAll.rep {T : Tbl} {H : Hp} {ds : List D} {vs : List V} (h : RepAll T H ds vs) : ∀ n : Nat, RepAll T H (List.replicate n ds).flatten (List.replicate n vs).flatten
  | 0 => by simp [RepAll]
  | n + 1 => by
    rw [List.replicate_succ, List.replicate_succ, List.flatten_cons, List.flatten_cons]
    exact h.app (RepAll.rep h n)
theorem o_reps : OpR X (binaryOp .Mult) (fun x y H Q => ∃ z n, x = .str z ∧ y = .int n ∧ 2 ≤ n ∧ n ≤ 1000 ∧ 1 ≤ z.length ∧ z.length * n.toNat ≤ sizeLine ∧ Q (.str (repS z n.toNat)) H) := by
  intro pins s σ H x y v u Q I rx ry h
  obtain ⟨z, n, rfl, rfl, h1, h2, h3, h4, q⟩ := h
  obtain ⟨t, rfl⟩ := rx
  obtain ⟨t', rfl⟩ := ry
  have hl : Builtin.Str.tooLong (z.length * n.toNat) = false := by unfold Builtin.Str.tooLong; rw [decide_eq_false_iff_not]; omega
  have hz : z.length ≤ sizeLine := Nat.le_trans (Nat.le_mul_of_pos_right _ (by omega)) h4
  refine P.mul_str (by rw [decide_eq_false (by omega), decide_eq_false (by omega)]; rfl) (fun _ _ => ?_) (fun _ _ => hl) ?_
  · rw [PySem.sizeLine_eq] at hz
    have hz' : (z.length : Int) ≤ 2 ^ 40 := by omega
    refine Int.not_lt.mpr ((Int.le_ediv_iff_mul_le (by omega)).mpr (Int.le_trans (Int.mul_le_mul hz' h2 (by omega) (by decide)) (by decide)))
  · rw [if_neg (by omega), if_neg (by simp <;> omega)]
    exact ⟨fits_reps hl, .str (repS z n.toNat), H, I.tok _, ⟨_, rfl⟩, q⟩
theorem o_mul : OpR X (binaryOp .Mult) (rD T (op2 .mul)) :=
  orI ((op_mulA.or o_rep).or o_reps) fun x y H Q ⟨H0, dx, dy, d, e, hx, hy, hg, q⟩ => by
    cases dx with
    | int i =>
      cases dy with
      | int j =>
        simp only [op2] at hg
        split at hg
        · rename_i z
          cases hg
          exact .inl (.inl ⟨i, j, rd_int hx, rd_int hy, by simpa [mulOk, bnd64, CMulA, CMul, CMulW] using z, q _ _ _ (Gr.rfl' e) (.flat rfl (r_int _ _ _))⟩)
        · cases hg
      | _ => cases hg
    | lst xs =>
      cases dy with
      | int j =>
        simp only [op2] at hg
        split at hg
        · rename_i z
          cases hg
          simp only [Bool.and_eq_true, decide_eq_true_eq] at z
          obtain ⟨a, us, rfl, h1, h2⟩ := rd_lst e hx
          refine .inl (.inr ⟨a, j, us, rfl, rd_int hy, h1, by omega, by omega, ?_, fun p hp => ?_⟩)
          · rw [h2.len]; exact Nat.le_trans z.2 lim_line
          · exact q _ _ _ (Gr.own e hp) (.lst e hp (h2.rep _))
        · cases hg
      | _ => cases hg
    | str z =>
      cases dy with
      | int j =>
        simp only [op2] at hg
        split at hg
        · rename_i w
          cases hg
          simp only [Bool.and_eq_true, decide_eq_true_eq] at w
          exact .inr ⟨z, j, rd_str hx, rd_int hy, w.1.1.1, w.1.1.2, w.1.2, Nat.le_trans w.2 lim_line, q _ _ _ (Gr.rfl' e) (.flat rfl (r_str _ _ _))⟩
        · cases hg
      | _ => cases hg
    | _ => cases hg
theorem o_add : OpR X (binaryOp .Add) (rD T (op2 .add)) :=
  orI ((op_add.or (o_cat (X := X))).or op_add_str) fun x y H Q ⟨H0, dx, dy, d, e, hx, hy, hg, q⟩ => by
    cases dx with
    | int i =>
      cases dy with
      | int j =>
        cases hg
        exact .inl (.inl ⟨i, j, rd_int hx, rd_int hy, q _ _ _ (Gr.rfl' e) (.flat rfl (r_int _ _ _))⟩)
      | _ => cases hg
    | str i =>
      cases dy with
      | str j =>
        simp only [op2] at hg
        split at hg
        · rename_i hl
          cases hg
          exact .inr ⟨i, j, rd_str hx, rd_str hy, Nat.le_trans hl lim_line, q _ _ _ (Gr.rfl' e) (.flat rfl (r_str _ _ _))⟩
        · cases hg
      | _ => cases hg
    | lst xs =>
      cases dy with
      | lst ys =>
        simp only [op2] at hg
        split at hg
        · rename_i hl
          cases hg
          obtain ⟨a, us, rfl, h1, h2⟩ := rd_lst e hx
          obtain ⟨b, ws, rfl, h3, h4⟩ := rd_lst e hy
          refine .inl (.inr ⟨a, b, us, ws, rfl, rfl, h1, h3, ?_, fun p hp => ?_⟩)
          · rw [h2.len, h4.len]; exact Nat.le_trans hl lim_line
          · exact q _ _ _ (Gr.own e hp) (.lst e hp (h2.app h4))
        · cases hg
      | _ => cases hg
    | _ => cases hg
end
section
variable {X : Cx} {T : Tbl}
mutual
theorem dp_of {H0 H : Hp} (hK : X.K = T.K) (e : Ext H0 H) : ∀ (d : D) (p : PyData) (v : V), toPy d = some p → Rep T H0 d v → Dp X.K H v p
  | .non, p, v, h, r => by simp only [toPy] at h; cases h; simp only [Rep] at r; subst r; exact .non
  | .bl b, p, v, h, r => by simp only [toPy] at h; cases h; simp only [Rep] at r; subst r; exact .bl b
  | .int b, p, v, h, r => by simp only [toPy] at h; cases h; simp only [Rep] at r; subst r; exact .int b
  | .str b, p, v, h, r => by simp only [toPy] at h; cases h; simp only [Rep] at r; subst r; exact .str b
  | .lst ds, p, v, h, r => by
    simp only [toPy, Option.map_eq_some_iff] at h
    obtain ⟨ps, h1, rfl⟩ := h
    simp only [Rep] at r
    obtain ⟨a, xs, rfl, r1, r2⟩ := r
    exact .lst (.inl (e.rd r1)) (dpAll_of hK e ds ps xs h1 r2)
  | .tup ds, p, v, h, r => by
    simp only [toPy, Option.map_eq_some_iff] at h
    obtain ⟨ps, h1, rfl⟩ := h
    simp only [Rep] at r
    obtain ⟨a, xs, rfl, r1, r2⟩ := r
    exact .tup (hK ▸ e.sqT r1) (dpAll_of hK e ds ps xs h1 r2)
  | .kst ds, p, v, h, r => by
    simp only [toPy, Option.map_eq_some_iff] at h
    obtain ⟨ps, h1, rfl⟩ := h
    simp only [Rep] at r
    obtain ⟨a, xs, rfl, r1, r2⟩ := r
    exact .lst (hK ▸ e.sqL r1) (dpAll_of hK e ds ps xs h1 r2)
  | .dK _ _, p, v, h, r => by simp only [toPy] at h; cases h
  | .dT _ _, p, v, h, r => by simp only [toPy] at h; cases h
  | .obj _ _ _, p, v, h, r => by simp only [toPy] at h; cases h
  | .cls _, p, v, h, r => by simp only [toPy] at h; cases h
  | .err _ _ _, p, v, h, r => by simp only [toPy] at h; cases h
theorem dpAll_of {H0 H : Hp} (hK : X.K = T.K) (e : Ext H0 H) : ∀ (ds : List D) (ps : List PyData) (vs : List V), toPyAll ds = some ps → RepAll T H0 ds vs → DpAll X.K H vs ps
  | [], ps, vs, h, r => by simp only [toPyAll] at h; cases h; simp only [RepAll] at r; subst r; exact .nil
  | d :: ds, ps, vs, h, r => by
    simp only [toPyAll] at h
    simp only [RepAll] at r
    obtain ⟨v, r', rfl, r1, r2⟩ := r
    split at h
    · rename_i p ps' q1 q2
      cases h
      exact .cons (dp_of hK e d p v q1 r1) (dpAll_of hK e ds ps' r' q2 r2)
    · cases h
end
theorem dp_rd {H0 H : Hp} (hK : X.K = T.K) (e : Ext H0 H) {d : D} {p : PyData} {v : V} (h : toPy d = some p) (r : RdV T H0 H d v) : Dp X.K H v p := by
  rcases r with r | r
  · exact dp_of hK e d p v h r
  · cases d with
    | lst ds =>
      simp only [toPy, Option.map_eq_some_iff] at h
      obtain ⟨ps, h1, rfl⟩ := h
      obtain ⟨a, xs, rfl, h0, h2, h3⟩ := r
      exact .lst (SqL.of h2) (dpAll_of hK e ds ps xs h1 h3)
    | dK _ _ => cases h
    | dT _ _ => cases h
    | obj _ _ _ => cases h
    | _ => exact r.elim
theorem eqP_inv {x y : D} {b : Bool} (h : eqP x y = some b) : ∃ p q, toPy x = some p ∧ toPy y = some q ∧ SeqAt.shaped p = true ∧ SeqAt.shaped q = true ∧ b = PyData.eqv p q := by
  unfold eqP at h
  split at h
  · rename_i p q h1 h2
    split at h
    · rename_i z
      cases h
      rw [Bool.and_eq_true] at z
      exact ⟨p, q, h1, h2, z.1, z.2, rfl⟩
    · cases h
  · cases h
theorem eqD_inv {x y : D} {b : Bool} (h : eqD x y = some b) : (∃ u v, x = .str u ∧ y = .str v ∧ b = decide (u = v)) ∨ eqP x y = some b := by
  unfold eqD at h
  split at h
  · cases h; exact .inl ⟨_, _, rfl, rfl, rfl⟩
  · exact .inr h
theorem dec_strV (u v : Str) : decide (V.str u = V.str v) = decide (u = v) := decide_eq_decide.mpr ⟨fun h => by cases h; rfl, fun h => by rw [h]⟩
theorem o_eq (hK : X.K = T.K) (hu : X.A.units + 64 < cLine) : OpR X (compareOp .Eq) (rD T (op2 .eq)) :=
  orI ((op_eqD hu).or op_eq) fun x y H Q ⟨H0, dx, dy, d, e, hx, hy, hg, q⟩ => by
    have hg' : (eqD dx dy).map D.bl = some d := by cases dx <;> cases dy <;> exact hg
    rw [Option.map_eq_some_iff] at hg'
    obtain ⟨b, h1, rfl⟩ := hg'
    rcases eqD_inv h1 with ⟨u, v, rfl, rfl, rfl⟩ | h1
    · cases rd_str hx
      cases rd_str hy
      exact .inr ⟨rfl, by rw [dec_strV]; exact q _ _ _ (Gr.rfl' e) (.flat rfl (r_bl _ _ _))⟩
    · obtain ⟨p, p', h2, h3, s1, s2, rfl⟩ := eqP_inv h1
      exact .inl ⟨p, p', dp_rd hK e h2 hx, dp_rd hK e h3 hy, s1, s2, q _ _ _ (Gr.rfl' e) (.flat rfl (r_bl _ _ _))⟩
theorem o_ne (hK : X.K = T.K) (hu : X.A.units + 64 < cLine) : OpR X (compareOp .NotEq) (rD T (op2 .ne)) :=
  orI ((op_neD hu).or op_ne) fun x y H Q ⟨H0, dx, dy, d, e, hx, hy, hg, q⟩ => by
    have hg' : ((eqD dx dy).map fun b => D.bl (!b)) = some d := by cases dx <;> cases dy <;> exact hg
    rw [Option.map_eq_some_iff] at hg'
    obtain ⟨b, h1, rfl⟩ := hg'
    rcases eqD_inv h1 with ⟨u, v, rfl, rfl, rfl⟩ | h1
    · cases rd_str hx
      cases rd_str hy
      exact .inr ⟨rfl, by rw [dec_strV]; exact q _ _ _ (Gr.rfl' e) (.flat rfl (r_bl _ _ _))⟩
    · obtain ⟨p, p', h2, h3, s1, s2, rfl⟩ := eqP_inv h1
      exact .inl ⟨p, p', dp_rd hK e h2 hx, dp_rd hK e h3 hy, s1, s2, q _ _ _ (Gr.rfl' e) (.flat rfl (r_bl _ _ _))⟩
variable {C : Ctx} {W : WX} {cl : CallF} {e a b c : Expr} {e' a' b' c' : Ex} {pos : Pos}
theorem c_var {i : Nat} (h : PE X e (tVar i)) : PE X e (tI C W cl (.var i)) := peI h fun σ H Q ⟨H0, env, S, q⟩ => by
  have z := S.slots i
  simp only [ev] at q
  split at q
  · exact q.elim
  · rename_i d hd
    rw [hd] at z
    obtain ⟨v, h1, h2⟩ := z
    exact ⟨v, h1, q H0 H (Ext.rfl' _) S v h2⟩
  · rename_i n1 n2
    have : ∃ v, σ[i]? = some (some v) := by
      cases hs : getS env i with
      | un => exact (n1 hs).elim
      | fn => rw [hs] at z; exact ⟨_, z⟩
      | fz d => exact (n2 d hs).elim
      | ow d => rw [hs] at z; obtain ⟨x, h1, _⟩ := z; exact ⟨_, h1⟩
      | io d => rw [hs] at z; obtain ⟨x, h1, _⟩ := z; exact ⟨_, h1⟩
    obtain ⟨v, h1⟩ := this
    exact ⟨v, h1, q H0 H (Ext.rfl' _) S v h1⟩
theorem c_cst {d : D} {v : V} (h : PE X e (tC v)) (hr : ∀ H, Rep C.T H d v) : PE X e (tI C W cl (.cst d)) := peI h fun σ H Q ⟨H0, env, S, q⟩ => by
  simp only [ev] at q
  exact q H0 H (Ext.rfl' _) S v (hr H0)
/-- behind an operation -/
theorem fin_nw {σ : L2.St} {H0 H H0' H' : Hp} {env : Env} {Q : VK} {z : D} {v : V} (S : Sim C σ H0 H env) (h : RQ C W σ (KV C σ Q) H0 (.ok (.nw z) env)) (g : Gr C.T H0 H H0' H') (r : RepG C.T H0' H' H z v) : Q v H' :=
  h H0' H' g.e0 (S.gr g) v (r.nw S)
theorem two {σ : L2.St} {H0 H : Hp} {env : Env} {o : O2} {Q : VK} (S : Sim C σ H0 H env) (q : RQ C W σ (KV C σ Q) H0 (ev cl (.op2 o a' b') env)) : tOp (rD C.T (op2 o)) (tI C W cl a') (tI C W cl b') σ H Q := by
  simp only [ev] at q
  refine seqI S q fun u env1 x H1 H1' e1 S1 u1 q1 => ?_
  obtain ⟨H1f, e1f, S1f, u1f⟩ := S1.pend u1
  refine seqI S1f (RQ.mono e1f q1) fun w env2 y H2 H2' e2 S2 u2 q2 => ?_
  obtain ⟨dx, hx, q2⟩ := q2.orB
  obtain ⟨dy, hy, q2⟩ := q2.orB
  obtain ⟨z, hz, q2⟩ := q2.orB
  exact ⟨H2, dx, dy, z, S2.ex, S2.rd (u1f.wait e2) hx, S2.rd u2 hy, hz, fun v H0' H' g r => fin_nw S2 q2 g r⟩
theorem c_bin {op : Operator} {o : O2} (ho : OpR X (binaryOp op) (rD C.T (op2 o))) (ha : PE X a (tI C W cl a')) (hb : PE X b (tI C W cl b')) : PE X (.BinOp a op b pos) (tI C W cl (.op2 o a' b')) :=
  peI (pe_op ho ha hb) fun σ H Q ⟨H0, env, S, q⟩ => two S q
theorem c_cmp {op : CmpOp} {o : O2} (ho : OpR X (compareOp op) (rD C.T (op2 o))) (ha : PE X a (tI C W cl a')) (hb : PE X b (tI C W cl b')) (hm : behindInMarks op b = false) : PE X (.Compare a [op] [b] pos) (tI C W cl (.op2 o a' b')) :=
  peI (pe_cmpR ho ha hb hm) fun σ H Q ⟨H0, env, S, q⟩ => two S q
/-- a op b op' c -/
theorem c_chain {op op' : CmpOp} {o p : O2} (ho : OpR X (compareOp op) (rD C.T (op2 o))) (ho' : OpR X (compareOp op') (rD C.T (op2 p))) (ha : PE X a (tI C W cl a')) (hb : PE X b (tI C W cl b')) (hc : PE X c (tI C W cl c'))
    (hm : lastMarks [op, op'] [b, c] = false := by with_unfolding_all rfl) : PE X (.Compare a [op, op'] [b, c] pos) (tI C W cl (.chain o p a' b' c')) :=
  peI (pe_chain ho ho' ha hb hc hm) fun σ H Q ⟨H0, env, S, q⟩ => by
    simp only [ev] at q
    refine seqI S q fun u env1 x H1 H1' e1 S1 u1 q1 => ?_
    obtain ⟨H1f, e1f, S1f, u1f⟩ := S1.pend u1
    refine seqI S1f (RQ.mono e1f q1) fun w env2 y H2 H2' e2 S2 u2 q2 => ?_
    obtain ⟨H2f, e2f, S2f, u2f⟩ := S2.pend u2
    have q2 := RQ.mono e2f q2
    obtain ⟨dx, hx, q2⟩ := q2.orB
    obtain ⟨dy, hy, q2⟩ := q2.orB
    obtain ⟨z, hz, q2⟩ := q2.orB
    refine ⟨H2f, dx, dy, z, S2f.ex, S2f.rd (u1f.wait (e2.tr e2f)) hx, S2f.rd u2f hy, hz, fun v H0' H' g r => ?_⟩
    split at q2
    · have hv : v = .bl true := by simpa only [RepG, isMutD, Rep, Bool.false_eq_true, if_false] using r
      subst hv
      refine ⟨true, rfl, ?_⟩
      rw [if_pos rfl]
      have S3 := S2f.gr g
      refine seqI S3 (RQ.mono g.e0 q2) fun t env3 y3 H3 H3' e3 S4 u3 q3 => ?_
      obtain ⟨dy', hy', q3⟩ := q3.orB
      obtain ⟨dr, hr, q3⟩ := q3.orB
      obtain ⟨z', hz', q3⟩ := q3.orB
      exact ⟨H3, dy', dr, z', S4.ex, S4.rd (u2f.wait (g.e0.tr e3)) hy', S4.rd u3 hr, hz', fun v H0' H' g r => fin_nw S4 q3 g r⟩
    · have hv : v = .bl false := by simpa only [RepG, isMutD, Rep, Bool.false_eq_true, if_false] using r
      subst hv
      refine ⟨false, rfl, ?_⟩
      rw [if_neg Bool.false_ne_true]
      exact fin_nw S2f q2 g r
    · exact q2.elim
theorem c_and {rest : List Expr} (hK : X.K = C.T.K) (ha : PE X a (tI C W cl a')) (hb : PE X (.BoolOp .And (b :: rest) pos) (tI C W cl b')) : PE X (.BoolOp .And (a :: b :: rest) pos) (tI C W cl (.and a' b')) :=
  peI (pe_andT ha hb) fun σ H Q ⟨H0, env, S, q⟩ => by
    simp only [ev] at q
    refine seqI S q fun u env1 x H1 H1' e1 S1 u1 q1 => ?_
    obtain ⟨dx, hx, q1⟩ := q1.orB
    obtain ⟨t, ht, q1⟩ := q1.orB
    refine ⟨t, hK ▸ rd_truth S1.ex (S1.rd u1 hx) ht, ?_⟩
    cases t with
    | true =>
      rw [if_pos rfl]
      exact ⟨H1, env1, S1, q1⟩
    | false =>
      rw [if_neg Bool.false_ne_true]
      obtain ⟨H1f, e1f, S1f, u1f⟩ := S1.pend u1
      exact q1 H1f H1' e1f S1f x u1f
theorem c_one {op : BoolOp} (ha : PE X a (tI C W cl a')) : PE X (.BoolOp op [a] pos) (tI C W cl a') := pe_one ha
theorem c_not (hK : X.K = C.T.K) (ha : PE X a (tI C W cl a')) : PE X (.UnaryOp .Not a pos) (tI C W cl (.not a')) :=
  peI (pe_notT ha) fun σ H Q ⟨H0, env, S, q⟩ => by
    simp only [ev] at q
    refine seqI S q fun u env1 x H1 H1' e1 S1 u1 q1 => ?_
    obtain ⟨dx, hx, q1⟩ := q1.orB
    obtain ⟨t, ht, q1⟩ := q1.orB
    exact ⟨t, hK ▸ rd_truth S1.ex (S1.rd u1 hx) ht, fin_nw S1 q1 (Gr.rfl' S1.ex) (.flat rfl (r_bl _ _ _))⟩
/-- a test -/
theorem t_tru (hK : X.K = C.T.K) (ha : PE X a (tI C W cl a')) (he : ∀ whole, isTrue a X.env whole = (do let v ← whole; standAt a.pos; holding [v] (truthy v)) := by intro _; rfl) : PT X a (tT C W cl a') :=
  ptI (pt_truth ha he) fun σ H Q ⟨H0, env, S, q⟩ => by
    simp only [evT] at q
    refine seqI S q fun u env1 x H1 H1' e1 S1 u1 q1 => ?_
    obtain ⟨dx, hx, q1⟩ := q1.orB
    obtain ⟨t, ht, q1⟩ := q1.orB
    exact ⟨t, hK ▸ rd_truth S1.ex (S1.rd u1 hx) ht, q1 H1 H1' (Ext.rfl' _) S1⟩
end
end PP
end
section
set_option maxHeartbeats 1000000
namespace PP
open PySem L2
def tAF (C : Ctx) (W : WX) (cl : CallF) (es : Exs) : TA := fun σ H Q => ∃ H0 env, Sim C σ H0 H env ∧ RQ C W σ (fun ds _ H0' H' => ∀ vs, RepAll C.T H0' ds vs → Q vs H') H0 (evF cl es env)
def UsOk (C : Ctx) (σ : L2.St) (H0 H : Hp) (env : Env) : List U → List V → Prop
  | [], vs => vs = []
  | u :: us, vs => ∃ v r, vs = v :: r ∧ (∃ u', u = pend u' ∧ UOk C σ H0 H env (pend u') v) ∧ UsOk C σ H0 H env us r
def tAR (C : Ctx) (W : WX) (cl : CallF) (es : Exs) : TA := fun σ H Q => ∃ H0 env, Sim C σ H0 H env ∧ RQ C W σ (fun us env' H0' H' => ∀ vs, UsOk C σ H0' H' env' us vs → Q vs H') H0 (evR cl es env)
def RdAll (T : Tbl) (H0 H : Hp) : List D → List V → Prop
  | [], vs => vs = []
  | d :: ds, vs => ∃ v r, vs = v :: r ∧ RdV T H0 H d v ∧ RdAll T H0 H ds r
section
variable {C : Ctx} {W : WX} {σ : L2.St} {cl : CallF} {H0 H H0' H' : Hp} {env : Env}
theorem Sim.takeK (S : Sim C σ H0 H env) {i : Nat} {v : V} {d : D} {env' : Env} (e : σ[i]? = some (some v)) (hf : fzU env (.sl i) = some (d, env')) : ∃ H0', Ext H0 H0' ∧ Sim C σ H0' H env' ∧ Rep C.T H0' d v ∧ ∀ a, H0 a = none → ∀ o, H0' a = some o → (∀ ps, o ≠ .tup ps) ∧ ∀ x u, o ≠ .frz x u := by
  have q := S.slots i
  cases z : getS env i with
  | un => simp [fzU, z] at hf
  | fn => simp [fzU, z] at hf
  | io x => simp [fzU, z] at hf
  | fz x =>
    simp [fzU, z] at hf
    obtain ⟨rfl, rfl⟩ := hf
    rw [z] at q
    obtain ⟨w, h1, h2⟩ := q
    rw [e] at h1; cases h1
    exact ⟨H0, Ext.rfl' _, S, h2, fun a h o h' => by rw [h] at h'; cases h'⟩
  | ow x =>
    simp [fzU, z] at hf
    obtain ⟨rfl, rfl⟩ := hf
    rw [z] at q
    obtain ⟨a, h1, h2, h3⟩ := q
    rw [e] at h1; cases h1
    obtain ⟨h0, o, ho⟩ := h3.some
    have hi : i < env.length := by
      rw [S.len]
      exact (List.getElem?_eq_some_iff.mp e).1
    have gs : ∀ j, getS (env.set i (.fz x)) j = if i = j then .fz x else getS env j := fun j => by
      unfold getS
      simp only [List.getD_eq_getElem?_getD, List.getElem?_set]
      split
      · rename_i z2; subst z2; simp [hi]
      · rfl
    refine ⟨upd H0 a o, ext_upd h0, ?_, h3.froz ho, fun b hb o' ho' => by
      by_cases z : b = a
      · subst z; rw [upd_same] at ho'; cases ho'; exact h3.kindT ho
      · rw [upd_ne z, hb] at ho'; cases ho'⟩
    exact {
      ok := S.ok
      ex := fun b u q => by
        by_cases z : b = a
        · subst z; rw [upd_same] at q; cases q; exact ho
        · rw [upd_ne z] at q; exact S.ex _ _ q
      ex0 := S.ex0.tr (ext_upd h0)
      fresh := fun b q q' => by
        by_cases z : b = a
        · subst z; exact h2
        · rw [upd_ne z] at q'; exact S.fresh b q q'
      keep := S.keep
      tabs := S.tabs
      tno := S.tnoU ho (h3.kind ho).1
      ioH := S.ioH
      len := by rw [List.length_set]; exact S.len
      slots := fun j => by
        rw [gs j]
        split
        · rename_i z2
          subst z2
          exact ⟨_, e, h3.froz ho⟩
        · rename_i z2
          refine (S.slots j).step (ext_upd h0) fun b hb eb => ?_
          have zb : b ≠ a := fun zb => S.inj i j a z2 (by rw [z]; rfl) hb e (by rw [← zb]; exact eb)
          exact ⟨by rw [upd_ne zb]; exact (S.own hb eb).1, rfl⟩
      inj := fun j k b hjk hj hk ej ek => by
        rw [gs j] at hj
        rw [gs k] at hk
        split at hj
        · cases hj
        · split at hk
          · cases hk
          · exact S.inj j k b hjk hj hk ej ek }
/-- taken for good -/
theorem Sim.take (S : Sim C σ H0 H env) {u : U} {v : V} {d : D} {env' : Env} (h : UOk C σ H0 H env u v) (hf : fzU env u = some (d, env')) : ∃ H0', Ext H0 H0' ∧ Sim C σ H0' H env' ∧ Rep C.T H0' d v := by
  cases u with
  | d x => cases hf; exact ⟨H0, Ext.rfl' _, S, h⟩
  | nw x =>
    cases hf
    obtain ⟨H0', e, S', h'⟩ := S.pend h
    exact ⟨H0', e, S', h'⟩
  | sl i =>
    obtain ⟨H0', a, b, c, _⟩ := S.takeK h hf
    exact ⟨H0', a, b, c⟩
theorem UsOk.mono (e : Ext H0 H0') : ∀ {us : List U} {vs : List V} {env' : Env}, UsOk C σ H0 H env us vs → UsOk C σ H0' H' env' us vs
  | [], _, _, h => h
  | u :: us, _, _, h => by
    obtain ⟨v, r, rfl, ⟨u', rfl, h1⟩, h2⟩ := h
    exact ⟨v, r, rfl, ⟨u', rfl, h1.wait e⟩, UsOk.mono e h2⟩
theorem UsOk.rd (S : Sim C σ H0 H env) : ∀ {us : List U} {vs : List V} {ds : List D}, UsOk C σ H0 H env us vs → rdAll env us = some ds → RdAll C.T H0 H ds vs
  | [], _, _, h, q => by cases q; exact h
  | u :: us, _, _, h, q => by
    obtain ⟨v, r, rfl, ⟨u', rfl, h1⟩, h2⟩ := h
    unfold rdAll at q
    split at q
    · rename_i d ds q1 q2
      cases q
      exact ⟨v, r, rfl, S.rd h1 q1, UsOk.rd S h2 q2⟩
    · cases q
end
theorem paI {X : Cx} {es : List Expr} {t t' : TA} (h : PA X es t) (i : ∀ σ H Q, t' σ H Q → t σ H Q) : PA X es t' := ⟨fun pos pins s σ H Q I q => h.run pos pins s σ H Q I (i σ H Q q)⟩
section
variable {X : Cx} {C : Ctx} {W : WX} {cl : CallF} {e a b c : Expr} {es : List Expr} {e' a' b' c' : Ex} {es' : Exs} {pos : Pos}
theorem f_nil : PA X [] (tAF C W cl .nil) := paI pa_nil fun σ H Q ⟨H0, env, S, q⟩ => q H0 H (Ext.rfl' _) S [] (by simp only [RepAll])
theorem f_cons (ha : PE X e (tI C W cl e')) (hr : PA X es (tAF C W cl es')) (hs : starEach (e :: es) X.env = (false, eval e X.env) :: starEach es X.env := by rfl) : PA X (e :: es) (tAF C W cl (.cons e' es')) :=
  paI (pa_cons ha hr hs) fun σ H Q ⟨H0, env, S, q⟩ => by
    simp only [evF] at q
    refine seqI S q fun u env1 x H1 H1' e1 S1 u1 q1 => ?_
    obtain ⟨⟨d, env2⟩, hf, q1⟩ := q1.orB
    obtain ⟨H2, e2, S2, r2⟩ := S1.take u1 hf
    have q2 := RQ.mono e2 q1
    refine ⟨H2, env2, S2, ?_⟩
    cases z : evF cl es' env2 with
    | ok ds env3 =>
      simp only [z] at q2
      exact fun H3 H3' e3 S3 vs hv => q2 H3 H3' e3 S3 (x :: vs) (by simp only [RepAll]; exact ⟨x, vs, rfl, Rep.mono e3 _ _ r2, hv⟩)
    | exc x env3 => simp only [z] at q2; exact q2
    | bad => simp only [z] at q2; exact q2
theorem r_nil : PA X [] (tAR C W cl .nil) := paI pa_nil fun σ H Q ⟨H0, env, S, q⟩ => q H0 H (Ext.rfl' _) S [] rfl
theorem r_cons (ha : PE X e (tI C W cl e')) (hr : PA X es (tAR C W cl es')) (hs : starEach (e :: es) X.env = (false, eval e X.env) :: starEach es X.env := by rfl) : PA X (e :: es) (tAR C W cl (.cons e' es')) :=
  paI (pa_cons ha hr hs) fun σ H Q ⟨H0, env, S, q⟩ => by
    simp only [evR] at q
    refine seqI S q fun u env1 x H1 H1' e1 S1 u1 q1 => ?_
    obtain ⟨H2, e2, S2, r2⟩ := S1.pend u1
    have q2 := RQ.mono e2 q1
    refine ⟨H2, env1, S2, ?_⟩
    cases z : evR cl es' env1 with
    | ok ds env3 =>
      simp only [z] at q2
      exact fun H3 H3' e3 S3 vs hv => q2 H3 H3' e3 S3 (x :: vs) ⟨x, vs, rfl, ⟨u, rfl, r2.wait e3⟩, hv⟩
    | exc x env3 => simp only [z] at q2; exact q2
    | bad => simp only [z] at q2; exact q2
theorem c_tup {k : Nat} (h : PA X es (tAF C W cl es')) : PE X (.Tuple es k pos) (tI C W cl (.tup es')) :=
  peI (pe_tup h) fun σ H Q ⟨H0, env, S, q⟩ => by
    simp only [ev] at q
    refine ⟨H0, env, S, ?_⟩
    cases z : evF cl es' env with
    | ok ds env3 =>
      simp only [z, R.bind_ok] at q
      split at q
      · rename_i hl
        intro H1 H1' e1 S1 vs hv
        refine ⟨by rw [hv.len]; exact Nat.le_trans hl lim_line, fun p hp => ?_⟩
        refine fin_nw S1 (RQ.mono e1 q) (Gr.froz S1.ex hp) (.flat rfl ?_)
        simp only [Rep]
        exact ⟨p, vs, rfl, SqT.of upd_same, RepAll.mono (ext_upd (S1.ex.no hp)) _ _ hv⟩
      · exact q.elim
    | exc x env3 => simp only [z] at q; exact q
    | bad => simp only [z] at q; exact q
theorem c_lst (h : PA X es (tAF C W cl es')) : PE X (.List es pos) (tI C W cl (.lst es')) :=
  peI (pe_lst h) fun σ H Q ⟨H0, env, S, q⟩ => by
    simp only [ev] at q
    refine ⟨H0, env, S, ?_⟩
    cases z : evF cl es' env with
    | ok ds env3 =>
      simp only [z, R.bind_ok] at q
      split at q
      · rename_i hl
        intro H1 H1' e1 S1 vs hv
        refine ⟨by rw [hv.len]; exact Nat.le_trans hl lim_line, fun p hp => ?_⟩
        exact fin_nw S1 (RQ.mono e1 q) (Gr.own S1.ex hp) (.lst S1.ex hp hv)
      · exact q.elim
    | exc x env3 => simp only [z] at q; exact q
    | bad => simp only [z] at q; exact q
theorem x_lst (hK : X.K = C.T.K) (hu : X.A.units + 1 < cLine) : IxR X (fun x y H Q => ∃ H0 dx dy d, Ext H0 H ∧ RdV C.T H0 H dx x ∧ RdV C.T H0 H dy y ∧ ixD dx dy = some d ∧ ∀ v, Rep C.T H0 d v → Q v H) :=
  fun value slice pins s σ H x y v u Q I rx ry ⟨H0, dx, dy, d, e, hx, hy, hg, q⟩ hsub => by
    refine ((ix_list.or (ix_tup.or ix_str)).or (ix_dt hu)) value slice pins s σ H x y v u Q I rx ry ?_ hsub
    cases dx with
    | lst ds =>
      cases dy with
      | int i =>
        obtain ⟨a, xs, rfl, h1, h2⟩ := rd_lst e hx
        obtain ⟨w, h3, h4⟩ := h2.atI hg
        exact .inl (.inl ⟨a, xs, i, w, rfl, rd_int hy, .inl h1, h3, q w h4⟩)
      | _ => cases hg
    | tup ds =>
      cases dy with
      | int i =>
        obtain ⟨a, xs, rfl, h1, h2⟩ := rd_tup e hx
        obtain ⟨w, h3, h4⟩ := h2.atI hg
        exact .inl (.inr (.inl ⟨a, xs, i, w, rfl, rd_int hy, hK ▸ h1, h3, q w h4⟩))
      | _ => cases hg
    | kst ds =>
      cases dy with
      | int i =>
        obtain ⟨a, xs, rfl, h1, h2⟩ := rd_kst e hx
        obtain ⟨w, h3, h4⟩ := h2.atI hg
        exact .inl (.inl ⟨a, xs, i, w, rfl, rd_int hy, hK ▸ h1, h3, q w h4⟩)
      | _ => cases hg
    | str z =>
      cases dy with
      | int i =>
        simp only [ixD] at hg
        split at hg
        · rename_i hl
          rw [Option.map_eq_some_iff] at hg
          obtain ⟨c, hc, rfl⟩ := hg
          exact .inl (.inr (.inr ⟨z, i, c, rd_str hx, rd_int hy, Nat.le_trans hl lim_line, hc, q _ (r_str _ _ _)⟩))
        · cases hg
      | _ => cases hg
    | dT ks ds =>
      cases dy with
      | tup ys =>
        simp only [ixD] at hg
        rw [Option.bind_eq_some_iff] at hg
        obtain ⟨k, hk, hg⟩ := hg
        obtain ⟨a, od, es, rfl, h1, h2, h3, h4, h5⟩ := rd_dT e hx
        obtain ⟨b, rfl, h6⟩ := rd_key e hk hy
        obtain ⟨w, h7, h8⟩ := getDT_rep h3 h5 hg
        exact .inr ⟨a, b, od, es, k, w, rfl, rfl, h1, h2, hK ▸ e.kt3 h4, hK ▸ h6, h7, q w h8⟩
      | _ => cases hg
    | _ => cases hg
theorem c_ix (hK : X.K = C.T.K) (hu : X.A.units + 64 < cLine) (ha : PE X a (tI C W cl a')) (hb : PE X b (tI C W cl b')) (hs : PlainIx b := by exact fun _ _ => rfl) : PE X (.Subscript a b pos) (tI C W cl (.ix a' b')) :=
  peI (pe_ix (x_lst hK (by omega)) ha hb hs) fun σ H Q ⟨H0, env, S, q⟩ => by
    simp only [ev] at q
    refine seqI S q fun u env1 x H1 H1' e1 S1 u1 q1 => ?_
    obtain ⟨H1f, e1f, S1f, u1f⟩ := S1.pend u1
    refine seqI S1f (RQ.mono e1f q1) fun w env2 y H2 H2' e2 S2 u2 q2 => ?_
    obtain ⟨dx, hx, q2⟩ := q2.orB
    obtain ⟨dy, hy, q2⟩ := q2.orB
    obtain ⟨z, hz, q2⟩ := q2.orB
    exact ⟨H2, dx, dy, z, S2.ex, S2.rd (u1f.wait e2) hx, S2.rd u2 hy, hz, fun v r => q2 H2 H2' (Ext.rfl' _) S2 v r⟩
def rDn (T : Tbl) (g : List D → Option D) : List V → Hp → VK → Prop := fun vs H Q => ∃ H0 ds d, Ext H0 H ∧ RdAll T H0 H ds vs ∧ g ds = some d ∧ ∀ v H0' H', Gr T H0 H H0' H' → RepG T H0' H' H d v → Q v H'
theorem readB {σ : L2.St} {H : Hp} {Q : VK} {B : B} (h : tI C W cl (.bi B es') σ H Q) : tCB (rDn C.T (biD B)) (tAR C W cl es') σ H Q := by
  obtain ⟨H0, env, S, q⟩ := h
  simp only [ev] at q
  refine ⟨H0, env, S, ?_⟩
  cases z : evR cl es' env with
  | ok us env3 =>
    simp only [z, R.bind_ok] at q
    intro H1 H1' e1 S1 vs hv
    obtain ⟨ds, hd, q1⟩ := (RQ.mono e1 q).orB
    obtain ⟨d, hg, q1⟩ := q1.orB
    exact ⟨H1, ds, d, S1.ex, hv.rd S1 hd, hg, fun v H0' H' g r => fin_nw S1 q1 g r⟩
  | exc x env3 => simp only [z] at q; exact q
  | bad => simp only [z] at q; exact q
theorem c_biB {x : Str} {p : Pos} {id : String} {B : B} (hc : CallR X (.builtin id) (rDn C.T (biD B))) (hg : Gl X x) (hm : X.mg x = none) (hv : bootBuiltins x = some (.builtin id)) (ha : PA X (e :: es) (tAR C W cl es')) (hn : x ≠ "__name__" := by decide) (hdb : (x == ("__debug__" : Str)) = false := by decide)
    (he : starEach (e :: es) X.env = (false, eval e X.env) :: starEach es X.env := by rfl) (hpl : (backTo pos (starEach es X.env)).any (·.1) = false := by rfl) : PE X (.Call (.Name x p) (e :: es) [] pos) (tI C W cl (.bi B es')) :=
  peI (pe_callB hc hg hm hv ha hn hdb he hpl) fun _ _ _ q => readB q
theorem c_biT {x : Str} {p : Pos} {id : String} {B : B} (hc : CallR X (.type id) (rDn C.T (biD B))) (hg : Gl X x) (hm : X.mg x = none) (hv : bootBuiltins x = some (.type id)) (ha : PA X (e :: es) (tAR C W cl es')) (hn : x ≠ "__name__" := by decide) (hdb : (x == ("__debug__" : Str)) = false := by decide)
    (he : starEach (e :: es) X.env = (false, eval e X.env) :: starEach es X.env := by rfl) (hpl : (backTo pos (starEach es X.env)).any (·.1) = false := by rfl) : PE X (.Call (.Name x p) (e :: es) [] pos) (tI C W cl (.bi B es')) :=
  peI (pe_callTy hc hg hm hv ha hn hdb he hpl) fun _ _ _ q => readB q
theorem callI {f : Value} {r r' : List V → Hp → VK → Prop} (h : CallR X f r) (i : ∀ xs H Q, r' xs H Q → r xs H Q) : CallR X f r' := fun pins s σ H xs us Q I rx q => h pins s σ H xs us Q I rx (i xs H Q q)
theorem rd1 {T : Tbl} {H0 H : Hp} {d : D} {vs : List V} (h : RdAll T H0 H [d] vs) : ∃ v, vs = [v] ∧ RdV T H0 H d v := by
  obtain ⟨v, r, rfl, h1, h2⟩ := h
  cases h2
  exact ⟨v, rfl, h1⟩
theorem rd2 {T : Tbl} {H0 H : Hp} {d d' : D} {vs : List V} (h : RdAll T H0 H [d, d'] vs) : ∃ v v', vs = [v, v'] ∧ RdV T H0 H d v ∧ RdV T H0 H d' v' := by
  obtain ⟨v, r, rfl, h1, v', r', rfl, h2, h3⟩ := h
  cases h3
  exact ⟨v, v', rfl, h1, h2⟩
theorem b_len (hK : X.K = C.T.K) : CallR X (.builtin "len") (rDn C.T (biD .len)) := callI (call_len_seq.or call_len_str) fun xs H Q ⟨H0, ds, d, e, hr, hg, q⟩ => by
  match ds, hg with
  | [.lst ys], hg =>
    cases hg
    obtain ⟨v, rfl, h1⟩ := rd1 hr
    obtain ⟨a, us, rfl, h2, h3⟩ := rd_lst e h1
    exact .inl ⟨a, us, rfl, .inl (.inl h2), q _ _ _ (Gr.rfl' e) (.flat rfl (by rw [h3.len]; exact r_int _ _ _))⟩
  | [.tup ys], hg =>
    cases hg
    obtain ⟨v, rfl, h1⟩ := rd1 hr
    obtain ⟨a, us, rfl, h2, h3⟩ := rd_tup e h1
    exact .inl ⟨a, us, rfl, .inr (hK ▸ h2), q _ _ _ (Gr.rfl' e) (.flat rfl (by rw [h3.len]; exact r_int _ _ _))⟩
  | [.kst ys], hg =>
    cases hg
    obtain ⟨v, rfl, h1⟩ := rd1 hr
    obtain ⟨a, us, rfl, h2, h3⟩ := rd_kst e h1
    exact .inl ⟨a, us, rfl, .inl (hK ▸ h2), q _ _ _ (Gr.rfl' e) (.flat rfl (by rw [h3.len]; exact r_int _ _ _))⟩
  | [.str z], hg =>
    simp only [biD] at hg
    split at hg
    · rename_i hl
      cases hg
      obtain ⟨v, rfl, h1⟩ := rd1 hr
      cases rd_str h1
      exact .inr ⟨z, rfl, Nat.le_trans hl lim_line, q _ _ _ (Gr.rfl' e) (.flat rfl (r_int _ _ _))⟩
    · cases hg
theorem b_int : CallR X (.type "int") (rDn C.T (biD .int)) := callI (call_int1.or call_int_str) fun xs H Q ⟨H0, ds, d, e, hr, hg, q⟩ => by
  match ds, hg with
  | [.int i], hg =>
    cases hg
    obtain ⟨v, rfl, h1⟩ := rd1 hr
    cases rd_int h1
    exact .inl (.inl ⟨i, rfl, q _ _ _ (Gr.rfl' e) (.flat rfl (r_int _ _ _))⟩)
  | [.bl i], hg =>
    cases hg
    obtain ⟨v, rfl, h1⟩ := rd1 hr
    cases rd_bl h1
    exact .inl (.inr ⟨i, rfl, q _ _ _ (Gr.rfl' e) (.flat rfl (r_int _ _ _))⟩)
  | [.str z], hg =>
    simp only [biD] at hg
    split at hg
    · rename_i hl
      rw [Option.map_eq_some_iff] at hg
      obtain ⟨n, hn, rfl⟩ := hg
      obtain ⟨v, rfl, h1⟩ := rd1 hr
      cases rd_str h1
      exact .inr ⟨z, n, rfl, hn, hl, q _ _ _ (Gr.rfl' e) (.flat rfl (r_int _ _ _))⟩
    · cases hg
theorem b_abs : CallR X (.builtin "abs") (rDn C.T (biD .abs)) := callI call_abs fun xs H Q ⟨H0, ds, d, e, hr, hg, q⟩ => by
  match ds, hg with
  | [.int i], hg =>
    cases hg
    obtain ⟨v, rfl, h1⟩ := rd1 hr
    cases rd_int h1
    exact ⟨i, rfl, q _ _ _ (Gr.rfl' e) (.flat rfl (r_int _ _ _))⟩
theorem b_max (hc : X.calm = true) : CallR X (.builtin "max") (rDn C.T (biD .max2)) := callI (call_max2 hc) fun xs H Q ⟨H0, ds, d, e, hr, hg, q⟩ => by
  match ds, hg with
  | [.int i, .int j], hg =>
    cases hg
    obtain ⟨v, v', rfl, h1, h2⟩ := rd2 hr
    cases rd_int h1
    cases rd_int h2
    exact ⟨i, j, rfl, q _ _ _ (Gr.rfl' e) (.flat rfl (r_int _ _ _))⟩
theorem b_min (hc : X.calm = true) : CallR X (.builtin "min") (rDn C.T (biD .min2)) := callI (call_min2 hc) fun xs H Q ⟨H0, ds, d, e, hr, hg, q⟩ => by
  match ds, hg with
  | [.int i, .int j], hg =>
    cases hg
    obtain ⟨v, v', rfl, h1, h2⟩ := rd2 hr
    cases rd_int h1
    cases rd_int h2
    exact ⟨i, j, rfl, q _ _ _ (Gr.rfl' e) (.flat rfl (r_int _ _ _))⟩
theorem b_list (hK : X.K = C.T.K) : CallR X (.type "list") (rDn C.T (biD .list)) := callI call_list_of fun xs H Q ⟨H0, ds, d, e, hr, hg, q⟩ => by
  match ds, hg with
  | [.lst ys], hg =>
    cases hg
    obtain ⟨v, rfl, h1⟩ := rd1 hr
    obtain ⟨a, us, rfl, h2, h3⟩ := rd_lst e h1
    exact ⟨a, us, rfl, .inl (.inl h2), fun l hl => q _ _ _ (Gr.own e hl) (.lst e hl h3)⟩
  | [.tup ys], hg =>
    cases hg
    obtain ⟨v, rfl, h1⟩ := rd1 hr
    obtain ⟨a, us, rfl, h2, h3⟩ := rd_tup e h1
    exact ⟨a, us, rfl, .inr (hK ▸ h2), fun l hl => q _ _ _ (Gr.own e hl) (.lst e hl h3)⟩
  | [.kst ys], hg =>
    cases hg
    obtain ⟨v, rfl, h1⟩ := rd1 hr
    obtain ⟨a, us, rfl, h2, h3⟩ := rd_kst e h1
    exact ⟨a, us, rfl, .inl (hK ▸ h2), fun l hl => q _ _ _ (Gr.own e hl) (.lst e hl h3)⟩
end
end PP
end
section
set_option maxHeartbeats 1000000
namespace PP
open PySem L2
section
variable {X : Cx} {C : Ctx} {W : WX} {cl : CallF} {e a b c : Expr} {es : List Expr} {e' a' b' c' : Ex} {es' : Exs} {pos : Pos}
def tyN : D → String
  | .non => "NoneType" | .bl _ => "bool" | .int _ => "int" | .str _ => "str" | .lst _ => "list" | .tup _ => "tuple" | .kst _ => "list" | .dK _ _ => "dict" | .dT _ _ => "dict" | .obj _ _ _ => "object" | .cls _ => "type" | .err _ _ _ => "exception"
def isObjD : D → Bool
  | .obj _ _ _ => true | .cls _ => true | .err _ _ _ => true | .dT _ _ => true | _ => false
theorem tyx {T : Tbl} {H0 H : Hp} {d : D} {v : V} (hK : X.K = T.K) (e : Ext H0 H) (h : RdV T H0 H d v) (ho : isObjD d = false) : TyX X.K H v (.type (tyN d)) := by
  cases d with
  | non => cases rd_non h; exact .base .non
  | bl b => cases rd_bl h; exact .base (.bl _)
  | int b => cases rd_int h; exact .base (.int _)
  | str b => cases rd_str h; exact .base (.str _)
  | lst ds =>
    obtain ⟨a, xs, rfl, h1, h2⟩ := rd_lst e h
    rcases h1 with h1 | ⟨o, h1⟩
    · exact .base (.lst h1)
    · exact .base (.frz h1)
  | tup ds =>
    obtain ⟨a, xs, rfl, h1, h2⟩ := rd_tup e h
    rcases h1 with (h1 | ⟨o, h1⟩) | ⟨o, its, n, h1, h3, _⟩
    · exact .base (.tup h1)
    · exact .fTuple h1
    · exact .kTuple (hK ▸ h1) h3
  | kst ds =>
    obtain ⟨a, xs, rfl, h1, h2⟩ := rd_kst e h
    rcases h1 with (h1 | ⟨o, h1⟩) | ⟨o, its, n, h1, h3, _⟩
    · exact .base (.lst h1)
    · exact .base (.frz h1)
    · exact .kList (hK ▸ h1) h3
  | dK ks ds =>
    obtain ⟨a, xs, rfl, h1, h2⟩ := rd_dK e h
    rcases h1 with h1 | ⟨o, h1⟩
    · exact .base (.dK h1)
    · exact .fDict h1
  | dT ks ds => cases ho
  | obj c ks ds => cases ho
  | cls c => cases ho
  | err c ks ds => cases ho
/-- an object, an exception -/
def isXD : D → Bool
  | .obj _ _ _ => true | .err _ _ _ => true | _ => false
theorem isi_int : ∀ d z, biD .isInt [d] = some z → ∃ r, z = .bl r ∧ ((isObjD d = false ∧ kitB (tyN d) "int" = some r) ∨ (isXD d = true ∧ r = false)) := by
  intro d z h
  cases d <;> simp only [biD] at h <;> first | (cases h; done) | (cases h; exact ⟨_, rfl, .inl ⟨rfl, by simp only [tyN]; decide +kernel⟩⟩) | (cases h; exact ⟨_, rfl, .inr ⟨rfl, rfl⟩⟩)
theorem isi_bool : ∀ d z, biD .isBool [d] = some z → ∃ r, z = .bl r ∧ ((isObjD d = false ∧ kitB (tyN d) "bool" = some r) ∨ (isXD d = true ∧ r = false)) := by
  intro d z h
  cases d <;> simp only [biD] at h <;> first | (cases h; done) | (cases h; exact ⟨_, rfl, .inl ⟨rfl, by simp only [tyN]; decide +kernel⟩⟩) | (cases h; exact ⟨_, rfl, .inr ⟨rfl, rfl⟩⟩)
theorem isi_str : ∀ d z, biD .isStr [d] = some z → ∃ r, z = .bl r ∧ ((isObjD d = false ∧ kitB (tyN d) "str" = some r) ∨ (isXD d = true ∧ r = false)) := by
  intro d z h
  cases d <;> simp only [biD] at h <;> first | (cases h; done) | (cases h; exact ⟨_, rfl, .inl ⟨rfl, by simp only [tyN]; decide +kernel⟩⟩) | (cases h; exact ⟨_, rfl, .inr ⟨rfl, rfl⟩⟩)
theorem rel_ne {x : V} {v : Value} {b : Bool} (rx : RelV x v) (h : x ≠ .bl b) : v ≠ .bool b := fun q => by
  subst q
  cases x with
  | bl c => cases (show Value.bool b = Value.bool c from rx); exact h rfl
  | int i => obtain ⟨t, q⟩ := rx; cases q
  | str i => obtain ⟨t, q⟩ := rx; cases q
  | byt i => obtain ⟨t, q⟩ := rx; cases q
  | flt i => obtain ⟨t, q⟩ := rx; cases q
  | non => cases (show Value.bool b = Value.none from rx)
  | ref a => cases (show Value.bool b = Value.ref a from rx)
  | ty n => cases (show Value.bool b = Value.type n from rx)
theorem plain_bl {x : V} {v : Value} {b : Bool} (rx : RelV x v) : plainIs v (.bool b) = true := by
  cases x with
  | bl c => cases (show v = Value.bool c from rx); rfl
  | int i => obtain ⟨t, rfl⟩ := rx; rfl
  | str i => obtain ⟨t, rfl⟩ := rx; rfl
  | byt i => obtain ⟨t, rfl⟩ := rx; rfl
  | flt i => obtain ⟨t, rfl⟩ := rx; rfl
  | non => cases (show v = Value.none from rx); rfl
  | ref a => cases (show v = Value.ref a from rx); rfl
  | ty n => cases (show v = Value.type n from rx); rfl
theorem op_isB : OpR X (compareOp .Is) (fun x y H Q => ∃ b, y = .bl b ∧ Q (.bl (decide (x = .bl b))) H) := by
  intro pins s σ H x y v u Q I rx ry ⟨b, hy, q⟩
  subst hy
  cases (show u = Value.bool b from ry)
  by_cases h : x = .bl b
  · subst h
    cases (show v = Value.bool b from rx)
    exact wpAny_is_self rfl ⟨.bl true, H, I, rfl, by simpa using q⟩
  · exact wpAny_is_other (plain_bl rx) (rel_ne rx h) ⟨.bl false, H, I, rfl, by simpa [h] using q⟩
theorem op_isnotB : OpR X (compareOp .IsNot) (fun x y H Q => ∃ b, y = .bl b ∧ Q (.bl (!decide (x = .bl b))) H) := by
  intro pins s σ H x y v u Q I rx ry ⟨b, hy, q⟩
  subst hy
  cases (show u = Value.bool b from ry)
  by_cases h : x = .bl b
  · subst h
    cases (show v = Value.bool b from rx)
    exact wpAny_isNot_self rfl ⟨.bl false, H, I, rfl, by simpa using q⟩
  · exact wpAny_isNot_other (plain_bl rx) (rel_ne rx h) ⟨.bl true, H, I, rfl, by simpa [h] using q⟩
/-- a value stands for one thing -/
theorem rd_kind {T : Tbl} {H0 H : Hp} {d : D} {v : V} (h : RdV T H0 H d v) : (v = .non ↔ d = .non) ∧ ∀ b, v = .bl b ↔ d = .bl b := by
  cases d with
  | non => cases rd_non h; simp
  | bl b => cases rd_bl h; simp
  | int b => cases rd_int h; simp
  | str b => cases rd_str h; simp
  | lst ds => rcases h with h | h; (simp only [Rep] at h; obtain ⟨a, _, rfl, _⟩ := h; simp); (obtain ⟨a, _, rfl, _⟩ := h; simp)
  | tup ds => rcases h with h | h; (simp only [Rep] at h; obtain ⟨a, _, rfl, _⟩ := h; simp); exact h.elim
  | kst ds => rcases h with h | h; (simp only [Rep] at h; obtain ⟨a, _, rfl, _⟩ := h; simp); exact h.elim
  | dK ks ds => rcases h with h | h; (simp only [Rep] at h; obtain ⟨a, _, rfl, _⟩ := h; simp); (obtain ⟨a, _, rfl, _⟩ := h; simp)
  | dT ks ds => rcases h with h | h; (simp only [Rep] at h; obtain ⟨a, _, _, rfl, _⟩ := h; simp); (obtain ⟨a, _, _, rfl, _⟩ := h; simp)
  | obj k ks ds => rcases h with h | h; (simp only [Rep] at h; obtain ⟨a, _, _, _, rfl, _⟩ := h; simp); (obtain ⟨a, _, _, _, rfl, _⟩ := h; simp)
  | cls k => rcases h with h | h; (simp only [Rep] at h; obtain ⟨a, _, rfl⟩ := h; simp); exact h.elim
  | err k ks ds => rcases h with h | h; (simp only [Rep] at h; obtain ⟨a, _, _, rfl, _⟩ := h; simp); exact h.elim
theorem is_inv {x y d : D} (h : op2 .is x y = some d) : (y = .non ∧ d = .bl (decide (tyN x = "NoneType"))) ∨ ∃ b, y = .bl b ∧ ∃ r, d = .bl r ∧ (r = true ↔ x = .bl b) := by
  cases y with
  | non => refine .inl ⟨rfl, ?_⟩; cases x <;> cases h <;> rfl
  | bl b => refine .inr ⟨b, rfl, ?_⟩; cases x <;> cases h <;> exact ⟨_, rfl, by first | (simp; done) | (simp; exact eq_comm)⟩
  | _ => cases x <;> cases h
theorem isnot_inv {x y d : D} (h : op2 .isnot x y = some d) : (y = .non ∧ d = .bl (!decide (tyN x = "NoneType"))) ∨ ∃ b, y = .bl b ∧ ∃ r, d = .bl (!r) ∧ (r = true ↔ x = .bl b) := by
  cases y with
  | non => refine .inl ⟨rfl, ?_⟩; cases x <;> cases h <;> rfl
  | bl b => refine .inr ⟨b, rfl, ?_⟩; cases x <;> cases h <;> first | exact ⟨false, rfl, by simp⟩ | exact ⟨_, rfl, by first | (simp; done) | (simp; exact eq_comm)⟩
  | _ => cases x <;> cases h
theorem tyN_non {d : D} : tyN d = "NoneType" ↔ d = .non := by cases d <;> simp [tyN]
theorem o_is {T : Tbl} : OpR X (compareOp .Is) (rD T (op2 .is)) := orI (op_isN.or op_isB) fun x y H Q ⟨H0, dx, dy, d, e, hx, hy, hg, q⟩ => by
  rcases is_inv hg with ⟨rfl, rfl⟩ | ⟨b, rfl, r, rfl, hr⟩
  · refine .inl ⟨rd_non hy, ?_⟩
    have : decide (x = V.non) = decide (tyN dx = "NoneType") := decide_eq_decide.mpr ((rd_kind hx).1.trans tyN_non.symm)
    rw [this]
    exact q _ _ _ (Gr.rfl' e) (.flat rfl (r_bl _ _ _))
  · refine .inr ⟨b, rd_bl hy, ?_⟩
    have : decide (x = V.bl b) = r := by rw [Bool.eq_iff_iff, decide_eq_true_iff, hr]; exact (rd_kind hx).2 b
    rw [this]
    exact q _ _ _ (Gr.rfl' e) (.flat rfl (r_bl _ _ _))
theorem o_isnot {T : Tbl} : OpR X (compareOp .IsNot) (rD T (op2 .isnot)) := orI (op_notN.or op_isnotB) fun x y H Q ⟨H0, dx, dy, d, e, hx, hy, hg, q⟩ => by
  rcases isnot_inv hg with ⟨rfl, rfl⟩ | ⟨b, rfl, r, rfl, hr⟩
  · refine .inl ⟨rd_non hy, ?_⟩
    have : decide (x = V.non) = decide (tyN dx = "NoneType") := decide_eq_decide.mpr ((rd_kind hx).1.trans tyN_non.symm)
    rw [this]
    exact q _ _ _ (Gr.rfl' e) (.flat rfl (r_bl _ _ _))
  · refine .inr ⟨b, rd_bl hy, ?_⟩
    have : decide (x = V.bl b) = r := by rw [Bool.eq_iff_iff, decide_eq_true_iff, hr]; exact (rd_kind hx).2 b
    rw [this]
    exact q _ _ _ (Gr.rfl' e) (.flat rfl (r_bl _ _ _))
theorem reprV {pins : List (Addr × Obj)} {s : Shared} {σ : L2.St} {H : Hp} {v : V} {u : Value} {p : PyData} {Q : VK} (hgd : X.A.guards = some []) (hu : X.A.units + 200 < cLine) (I : Inv X pins σ H s) (rv : RelV v u) (h : Dp X.K H v p)
    (h1 : p.showable = true) (h2 : p.hasDict = false) (h3 : p.shown.length ≤ sizeLine) (h4 : p.depth ≤ 64) (q : Q (.str p.shown) H) : wpAny (model X.prog X.w) X.A (call (.builtin "repr") [u]) (EP X pins σ Q) X.xe s := by
  cases h with
  | non => cases (show u = Value.none from rv); exact P.repr_of_none ⟨.str _, H, I.tok _, ⟨_, rfl⟩, by simpa only [PyData.shown] using q⟩
  | bl b => cases (show u = Value.bool b from rv); exact P.repr_of_bool ⟨.str _, H, I.tok _, ⟨_, rfl⟩, by simpa only [PyData.shown] using q⟩
  | int i =>
    obtain ⟨t, rfl⟩ := rv
    exact P.repr_of_int (by simpa [PyData.showable] using h1) ⟨.str _, H, I.tok _, ⟨_, rfl⟩, by simpa only [PyData.shown] using q⟩
  | str z =>
    obtain ⟨t, rfl⟩ := rv
    exact P.repr_of_str ⟨.str _, H, I.tok _, ⟨_, rfl⟩, by simpa only [PyData.shown] using q⟩ (by simpa only [PyData.shown] using h3)
  | @lst a xs ds ha hd =>
    obtain ⟨as, r⟩ := Dp.reads I _ _ _ (.lst ha hd) rv
    cases (show u = Value.ref a from rv)
    exact repr_of_reads' r h1 (PyData.noDict_hsm h2) hgd (by omega) (fun b o z => z) (fun h' t tk hk => ⟨.str _, H, I.kept hk, ⟨_, rfl⟩, q⟩) h3
  | @tup a xs ds ha hd =>
    obtain ⟨as, r⟩ := Dp.reads I _ _ _ (.tup ha hd) rv
    cases (show u = Value.ref a from rv)
    exact repr_of_reads' r h1 (PyData.noDict_hsm h2) hgd (by omega) (fun b o z => z) (fun h' t tk hk => ⟨.str _, H, I.kept hk, ⟨_, rfl⟩, q⟩) h3
theorem rep_dK {T : Tbl} {H0 H : Hp} {v : V} (e : Ext H0 H) (h : RdV T H0 H (.dK [] []) v) : ∃ a, v = .ref a ∧ Rd H a (.dK []) := by
  rcases h with h | h
  · simp only [Rep] at h
    obtain ⟨a, xs, rfl, h1, h2, _⟩ := h
    exact ⟨a, rfl, e.rd h1⟩
  · simp only [RepO] at h
    obtain ⟨a, xs, rfl, _, h1, _⟩ := h
    exact ⟨a, rfl, .inl h1⟩
theorem repr_none {pins : List (Addr × Obj)} {s : Shared} {σ : L2.St} {H : Hp} {a : Addr} {Q : VK} (hgd : X.A.guards = some []) (hu : X.A.units + 200 < cLine) (I : Inv X pins σ H s) (ha : Rd H a (.dK [])) (q : Q (.str "{}") H) : wpAny (model X.prog X.w) X.A (call (.builtin "repr") [.ref a]) (EP X pins σ Q) X.xe s := by
  obtain ⟨_, hs0, vs, kv, o, es, ep, h1, hex, hdt, _, hpr, _⟩ := rd_of I.hok ha
  have hvs : vs = [] := by cases kv; rfl
  subst hvs
  have hes : es.toList = [] := by
    cases z : es.toList with
    | nil => rfl
    | cons x r => rw [z] at hpr; cases hpr
  have r : Reads s.heap (.ref a) (.dict []) [a] := by
    have := Reads.dict (kvs := []) (as := []) (bs := []) h1 hex.1 hdt (by rw [hes]; exact .nil) (by rw [hes]; exact .nil)
    simpa using this
  have hno : sysModules ∉ [a] := by
    rw [List.mem_singleton]
    intro z
    rw [← z] at hs0
    simp at hs0
  exact repr_of_reads' r rfl (fun _ => hno) hgd (by show X.A.units + ((PyData.dict []).depth + 1) < cLine; simp only [PyData.depth, PyData.depthKv]; omega) (fun b o z => z) (fun h' t tk hk => ⟨.str _, H, I.kept hk, ⟨_, rfl⟩, q⟩) (by decide)
theorem b_repr (hK : X.K = C.T.K) (hgd : X.A.guards = some []) (hu : X.A.units + 200 < cLine) : CallR X (.builtin "repr") (rDn C.T (biD .repr)) := fun pins s σ H xs us Q I rx ⟨H0, ds, d, e, hr, hg, q⟩ => by
  match ds, hg with
  | [x], hg =>
    obtain ⟨v, rfl, h1⟩ := rd1 hr
    obtain ⟨u, rfl, ru⟩ := vals1 rx
    have main : (match toPy x with
        | some p => if p.showable && !p.hasDict && decide (p.shown.length ≤ LIM) && decide (p.depth ≤ 64) then some (D.str p.shown) else none
        | none => none) = some d → wpAny (model X.prog X.w) X.A (call (.builtin "repr") [u]) (EP X pins σ Q) X.xe s := fun hg => by
      split at hg
      · rename_i p hp
        split at hg
        · rename_i hc
          cases hg
          simp only [Bool.and_eq_true, Bool.not_eq_true', decide_eq_true_eq] at hc
          obtain ⟨⟨⟨c1, c2⟩, c3⟩, c4⟩ := hc
          exact reprV hgd hu I ru (dp_rd hK e hp h1) c1 c2 (Nat.le_trans c3 lim_line) c4 (q _ _ _ (Gr.rfl' e) (.flat rfl (r_str _ _ _)))
        · cases hg
      · cases hg
    cases x with
    | dK ks vs =>
      cases ks with
      | nil =>
        cases vs with
        | nil =>
          cases hg
          obtain ⟨a, rfl, ha⟩ := rep_dK e h1
          cases (show u = Value.ref a from ru)
          exact repr_none hgd hu I ha (q _ _ _ (Gr.rfl' e) (.flat rfl (r_str _ _ _)))
        | cons => cases hg
      | cons => cases hg
    | _ => exact main hg
theorem repAll_cut {T : Tbl} {H : Hp} {ds : List D} {vs : List V} (h : RepAll T H ds vs) (lo hi : Option Int) : RepAll T H (cutD ds lo hi) (cutV vs lo hi) := by
  unfold cutD cutV
  rw [h.len]
  exact (h.drop _).take _
def tP (C : Ctx) (W : WX) (cl : CallF) (b : Bool) (e : Ex) : TO := fun σ H Q => ∃ H0 env, Sim C σ H0 H env ∧ RQ C W σ (fun b _ _ H' => Q b H') H0 (optP b (ev cl e) env)
theorem so_none {e' : Ex} : PO X none (tP C W cl false e') := ⟨fun pins s σ H Q I ⟨H0, env, S, q⟩ => po_none.run pins s σ H Q I (q H0 H (Ext.rfl' _) S)⟩
theorem so_some (h : PE X e (tI C W cl e')) : PO X (some e) (tP C W cl true e') :=
  ⟨fun pins s σ H Q I ⟨H0, env, S, q⟩ => (po_some h).run pins s σ H Q I (seqI S q fun u env1 x H1 H1' e1 S1 u1 q1 => by
    obtain ⟨d, hd, q1⟩ := q1.orB
    cases d with
    | int i =>
      cases rd_int (S1.rd u1 hd)
      exact ⟨i, rfl, q1 H1 H1' (Ext.rfl' _) S1⟩
    | _ => exact q1.elim)⟩
theorem seqP {σ : L2.St} {H0 H : Hp} {env : Env} {bb : Bool} {β : Type} {K : β → Env → Hp → Hp → Prop} {f : Option Int → Env → R β} (S : Sim C σ H0 H env) (h : RQ C W σ K H0 ((optP bb (ev cl a') env).bind f)) {Q : Option Int → Hp → Prop}
    (hQ : ∀ b env1 H01 H1, Ext H0 H01 → Sim C σ H01 H1 env1 → RQ C W σ K H01 (f b env1) → Q b H1) : tP C W cl bb a' σ H Q := by
  refine ⟨H0, env, S, ?_⟩
  cases q : optP bb (ev cl a') env with
  | ok u env1 =>
    rw [q] at h
    exact fun H01 H1 e s => hQ u env1 H01 H1 e s (RQ.mono e h)
  | exc x env1 =>
    rw [q] at h
    exact fun cls d H0' H' e s x => h cls d H0' H' e s x
  | bad => rw [q] at h; exact h
theorem c_slice {lo hi : Option Expr} {bl bh : Bool} {l h : Ex} {p2 : Pos} (hK : X.K = C.T.K) (ha : PE X a (tI C W cl a')) (hl : PO X lo (tP C W cl bl l)) (hh : PO X hi (tP C W cl bh h)) : PE X (.Subscript a (.Slice lo hi none p2) pos) (tI C W cl (.slice a' bl bh l h)) :=
  peI (pe_slice ((sl_list.or sl_tup).or sl_str) ha hl hh) fun σ H Q ⟨H0, env, S, q⟩ => by
    simp only [ev] at q
    refine seqI S q fun u env1 x H1 H1' e1 S1 u1 q1 => ?_
    obtain ⟨H1f, e1f, S1f, u1f⟩ := S1.pend u1
    refine seqP S1f (RQ.mono e1f q1) fun lv env2 H2 H2' e2 S2 q2 => ?_
    refine seqP S2 q2 fun hv env3 H3 H3' e3 S3 q3 => ?_
    obtain ⟨dx, hx, q3⟩ := q3.orB
    cases dx with
    | lst xs =>
      obtain ⟨a, us, rfl, h1, h2⟩ := rd_lst S3.ex (S3.rd (u1f.wait (e2.tr e3)) hx)
      exact .inl (.inl ⟨a, us, rfl, .inl h1, fun p hp => fin_nw S3 q3 (Gr.own S3.ex hp) (.lst S3.ex hp (repAll_cut h2 _ _))⟩)
    | kst xs =>
      obtain ⟨a, us, rfl, h1, h2⟩ := rd_kst S3.ex (S3.rd (u1f.wait (e2.tr e3)) hx)
      exact .inl (.inl ⟨a, us, rfl, hK ▸ h1, fun p hp => fin_nw S3 q3 (Gr.own S3.ex hp) (.lst S3.ex hp (repAll_cut h2 _ _))⟩)
    | tup xs =>
      simp only at q3
      split at q3
      · exact q3.elim
      rename_i hw
      rcases S3.rd (u1f.wait (e2.tr e3)) hx with h1 | h1
      · simp only [Rep] at h1
        obtain ⟨a, us, rfl, h2, h3⟩ := h1
        rw [← RepAll.len h3] at hw
        exact .inl (.inr ⟨a, us, rfl, hK ▸ S3.ex.sqT h2, hw, fun p hp => fin_nw S3 q3 (Gr.froz S3.ex hp) (.flat rfl (by simp only [Rep]; exact ⟨p, _, rfl, SqT.of upd_same, RepAll.mono (ext_upd (S3.ex.no hp)) _ _ (repAll_cut h3 _ _)⟩))⟩)
      · exact h1.elim
    | str z =>
      simp only at q3
      split at q3
      · rename_i hz
        refine .inr ⟨z, rd_str (S3.rd (u1f.wait (e2.tr e3)) hx), Nat.le_trans hz (by decide), fin_nw S3 q3 (Gr.rfl' S3.ex) (.flat rfl (r_str _ _ _))⟩
      · exact q3.elim
    | _ => exact q3.elim
end
end PP
end
section
set_option maxHeartbeats 1000000
namespace PP
open PySem L2
theorem getS_set (env : Env) (i j : Nat) (s : Sl) : getS (env.set i s) j = if i = j ∧ i < env.length then s else getS env j := by
  unfold getS
  simp only [List.getD_eq_getElem?_getD, List.getElem?_set]
  by_cases h : i = j
  · subst h
    by_cases l : i < env.length <;> simp [l]
  · simp [h]
section
variable {C : Ctx} {W : WX} {σ : L2.St} {cl : CallF} {H0 H H0' H' : Hp} {env : Env}
theorem Sim.store (S : Sim C σ H0 H env) {i : Nat} {v : V} {s : Sl} (hs : isIO s = false) (h : SlOk C H0 H i (some (some v)) s)
    (hd : ∀ a, v = .ref a → ownS s = true → ∀ j, j ≠ i → ownS (getS env j) = true → σ[j]? ≠ some (some (.ref a))) : Sim C (σ.set i (some v)) H0 H (env.set i s) := by
  by_cases hl : i < env.length
  · have hl' : i < σ.length := by rw [← S.len]; exact hl
    refine { ok := S.ok, ex := S.ex, ex0 := S.ex0, fresh := S.fresh, keep := S.keep, tabs := S.tabs, tno := S.tno, ioH := S.ioH, len := by simp only [List.length_set]; exact S.len, slots := fun j => ?_, inj := fun j k a hjk hj hk ej ek => ?_ }
    · rw [getS_set, List.getElem?_set]
      by_cases z : i = j
      · subst z; simpa [hl, hl'] using h
      · simpa [z] using S.slots j
    · rw [getS_set] at hj hk
      rw [List.getElem?_set] at ej ek
      by_cases z : i = j
      · subst z
        simp only [hl, hl', and_self, if_true, true_and, if_pos] at hj ej
        have zk : ¬ i = k := hjk
        simp only [zk, false_and, if_false] at hk ek
        simp only [Option.some.injEq] at ej
        exact hd a ej hj k (fun q => zk q.symm) hk ek
      · simp only [z, false_and, if_false] at hj ej
        by_cases zk : i = k
        · subst zk
          simp only [hl, hl', and_self, if_true, true_and, if_pos] at hk ek
          simp only [Option.some.injEq] at ek
          exact hd a ek hk j (fun q => z q.symm) hj ej
        · simp only [zk, false_and, if_false] at hk ek
          exact S.inj j k a hjk hj hk ej ek
  · have e1 : env.set i s = env := List.set_eq_of_length_le (by omega)
    have e2 : σ.set i (some v) = σ := List.set_eq_of_length_le (by rw [← S.len]; omega)
    rw [e1, e2]
    exact S
/-- name = value -/
theorem Sim.asg (S : Sim C σ H0 H env) {i : Nat} {u : U} {v : V} {env2 : Env} (h : UOk C σ H0 H env u v) (ha : asgU env i u = some env2) : ∃ H0', Ext H0 H0' ∧ Sim C (σ.set i (some v)) H0' H env2 := by
  unfold asgU at ha
  · cases u with
    | d x =>
      cases ha
      exact ⟨H0, Ext.rfl' _, S.store rfl ⟨v, rfl, h⟩ fun _ _ q => by cases q⟩
    | nw x =>
      simp only [Option.some.injEq] at ha
      subst ha
      have h' : RepN C σ H0 H env x v := h
      unfold RepN at h'
      split at h'
      · rename_i hm
        obtain ⟨a, rfl, h1, h2, h3⟩ := h'
        have e : slOf (.nw x) x = .ow x := by cases x <;> first | rfl | cases hm
        rw [e]
        exact ⟨H0, Ext.rfl' _, S.store rfl ⟨a, rfl, h1, h2⟩ fun b hb _ j _ hj => by cases hb; exact h3 j hj⟩
      · rename_i hm
        have e : slOf (.nw x) x = .fz x := by cases x <;> first | rfl | exact (hm rfl).elim
        rw [e]
        exact ⟨H0, Ext.rfl' _, S.store rfl ⟨v, rfl, h'⟩ fun _ _ q => by cases q⟩
    | sl j =>
      simp only [Option.map_eq_some_iff] at ha
      obtain ⟨⟨d, env1⟩, hf, rfl⟩ := ha
      obtain ⟨H1, e1, S1, r1⟩ := S.take h hf
      exact ⟨H1, e1, S1.store rfl ⟨v, rfl, r1⟩ fun _ _ q => by cases q⟩
/-- an owned list at a slot -/
theorem Sim.ls (S : Sim C σ H0 H env) {i : Nat} (h : isLs (getS env i) = true) : ∃ a ds, σ[i]? = some (some (.ref a)) ∧ rdS (getS env i) = some (.lst ds) ∧ ownS (getS env i) = true ∧ RepO C.T H0 H (.lst ds) (.ref a) := by
  have hi := S.slots i
  cases z : getS env i with
  | un => rw [z] at h; cases h
  | fn => rw [z] at h; cases h
  | fz d => rw [z] at h; cases h
  | ow d =>
    rw [z] at h hi
    obtain ⟨a, h1, _, h3⟩ := hi
    cases d <;> first | (cases h; done) | exact ⟨a, _, h1, rfl, rfl, h3⟩
  | io d =>
    rw [z] at h hi
    obtain ⟨a, h1, _, h3⟩ := hi
    cases d <;> first | (cases h; done) | exact ⟨a, _, h1, rfl, rfl, h3⟩
theorem own_setIO {s : Sl} {d : D} : ownS (setIO s d) = ownS s := by cases s <;> rfl
/-- an owned thing changes -/
theorem Sim.mut (S : Sim C σ H0 H env) {i : Nat} {a : Addr} {o : HO} {d : D} (ho : ownS (getS env i) = true) (e : σ[i]? = some (some (.ref a))) (h : RepO C.T H0 (upd H a o) d (.ref a)) : Sim C σ H0 (upd H a o) (env.set i (setIO (getS env i) d)) := by
  have hl : i < env.length := by rw [S.len]; exact (List.getElem?_eq_some_iff.mp e).1
  have hi := S.slots i
  have hw : C.He a = none ∨ C.io a := by
    cases z : getS env i with
    | un => rw [z] at ho; cases ho
    | fn => rw [z] at ho; cases ho
    | fz x => rw [z] at ho; cases ho
    | ow x => rw [z] at hi; obtain ⟨b, h1, h2, _⟩ := hi; rw [e] at h1; cases h1; exact .inl h2
    | io x => rw [z] at hi; obtain ⟨b, h1, h2, _⟩ := hi; rw [e] at h1; cases h1; exact .inr (List.mem_of_getElem? h2)
  refine { ok := S.ok, ex := fun b u q => ?_, ex0 := S.ex0, fresh := S.fresh, keep := fun b u q z => ?_, tno := S.tno, tabs := (by obtain ⟨_, u, hu⟩ := S.own ho e; exact tabs_upd hu (S.ownK ho e hu).1 (S.ownK ho e hu).2 S.tabs), ioH := fun b z q => ?_, len := by simp only [List.length_set]; exact S.len, slots := fun j => ?_, inj := fun j k b hjk hj hk ej ek => ?_ }
  · have z : b ≠ a := fun z => by subst z; rw [(S.own ho e).1] at q; cases q
    rw [upd_ne z]; exact S.ex _ _ q
  · have z2 : b ≠ a := fun z2 => by
      subst z2
      rcases hw with w | w
      · rw [w] at q; cases q
      · exact z w
    rw [upd_ne z2]; exact S.keep _ _ q z
  · by_cases z2 : b = a
    · subst z2; rw [upd_same] at q; cases q
    · rw [upd_ne z2] at q; exact S.ioH b z q
  · rw [getS_set]
    by_cases z : i = j
    · subst z
      simp only [hl, and_self, if_true]
      cases z : getS env i with
      | un => rw [z] at ho; cases ho
      | fn => rw [z] at ho; cases ho
      | fz x => rw [z] at ho; cases ho
      | ow x => rw [z] at hi; obtain ⟨b, h1, h2, _⟩ := hi; rw [e] at h1; cases h1; exact ⟨a, e, h2, h⟩
      | io x => rw [z] at hi; obtain ⟨b, h1, h2, _⟩ := hi; rw [e] at h1; cases h1; exact ⟨a, e, h2, h⟩
    · simp only [z, false_and, if_false]
      refine (S.slots j).step (Ext.rfl' _) fun b hb eb => ⟨(S.own hb eb).1, ?_⟩
      exact upd_ne fun zb => S.inj i j a z ho hb e (by rw [← zb]; exact eb)
  · rw [getS_set] at hj hk
    have hj' : ownS (getS env j) = true := by
      split at hj
      · rename_i z; rw [← z.1]; exact ho
      · exact hj
    have hk' : ownS (getS env k) = true := by
      split at hk
      · rename_i z; rw [← z.1]; exact ho
      · exact hk
    exact S.inj j k b hjk hj' hk' ej ek
/-- a name is let go -/
theorem Sim.drop (S : Sim C σ H0 H env) (i : Nat) : Sim C σ H0 H (env.set i .un) := by
  refine { ok := S.ok, ex := S.ex, ex0 := S.ex0, fresh := S.fresh, keep := S.keep, tabs := S.tabs, tno := S.tno, ioH := S.ioH, len := by simp only [List.length_set]; exact S.len, slots := fun j => ?_, inj := fun j k a hjk hj hk ej ek => ?_ }
  · rw [getS_set]
    split
    · trivial
    · exact S.slots j
  · rw [getS_set] at hj hk
    split at hj
    · cases hj
    · split at hk
      · cases hk
      · exact S.inj j k a hjk hj hk ej ek
end
/-- what is wanted behind a statement; H0: what is frozen ahead of it -/
def RS (C : Ctx) (W : WX) (E : Ends) (G : Hp) : R Fl → Prop
  | .ok .next env => ∀ σ H0 H, Ext G H0 → Sim C σ H0 H env → E.nx σ H
  | .ok .brk env => ∀ σ H0 H, Ext G H0 → Sim C σ H0 H env → E.bk σ H
  | .ok .cont env => ∀ σ H0 H, Ext G H0 → Sim C σ H0 H env → E.ct σ H
  | .ok (.ret u) env => ∀ σ H0 H v, Ext G H0 → Sim C σ H0 H env → UOk C σ H0 H env u v → E.rt v H
  | .exc x env => ∀ σ cls d H0 H, Ext G H0 → Sim C σ H0 H env → XOk C.T H0 H x cls d → W cls d σ H
  | .bad => False
def tS (C : Ctx) (W : WX) (cl : CallF) (s : S) : TS := fun E σ H => ∃ H0 env, Sim C σ H0 H env ∧ RS C W E H0 (ex cl s env)
def tSs (C : Ctx) (W : WX) (cl : CallF) (s : Ss) : TS := fun E σ H => ∃ H0 env, Sim C σ H0 H env ∧ RS C W E H0 (exs cl s env)
theorem RS.orB {α : Type} {C : Ctx} {W : WX} {E : Ends} {G : Hp} {o : Option α} {f : α → R Fl} (h : RS C W E G (orBad o f)) : ∃ a, o = some a ∧ RS C W E G (f a) := by
  cases o with
  | none => exact h.elim
  | some a => exact ⟨a, rfl, h⟩
theorem RS.mono {C : Ctx} {W : WX} {E : Ends} {G G' : Hp} (e : Ext G G') {r : R Fl} (h : RS C W E G r) : RS C W E G' r := by
  cases r with
  | ok a env =>
    cases a with
    | next => exact fun σ H0' H' e' s => h σ H0' H' (e.tr e') s
    | brk => exact fun σ H0' H' e' s => h σ H0' H' (e.tr e') s
    | cont => exact fun σ H0' H' e' s => h σ H0' H' (e.tr e') s
    | ret u => exact fun σ H0' H' v e' s => h σ H0' H' v (e.tr e') s
  | exc x env => exact fun σ cls d H0' H' e' s x => h σ cls d H0' H' (e.tr e') s x
  | bad => exact h
section
variable {C : Ctx} {W : WX} {σ : L2.St} {cl : CallF} {H0 H : Hp} {env : Env} {E : Ends}
theorem seqE {a : Ex} {f : U → Env → R Fl} (S : Sim C σ H0 H env) (h : RS C W E H0 ((ev cl a env).bind f)) {Q : VK}
    (hQ : ∀ u env1 v H01 H1, Ext H0 H01 → Sim C σ H01 H1 env1 → UOk C σ H01 H1 env1 u v → RS C W E H01 (f u env1) → Q v H1) : tI C W cl a σ H Q := by
  refine ⟨H0, env, S, ?_⟩
  cases q : ev cl a env with
  | ok u env1 =>
    rw [q] at h
    exact fun H01 H1 e s v hu => hQ u env1 v H01 H1 e s hu (RS.mono e h)
  | exc x env1 =>
    rw [q] at h
    exact fun cls d H0' H' e s x => h σ cls d H0' H' e s x
  | bad => rw [q] at h; exact h
theorem seqTE {a : Ex} {f : Bool → Env → R Fl} (S : Sim C σ H0 H env) (h : RS C W E H0 ((evT cl a env).bind f)) {Q : Bool → Hp → Prop}
    (hQ : ∀ b env1 H01 H1, Ext H0 H01 → Sim C σ H01 H1 env1 → RS C W E H01 (f b env1) → Q b H1) : tT C W cl a σ H Q := by
  refine ⟨H0, env, S, ?_⟩
  cases q : evT cl a env with
  | ok u env1 =>
    rw [q] at h
    exact fun H01 H1 e s => hQ u env1 H01 H1 e s (RS.mono e h)
  | exc x env1 =>
    rw [q] at h
    exact fun cls d H0' H' e s x => h σ cls d H0' H' e s x
  | bad => rw [q] at h; exact h
end
theorem psI {X : Cx} {st : Stmt} {t t' : TS} (h : PS X st t) (i : ∀ E σ H, t' E σ H → t E σ H) : PS X st t' := ⟨fun pins s σ H D I q => h.run pins s σ H D I (i D σ H q)⟩
theorem pssI {X : Cx} {st : List Stmt} {t t' : TS} (h : PSs X st t) (i : ∀ E σ H, t' E σ H → t E σ H) : PSs X st t' := ⟨fun pins s σ H D I q => h.run pins s σ H D I (i D σ H q)⟩
section
variable {X : Cx} {C : Ctx} {W : WX} {cl : CallF} {st : Stmt} {rest : List Stmt} {s' : S} {r' : Ss} {e : Expr} {e' : Ex} {pos : Pos}
theorem ss_nil : PSs X [] (tSs C W cl .nil) := pssI pss_nil fun E σ H ⟨H0, env, S, q⟩ => q σ H0 H (Ext.rfl' _) S
theorem ss_cons (h1 : PS X st (tS C W cl s')) (h2 : PSs X rest (tSs C W cl r')) : PSs X (st :: rest) (tSs C W cl (.cons s' r')) := pssI (pss_cons h1 h2) fun E σ H ⟨H0, env, S, q⟩ => by
  refine ⟨H0, env, S, ?_⟩
  simp only [exs] at q
  cases z : ex cl s' env with
  | ok fl env1 =>
    rw [z] at q
    cases fl with
    | next => exact fun σ' H0' H' e' S' => ⟨H0', env1, S', RS.mono e' q⟩
    | brk => exact q
    | cont => exact q
    | ret u => exact q
  | exc x env1 => rw [z] at q; exact q
  | bad => rw [z] at q; exact q
theorem s_asg {i : Nat} (h : PS X st (tAsg (tI C W cl e') (gName i))) : PS X st (tS C W cl (.asg i e')) := psI h fun E σ H ⟨H0, env, S, q⟩ => by
  simp only [ex] at q
  refine seqE S q fun u env1 v H1 H1' e1 S1 u1 q1 => ?_
  obtain ⟨env2, ha, q1⟩ := q1.orB
  obtain ⟨H2, e2, S2⟩ := S1.asg u1 ha
  exact q1 _ H2 H1' e2 S2
theorem s_ex (h : PE X e (tI C W cl e')) (hs : swapsWith e none pos.line X.env = pure false := by rfl) : PS X (.Expr e pos) (tS C W cl (.ex e')) := psI (ps_expr h hs) fun E σ H ⟨H0, env, S, q⟩ => by
  simp only [ex] at q
  exact seqE S q fun u env1 v H1 H1' e1 S1 u1 q1 => q1 σ H1 H1' (Ext.rfl' _) S1
theorem s_ret (h : PE X e (tI C W cl e')) : PS X (.Return (some e) pos) (tS C W cl (.ret e')) := psI (ps_ret h) fun E σ H ⟨H0, env, S, q⟩ => by
  simp only [ex] at q
  refine seqE S q fun u env1 v H1 H1' e1 S1 u1 q1 => ?_
  obtain ⟨⟨r, env2⟩, hr, q1⟩ := q1.orB
  cases u with
  | d x => cases hr; exact q1 σ H1 H1' v (Ext.rfl' _) S1 u1
  | nw x => cases hr; exact q1 σ H1 H1' v (Ext.rfl' _) S1 u1
  | sl i =>
    have ei : σ[i]? = some (some v) := u1
    have hi := S1.slots i
    cases z : getS env1 i with
    | un => simp [retU, z] at hr
    | fn => simp [retU, z] at hr
    | io d => simp [retU, z] at hr
    | fz d =>
      simp [retU, z] at hr
      obtain ⟨rfl, rfl⟩ := hr
      rw [z] at hi
      obtain ⟨w, h1, h2⟩ := hi
      rw [ei] at h1; cases h1
      exact q1 σ H1 H1' v (Ext.rfl' _) S1 h2
    | ow d =>
      simp [retU, z] at hr
      obtain ⟨rfl, rfl⟩ := hr
      rw [z] at hi
      obtain ⟨a, h1, h2, h3⟩ := hi
      rw [ei] at h1; cases h1
      refine q1 σ H1 H1' _ (Ext.rfl' _) (S1.drop i) ?_
      show RepN _ _ _ _ _ _ _
      unfold RepN
      rw [if_pos h3.ref.1]
      have hl : i < env1.length := by rw [S1.len]; exact (List.getElem?_eq_some_iff.mp ei).1
      refine ⟨a, rfl, h2, h3, fun j hj ej => ?_⟩
      rw [getS_set] at hj
      split at hj
      · cases hj
      · rename_i zz
        have zj : ¬ i = j := fun w => zz ⟨w, hl⟩
        exact S1.inj i j a zj (by rw [z]; rfl) hj ei ej
theorem s_iff {c : Expr} {c' : Ex} {a b : List Stmt} {a' b' : Ss} (hc : PT X c (tT C W cl c')) (ha : PSs X a (tSs C W cl a')) (hb : PSs X b (tSs C W cl b')) : PS X (.If c a b pos) (tS C W cl (.iff c' a' b')) :=
  psI (ps_if hc ha hb) fun E σ H ⟨H0, env, S, q⟩ => by
    simp only [ex] at q
    refine seqTE S q fun t env1 H1 H1' e1 S1 q1 => ?_
    cases t with
    | true => rw [if_pos rfl]; exact ⟨H1, env1, S1, q1⟩
    | false => rw [if_neg Bool.false_ne_true]; exact ⟨H1, env1, S1, q1⟩
/-- slot[x] = e -/
theorem s_setI {i : Nat} {x' : Ex} (h : PS X st (tAsg (tI C W cl e') (gSub (tVar i) (tI C W cl x') rSetL))) : PS X st (tS C W cl (.setI i x' e')) := psI h fun E σ H ⟨H0, env, S, q⟩ => by
  simp only [ex] at q
  refine seqE S q fun u env1 v H1 H1' e1 S1 u1 q1 => ?_
  obtain ⟨⟨d, env2⟩, hf, q1⟩ := q1.orB
  obtain ⟨H2, e2, S2, r2⟩ := S1.take u1 hf
  split at q1
  · exact q1.elim
  rename_i hl
  simp only [Bool.not_eq_true, Bool.not_eq_false'] at hl
  obtain ⟨a, ds, ha, hs, ho, hr0⟩ := S2.ls hl
  refine ⟨.ref a, ha, seqE S2 (RS.mono e2 q1) fun w env3 k H3 H3' e3 S3 u3 q3 => ?_⟩
  obtain ⟨dk, hk, q3⟩ := q3.orB
  have fin : ∀ xs n, dk = .int n → isLs (getS env3 i) = true → rdS (getS env3 i) = some (.lst xs) → RS C W E H3 (orBad (setD xs n d) fun ys => .ok .next (env3.set i (setIO (getS env3 i) (.lst ys)))) → rSetL (.ref a) k v H3' fun H4 => E.nx σ H4 := by
    intro xs n hdk hg hx q4
    subst hdk
    obtain ⟨ys, hy, q4⟩ := q4.orB
    obtain ⟨b, ds3, hb, hs3, ho3, hr3⟩ := S3.ls hg
    rw [ha] at hb; cases hb
    rw [hs3] at hx; cases hx
    obtain ⟨b, us, eb, hn, hu, hr⟩ := hr3
    cases eb
    unfold setD at hy
    simp only [Option.map_eq_some_iff] at hy
    obtain ⟨j, hj, rfl⟩ := hy
    refine ⟨a, us, n, j, rfl, rd_int (S3.rd u3 hk), hu, by rw [hr.len]; exact hj, ?_⟩
    exact q4 _ H3 _ (Ext.rfl' _) (S3.mut ho3 ha ⟨a, _, rfl, hn, upd_same, hr.set (Rep.mono e3 _ _ r2) j⟩)
  split at q3
  · rename_i xs n hg; exact fin xs n rfl (by rw [hg]; rfl) (by rw [hg]; rfl) (by rw [hg]; exact q3)
  · rename_i xs n hg; exact fin xs n rfl (by rw [hg]; rfl) (by rw [hg]; rfl) (by rw [hg]; exact q3)
  · exact q3.elim
/-- slot.append(e) -/
theorem s_app {i : Nat} (h : PS X st (tDrop (tBM X.K "list" rAppend (tVar i) (tCons (tI C W cl e') tNil)))) : PS X st (tS C W cl (.app i e')) := psI h fun E σ H ⟨H0, env, S, q⟩ => by
  simp only [ex] at q
  split at q
  · exact q.elim
  rename_i hl
  simp only [Bool.not_eq_true, Bool.not_eq_false'] at hl
  obtain ⟨a, ds, ha, hs, ho, b, us, eb, hn, hu, hr⟩ := S.ls hl
  cases eb
  refine ⟨.ref a, ha, .inl ⟨rfl, us, SqL.of hu⟩, seqE S q fun u env1 v H1 H1' e1 S1 u1 q1 => ?_⟩
  obtain ⟨⟨d, env2⟩, hf, q1⟩ := q1.orB
  obtain ⟨H2, e2, S2, r2⟩ := S1.take u1 hf
  have fin : ∀ xs, isLs (getS env2 i) = true → rdS (getS env2 i) = some (.lst xs) → RS C W E H1 (if xs.length < LIM then .ok .next (env2.set i (setIO (getS env2 i) (.lst (xs ++ [d])))) else .bad) → rAppend (.ref a) [v] H1' fun _ H4 => E.nx σ H4 := by
    intro xs hg hx q4
    split at q4
    · rename_i hz
      obtain ⟨b, ds3, hb, hs3, ho3, hr3⟩ := S2.ls hg
      rw [ha] at hb; cases hb
      rw [hs3] at hx; cases hx
      obtain ⟨b, us3, eb, hn3, hu3, hr3⟩ := hr3
      cases eb
      refine ⟨a, us3, v, rfl, rfl, hu3, by rw [hr3.len]; exact Nat.lt_of_lt_of_le hz lim_line, ?_⟩
      exact q4 _ H2 _ e2 (S2.mut ho3 ha ⟨a, _, rfl, hn3, upd_same, hr3.app (by simp only [RepAll]; exact ⟨v, [], rfl, r2, rfl⟩)⟩)
    · exact q4.elim
  split at q1
  · rename_i xs hg; exact fin xs (by rw [hg]; rfl) (by rw [hg]; rfl) (by rw [hg]; exact q1)
  · rename_i xs hg; exact fin xs (by rw [hg]; rfl) (by rw [hg]; rfl) (by rw [hg]; exact q1)
  · exact q1.elim
def forPv (C : Ctx) (W : WX) (E : Ends) (G : Hp) (body : Env → R Fl) (j : Nat) (items : List D) : Nat → L2.St → Hp → Prop := fun i σ H => ∃ H0 env, Ext G H0 ∧ Sim C σ H0 H env ∧ RS C W E H0 (forD body j (items.drop i) env)
/-- one turn -/
theorem turnF {E : Ends} {G : Hp} {b : Ss} {j : Nat} {items : List D} {i : Nat} {d : D} {v : V} {σ : L2.St} {H : Hp} (hd : items[i]? = some d) (hr : ∀ H0, Ext G H0 → Rep C.T H0 d v)
    (h : forPv C W E G (exs cl b) j items i σ H) : tSs C W cl b { E with nx := forPv C W E G (exs cl b) j items (i + 1), ct := forPv C W E G (exs cl b) j items (i + 1), bk := E.nx } (σ.set j (some v)) H := by
  obtain ⟨H0, env, eG, S, q⟩ := h
  have rv := hr H0 eG
  have hdrop : items.drop i = d :: items.drop (i + 1) := by
    have hi := (List.getElem?_eq_some_iff.mp hd)
    rw [List.drop_eq_getElem_cons hi.1, hi.2]
  rw [hdrop] at q
  simp only [forD] at q
  refine ⟨H0, env.set j (.fz d), S.store rfl ⟨v, rfl, rv⟩ fun _ _ z => (by cases z), ?_⟩
  cases z : exs cl b (env.set j (.fz d)) with
  | bad => rw [z] at q; exact q
  | exc x env1 => rw [z] at q; exact q
  | ok fl env1 =>
    rw [z] at q
    cases fl with
    | next => exact fun σ' H0' H' e' S' => ⟨H0', env1, eG.tr e', S', RS.mono e' q⟩
    | cont => exact fun σ' H0' H' e' S' => ⟨H0', env1, eG.tr e', S', RS.mono e' q⟩
    | brk => exact q
    | ret u => exact q
theorem s_forr {n' : Ex} {b : Ss} {j : Nat} (h : PS X st (tFor (iRng1 (tCons (tI C W cl n') tNil)) (gName j) (tSs C W cl b))) : PS X st (tS C W cl (.forr j n' b)) := psI h fun E σ H ⟨H0, env, S, q⟩ => by
  simp only [ex] at q
  refine seqE S q fun u env1 v H1 H1' e1 S1 u1 q1 => ?_
  obtain ⟨d, hd, q1⟩ := q1.orB
  split at q1
  rotate_left
  · exact q1.elim
  rename_i m
  split at q1
  rotate_left
  · exact q1.elim
  rename_i hb
  simp only [Bool.and_eq_true, decide_eq_true_eq] at hb
  cases rd_int (S1.rd u1 hd)
  refine ⟨m, rfl, by omega, by omega, for_range (lo := 0) (n := m.toNat) (forPv C W E H1 (exs cl b) j ((List.range m.toNat).map fun (k : Nat) => .int k)) ⟨H1, env1, Ext.rfl' _, S1, q1⟩ (fun i σ' H' hi p => ?_) (fun σ' H' p => ?_)⟩
  · have hz : ((0 : Int) + (i : Nat)) = (i : Nat) := by omega
    show tSs C W cl b _ (σ'.set j (some (.int ((0 : Int) + (i : Nat))))) H'
    rw [hz]
    exact turnF (d := .int i) (by simp [hi]) (fun H0 _ => r_int _ _ _) p
  · obtain ⟨H2, env2, _, S2, q2⟩ := p
    rw [List.drop_eq_nil_of_le (by simp)] at q2
    exact q2 σ' H2 H' (Ext.rfl' _) S2
end
end PP
end
section
set_option maxHeartbeats 1000000
namespace PP
open PySem L2
def ArOk (T : Tbl) (H0 H : Hp) : List Ar → List V → Prop
  | [], vs => vs = []
  | .fz d :: as, vs => ∃ v r, vs = v :: r ∧ Rep T H0 d v ∧ ArOk T H0 H as r
  | .io d :: as, vs => ∃ a r, vs = .ref a :: r ∧ RepO T H0 H d (.ref a) ∧ ArOk T H0 H as r
/-- the addresses that are handed in to be changed, place by place -/
def ioL : List Ar → List V → List (Option Addr)
  | .io _ :: as, .ref a :: vs => some a :: ioL as vs
  | _ :: as, _ :: vs => none :: ioL as vs
  | _, _ => []
def OutsOk (T : Tbl) (H0 H : Hp) : List (Option Addr) → List D → Prop
  | [], ds => ds = []
  | none :: r, ds => OutsOk T H0 H r ds
  | some a :: r, ds => ∃ d ds', ds = d :: ds' ∧ RepO T H0 H d (.ref a) ∧ OutsOk T H0 H r ds'
def NoDup (l : List (Option Addr)) : Prop := ∀ (i j : Nat) (a : Addr), l[i]? = some (some a) → l[j]? = some (some a) → i = j
def TbOk (T : Tbl) (H0 H : Hp) : Prop := LamX.Tabs T.tt H ∧ ∀ p ∈ T.tt, H0 p.1 = none
theorem Sim.tb {C : Ctx} {σ : L2.St} {H0 H : Hp} {env : Env} (S : Sim C σ H0 H env) : TbOk C.T H0 H := ⟨S.tabs, S.tno⟩
structure GrC (T : Tbl) (L : List (Option Addr)) (H0 H H0' H' : Hp) : Prop where
  e0 : Ext H0 H0'
  e01 : Ext H0' H'
  new : ∀ a, H0 a = none → H0' a ≠ none → H a = none
  keep : ∀ a o, some a ∉ L → H a = some o → Kp o (H' a)
  tb : LamX.Tabs T.tt H → LamX.Tabs T.tt H'
def RetOk (T : Tbl) (H0' H' H : Hp) : U → V → Prop
  | .d d, v => Rep T H0' d v
  | .nw d, v => RepG T H0' H' H d v
  | .sl _, _ => False
/-- the promise of a def: it does what the interpreter does -/
def spF (T : Tbl) (cl : CallF) (f n : Nat) : Sp := fun vs H Q E => ∃ H0 as, Ext H0 H ∧ ArOk T H0 H as vs ∧ NoDup (ioL as vs) ∧ as.length = n ∧ TbOk T H0 H ∧
  match cl f as with
  | .ok r outs => ∀ v H0' H', GrC T (ioL as vs) H0 H H0' H' → RetOk T H0' H' H r v → OutsOk T H0' H' (ioL as vs) outs → Q v H'
  | .exc x outs => ∀ cls d H0' H', GrC T (ioL as vs) H0 H H0' H' → OutsOk T H0' H' (ioL as vs) outs → XOk T H0' H' x cls d → E cls d H'
  | .bad => False
theorem ArOk.len {T : Tbl} {H0 H : Hp} : ∀ {as : List Ar} {vs : List V}, ArOk T H0 H as vs → vs.length = as.length
  | [], _, h => by cases h; rfl
  | .fz d :: as, _, h => by obtain ⟨v, r, rfl, _, h⟩ := h; simp [ArOk.len h]
  | .io d :: as, _, h => by obtain ⟨v, r, rfl, _, h⟩ := h; simp [ArOk.len h]
theorem ArOk.ioLen {T : Tbl} {H0 H : Hp} : ∀ {as : List Ar} {vs : List V}, ArOk T H0 H as vs → (ioL as vs).length = as.length
  | [], _, h => by cases h; rfl
  | .fz d :: as, _, h => by obtain ⟨v, r, rfl, _, h⟩ := h; simp [ioL, ArOk.ioLen h]
  | .io d :: as, _, h => by obtain ⟨v, r, rfl, _, h⟩ := h; simp [ioL, ArOk.ioLen h]
theorem ArOk.at {T : Tbl} {H0 H : Hp} : ∀ {as : List Ar} {vs : List V} (i : Nat), ArOk T H0 H as vs → match as[i]? with
    | none => True
    | some (.fz d) => (∃ v, vs[i]? = some v ∧ Rep T H0 d v) ∧ (ioL as vs)[i]? = some none
    | some (.io d) => ∃ a, vs[i]? = some (.ref a) ∧ RepO T H0 H d (.ref a) ∧ (ioL as vs)[i]? = some (some a)
  | [], _, i, h => by simp
  | .fz d :: as, _, 0, h => by obtain ⟨v, r, rfl, h1, h⟩ := h; exact ⟨⟨v, rfl, h1⟩, rfl⟩
  | .io d :: as, _, 0, h => by obtain ⟨v, r, rfl, h1, h⟩ := h; exact ⟨v, rfl, h1, rfl⟩
  | .fz d :: as, _, i + 1, h => by obtain ⟨v, r, rfl, h1, h⟩ := h; simpa [ioL] using ArOk.at i h
  | .io d :: as, _, i + 1, h => by obtain ⟨v, r, rfl, h1, h⟩ := h; simpa [ioL] using ArOk.at i h
theorem ArOk.ioAt {T : Tbl} {H0 H : Hp} {as : List Ar} {vs : List V} (h : ArOk T H0 H as vs) {a : Addr} {i : Nat} (hi : (ioL as vs)[i]? = some (some a)) : ∃ d, as[i]? = some (.io d) ∧ vs[i]? = some (.ref a) ∧ RepO T H0 H d (.ref a) := by
  have q := h.at i
  cases z : as[i]? with
  | none =>
    rw [List.getElem?_eq_none_iff, ← h.ioLen, ← List.getElem?_eq_none_iff] at z
    rw [z] at hi; cases hi
  | some x =>
    rw [z] at q
    cases x with
    | fz d => rw [q.2] at hi; cases hi
    | io d => obtain ⟨b, h1, h2, h3⟩ := q; rw [h3] at hi; cases hi; exact ⟨d, rfl, h1, h2⟩
theorem startE_len : ∀ {n : Nat} {as : List Ar}, (startE n as).length = n
  | 0, [] => rfl
  | 0, _ :: _ => rfl
  | n + 1, [] => by simp only [startE, List.length_cons, startE_len]
  | n + 1, .fz d :: as => by simp only [startE, List.length_cons, startE_len]
  | n + 1, .io d :: as => by simp only [startE, List.length_cons, startE_len]
theorem getS_start : ∀ {n : Nat} {as : List Ar} (hn : as.length ≤ n) (i : Nat), getS (startE n as) i = match as[i]? with
    | none => .un
    | some (.fz d) => .fz d
    | some (.io d) => .io d
  | 0, [], _, i => by simp [startE, getS]
  | 0, _ :: _, h, i => by simp at h
  | n + 1, [], _, 0 => by simp [startE, getS]
  | n + 1, [], _, i + 1 => by
    have := getS_start (n := n) (as := []) (Nat.zero_le _) i
    simpa [startE, getS] using this
  | n + 1, .fz d :: as, _, 0 => by simp [startE, getS]
  | n + 1, .io d :: as, _, 0 => by simp [startE, getS]
  | n + 1, .fz d :: as, h, i + 1 => by
    have := getS_start (n := n) (as := as) (by simpa using h) i
    simpa [startE, getS] using this
  | n + 1, .io d :: as, h, i + 1 => by
    have := getS_start (n := n) (as := as) (by simpa using h) i
    simpa [startE, getS] using this
theorem sim_start {T : Tbl} {H0 H : Hp} {as : List Ar} {vs : List V} {N : List Str} (e : Ext H0 H) (h : ArOk T H0 H as vs) (nd : NoDup (ioL as vs)) (hn : as.length ≤ N.length) (tb : TbOk T H0 H) : Sim ⟨T, H0, H, ioL as vs, 0⟩ (L2.start N vs) H0 H (startE N.length as) := by
  have hl := h.len
  have sv : ∀ (i : Nat) (v : V), vs[i]? = some v → (L2.start N vs)[i]? = some (some v) := fun i v hv => by
    have hi := (List.getElem?_eq_some_iff.mp hv).1
    unfold L2.start
    rw [List.getElem?_append_left (by simpa using hi), List.getElem?_map, hv]; rfl
  have io : ∀ a, Ctx.io ⟨T, H0, H, ioL as vs, 0⟩ a → H0 a = none ∧ ∃ o, H a = some o := fun a ha => by
    obtain ⟨i, hi⟩ := List.getElem?_of_mem (show some a ∈ ioL as vs from ha)
    obtain ⟨d, _, _, hr⟩ := h.ioAt hi
    exact hr.some
  have own : ∀ i, ownS (getS (startE N.length as) i) = true → ∃ d a, as[i]? = some (.io d) ∧ vs[i]? = some (.ref a) ∧ (ioL as vs)[i]? = some (some a) := fun i hi => by
    rw [getS_start hn] at hi
    have q := h.at i
    cases z : as[i]? with
    | none => rw [z] at hi; cases hi
    | some x =>
      rw [z] at hi q
      cases x with
      | fz d => cases hi
      | io d => obtain ⟨a, h1, h2, h3⟩ := q; exact ⟨d, a, rfl, h1, h3⟩
  have hio : ∀ a, Ctx.io ⟨T, H0, H, ioL as vs, 0⟩ a → H a ≠ none := fun a ha q => by
    obtain ⟨o, z⟩ := (io a ha).2
    rw [q] at z; cases z
  refine { ok := ⟨fun a ha => ⟨(io a ha).1, hio a ha⟩, e⟩, ex := e, ex0 := Ext.rfl' _, fresh := fun a q q' => (q' q).elim, keep := fun a o q _ => .inl q, tabs := tb.1, tno := tb.2, ioH := hio, len := ?_, slots := fun i => ?_, inj := fun i j a hij hi hj ei ej => ?_ }
  · rw [startE_len]
    unfold L2.start
    simp only [List.length_append, List.length_map, List.length_replicate]
    omega
  · rw [getS_start hn]
    have q := h.at i
    cases z : as[i]? with
    | none => trivial
    | some x =>
      rw [z] at q
      cases x with
      | fz d => obtain ⟨⟨v, h1, h2⟩, _⟩ := q; exact ⟨v, sv i v h1, h2⟩
      | io d => obtain ⟨a, h1, h2, h3⟩ := q; exact ⟨a, sv i _ h1, h3, h2⟩
  · obtain ⟨d, b, h1, h2, h3⟩ := own i hi
    obtain ⟨d', b', h1', h2', h3'⟩ := own j hj
    rw [sv i _ h2] at ei; cases ei
    rw [sv j _ h2'] at ej; cases ej
    exact hij (nd i j _ h3 h3')
/-- what stands in the slots that were handed in -/
theorem outs_ok {T : Tbl} {σ : L2.St} {H0 H : Hp} {L : List (Option Addr)} {C : Ctx} : ∀ {as : List Ar} {L' : List (Option Addr)} {env : Env} {outs : List D} (k : Nat), outsOf as env = some outs → as.length ≤ L'.length →
    (∀ (i : Nat) (d : D), as[i]? = some (Ar.fz d) → L'[i]? = some none) → (∀ (i : Nat) (d : D), as[i]? = some (Ar.io d) → ∀ x : D, env[i]? = some (Sl.io x) → ∃ a, L'[i]? = some (some a) ∧ RepO T H0 H x (.ref a)) → L'.length = as.length → OutsOk T H0 H L' outs
  | [], L', env, outs, k, h, _, _, _, hl => by
    cases h
    cases L' with
    | nil => rfl
    | cons a b => simp at hl
  | .fz d :: as, L', env, outs, k, h, hle, hf, hi, hl => by
    cases L' with
    | nil => simp at hl
    | cons a b =>
      have := hf 0 d rfl
      simp at this
      subst this
      simp only [outsOf] at h
      show OutsOk T H0 H b outs
      refine outs_ok (L := L) (C := C) (σ := σ) (k + 1) h (by simpa using hle) (fun i d hd => by simpa using hf (i + 1) d (by simpa using hd)) (fun i d hd x hx => ?_) (by simpa using hl)
      have := hi (i + 1) d (by simpa using hd) x (by cases env with | nil => simp at hx | cons s r => simpa using hx)
      simpa using this
  | .io d :: as, L', env, outs, k, h, hle, hf, hi, hl => by
    cases L' with
    | nil => simp at hl
    | cons a b =>
      cases env with
      | nil => simp [outsOf] at h
      | cons s r =>
        cases s with
        | io x =>
          simp only [outsOf, List.head?_cons, List.tail_cons, Option.map_eq_some_iff] at h
          obtain ⟨o', h1, rfl⟩ := h
          obtain ⟨a', e1, e2⟩ := hi 0 d rfl x rfl
          simp at e1
          subst e1
          refine ⟨x, o', rfl, e2, outs_ok (L := L) (C := C) (σ := σ) (k + 1) h1 (by simpa using hle) (fun i d hd => by simpa using hf (i + 1) d (by simpa using hd)) (fun i d hd x hx => ?_) (by simpa using hl)⟩
          have := hi (i + 1) d (by simpa using hd) x (by simpa using hx)
          simpa using this
        | un => simp [outsOf] at h
        | fn => simp [outsOf] at h
        | fz x => simp [outsOf] at h
        | ow x => simp [outsOf] at h
/-- behind the body -/
theorem Sim.outs {T : Tbl} {H0e He H0 H : Hp} {σ : L2.St} {env : Env} {as : List Ar} {vs : List V} {outs : List D} (hA : ArOk T H0e He as vs) (S : Sim ⟨T, H0e, He, ioL as vs, 0⟩ σ H0 H env) (h : outsOf as env = some outs) :
    GrC T (ioL as vs) H0e He H0 H ∧ OutsOk T H0 H (ioL as vs) outs := by
  refine ⟨⟨S.ex0, S.ex, S.fresh, fun a o q z => S.keep a o z q, fun _ => S.tabs⟩, ?_⟩
  refine outs_ok (L := []) (C := ⟨T, H0e, He, [], 0⟩) (σ := σ) 0 h (Nat.le_of_eq hA.ioLen.symm) (fun i d hd => ?_) (fun i d hd x hx => ?_) hA.ioLen
  · have q := hA.at i
    rw [hd] at q
    exact q.2
  · have q := hA.at i
    rw [hd] at q
    obtain ⟨a, h1, h2, h3⟩ := q
    have z := S.slots i
    have gx : getS env i = .io x := by unfold getS; rw [List.getD_eq_getElem?_getD, hx]; rfl
    rw [gx] at z
    obtain ⟨b, e1, e2, e3⟩ := z
    rw [show (ioL as vs)[i]? = some (some b) from e2] at h3
    exact ⟨b, e2, e3⟩
/-- the body does what the def promises -/
theorem body_ok {T : Tbl} {cl : CallF} {fs : CallF} {F : Fn} {f n : Nat} {vs : List V} {H : Hp} {Q : VK} {E : XK} {N : List Str} {X : Cx} {body : List Stmt} (hN : N.length = F.n) (hn : n ≤ F.n) (hf : ∀ as, fs f as = runF cl F as)
    (hb : ∀ C : Ctx, C.T = T → PSs X body (tSs C (fun cls d _ H => E cls d H) cl F.body)) (h : spF T fs f n vs H Q E) : ∃ t, PSs X body t ∧ t { nx := fun _ H' => Q .non H', rt := Q } (L2.start N vs) H := by
  obtain ⟨H0, as, e, hA, nd, hl, tb, h⟩ := h
  refine ⟨_, hb ⟨T, H0, H, ioL as vs, 0⟩ rfl, H0, startE F.n as, by rw [← hN]; exact sim_start e hA nd (by rw [hl, hN]; exact hn) tb, ?_⟩
  rw [hf, runF] at h
  unfold finR at h
  cases z : exs cl F.body (startE F.n as) with
  | bad => rw [z] at h; exact h
  | exc x env =>
    simp only [z] at h
    cases zo : outsOf as env with
    | none => simp only [zo, finX, finO] at h
    | some outs =>
      simp only [zo, finX, finO] at h
      intro σ cls d H0' H' _ S hx
      obtain ⟨g, o⟩ := S.outs hA zo
      exact h cls d H0' H' g o hx
  | ok fl env =>
    simp only [z] at h
    cases zo : outsOf as env with
    | none => simp only [zo, finX, finO] at h
    | some outs =>
      simp only [zo, finX, finO] at h
      cases fl with
      | next =>
        intro σ H0' H' _ S
        obtain ⟨g, o⟩ := S.outs hA zo
        exact h .non H0' H' g (by show Rep _ _ _ _; simp only [Rep]) o
      | brk => exact h.elim
      | cont => exact h.elim
      | ret u =>
        intro σ H0' H' v _ S hu
        obtain ⟨g, o⟩ := S.outs hA zo
        cases u with
        | d x => exact h v H0' H' g hu o
        | sl i => exact h.elim
        | nw x =>
          refine h v H0' H' g ?_ o
          rw [show (nrm x) = if isMutD x = true then U.nw x else U.d x from rfl]
          have h' : RepN ⟨T, H0, H, ioL as vs, 0⟩ σ H0' H' env x v := hu
          unfold RepN at h'
          by_cases hm : isMutD x = true
          · rw [if_pos hm] at h' ⊢
            show RepG T H0' H' H x v
            unfold RepG
            rw [if_pos hm]
            obtain ⟨a, rfl, h1, h2, _⟩ := h'
            exact ⟨a, rfl, h1, h2⟩
          · rw [if_neg hm] at h' ⊢
            exact h'
end PP
end
section
set_option maxHeartbeats 1000000
namespace PP
open PySem PySem.Spec PyProof.Rows L2
structure FnG (P : Program) (w : World) (K : PySem.W.Frag) (mg : Str → Option Value) (base : Heap) (k : Nat) (f : Addr) (fd : FuncData) (ps : List Str) (sp : Sp) : Prop where
  len : ∀ vs H Q E, sp vs H Q E → vs.length = ps.length
  run : ∀ (A : Around) (outer : List PySem.Env) (s : Shared) (H : Hp) (args : Args) (us : List Value) (vs : List V) (Q : VK) (E : XK), A.guards = some [] → Room k A → Env0 P w K mg base A outer s H →
    BindsTo s fd args (ps.zip us) → Vals vs us → sp vs H Q E → codeAny (model P w) A (.call (.ref f) args) (CR (L2.CX P w) outer P w H s Q E) s
theorem FnG.up {P : Program} {w : World} {K : PySem.W.Frag} {mg : Str → Option Value} {base : Heap} {j k : Nat} {f : Addr} {fd : FuncData} {ps : List Str} {sp : Sp} (F : FnG P w K mg base j f fd ps sp) (h : j ≤ k) : FnG P w K mg base k f fd ps sp :=
  ⟨F.len, fun A outer s H args us vs Q E hg hr => F.run A outer s H args us vs Q E hg (hr.mono h)⟩
/-- a def of the text, its defaults anywhere -/
structure FunV (K : PySem.W.Frag) (x qual : Str) (st : Stmt) (f : Addr) (fd : FuncData) : Prop where
  ex : ∃ (oc : Value) (od : Option Addr) (dV kV doc pm : Value) (an : Option Addr) (cdv ct : Value) (osl : Array (Option Value)),
    fd = PySem.W.fnOf x qual (defArgs st) (defBody st) (defScope st) dV kV doc pm an cdv ct ∧ K.lookup f = some ⟨oc, od, .func fd, osl⟩ ∧ PySem.W.codeIn K cdv qual = true
  kp : PySem.W.keepIn K (.ref f) = true
theorem funV {K : PySem.W.Frag} {x qual : Str} {st : Stmt} {f : Addr} {fd : FuncData} (F : Fun K x qual st f fd) : FunV K x qual st f fd := by
  obtain ⟨oc, od, kV, doc, pm, an, cdv, ct, osl, e, l, c⟩ := F.ex
  exact ⟨⟨oc, od, .none, kV, doc, pm, an, cdv, ct, osl, e, l, c⟩, F.kp⟩
theorem FnG.of {P : Program} {w : World} {K : PySem.W.Frag} {mg : Str → Option Value} {base : Heap} {x qual : Str} {st : Stmt} {f : Addr} {fd : FuncData} {N ps : List Str} {k : Nat} {sp : Sp} (F : FunV K x qual st f fd) (S : FnScope N ps (defScope st))
    (len : ∀ vs H Q E, sp vs H Q E → vs.length = ps.length)
    (hb : ∀ (cdv : Value), fd.code = cdv → ∀ (A : Around) (outer : List PySem.Env) (s : Shared) (H : Hp) (vs : List V) (Q : VK) (E : XK), A.guards = some [] → Room k (A.deeper (envOfC qual (defScope st) s.heap.objs.size f cdv)) → sp vs H Q E →
      ∃ t, PSs (cxOf (L2.CX P w) P w K mg base N qual (defScope st) f cdv A outer s H E) (defBody st) t ∧ t { nx := fun _ H' => Q .non H', rt := Q } (L2.start N vs) H) : FnG P w K mg base (k + 1) f fd ps sp := by
  obtain ⟨oc, od, dV, kV, doc, pm, an, cdv, ct, osl, rfl, lk, hcd⟩ := F.ex
  refine ⟨len, fun A outer s H args us vs Q E hgd hr e0 hbi rv hsp => ?_⟩
  have hkin : K.In s.heap := e0.mod.kin.keeps fun y z q => (e0.bs y z q).1
  have hlim : s.heap.NoLimit := e0.mod.nolimit.keeps fun y z q => (e0.bs y z q).1
  have kinds : ∀ y ∈ ps.zip us, (defScope st).names.lookup y.1 = some .local ∨ ((defScope st).names.lookup y.1 = some .cell ∧ ((cellsFrom (s.heap.objs.size + 1) (defScope st).names []).lookup y.1).isSome = true) := by
    rintro ⟨nm, val⟩ hy
    cases S.par nm (List.of_mem_zip hy).1 with
    | inl q => exact .inl q
    | inr q => exact .inr ⟨q, PySem.W.cellsFrom_some _ _ _ (.inl q)⟩
  refine codeAny_call_function hr.depth (hkin _ _ lk) rfl S.co S.gen rfl (PySem.W.codeRec_of hkin hcd) (hbi _ _ _ _ ?_)
  refine wpAny_newFunctionEnv_cells S.kind kinds fun env henv s1 hin => ?_
  subst henv
  refine ⟨hlim.keeps hin.toInCall.keep, codeAny_func ?_⟩
  obtain ⟨t, hder, hread⟩ := hb cdv rfl A outer s H vs Q E hgd (hr.deeper _) hsp
  have I0 := inv_start (CX := L2.CX P w) (E := E) S hr.hd e0 (len _ _ _ _ hsp) rv hin
  refine wpAny_mono (hder.run [] s1 _ H _ I0 hread) (fun fl s' hfl => ?_) fun e s' he => he
  cases fl with
  | ret u => obtain ⟨v, σ', H', J, r, q⟩ := hfl; exact ⟨v, H', J.os, J.bare, J.base, J.hok, r, q⟩
  | next => obtain ⟨σ', H', J, q⟩ := hfl; exact ⟨V.non, H', J.os, J.bare, J.base, J.hok, rfl, q⟩
  | brk => obtain ⟨_, _, _, q⟩ := hfl; exact q.elim
  | cont => obtain ⟨_, _, _, q⟩ := hfl; exact q.elim
section
variable {X : Cx} {C : Ctx} {W : WX} {cl : CallF} {e a b c : Expr} {es : List Expr} {e' a' b' c' : Ex} {es' : Exs} {pos : Pos}
/-- the def at f runs -/
theorem FnG.goA {k : Nat} {f : Addr} {fd : FuncData} {ps : List Str} {sp : Sp} {pins : List (Addr × Obj)} {σ : L2.St} {H : Hp} {s : Shared} {Q : VK} {args : Args} {us : List Value} {vs : List V} {E : XK}
    (F : FnG X.prog X.w X.K X.mg X.base k f fd ps sp) (hgd : X.A.guards = some []) (hr : Room k X.A) (hb : BindsTo s fd args (ps.zip us)) (tk : Takes X W) (hE : ∀ cls d H', E cls d H' → W cls d σ H')
    (I : Inv X pins σ H s) (r : Vals vs us) (h : sp vs H Q E) : wpAny (model X.prog X.w) X.A (call (.ref f) args.pos args.kw) (EP X pins σ Q) X.xe s := by
  refine wpAny_call (codeAny_mono (F.run X.A X.stack s H args us vs Q E hgd hr I.env0 hb r h) fun res s' hq => ?_)
  cases res with
  | error ee => exact tk _ _ (XE.of_call I hE hq)
  | ok fl =>
    cases fl with
    | ret u => exact I.after hq
    | next => exact hq.elim
    | brk => exact hq.elim
    | cont => exact hq.elim
theorem FnG.go {k : Nat} {f : Addr} {fd : FuncData} {ps : List Str} {sp : Sp} {ds : List Value} {dvs : List V} {pins : List (Addr × Obj)} {σ : L2.St} {H : Hp} {s : Shared} {Q : VK} {us : List Value} {vs : List V} {E : XK}
    (F : FnG X.prog X.w X.K X.mg X.base k f fd ps sp) (hgd : X.A.guards = some []) (hr : Room k X.A) (hb : Binds X.K fd ps ds) (hd : Vals dvs ds) (tk : Takes X W) (hE : ∀ cls d H', E cls d H' → W cls d σ H')
    (I : Inv X pins σ H s) (r : Vals vs us) (h : sp (vs ++ dvs) H Q E) : wpAny (model X.prog X.w) X.A (call (.ref f) us) (EP X pins σ Q) X.xe s := by
  have r2 := r.append hd
  have hlen : (us ++ ds).length = ps.length := r2.length ▸ F.len _ _ _ _ h
  exact F.goA (args := ⟨us, []⟩) hgd hr (hb s us I.kIn hlen) tk hE I r2 h
def UcOk (C : Ctx) (σ : L2.St) (H0 : Hp) : List U → List V → Prop
  | [], vs => vs = []
  | .d x :: us, vs => ∃ v r, vs = v :: r ∧ Rep C.T H0 x v ∧ UcOk C σ H0 us r
  | .sl i :: us, vs => ∃ v r, vs = v :: r ∧ σ[i]? = some (some v) ∧ UcOk C σ H0 us r
  | .nw _ :: _, _ => False
theorem UcOk.mono {σ : L2.St} {H0 H0' : Hp} (e : Ext H0 H0') : ∀ {us : List U} {vs : List V}, UcOk C σ H0 us vs → UcOk C σ H0' us vs
  | [], _, h => h
  | .d x :: us, _, h => by obtain ⟨v, r, rfl, h1, h2⟩ := h; exact ⟨v, r, rfl, Rep.mono e _ _ h1, UcOk.mono e h2⟩
  | .sl i :: us, _, h => by obtain ⟨v, r, rfl, h1, h2⟩ := h; exact ⟨v, r, rfl, h1, UcOk.mono e h2⟩
  | .nw _ :: _, _, h => h
def tAC (C : Ctx) (W : WX) (cl : CallF) (ms : List Bool) (es : Exs) : TA := fun σ H Q => ∃ H0 env, Sim C σ H0 H env ∧ RQ C W σ (fun us _ H0' H' => ∀ vs, UcOk C σ H0' us vs → Q vs H') H0 (evC cl ms es env)
theorem k_nil {ms : List Bool} : PA X [] (tAC C W cl ms .nil) := paI pa_nil fun σ H Q ⟨H0, env, S, q⟩ => by
  simp only [evC] at q
  exact q H0 H (Ext.rfl' _) S [] rfl
theorem k_cons {m : Bool} {ms : List Bool} (ha : PE X e (tI C W cl e')) (hr : PA X es (tAC C W cl ms es')) (hs : starEach (e :: es) X.env = (false, eval e X.env) :: starEach es X.env := by rfl) : PA X (e :: es) (tAC C W cl (m :: ms) (.cons e' es')) :=
  paI (pa_cons ha hr hs) fun σ H Q ⟨H0, env, S, q⟩ => by
    simp only [evC] at q
    refine seqI S q fun u env1 x H1 H1' e1 S1 u1 q1 => ?_
    cases m with
    | true =>
      cases u with
      | d x => exact q1.elim
      | nw x => exact q1.elim
      | sl i =>
        simp only at q1
        refine ⟨H1, env1, S1, ?_⟩
        cases z : evC cl ms es' env1 with
        | ok us env3 =>
          simp only [z] at q1
          exact fun H3 H3' e3 S3 vs hv => q1 H3 H3' e3 S3 (x :: vs) ⟨x, vs, rfl, u1, hv⟩
        | exc x env3 => simp only [z] at q1; exact q1
        | bad => simp only [z] at q1; exact q1
    | false =>
      simp only at q1
      obtain ⟨⟨d, env2⟩, hf, q1⟩ := q1.orB
      obtain ⟨H2, e2, S2, r2⟩ := S1.take u1 hf
      have q2 := RQ.mono e2 q1
      refine ⟨H2, env2, S2, ?_⟩
      cases z : evC cl ms es' env2 with
      | ok us env3 =>
        simp only [z] at q2
        exact fun H3 H3' e3 S3 vs hv => q2 H3 H3' e3 S3 (x :: vs) ⟨x, vs, rfl, Rep.mono e3 _ _ r2, hv⟩
      | exc x env3 => simp only [z] at q2; exact q2
      | bad => simp only [z] at q2; exact q2
end
section
variable {C : Ctx} {σ : L2.St} {H0 H H0' H' : Hp} {env : Env}
/-- the arguments, as the callee has them -/
theorem args_ok (S : Sim C σ H0 H env) : ∀ {ms : List Bool} {us : List U} {vs : List V} {as : List Ar}, argsOf env ms us = some as → UcOk C σ H0 us vs → ArOk C.T H0 H as vs ∧ as.length = ms.length ∧
    (∀ a, some a ∈ ioL as vs → ∃ i ∈ ioSlots us, ownS (getS env i) = true ∧ σ[i]? = some (some (.ref a)))
  | [], [], _, _, h, hu => by cases h; cases hu; exact ⟨rfl, rfl, fun a ha => by simp [ioL] at ha⟩
  | [], _ :: _, _, _, h, hu => by simp [argsOf] at h
  | true :: _, [], _, _, h, hu => by simp [argsOf] at h
  | false :: _, [], _, _, h, hu => by simp [argsOf] at h
  | false :: ms, .d x :: us, _, as, h, hu => by
    simp only [argsOf, Option.map_eq_some_iff] at h
    obtain ⟨as', h1, rfl⟩ := h
    obtain ⟨v, r, rfl, h2, h3⟩ := hu
    obtain ⟨q1, q2, q3⟩ := args_ok S h1 h3
    refine ⟨⟨v, r, rfl, h2, q1⟩, by simp [q2], fun a ha => ?_⟩
    simp only [ioL, List.mem_cons, reduceCtorEq, false_or] at ha
    exact q3 a ha
  | false :: ms, .sl i :: us, _, as, h, hu => by simp [argsOf] at h
  | false :: ms, .nw i :: us, _, as, h, hu => by simp [argsOf] at h
  | true :: ms, .d x :: us, _, as, h, hu => by simp [argsOf] at h
  | true :: ms, .nw x :: us, _, as, h, hu => by simp [argsOf] at h
  | true :: ms, .sl i :: us, _, as, h, hu => by
    obtain ⟨v, r, rfl, h2, h3⟩ := hu
    have hi := S.slots i
    have key : ∀ d, ownS (getS env i) = true → (∃ a, v = .ref a ∧ RepO C.T H0 H d (.ref a)) → ((argsOf env ms us).map (Ar.io d :: ·)) = some as → ArOk C.T H0 H as (v :: r) ∧ as.length = (true :: ms).length ∧
        (∀ a, some a ∈ ioL as (v :: r) → ∃ j ∈ ioSlots (.sl i :: us), ownS (getS env j) = true ∧ σ[j]? = some (some (.ref a))) := by
      intro d ho ⟨a, ev, hr⟩ hm
      subst ev
      simp only [Option.map_eq_some_iff] at hm
      obtain ⟨as', h1, rfl⟩ := hm
      obtain ⟨q1, q2, q3⟩ := args_ok S h1 h3
      refine ⟨⟨a, r, rfl, hr, q1⟩, by simp [q2], fun b hb => ?_⟩
      simp only [ioL, List.mem_cons, Option.some.injEq] at hb
      rcases hb with rfl | hb
      · exact ⟨i, by simp [ioSlots], ho, h2⟩
      · obtain ⟨j, hj, z⟩ := q3 b hb
        exact ⟨j, by simp [ioSlots, hj], z⟩
    unfold argsOf at h
    split at h
    · rename_i d hd
      rw [hd] at hi
      obtain ⟨a, e1, _, e3⟩ := hi
      rw [h2] at e1; cases e1
      exact key d (by rw [hd]; rfl) ⟨a, rfl, e3⟩ h
    · rename_i d hd
      rw [hd] at hi
      obtain ⟨a, e1, _, e3⟩ := hi
      rw [h2] at e1; cases e1
      exact key d (by rw [hd]; rfl) ⟨a, rfl, e3⟩ h
    · cases h
theorem mem_of_dupFree {i : Nat} {is : List Nat} (h : dupFree (i :: is) = true) : i ∉ is ∧ dupFree is = true := by
  simp only [dupFree, Bool.and_eq_true, Bool.not_eq_true', List.contains_eq_mem, decide_eq_false_iff_not] at h
  exact h
/-- no address is handed in twice -/
theorem io_nodup (S : Sim C σ H0 H env) : ∀ {ms : List Bool} {us : List U} {vs : List V} {as : List Ar}, argsOf env ms us = some as → UcOk C σ H0 us vs → dupFree (ioSlots us) = true → NoDup (ioL as vs)
  | [], [], _, _, h, hu, _ => by cases h; cases hu; intro i j a hi; simp [ioL] at hi
  | [], _ :: _, _, _, h, hu, _ => by simp [argsOf] at h
  | true :: _, [], _, _, h, hu, _ => by simp [argsOf] at h
  | false :: _, [], _, _, h, hu, _ => by simp [argsOf] at h
  | false :: ms, .d x :: us, _, as, h, hu, hd => by
    simp only [argsOf, Option.map_eq_some_iff] at h
    obtain ⟨as', h1, rfl⟩ := h
    obtain ⟨v, r, rfl, h2, h3⟩ := hu
    have q := io_nodup S h1 h3 hd
    intro i j a hi hj
    cases i with
    | zero => simp [ioL] at hi
    | succ i =>
      cases j with
      | zero => simp [ioL] at hj
      | succ j => simp only [ioL, List.getElem?_cons_succ] at hi hj; rw [q i j a hi hj]
  | false :: ms, .sl i :: us, _, as, h, hu, _ => by simp [argsOf] at h
  | false :: ms, .nw i :: us, _, as, h, hu, _ => by simp [argsOf] at h
  | true :: ms, .d x :: us, _, as, h, hu, _ => by simp [argsOf] at h
  | true :: ms, .nw x :: us, _, as, h, hu, _ => by simp [argsOf] at h
  | true :: ms, .sl k :: us, _, as, h, hu, hd => by
    have hd' : dupFree (k :: ioSlots us) = true := hd
    obtain ⟨hk, hd2⟩ := mem_of_dupFree hd'
    obtain ⟨v, r, rfl, h2, h3⟩ := hu
    have key : ∀ d, ownS (getS env k) = true → (∃ a, v = .ref a) → ((argsOf env ms us).map (Ar.io d :: ·)) = some as → NoDup (ioL as (v :: r)) := by
      intro d ho ⟨a, ev⟩ hm
      subst ev
      simp only [Option.map_eq_some_iff] at hm
      obtain ⟨as', h1, rfl⟩ := hm
      have q := io_nodup S h1 h3 hd2
      have far : ∀ i b, (ioL as' r)[i]? = some (some b) → b ≠ a := fun i b hb z => by
        subst z
        obtain ⟨j, hj, oj, ej⟩ := (args_ok S h1 h3).2.2 b (List.mem_of_getElem? hb)
        exact S.inj k j b (fun w => hk (w ▸ hj)) ho oj h2 ej
      intro i j b hi hj
      cases i with
      | zero =>
        cases j with
        | zero => rfl
        | succ j => simp [ioL] at hi hj; subst hi; exact (far j _ hj rfl).elim
      | succ i =>
        cases j with
        | zero => simp [ioL] at hi hj; subst hj; exact (far i _ hi rfl).elim
        | succ j => simp only [ioL, List.getElem?_cons_succ] at hi hj; rw [q i j b hi hj]
    have hi := S.slots k
    unfold argsOf at h
    split at h
    · rename_i d hdd
      rw [hdd] at hi
      obtain ⟨a, e1, _, e3⟩ := hi
      rw [h2] at e1; cases e1
      exact key d (by rw [hdd]; rfl) ⟨a, rfl⟩ h
    · rename_i d hdd
      rw [hdd] at hi
      obtain ⟨a, e1, _, e3⟩ := hi
      rw [h2] at e1; cases e1
      exact key d (by rw [hdd]; rfl) ⟨a, rfl⟩ h
    · cases h
/-- what stands at the slots behind the call -/
theorem put_at (S : Sim C σ H0 H env) : ∀ {ms : List Bool} {us : List U} {vs : List V} {as : List Ar} {outs : List D} {env0 : Env}, argsOf env ms us = some as → UcOk C σ H0 us vs → dupFree (ioSlots us) = true → OutsOk C.T H0' H' (ioL as vs) outs →
    (∀ i ∈ ioSlots us, getS env0 i = getS env i) → env0.length = env.length →
    (putIO env0 (ioSlots us) outs).length = env.length ∧ (∀ i, i ∉ ioSlots us → getS (putIO env0 (ioSlots us) outs) i = getS env0 i) ∧
    ∀ i ∈ ioSlots us, ∃ a d, ownS (getS env i) = true ∧ σ[i]? = some (some (.ref a)) ∧ some a ∈ ioL as vs ∧ getS (putIO env0 (ioSlots us) outs) i = setIO (getS env i) d ∧ RepO C.T H0' H' d (.ref a)
  | [], [], _, _, outs, _, h, hu, _, ho, _, hl => by cases h; cases hu; cases ho; exact ⟨hl, fun _ _ => rfl, fun i hi => by simp [ioSlots] at hi⟩
  | [], _ :: _, _, _, _, _, h, hu, _, _, _, _ => by simp [argsOf] at h
  | true :: _, [], _, _, _, _, h, hu, _, _, _, _ => by simp [argsOf] at h
  | false :: _, [], _, _, _, _, h, hu, _, _, _, _ => by simp [argsOf] at h
  | false :: ms, .d x :: us, _, as, outs, _, h, hu, hd, ho, he, hl => by
    simp only [argsOf, Option.map_eq_some_iff] at h
    obtain ⟨as', h1, rfl⟩ := h
    obtain ⟨v, r, rfl, h2, h3⟩ := hu
    obtain ⟨q1, q2, q3⟩ := put_at S h1 h3 hd ho he hl
    exact ⟨q1, q2, fun i hi => by obtain ⟨a, d, z0, z1, z2, z3⟩ := q3 i hi; exact ⟨a, d, z0, z1, by simp [ioL, z2], z3⟩⟩
  | false :: ms, .sl i :: us, _, as, _, _, h, hu, _, _, _, _ => by simp [argsOf] at h
  | false :: ms, .nw i :: us, _, as, _, _, h, hu, _, _, _, _ => by simp [argsOf] at h
  | true :: ms, .d x :: us, _, as, _, _, h, hu, _, _, _, _ => by simp [argsOf] at h
  | true :: ms, .nw x :: us, _, as, _, _, h, hu, _, _, _, _ => by simp [argsOf] at h
  | true :: ms, .sl k :: us, _, as, outs, env0, h, hu, hd, ho, he, hl => by
    have hd' : dupFree (k :: ioSlots us) = true := hd
    obtain ⟨hk, hd2⟩ := mem_of_dupFree hd'
    obtain ⟨v, r, rfl, h2, h3⟩ := hu
    have key : ∀ d, ownS (getS env k) = true → (∃ a, v = .ref a) → ((argsOf env ms us).map (Ar.io d :: ·)) = some as → (putIO env0 (ioSlots (.sl k :: us)) outs).length = env.length ∧ (∀ i, i ∉ ioSlots (.sl k :: us) → getS (putIO env0 (ioSlots (.sl k :: us)) outs) i = getS env0 i) ∧
        ∀ i ∈ ioSlots (.sl k :: us), ∃ a d, ownS (getS env i) = true ∧ σ[i]? = some (some (.ref a)) ∧ some a ∈ ioL as (v :: r) ∧ getS (putIO env0 (ioSlots (.sl k :: us)) outs) i = setIO (getS env i) d ∧ RepO C.T H0' H' d (.ref a) := by
      intro d hown ⟨a, ev⟩ hm
      subst ev
      simp only [Option.map_eq_some_iff] at hm
      obtain ⟨as', h1, rfl⟩ := hm
      obtain ⟨o1, o2, rfl, ro, ho2⟩ := ho
      have hkl : k < env0.length := by rw [hl, S.len]; exact (List.getElem?_eq_some_iff.mp h2).1
      have hg : ∀ j, j ≠ k → getS (env0.set k (setIO (getS env0 k) o1)) j = getS env0 j := fun j hj => by
        rw [getS_set, if_neg (fun z => hj z.1.symm)]
      obtain ⟨q1, q2, q3⟩ := put_at (env0 := env0.set k (setIO (getS env0 k) o1)) S h1 h3 hd2 ho2 (fun i hi => by
        rw [hg i (fun z => hk (z ▸ hi))]; exact he i (by simp [ioSlots, hi])) (by simp [hl])
      refine ⟨q1, fun i hi => ?_, fun i hi => ?_⟩
      · simp only [ioSlots, List.mem_cons, not_or] at hi
        show getS (putIO (env0.set k (setIO (getS env0 k) o1)) (ioSlots us) o2) i = _
        rw [q2 i hi.2, hg i hi.1]
      · simp only [ioSlots, List.mem_cons] at hi
        rcases hi with rfl | hi
        · refine ⟨a, o1, hown, h2, by simp [ioL], ?_, ro⟩
          show getS (putIO (env0.set i (setIO (getS env0 i) o1)) (ioSlots us) o2) i = _
          rw [q2 i hk, getS_set, if_pos ⟨rfl, hkl⟩, he i (by simp [ioSlots])]
        · obtain ⟨a', d', z0, z1, z2, z3⟩ := q3 i hi
          exact ⟨a', d', z0, z1, by simp [ioL, z2], z3⟩
    have hi := S.slots k
    unfold argsOf at h
    split at h
    · rename_i d hdd
      rw [hdd] at hi
      obtain ⟨a, e1, _, e3⟩ := hi
      rw [h2] at e1; cases e1
      exact key d (by rw [hdd]; rfl) ⟨a, rfl⟩ h
    · rename_i d hdd
      rw [hdd] at hi
      obtain ⟨a, e1, _, e3⟩ := hi
      rw [h2] at e1; cases e1
      exact key d (by rw [hdd]; rfl) ⟨a, rfl⟩ h
    · cases h
theorem Sim.call (S : Sim C σ H0 H env) {ms : List Bool} {us : List U} {vs : List V} {as : List Ar} {outs : List D} (h : argsOf env ms us = some as) (hu : UcOk C σ H0 us vs) (hd : dupFree (ioSlots us) = true)
    (g : GrC C.T (ioL as vs) H0 H H0' H') (ho : OutsOk C.T H0' H' (ioL as vs) outs) : Sim C σ H0' H' (putIO env (ioSlots us) outs) := by
  obtain ⟨p1, p2, p3⟩ := put_at S h hu hd ho (fun _ _ => rfl) rfl
  have hio := (args_ok S h hu).2.2
  have kind : ∀ j, ownS (getS (putIO env (ioSlots us) outs) j) = ownS (getS env j) := fun j => by
    by_cases hj : j ∈ ioSlots us
    · obtain ⟨a, d, _, _, _, e, _⟩ := p3 j hj
      rw [e, own_setIO]
    · rw [p2 j hj]
  have far : ∀ j a, ownS (getS env j) = true → σ[j]? = some (some (.ref a)) → j ∉ ioSlots us → some a ∉ ioL as vs := fun j a oj ej hj ha => by
    obtain ⟨i, hi, oi, ei⟩ := hio a ha
    exact S.inj i j a (fun z => hj (z ▸ hi)) oi oj ei ej
  have notHe : ∀ a, some a ∈ ioL as vs → C.He a = none ∨ C.io a := fun a ha => by
    obtain ⟨i, hi, oi, ei⟩ := hio a ha
    have q := S.slots i
    cases z : getS env i with
    | un => rw [z] at oi; cases oi
    | fn => rw [z] at oi; cases oi
    | fz d => rw [z] at oi; cases oi
    | ow d => rw [z] at q; obtain ⟨b, e1, e2, _⟩ := q; rw [ei] at e1; cases e1; exact .inl e2
    | io d => rw [z] at q; obtain ⟨b, e1, e2, _⟩ := q; rw [ei] at e1; cases e1; exact .inr (List.mem_of_getElem? e2)
  have there : ∀ a, some a ∈ ioL as vs → H' a ≠ none := fun a ha q => by
    obtain ⟨i, hi, oi, ei⟩ := hio a ha
    obtain ⟨b, d, _, e1, _, _, r⟩ := p3 i hi
    rw [ei] at e1; cases e1
    obtain ⟨_, o, z⟩ := r.some
    rw [q] at z; cases z
  exact {
    ok := S.ok
    ex := g.e01
    ex0 := S.ex0.tr g.e0
    fresh := fun a q q' => by
      cases z : H0 a with
      | none => exact S.he (g.new a z q')
      | some o => exact S.fresh a q (by rw [z]; exact nofun)
    keep := fun a o q q' => by
      obtain ⟨u, hu⟩ := (S.keep a o q q').some
      exact (S.keep a o q q').tr hu (g.keep a u (fun ha => by
        rcases notHe a ha with z | z
        · rw [z] at q; cases q
        · exact q' z) hu)
    tabs := g.tb S.tabs
    tno := fun p hp => by
      obtain ⟨ps, h1, _⟩ := S.tabs p hp
      cases z : H0' p.1 with
      | none => rfl
      | some u => rw [g.new p.1 (S.tno p hp) (by rw [z]; exact nofun)] at h1; cases h1
    ioH := fun a q q' => by
      by_cases ha : some a ∈ ioL as vs
      · exact there a ha q'
      · cases z : H a with
        | none => exact S.ioH a q z
        | some o => obtain ⟨u, hu⟩ := (g.keep a o ha z).some; rw [hu] at q'; cases q'
    len := p1.trans S.len
    slots := fun j => by
      by_cases hj : j ∈ ioSlots us
      · obtain ⟨a, d, oj, ej, _, e, r⟩ := p3 j hj
        rw [e]
        have q := S.slots j
        cases z : getS env j with
        | un => trivial
        | fn => rw [z] at oj; cases oj
        | fz d' => rw [z] at oj; cases oj
        | ow d' => rw [z] at q; obtain ⟨b, e1, e2, _⟩ := q; rw [ej] at e1; cases e1; exact ⟨a, ej, e2, r⟩
        | io d' => rw [z] at q; obtain ⟨b, e1, e2, _⟩ := q; rw [ej] at e1; cases e1; exact ⟨a, ej, e2, r⟩
      · rw [p2 j hj]
        refine (S.slots j).step g.e0 fun a oj ej => ?_
        obtain ⟨n0, o, ho⟩ := S.own oj ej
        refine ⟨?_, by rw [ho]; exact (g.keep a o (far j a oj ej hj) ho).at (S.ownK oj ej ho).1⟩
        cases z : H0' a with
        | none => rfl
        | some u => rw [g.new a n0 (by rw [z]; exact nofun)] at ho; cases ho
    inj := fun i j a hij hi hj ei ej => by
      rw [kind] at hi hj
      exact S.inj i j a hij hi hj ei ej }
end
end PP
end
section
set_option maxHeartbeats 1000000
namespace PP
open PySem PySem.Spec PyProof.Rows L2
section
variable {X : Cx} {C : Ctx} {W : WX} {cl : CallF} {e a b c : Expr} {es : List Expr} {e' a' b' c' : Ex} {es' : Exs} {pos : Pos}
/-- the reading of a call of a def: its arguments, then its promise with the wish W -/
def tCl (T : Tbl) (W : WX) (cl : CallF) (f n : Nat) (t : TA) : TE := fun σ H Q => t σ H fun vs H1 => spF T cl f n vs H1 Q fun cls d H' => W cls d σ H'
/-- what a call hands back -/
theorem ret_u {σ : L2.St} {H1 H1' H0' H' : Hp} {env1 : Env} {ms : List Bool} {us : List U} {vs : List V} {as : List Ar} {outs : List D} {r : U} {v : V} (S1 : Sim C σ H1 H1' env1) (ha : argsOf env1 ms us = some as) (hv : UcOk C σ H1 us vs) (hd : dupFree (ioSlots us) = true)
    (g : GrC C.T (ioL as vs) H1 H1' H0' H') (o : OutsOk C.T H0' H' (ioL as vs) outs) (hr : RetOk C.T H0' H' H1' r v) : UOk C σ H0' H' (putIO env1 (ioSlots us) outs) r v := by
  cases r with
  | d x => exact hr
  | sl i => exact hr.elim
  | nw x =>
    have hr' : RepG C.T H0' H' H1' x v := hr
    show RepN _ _ _ _ _ _ _
    unfold RepG at hr'
    unfold RepN
    split
    · rename_i hm
      rw [if_pos hm] at hr'
      obtain ⟨a, rfl, h1, h2⟩ := hr'
      refine ⟨a, rfl, S1.he h1, h2, fun i hi ei => ?_⟩
      have hk : ownS (getS env1 i) = true := by
        obtain ⟨_, p2, p3⟩ := put_at S1 ha hv hd o (fun _ _ => rfl) rfl
        by_cases hj : i ∈ ioSlots us
        · obtain ⟨_, _, z, _⟩ := p3 i hj; exact z
        · rw [p2 i hj] at hi; exact hi
      obtain ⟨_, o1, ho1⟩ := S1.own hk ei
      rw [h1] at ho1; cases ho1
    · rename_i hm
      rw [if_neg hm] at hr'
      exact hr'
theorem readC {σ : L2.St} {H : Hp} {Q : VK} {f n : Nat} {ms : List Bool} (hn : ms.length = n) (h : tI C W cl (.call f ms es') σ H Q) : tCl C.T W cl f n (tAC C W cl ms es') σ H Q := by
  obtain ⟨H0, env, S, q⟩ := h
  simp only [ev] at q
  refine ⟨H0, env, S, ?_⟩
  cases z : evC cl ms es' env with
  | bad => rw [z] at q; exact q.elim
  | exc x env1 => rw [z] at q; exact q
  | ok us env1 =>
    rw [z] at q
    simp only [R.bind_ok] at q
    obtain ⟨as, ha, q⟩ := q.orB
    split at q
    rotate_left
    · exact q.elim
    rename_i hd
    intro H1 H1' e1 S1 vs hv
    obtain ⟨g1, g2, g3⟩ := args_ok S1 ha hv
    refine ⟨H1, as, S1.ex, g1, io_nodup S1 ha hv hd, g2.trans hn, S1.tb, ?_⟩
    cases zc : cl f as with
    | bad => simp only [zc] at q; exact q
    | exc x outs =>
      simp only [zc] at q
      intro cls d H0' H' g o hx
      exact q cls d H0' H' (e1.tr g.e0) (S1.call ha hv hd g o) hx
    | ok r outs =>
      simp only [zc] at q
      intro v H0' H' g hr o
      have S2 := S1.call ha hv hd g o
      exact q H0' H' (e1.tr g.e0) S2 v (ret_u S1 ha hv hd g o hr)
theorem c_call {x : Str} {p : Pos} {k f n : Nat} {fa : Addr} {fd : FuncData} {ps : List Str} {ms : List Bool} (F : FnG X.prog X.w X.K X.mg X.base k fa fd ps (spF C.T cl f n)) (hgd : X.A.guards = some []) (hr : Room k X.A) (tk : Takes X W)
    (hg : Gl X x) (hm : X.mg x = some (.ref fa)) (hk : PySem.W.keepIn X.K (.ref fa) = true) (hb : Binds X.K fd ps []) (ha : PA X (e :: es) (tAC C W cl ms es')) (hn : ms.length = n := by rfl) (hdb : (x == ("__debug__" : Str)) = false := by decide)
    (he : starEach (e :: es) X.env = (false, eval e X.env) :: starEach es X.env := by rfl) (hpl : (backTo pos (starEach es X.env)).any (·.1) = false := by rfl) : PE X (.Call (.Name x p) (e :: es) [] pos) (tI C W cl (.call f ms es')) := by
  refine peI (t := tCl C.T W cl f n (tAC C W cl ms es')) ⟨fun pins s σ H Q I h => ?_⟩ fun σ H Q q => readC hn q
  refine wpAny_Call_Name_kw (ld_glob I hg hm ?_ hdb)
  refine PySem.W.callWith_K (h₀ := X.base) I.ok.mod.kin hk (thn (ha.run pos pins s σ H _ I h) fun us s1 hq => ?_) he hpl
  obtain ⟨vs, H1, I1, r, q⟩ := hq
  exact ⟨I1.kIn, F.go hgd hr hb .nil tk (fun _ _ _ z => z) I1 r (by rw [List.append_nil]; exact q)⟩
theorem c_call0 {x : Str} {p : Pos} {k f : Nat} {fa : Addr} {fd : FuncData} {ps : List Str} (F : FnG X.prog X.w X.K X.mg X.base k fa fd ps (spF C.T cl f 0)) (hgd : X.A.guards = some []) (hr : Room k X.A) (tk : Takes X W)
    (hg : Gl X x) (hm : X.mg x = some (.ref fa)) (hk : PySem.W.keepIn X.K (.ref fa) = true) (hb : Binds X.K fd ps []) (hdb : (x == ("__debug__" : Str)) = false := by decide) : PE X (.Call (.Name x p) [] [] pos) (tI C W cl (.call f [] .nil)) := by
  refine peI (t := tCl C.T W cl f 0 (tAC C W cl [] .nil)) ⟨fun pins s σ H Q I h => ?_⟩ fun σ H Q q => readC rfl q
  refine wpAny_Call_Name_kw (ld_glob I hg hm ?_ hdb)
  obtain ⟨H0, env, S, q⟩ := h
  simp only [evC] at q
  exact PySem.W.callWith_K0 I.kIn hk (F.go (us := []) hgd hr hb .nil tk (fun _ _ _ z => z) I .nil (q H0 H (Ext.rfl' _) S [] rfl))
end
theorem law_run {P : Program} {w : World} {K : PySem.W.Frag} {mg mb : Str → Option Value} {k : Nat} {fa a : Addr} {cs : List (Addr × Addr)} {fd : FuncData} {x : Str} {sp : Sp} {s1 : Shared} {vs : List Value} {ns : List Int}
    (hK : K.In s1.heap) (hm : s1.heap.Ns mainGlobals mg) (hb : s1.heap.Ns builtinsNs mb) (hbb : ∀ x : Str, x ≠ "__name__" → mb x = bootBuiltins x) (hno : s1.heap.NoLimit) (hgen : s1.gens = #[])
    (hT : ∀ p ∈ cs, s1.heap.get? p.2 = some { cls := .none, data := .fields #[] }) (nT : ∀ p ∈ cs, K.lookup p.2 = none) (Cd : ∀ p ∈ cs, PySem.W.CodeHd s1.heap p.1 p.2)
    (hbm : ∃ (bm : Addr) (ob : Obj), mg "__builtins__" = some (.ref bm) ∧ bm ≠ builtinsNs ∧ s1.heap.get? bm = some ob ∧ ob.cls = .type "module" ∧ ob.dict = some builtinsNs ∧ ob.data = .plain)
    (hobj : s1.heap.get? a = some { cls := .type "list", data := .seq vs.toArray }) (hin : IntsAre vs ns) (hlen : ns.length ≤ sizeLine) (hroom : Room k callerA)
    (hF : ∀ base : Heap, K.In base → base.Ns mainGlobals mg → (∀ p ∈ cs, LamX.TabB base mg p.1 p.2) → FnG P w K mg base k fa fd [x] sp) (hbi : ∀ (s : Shared) (u : Value), BindsTo s fd ⟨[u], []⟩ [(x, u)])
    (hsp : ∀ H : Hp, (∀ p ∈ cs, H p.2 = some (.tbl #[])) → SqL K H a (ns.map V.int) → sp [.ref a] H (fun v _ => v = .bl true) fun _ _ _ => False) :
    codeAny (model P w) callerA (.call (.ref fa) ⟨[.ref a], []⟩) (fun r s' => r = .ok (.ret (.bool true)) ∧ OldK s1.heap s'.heap ∧ s'.os = s1.os ∧ AllBare s'.gens) s1 := by
  have rv : Vals (ns.map V.int) vs := vals_ints hin
  have tAt : ∀ b ∈ cs.map (·.2), s1.heap.get? b = some { cls := .none, data := .fields #[] } := fun b hb => by
    obtain ⟨p, hp, rfl⟩ := List.mem_map.mp hb
    exact hT p hp
  have aNo : a ∉ cs.map (·.2) := fun z => by
    have q := tAt a z
    rw [hobj] at q
    exact nomatch (show Data.seq vs.toArray _ = Data.fields #[] from congrArg Obj.data (Option.some.inj q))
  have tMem : ∀ p ∈ cs, p.2 ∈ cs.map (·.2) := fun p hp => List.mem_map.mpr ⟨p, hp, rfl⟩
  obtain ⟨H, hH⟩ : ∃ H : Hp, H = fun b => if b = a ∧ K.lookup a = none then some (HO.frz { cls := .type "list", data := .seq vs.toArray } (.lst (ns.map V.int))) else if b ∈ cs.map (·.2) then some (.tbl #[]) else none := ⟨_, rfl⟩
  have hat : ∀ b o, H b = some o → (b = a ∧ K.lookup a = none ∧ o = .frz { cls := .type "list", data := .seq vs.toArray } (.lst (ns.map V.int))) ∨ (b ∈ cs.map (·.2) ∧ o = .tbl #[]) := fun b o q => by
    rw [hH] at q
    simp only at q
    split at q
    · rename_i z
      cases q
      exact .inl ⟨z.1, z.2, rfl⟩
    · split at q
      · rename_i z
        cases q
        exact .inr ⟨z, rfl⟩
      · cases q
  have hTb : ∀ p ∈ cs, H p.2 = some (.tbl #[]) := fun p hp => by
    rw [hH]
    show (if p.2 = a ∧ K.lookup a = none then _ else _) = _
    rw [if_neg (fun z => aNo (by rw [← z.1]; exact tMem p hp)), if_pos (tMem p hp)]
  have hlst : SqL K H a (ns.map V.int) := by
    cases q : K.lookup a with
    | none => exact .inl (.inr ⟨{ cls := .type "list", data := .seq vs.toArray }, by rw [hH]; exact if_pos ⟨rfl, q⟩⟩)
    | some o =>
      have z := hK a o q
      rw [hobj] at z
      cases z
      exact .inr ⟨_, vs.toArray, _, q, rfl, rfl, rfl, by rw [List.size_toArray, hin.length]; exact hlen, by simpa using rv⟩
  have hok : HOk P w H s1.heap := fun b o q => by
    rcases hat b o q with ⟨rfl, _, rfl⟩ | ⟨hm, rfl⟩
    · exact ⟨hobj, by rw [List.length_map]; exact hlen, vs, _, rv, hobj⟩
    · exact tAt b hm
  have bs : ∀ {b : Addr} {o : Obj}, s1.heap.get? b = some o → H b = none → (hidT s1.heap H).get? b = some o := fun q n => hidT_get q n
  have noD : ∀ {b : Addr} {o : Obj}, s1.heap.get? b = some o → (∀ vs n, o.data ≠ .seq vs n) → o.data ≠ .fields #[] → H b = none := fun {b o} e h1 h2 => by
    cases z : H b with
    | none => rfl
    | some u =>
      rcases hat b u z with ⟨rfl, _, _⟩ | ⟨hm, _⟩
      · rw [hobj] at e
        cases e
        exact (h1 _ _ rfl).elim
      · rw [tAt b hm] at e
        cases e
        exact (h2 rfl).elim
  have nd : ∀ {b : Addr} {o : Obj} {es : Array DictEntry} {ep : Nat}, s1.heap.get? b = some o → o.data = .dict es ep → H b = none := fun {b o es ep} q d =>
    noD q (fun vs n z => by rw [d] at z; cases z) (fun z => by rw [d] at z; cases z)
  have ns' : ∀ {b : Addr} {m : Str → Option Value}, s1.heap.Ns b m → (hidT s1.heap H).Ns b m := fun {b m} ⟨o, es, ep, q, d, r⟩ => ⟨o, es, ep, bs q (nd q d), d, r⟩
  have hKb : K.In (hidT s1.heap H) := fun b o q => bs (hK b o q) (by
    cases z : H b with
    | none => rfl
    | some u =>
      rcases hat b u z with ⟨rfl, z2, _⟩ | ⟨hm, _⟩
      · rw [z2] at q
        cases q
      · obtain ⟨p, hp, rfl⟩ := List.mem_map.mp hm
        rw [nT p hp] at q
        cases q)
  have mo : Mod K mg (hidT s1.heap H) := ⟨hKb, ns' hm, ⟨mb, ns' hb, hbb⟩, by obtain ⟨mc, q1, q2⟩ := hno; exact ⟨mc, ns' q1, q2⟩⟩
  have e0 : Env0 P w K mg (hidT s1.heap H) callerA [] s1 H := ⟨rfl, mo, fun b o q => of_hidT q, Nat.le_of_eq (hidT_size _ _), trivial, fun b q => by simp [frs] at q, hok, .of_eq hgen⟩
  have TB : ∀ p ∈ cs, LamX.TabB (hidT s1.heap H) mg p.1 p.2 := fun p hp => by
    have hTp := hT p hp
    refine ⟨?_, ?_, fun z => ?_⟩
    · obtain ⟨o, us, file, tf, flags, tg, inF, text, tt, e1, r1, r2, r3, r4, r5, r6, r7, r8, hne⟩ := Cd p hp
      refine ⟨o, us, file, tf, flags, tg, inF, text, tt, bs e1 (noD e1 (fun vs n z => ?_) fun z => ?_), r1, r2, r3, r4, r5, r6, r7, r8, hne⟩
      · rw [r2] at z
        cases z
      · rw [r2] at z
        cases z
        simp at r3
    · obtain ⟨bm, ob, b1, b2, b3, b4, b5, b6⟩ := hbm
      have nG : bm ≠ mainGlobals := fun q => by
        obtain ⟨o, es, ep, e, hd, _⟩ := hm
        rw [q, e] at b3
        cases b3
        rw [hd] at b6
        cases b6
      have nP : bm ≠ p.2 := fun q => by
        rw [q, hTp] at b3
        cases b3
        cases b6
      refine ⟨bm, ob, b1, b2, nG, nP, bs b3 (noD b3 (fun vs n z => ?_) fun z => ?_), b4, b5, b6⟩
      · rw [b6] at z
        cases z
      · rw [b6] at z
        cases z
    · obtain ⟨o, es, ep, e, hd, _⟩ := hm
      rw [z, hTp] at e
      cases e
      cases hd
  refine codeAny_mono ((hF _ hKb (ns' hm) TB).run callerA [] s1 H ⟨[.ref a], []⟩ [.ref a] [.ref a] _ _ rfl hroom e0 (hbi s1 (.ref a)) (.cons rfl .nil) (hsp H hTb hlst)) fun r s' q => ?_
  cases r with
  | error e =>
    obtain ⟨_, _, _, _, _, _, _, _, _, _, _, _, z⟩ := q
    exact z.elim
  | ok fl =>
    cases fl with
    | next => exact q.elim
    | brk => exact q.elim
    | cont => exact q.elim
    | ret u =>
      obtain ⟨v, H', q1, q2, q3, q4, q5, q6⟩ := q
      subst q6
      cases (show u = Value.bool true from q5)
      have key : ∀ b o, b ∉ cs.map (·.2) → s1.heap.get? b = some o → s'.heap.get? b = some o := fun b o nb e => by
        cases z : H b with
        | none => exact q3.keep b o e z (fun w => by simp [frs] at w) (by simp)
        | some u =>
          rcases hat b u z with ⟨rfl, _, rfl⟩ | ⟨hm, _⟩
          · have z2 := q3.frzs _ _ _ z
            obtain ⟨e2, _⟩ := q4 _ _ z2
            rw [hobj] at e
            cases e
            exact e2
          · exact (nb hm).elim
      have grown : ∀ p ∈ cs, ∃ more : Array Value, s'.heap.get? p.2 = some { cls := .none, data := .fields more } := fun p hp => by
        obtain ⟨more, z⟩ := q3.tbls p.2 #[] (hTb p hp)
        exact ⟨_, q4 p.2 _ z⟩
      refine ⟨rfl, ⟨fun b o e => ?_, fun b o e => ?_⟩, q1, q2⟩
      · by_cases hb : b ∈ cs.map (·.2)
        · obtain ⟨p, hp, ep⟩ := List.mem_map.mp hb
          obtain ⟨more, hm⟩ := grown p hp
          rw [← ep] at e ⊢
          rw [hT p hp] at e
          cases e
          exact .inr (.inl ⟨((Cd p hp).tab (hT p hp)).isCodeTable, rfl, #[], more, rfl, by rw [Array.empty_append]; exact hm⟩)
        · exact .inl (key b o hb e)
      · by_cases hb : b ∈ cs.map (·.2)
        · obtain ⟨p, hp, ep⟩ := List.mem_map.mp hb
          obtain ⟨more, hm⟩ := grown p hp
          rw [← ep]
          exact ⟨_, hm⟩
        · exact ⟨o, key b o hb e⟩
/-- what is to be shown of the law: for each script the interpreter gives True -/
theorem law_sp {T : PySem.W.Frag → Tbl} {cs : PySem.W.Frag → List (Addr × Addr)} (hT : ∀ K, (T K).K = K) (hcs : ∀ K, ∀ p ∈ (T K).tt, ∃ q ∈ cs K, q.2 = p.1) {cl : CallF} {f : Nat} {n : Nat} (h : ∀ ns : List Int, ns.length ≤ n → ∃ outs, cl f [.fz (.kst (ns.map D.int))] = .ok (.d (.bl true)) outs)
    (K : PySem.W.Frag) (H : Hp) (a : Addr) (ns : List Int) (hl : ns.length ≤ n) (hH : ∀ p ∈ cs K, H p.2 = some (.tbl #[])) (hS : SqL K H a (ns.map V.int)) : spF (T K) cl f 1 [.ref a] H (fun v _ => v = .bl true) fun _ _ _ => False := by
  have hr : ∀ (G : Hp) (ns : List Int), RepAll (T K) G (ns.map D.int) (ns.map V.int) := fun G ns => by
    induction ns with
    | nil => simp [RepAll]
    | cons i r ih => simp only [List.map_cons, RepAll]; exact ⟨_, _, rfl, r_int _ _ _, ih⟩
  have hHt : ∀ p ∈ (T K).tt, H p.1 = some (.tbl #[]) := fun p hp => by
    obtain ⟨q, hq, e⟩ := hcs K p hp
    rw [← e]; exact hH q hq
  obtain ⟨G, hG⟩ : ∃ G : Hp, G = fun b => if b ∈ (T K).tt.map (·.1) then none else H b := ⟨_, rfl⟩
  have gE : Ext G H := fun b o e => by
    rw [hG] at e
    simp only at e
    split at e
    · cases e
    · exact e
  have gk : ∀ b, b ∉ (T K).tt.map (·.1) → G b = H b := fun b hb => by rw [hG]; exact if_neg hb
  have nt : ∀ {b : Addr} {u : HO}, H b = some u → (∀ ps, u ≠ .tbl ps) → b ∉ (T K).tt.map (·.1) := fun {b u} e n z => by
    obtain ⟨p, hp, rfl⟩ := List.mem_map.mp z
    rw [hHt p hp] at e
    exact n _ (Option.some.inj e).symm
  have hSG : SqL K G a (ns.map V.int) := by
    rcases hS with (e | ⟨o, e⟩) | e
    · exact .inl (.inl (by rw [gk a (nt e nofun)]; exact e))
    · exact .inl (.inr ⟨o, by rw [gk a (nt e nofun)]; exact e⟩)
    · exact .inr e
  refine ⟨G, [.fz (.kst (ns.map D.int))], gE, ⟨.ref a, [], rfl, ?_, rfl⟩, fun i j b hi => ?_, rfl, ⟨fun p hp => LamX.TabS.nil (hHt p hp), fun p hp => ?_⟩, ?_⟩
  · simp only [Rep]
    exact ⟨a, _, rfl, by rw [hT]; exact hSG, hr G ns⟩
  · cases i with
    | zero => simp [ioL] at hi
    | succ i => simp [ioL] at hi
  · rw [hG]
    exact if_pos (List.mem_map.mpr ⟨p, hp, rfl⟩)
  · obtain ⟨outs, q⟩ := h ns hl
    rw [q]
    intro v H0' H' _ hv _
    have hv' : Rep (T K) H0' (.bl true) v := hv
    simpa only [Rep] using hv'
end PP
end
section
set_option maxHeartbeats 1000000
namespace PP
open PySem PySem.Spec PyProof.Rows L2
section
variable {X : Cx} {C : Ctx} {W : WX} {cl : CallF} {e a b c : Expr} {es rest : List Expr} {e' a' b' c' : Ex} {es' : Exs} {pos : Pos} {st : Stmt}
theorem c_ife (hc : PT X c (tT C W cl c')) (ha : PE X a (tI C W cl a')) (hb : PE X b (tI C W cl b')) : PE X (.IfExp c a b pos) (tI C W cl (.ife c' a' b')) :=
  peI (pe_ifExp hc ha hb) fun σ H Q ⟨H0, env, S, q⟩ => by
    simp only [ev] at q
    have q' : RQ C W σ (KV C σ Q) H0 ((evT cl c' env).bind fun t env1 => match t with | true => ev cl a' env1 | false => ev cl b' env1) := by
      unfold evT
      cases z : ev cl c' env with
      | bad => simp only [z, R.bind_bad] at q ⊢; exact q
      | exc x env1 => simp only [z, R.bind_exc] at q ⊢; exact q
      | ok u env1 =>
        simp only [z, R.bind_ok] at q ⊢
        cases z1 : rdU env1 u with
        | none => simp only [z1, orBad_none] at q; exact q.elim
        | some d =>
          simp only [z1, orBad_some] at q ⊢
          cases z2 : truD d with
          | none => simp only [z2, orBad_none] at q; exact q.elim
          | some t => simp only [z2, orBad_some, R.bind_ok] at q ⊢; exact q
    refine seqT S q' fun t env1 H1 H1' e1 S1 q1 => ?_
    cases t with
    | true => rw [if_pos rfl]; exact ⟨H1, env1, S1, q1⟩
    | false => rw [if_neg Bool.false_ne_true]; exact ⟨H1, env1, S1, q1⟩
theorem evT_and (env : Env) : evT cl (.and a' b') env = (evT cl a' env).bind fun t env1 => match t with | true => evT cl b' env1 | false => .ok false env1 := by
  unfold evT
  simp only [ev]
  cases z : ev cl a' env with
  | bad => rfl
  | exc x env1 => rfl
  | ok u env1 =>
    simp only [R.bind_ok]
    cases z1 : rdU env1 u with
    | none => rfl
    | some d =>
      simp only [orBad_some]
      cases z2 : truD d with
      | none => rfl
      | some t =>
        simp only [orBad_some, R.bind_ok]
        cases t with
        | true => rfl
        | false =>
          have : rdU env1 (pend u) = some d := by cases u <;> exact z1
          simp only [R.bind_ok, this, orBad_some, z2]
theorem evT_or (env : Env) : evT cl (.or a' b') env = (evT cl a' env).bind fun t env1 => match t with | true => .ok true env1 | false => evT cl b' env1 := by
  unfold evT
  simp only [ev]
  cases z : ev cl a' env with
  | bad => rfl
  | exc x env1 => rfl
  | ok u env1 =>
    simp only [R.bind_ok]
    cases z1 : rdU env1 u with
    | none => rfl
    | some d =>
      simp only [orBad_some]
      cases z2 : truD d with
      | none => rfl
      | some t =>
        simp only [orBad_some, R.bind_ok]
        cases t with
        | false => rfl
        | true =>
          have : rdU env1 (pend u) = some d := by cases u <;> exact z1
          simp only [R.bind_ok, this, orBad_some, z2]
theorem evT_not (env : Env) : evT cl (.not a') env = (evT cl a' env).bind fun t env1 => .ok (!t) env1 := by
  unfold evT
  simp only [ev]
  cases z : ev cl a' env with
  | bad => rfl
  | exc x env1 => rfl
  | ok u env1 =>
    simp only [R.bind_ok]
    cases z1 : rdU env1 u with
    | none => rfl
    | some d =>
      simp only [orBad_some]
      cases z2 : truD d with
      | none => rfl
      | some t => simp only [orBad_some, R.bind_ok, rdU, truD]
def isCmp : O2 → Bool
  | .lt => true | .le => true | .gt => true | .ge => true | .eq => true | .ne => true | .is => true | .isnot => true | .isin => true | .notin => true | _ => false
theorem inD_bl {x d : D} {ys : List D} (h : inD x ys = some d) : ∃ p ps, toPy x = some p ∧ toPyAll ys = some ps ∧ SeqAt.shaped p = true ∧ SeqAt.shaped (.list ps) = true ∧ d = .bl (ps.any fun z => PyData.eqv z p) := by
  unfold inD at h
  split at h
  · rename_i p ps h1 h2
    split at h
    · rename_i z
      cases h
      rw [Bool.and_eq_true] at z
      exact ⟨p, ps, h1, h2, z.1, z.2, rfl⟩
    · cases h
  · cases h
theorem inS_bl {x y : Str} {d : D} (h : inS x y = some d) : ∃ c, x = ⟨#[c]⟩ ∧ d = .bl (decide (c ∈ y.cps.toList)) := by
  unfold inS at h
  split at h
  · rename_i c hc
    cases h
    refine ⟨c, ?_, rfl⟩
    obtain ⟨a⟩ := x
    have : a = #[c] := by apply Array.ext'; simpa using hc
    rw [this]
  · cases h
theorem isin_inv {x y d : D} (h : op2 .isin x y = some d) : (∃ ys, (y = .lst ys ∨ y = .kst ys) ∧ inD x ys = some d) ∨ (∃ a b, x = .str a ∧ y = .str b ∧ inS a b = some d) ∨ (∃ ys, y = .tup ys ∧ inT x ys = some d) ∨ ∃ ks vs k, y = .dT ks vs ∧ keyTI x = some k ∧ d = .bl (getDT ks vs k).isSome := by
  cases y with
  | dT ks vs =>
    have h' : ((keyTI x).map fun k => D.bl (getDT ks vs k).isSome) = some d := by cases x <;> exact h
    rw [Option.map_eq_some_iff] at h'
    obtain ⟨k, hk, rfl⟩ := h'
    exact .inr (.inr (.inr ⟨ks, vs, k, rfl, hk, rfl⟩))
  | tup ys => exact .inr (.inr (.inl ⟨ys, rfl, by cases x <;> exact h⟩))
  | lst ys => exact .inl ⟨ys, .inl rfl, by cases x <;> exact h⟩
  | kst ys => exact .inl ⟨ys, .inr rfl, by cases x <;> exact h⟩
  | str b => cases x with
    | str a => exact .inr (.inl ⟨a, b, rfl, rfl, h⟩)
    | _ => cases h
  | _ => cases x <;> cases h
theorem inT_inv {x : D} {ys : List D} {d : D} (h : inT x ys = some d) : (∃ i ns, x = .int i ∧ intsD ys = some ns ∧ d = .bl (ns.any fun n => n == i)) ∨ inD x ys = some d := by
  cases x with
  | int i =>
    unfold inT at h
    simp only at h
    split at h
    · rename_i ns h1
      cases h
      exact .inl ⟨i, ns, rfl, h1, rfl⟩
    · exact .inr h
  | _ => exact .inr h
theorem intsD_map : ∀ {ys : List D} {ns : List Int}, intsD ys = some ns → ys = ns.map D.int
  | [], ns, h => by cases h; rfl
  | d :: r, ns, h => by
    cases d with
    | int i =>
      have h' : (intsD r).map (i :: ·) = some ns := h
      rw [Option.map_eq_some_iff] at h'
      obtain ⟨ms, h1, rfl⟩ := h'
      rw [intsD_map h1]; rfl
    | _ => cases h
theorem notin_inv {x y d : D} (h : op2 .notin x y = some d) : (∃ ys b, (y = .lst ys ∨ y = .kst ys) ∧ inD x ys = some (.bl b) ∧ d = .bl (!b)) ∨ (∃ ys b, y = .tup ys ∧ inD x ys = some (.bl b) ∧ d = .bl (!b)) ∨ (∃ a z b, x = .str a ∧ y = .str z ∧ inS a z = some (.bl b) ∧ d = .bl (!b)) ∨ ∃ ks vs k, y = .dT ks vs ∧ keyTI x = some k ∧ d = .bl (!(getDT ks vs k).isSome) := by
  cases y with
  | dT ks vs =>
    have h' : ((keyTI x).map fun k => D.bl (!(getDT ks vs k).isSome)) = some d := by cases x <;> exact h
    rw [Option.map_eq_some_iff] at h'
    obtain ⟨k, hk, rfl⟩ := h'
    exact .inr (.inr (.inr ⟨ks, vs, k, rfl, hk, rfl⟩))
  | lst ys =>
    have h' : ((inD x ys).map fun d => match d with | .bl b => .bl (!b) | d => d) = some d := by cases x <;> exact h
    rw [Option.map_eq_some_iff] at h'
    obtain ⟨z, hz, rfl⟩ := h'
    obtain ⟨_, _, _, _, _, _, rfl⟩ := inD_bl hz
    exact .inl ⟨ys, _, .inl rfl, hz, rfl⟩
  | kst ys =>
    have h' : ((inD x ys).map fun d => match d with | .bl b => .bl (!b) | d => d) = some d := by cases x <;> exact h
    rw [Option.map_eq_some_iff] at h'
    obtain ⟨z, hz, rfl⟩ := h'
    obtain ⟨_, _, _, _, _, _, rfl⟩ := inD_bl hz
    exact .inl ⟨ys, _, .inr rfl, hz, rfl⟩
  | tup ys =>
    have h' : ((inD x ys).map fun d => match d with | .bl b => .bl (!b) | d => d) = some d := by cases x <;> exact h
    rw [Option.map_eq_some_iff] at h'
    obtain ⟨z, hz, rfl⟩ := h'
    obtain ⟨_, _, _, _, _, _, rfl⟩ := inD_bl hz
    exact .inr (.inl ⟨ys, _, rfl, hz, rfl⟩)
  | str z => cases x with
    | str a =>
      have h' : ((inS a z).map fun d => match d with | .bl b => .bl (!b) | d => d) = some d := h
      rw [Option.map_eq_some_iff] at h'
      obtain ⟨w, hz, rfl⟩ := h'
      obtain ⟨_, _, rfl⟩ := inS_bl hz
      exact .inr (.inr (.inl ⟨a, z, _, rfl, rfl, hz, rfl⟩))
    | _ => cases h
  | _ => cases x <;> cases h
theorem cmp_bl {o : O2} (h : isCmp o = true) {x y d : D} (q : op2 o x y = some d) : ∃ b, d = .bl b := by
  cases o <;> first | (cases h; done) | skip
  · cases x <;> first | (cases q; done) | (cases y <;> first | (cases q; done) | (cases q; exact ⟨_, rfl⟩))
  · cases x <;> first | (cases q; done) | (cases y <;> first | (cases q; done) | (cases q; exact ⟨_, rfl⟩))
  · cases x <;> first | (cases q; done) | (cases y <;> first | (cases q; done) | (cases q; exact ⟨_, rfl⟩))
  · cases x <;> first | (cases q; done) | (cases y <;> first | (cases q; done) | (cases q; exact ⟨_, rfl⟩))
  · have q' : (eqD x y).map D.bl = some d := by cases x <;> cases y <;> exact q
    rw [Option.map_eq_some_iff] at q'
    obtain ⟨b, _, rfl⟩ := q'
    exact ⟨b, rfl⟩
  · have q' : ((eqD x y).map fun b => D.bl (!b)) = some d := by cases x <;> cases y <;> exact q
    rw [Option.map_eq_some_iff] at q'
    obtain ⟨b, _, rfl⟩ := q'
    exact ⟨!b, rfl⟩
  · rcases isin_inv q with ⟨_, _, hz⟩ | ⟨_, _, _, _, hz⟩ | ⟨_, _, hz⟩ | ⟨_, _, _, _, _, rfl⟩
    · obtain ⟨_, _, _, _, _, _, rfl⟩ := inD_bl hz; exact ⟨_, rfl⟩
    · obtain ⟨_, _, rfl⟩ := inS_bl hz; exact ⟨_, rfl⟩
    · rcases inT_inv hz with ⟨_, _, _, _, rfl⟩ | hz
      · exact ⟨_, rfl⟩
      · obtain ⟨_, _, _, _, _, _, rfl⟩ := inD_bl hz; exact ⟨_, rfl⟩
    · exact ⟨_, rfl⟩
  · rcases notin_inv q with ⟨_, b, _, _, rfl⟩ | ⟨_, b, _, _, rfl⟩ | ⟨_, _, b, _, _, _, rfl⟩ | ⟨_, _, _, _, _, rfl⟩ <;> exact ⟨_, rfl⟩
  · rcases is_inv q with ⟨_, rfl⟩ | ⟨_, _, r, rfl, _⟩ <;> exact ⟨_, rfl⟩
  · rcases isnot_inv q with ⟨_, rfl⟩ | ⟨_, _, r, rfl, _⟩ <;> exact ⟨_, rfl⟩
theorem RepG.bl {T : Tbl} {H0' H' H : Hp} {b : Bool} {v : V} (r : RepG T H0' H' H (.bl b) v) : v = .bl b := by simpa only [RepG, isMutD, Rep, Bool.false_eq_true, if_false] using r
theorem t_cmp {op : CmpOp} {o : O2} (ho : OpR X (compareOp op) (rD C.T (op2 o))) (ha : PE X a (tI C W cl a')) (hb : PE X b (tI C W cl b')) (hm : behindInMarks op b = false) (hc : isCmp o = true := by rfl) : PT X (.Compare a [op] [b] pos) (tT C W cl (.op2 o a' b')) :=
  ptI (pt_cmpR ho ha hb hm) fun σ H Q ⟨H0, env, S, q⟩ => by
    simp only [evT, ev] at q
    have q' : RQ C W σ (fun b _ _ H' => Q b H') H0 ((ev cl a' env).bind fun u env1 => (ev cl b' env1).bind fun w env2 => orBad (rdU env2 (pend u)) fun x => orBad (rdU env2 w) fun y => orBad (op2 o x y) fun z => orBad (truD z) fun t => .ok t env2) := by
      cases z : ev cl a' env with
      | bad => simp only [z, R.bind_bad] at q ⊢; exact q
      | exc x env1 => simp only [z, R.bind_exc] at q ⊢; exact q
      | ok u env1 =>
        simp only [z, R.bind_ok] at q ⊢
        cases z1 : ev cl b' env1 with
        | bad => simp only [z1, R.bind_bad] at q ⊢; exact q
        | exc x env1 => simp only [z1, R.bind_exc] at q ⊢; exact q
        | ok w env2 =>
          simp only [z1, R.bind_ok] at q ⊢
          cases z2 : rdU env2 (pend u) with
          | none => simp only [z2, orBad_none, R.bind_bad] at q; exact q.elim
          | some x =>
            cases z3 : rdU env2 w with
            | none => simp only [z2, z3, orBad_none, orBad_some, R.bind_bad] at q; exact q.elim
            | some y =>
              cases z4 : op2 o x y with
              | none => simp only [z2, z3, z4, orBad_none, orBad_some, R.bind_bad] at q; exact q.elim
              | some d => simp only [z2, z3, z4, orBad_some, R.bind_ok] at q ⊢; exact q
    refine seqI S q' fun u env1 x H1 H1' e1 S1 u1 q1 => ?_
    obtain ⟨H1f, e1f, S1f, u1f⟩ := S1.pend u1
    refine seqI S1f (RQ.mono e1f q1) fun w env2 y H2 H2' e2 S2 u2 q2 => ?_
    obtain ⟨dx, hx, q2⟩ := q2.orB
    obtain ⟨dy, hy, q2⟩ := q2.orB
    obtain ⟨z, hz, q2⟩ := q2.orB
    obtain ⟨t, ht, q2⟩ := q2.orB
    obtain ⟨bb, rfl⟩ := cmp_bl hc hz
    simp only [truD, Option.some.injEq] at ht
    subst ht
    refine ⟨H2, dx, dy, _, S2.ex, S2.rd (u1f.wait e2) hx, S2.rd u2 hy, hz, fun v H0' H' g r => ?_⟩
    exact ⟨bb, r.bl, q2 H0' H' g.e0 (S2.gr g)⟩
theorem t_chain {op op' : CmpOp} {o p : O2} (ho : OpR X (compareOp op) (rD C.T (op2 o))) (ho' : OpR X (compareOp op') (rD C.T (op2 p))) (ha : PE X a (tI C W cl a')) (hb : PE X b (tI C W cl b')) (hc : PE X c (tI C W cl c'))
    (hm : lastMarks [op, op'] [b, c] = false := by with_unfolding_all rfl) (hcm : isCmp p = true := by rfl) : PT X (.Compare a [op, op'] [b, c] pos) (tT C W cl (.chain o p a' b' c')) :=
  ⟨fun pins s σ H Q I ⟨H0, env, S, q⟩ => by
    -- by the value: it is a bool
    refine (pt_chain ho ho' ha hb hc hm).run pins s σ H Q I ?_
    simp only [evT, ev] at q
    have q' : RQ C W σ (fun b _ _ H' => Q b H') H0 ((ev cl a' env).bind fun u env1 => ((ev cl b' env1).bind fun w env2 => orBad (rdU env2 (pend u)) fun x => orBad (rdU env2 (pend w)) fun y => orBad (op2 o x y) fun z => match z with
        | .bl true => (ev cl c' env2).bind fun q env3 => orBad (rdU env3 (pend w)) fun y' => orBad (rdU env3 q) fun r => orBad (op2 p y' r) fun z' => .ok (.nw z') env3
        | .bl false => .ok (.nw (.bl false)) env2
        | _ => .bad).bind fun u env1 => orBad (rdU env1 u) fun x => orBad (truD x) fun t => .ok t env1) := by
      cases z : ev cl a' env with
      | bad => simp only [z, R.bind_bad] at q ⊢; exact q
      | exc x env1 => simp only [z, R.bind_exc] at q ⊢; exact q
      | ok u env1 => simp only [z, R.bind_ok] at q ⊢; exact q
    refine seqI S q' fun u env1 x H1 H1' e1 S1 u1 q1 => ?_
    obtain ⟨H1f, e1f, S1f, u1f⟩ := S1.pend u1
    have q1f := RQ.mono e1f q1
    have q1' : RQ C W σ (fun b _ _ H' => Q b H') H1f ((ev cl b' env1).bind fun w env2 => (orBad (rdU env2 (pend u)) fun x => orBad (rdU env2 (pend w)) fun y => orBad (op2 o x y) fun z => match z with
        | .bl true => (ev cl c' env2).bind fun q env3 => orBad (rdU env3 (pend w)) fun y' => orBad (rdU env3 q) fun r => orBad (op2 p y' r) fun z' => .ok (.nw z') env3
        | .bl false => .ok (.nw (.bl false)) env2
        | _ => .bad).bind fun u env1 => orBad (rdU env1 u) fun x => orBad (truD x) fun t => .ok t env1) := by
      cases z : ev cl b' env1 with
      | bad => simp only [z, R.bind_bad] at q1f ⊢; exact q1f
      | exc x env1 => simp only [z, R.bind_exc] at q1f ⊢; exact q1f
      | ok u env1 => simp only [z, R.bind_ok] at q1f ⊢; exact q1f
    refine seqI S1f q1' fun w env2 y H2 H2' e2 S2 u2 q2 => ?_
    obtain ⟨H2f, e2f, S2f, u2f⟩ := S2.pend u2
    have q2 := RQ.mono e2f q2
    cases hx : rdU env2 (pend u) with
    | none => simp only [hx, orBad_none, R.bind_bad] at q2; exact q2.elim
    | some dx =>
    cases hy : rdU env2 (pend w) with
    | none => simp only [hx, hy, orBad_none, orBad_some, R.bind_bad] at q2; exact q2.elim
    | some dy =>
    cases hz : op2 o dx dy with
    | none => simp only [hx, hy, hz, orBad_none, orBad_some, R.bind_bad] at q2; exact q2.elim
    | some z =>
    simp only [hx, hy, hz, orBad_some] at q2
    refine ⟨H2f, dx, dy, z, S2f.ex, S2f.rd (u1f.wait (e2.tr e2f)) hx, S2f.rd u2f hy, hz, fun v H0' H' g r => ?_⟩
    split at q2
    · cases r.bl
      refine ⟨true, rfl, ?_⟩
      rw [if_pos rfl]
      have S3 := S2f.gr g
      have q2g := RQ.mono g.e0 q2
      have q2' : RQ C W σ (fun b _ _ H' => Q b H') H0' ((ev cl c' env2).bind fun q env3 => orBad (rdU env3 (pend w)) fun y' => orBad (rdU env3 q) fun r => orBad (op2 p y' r) fun z' => orBad (truD z') fun t => .ok t env3) := by
        cases z : ev cl c' env2 with
        | bad => simp only [z, R.bind_bad] at q2g ⊢; exact q2g
        | exc x env1 => simp only [z, R.bind_exc] at q2g ⊢; exact q2g
        | ok q env3 =>
          simp only [z, R.bind_ok] at q2g ⊢
          cases z2 : rdU env3 (pend w) with
          | none => simp only [z2, orBad_none, R.bind_bad] at q2g; exact q2g.elim
          | some x =>
            cases z3 : rdU env3 q with
            | none => simp only [z2, z3, orBad_none, orBad_some, R.bind_bad] at q2g; exact q2g.elim
            | some y =>
              cases z4 : op2 p x y with
              | none => simp only [z2, z3, z4, orBad_none, orBad_some, R.bind_bad] at q2g; exact q2g.elim
              | some d => simp only [z2, z3, z4, orBad_some, R.bind_ok] at q2g ⊢; exact q2g
      refine seqI S3 q2' fun t env3 y3 H3 H3' e3 S4 u3 q3 => ?_
      obtain ⟨dy', hy', q3⟩ := q3.orB
      obtain ⟨dr, hr, q3⟩ := q3.orB
      obtain ⟨z', hz', q3⟩ := q3.orB
      obtain ⟨tt, ht, q3⟩ := q3.orB
      obtain ⟨bb, rfl⟩ := cmp_bl hcm hz'
      simp only [truD, Option.some.injEq] at ht
      subst ht
      exact ⟨H3, dy', dr, _, S4.ex, S4.rd (u2f.wait (g.e0.tr e3)) hy', S4.rd u3 hr, hz', fun v H0' H' g r => ⟨bb, r.bl, q3 H0' H' g.e0 (S4.gr g)⟩⟩
    · cases r.bl
      refine ⟨false, rfl, ?_⟩
      rw [if_neg Bool.false_ne_true]
      simp only [R.bind_ok, rdU, orBad_some, truD] at q2
      exact ⟨false, rfl, q2 H0' H' g.e0 (S2f.gr g)⟩
    · exact q2.elim⟩
theorem w_and1 {op : BoolOp} (ha : PT X a (tT C W cl a')) : PW X (.BoolOp .And [a] pos) (tT C W cl a') := pw_and1 ha
theorem w_or1 (ha : PT X a (tT C W cl a')) : PW X (.BoolOp .Or [a] pos) (tT C W cl a') := pw_or1 ha
theorem w_and (ha : PT X a (tT C W cl a')) (hb : PW X (.BoolOp .And (b :: rest) pos) (tT C W cl b')) : PW X (.BoolOp .And (a :: b :: rest) pos) (tT C W cl (.and a' b')) :=
  pwI (pw_and ha hb) fun σ H Q ⟨H0, env, S, q⟩ => by
    rw [evT_and] at q
    refine seqT S q fun t env1 H1 H1' e1 S1 q1 => ?_
    cases t with
    | true => rw [if_pos rfl]; exact ⟨H1, env1, S1, q1⟩
    | false => rw [if_neg Bool.false_ne_true]; exact q1 H1 H1' (Ext.rfl' _) S1
theorem w_or (ha : PT X a (tT C W cl a')) (hb : PW X (.BoolOp .Or (b :: rest) pos) (tT C W cl b')) : PW X (.BoolOp .Or (a :: b :: rest) pos) (tT C W cl (.or a' b')) :=
  pwI (pw_or ha hb) fun σ H Q ⟨H0, env, S, q⟩ => by
    rw [evT_or] at q
    refine seqT S q fun t env1 H1 H1' e1 S1 q1 => ?_
    cases t with
    | false => rw [if_neg Bool.false_ne_true]; exact ⟨H1, env1, S1, q1⟩
    | true => rw [if_pos rfl]; exact q1 H1 H1' (Ext.rfl' _) S1
theorem t_not (ha : PT X a (tT C W cl a')) : PT X (.UnaryOp .Not a pos) (tT C W cl (.not a')) :=
  ptI (pt_not ha) fun σ H Q ⟨H0, env, S, q⟩ => by
    rw [evT_not] at q
    exact seqT S q fun t env1 H1 H1' e1 S1 q1 => q1 H1 H1' (Ext.rfl' _) S1
/-- the targets of a tuple's parts -/
def gNs : List Nat → TGs
  | [] => gNil
  | i :: is => gCons (gName i) (gNs is)
theorem gNs_ok {is : List Nat} : ∀ {ds : List D} {vs : List V} {σ : L2.St} {H0 H : Hp} {env env2 : Env} {Q : L2.St → Hp → Prop}, Sim C σ H0 H env → RepAll C.T H0 ds vs → storeAll is ds env = some env2 → (∀ σ', Sim C σ' H0 H env2 → Q σ' H) → gNs is vs σ H Q := by
  induction is with
  | nil =>
    intro ds vs σ H0 H env env2 Q S hr h hq
    cases ds with
    | nil =>
      simp only [RepAll] at hr
      simp only [storeAll, Option.some.injEq] at h
      subst h
      exact ⟨hr, hq _ S⟩
    | cons _ _ => simp [storeAll] at h
  | cons i is ih =>
    intro ds vs σ H0 H env env2 Q S hr h hq
    cases ds with
    | nil => simp [storeAll] at h
    | cons d ds =>
      simp only [RepAll] at hr
      obtain ⟨v, r, rfl, h1, h2⟩ := hr
      simp only [storeAll] at h
      exact ⟨v, r, rfl, ih (S.store (s := .fz d) rfl ⟨_, rfl, h1⟩ fun _ _ z => by cases z) h2 h hq⟩
theorem Sim.two {σ : L2.St} {H0 H : Hp} {env env2 : Env} (S : Sim C σ H0 H env) {i j : Nat} {x y : V} {ds : List D} (hr : RepAll C.T H0 ds [x, y]) (h : storeAll [i, j] ds env = some env2) : Sim C ((σ.set i (some x)).set j (some y)) H0 H env2 := by
  have z : gNs [i, j] [x, y] σ H (fun σ' H' => Sim C σ' H0 H' env2) := gNs_ok S hr h fun σ' s => s
  obtain ⟨v1, r1, e1, v2, r2, e2, e3, q⟩ := z
  cases e1
  cases e2
  exact q
theorem storeAll_len : ∀ {is : List Nat} {ds : List D} {env env2 : Env}, storeAll is ds env = some env2 → ds.length = is.length
  | [], [], _, _, _ => rfl
  | _ :: is, _ :: ds, _, _, h => by simp only [storeAll] at h; simp [storeAll_len h]
  | [], _ :: _, _, _, h => by simp [storeAll] at h
  | _ :: _, [], _, _, h => by simp [storeAll] at h
theorem seqF {σ : L2.St} {H0 H : Hp} {env : Env} {E : Ends} {f : List D → Env → R Fl} (S : Sim C σ H0 H env) (h : RS C W E H0 ((evF cl es' env).bind f)) {Q : List V → Hp → Prop}
    (hQ : ∀ ds env1 vs H01 H1, Ext H0 H01 → Sim C σ H01 H1 env1 → RepAll C.T H01 ds vs → RS C W E H01 (f ds env1) → Q vs H1) : tAF C W cl es' σ H Q := by
  refine ⟨H0, env, S, ?_⟩
  cases q : evF cl es' env with
  | ok u env1 =>
    rw [q] at h
    exact fun H01 H1 e s vs hv => hQ u env1 vs H01 H1 e s hv (RS.mono e h)
  | exc x env1 =>
    rw [q] at h
    exact fun cls d H0' H' e s x => h σ cls d H0' H' e s x
  | bad => rw [q] at h; exact h
theorem s_par2 {i j : Nat} (h : PS X st (tPar i j (tAF C W cl es'))) : PS X st (tS C W cl (.par [i, j] es')) := psI h fun E σ H ⟨H0, env, S, q⟩ => by
  simp only [ex] at q
  refine seqF S q fun ds env1 vs H1 H1' e1 S1 hv q1 => ?_
  obtain ⟨env2, hs, q1⟩ := q1.orB
  have hl := hv.len
  rw [storeAll_len hs] at hl
  match vs, hl with
  | [x, y], _ => exact ⟨x, y, rfl, q1 _ H1 H1' (Ext.rfl' _) (S1.two hv hs)⟩
def gUn (K : PySem.W.Frag) (n : Nat) (t : TGs) : TG := fun v σ H Q => gTup K n t v σ H Q ∨ gUnl K n t v σ H Q
/-- what the two values must be let: the names hold them, and the rest goes on -/
def Two (C : Ctx) (E : Ends) (σ : L2.St) (i j : Nat) (ta : TA) (H : Hp) : Prop := ∀ Q : List V → Hp → Prop, (∀ v w H0' H' env', Sim C ((σ.set i (some v)).set j (some w)) H0' H' env' → (∀ σ' H0'' H'', Ext H0' H0'' → Sim C σ' H0'' H'' env' → E.nx σ' H'') → Q [v, w] H') → ta σ H Q
theorem Two.par {E : Ends} {σ : L2.St} {i j : Nat} {ta : TA} {H : Hp} (h : Two C E σ i j ta H) : tPar i j ta E σ H := h _ fun v w _ _ _ S n => ⟨v, w, rfl, n _ _ _ (Ext.rfl' _) S⟩
theorem Two.unp {E : Ends} {σ : L2.St} {i j : Nat} {ta : TA} {H : Hp} (h : Two C E σ i j ta H) : tAsg (tTup ta) (gUn X.K 2 (gNs [i, j])) E σ H := h _ fun v w _ _ _ S n => ⟨by show 2 ≤ sizeLine; decide, fun p hp => .inl ⟨p, [v, w], rfl, SqT.of upd_same, rfl, v, [w], rfl, w, [], rfl, rfl, n _ _ _ (Ext.rfl' _) (S.gr (Gr.own (o := .tup [v, w]) S.ex hp))⟩⟩
theorem pg_un {es : List Expr} {k : Nat} {t : TGs} {n : Nat} (hc : X.calm = true) (h : PGs X es t)
    (hn : (assignEach es X.env).length = n := by rfl) (hst : (assignEach es X.env).findIdx? (·.1) = none := by rfl) : PG X (.Tuple es k pos) (gUn X.K n t) :=
  ⟨fun pins s σ H v u Q I r hw => hw.elim (fun q => (pg_tup hc h hn hst).run pins s σ H v u Q I r q) fun q => (pg_unl hc h hn hst).run pins s σ H v u Q I r q⟩
theorem s_unp {is : List Nat} {n : Nat} (hn : is.length = n) (hK : X.K = C.T.K) (h : PS X st (tAsg (tI C W cl e') (gUn X.K n (gNs is)))) : PS X st (tS C W cl (.unp is e')) := psI h fun E σ H ⟨H0, env, S, q⟩ => by
  simp only [ex] at q
  refine seqE S q fun u env1 v H1 H1' e1 S1 u1 q1 => ?_
  obtain ⟨d, hd, q1⟩ := q1.orB
  split at q1
  · rename_i ds
    obtain ⟨env2, hs, q1⟩ := q1.orB
    obtain ⟨a, xs, rfl, h1, h2⟩ := rd_tup S1.ex (S1.rd u1 hd)
    exact .inl ⟨a, xs, rfl, hK ▸ h1, by rw [h2.len, storeAll_len hs, hn], gNs_ok S1 h2 hs fun σ' S' => q1 σ' H1 H1' (Ext.rfl' _) S'⟩
  · rename_i ds
    obtain ⟨env2, hs, q1⟩ := q1.orB
    obtain ⟨a, xs, rfl, h1, h2⟩ := rd_lst S1.ex (S1.rd u1 hd)
    exact .inr ⟨a, xs, rfl, .inl h1, by rw [h2.len, storeAll_len hs, hn], gNs_ok S1 h2 hs fun σ' S' => q1 σ' H1 H1' (Ext.rfl' _) S'⟩
  · rename_i ds
    obtain ⟨env2, hs, q1⟩ := q1.orB
    obtain ⟨a, xs, rfl, h1, h2⟩ := rd_kst S1.ex (S1.rd u1 hd)
    exact .inr ⟨a, xs, rfl, hK ▸ h1, by rw [h2.len, storeAll_len hs, hn], gNs_ok S1 h2 hs fun σ' S' => q1 σ' H1 H1' (Ext.rfl' _) S'⟩
  · exact q1.elim
theorem UcOk.len {σ : L2.St} {H0 : Hp} : ∀ {us : List U} {vs : List V}, UcOk C σ H0 us vs → vs.length = us.length
  | [], _, h => by cases h; rfl
  | .d x :: us, _, h => by obtain ⟨v, r, rfl, h1, h2⟩ := h; simp [UcOk.len h2]
  | .sl i :: us, _, h => by obtain ⟨v, r, rfl, h1, h2⟩ := h; simp [UcOk.len h2]
  | .nw _ :: _, _, h => h.elim
theorem UcOk.at {σ : L2.St} {H0 : Hp} : ∀ {us : List U} {vs : List V} {i : Nat} {u : U}, UcOk C σ H0 us vs → us[i]? = some u → ∃ v, vs[i]? = some v ∧ UcOk C σ H0 [u] [v]
  | [], _, _, _, h, q => by simp at q
  | .d x :: us, _, 0, _, h, q => by obtain ⟨v, r, rfl, h1, h2⟩ := h; simp at q; subst q; exact ⟨v, rfl, v, [], rfl, h1, rfl⟩
  | .sl i :: us, _, 0, _, h, q => by obtain ⟨v, r, rfl, h1, h2⟩ := h; simp at q; subst q; exact ⟨v, rfl, v, [], rfl, h1, rfl⟩
  | .nw _ :: _, _, 0, _, h, q => h.elim
  | .d x :: us, _, n + 1, _, h, q => by obtain ⟨v, r, rfl, h1, h2⟩ := h; simpa using UcOk.at h2 (by simpa using q)
  | .sl i :: us, _, n + 1, _, h, q => by obtain ⟨v, r, rfl, h1, h2⟩ := h; simpa using UcOk.at h2 (by simpa using q)
  | .nw _ :: _, _, _ + 1, _, h, q => h.elim
theorem UcOk.cons {σ : L2.St} {H0 : Hp} {u : U} {v : V} {us : List U} {vs : List V} (h1 : UcOk C σ H0 [u] [v]) (h2 : UcOk C σ H0 us vs) : UcOk C σ H0 (u :: us) (v :: vs) := by
  cases u with
  | d x => obtain ⟨w, r, q, h3, _⟩ := h1; cases q; exact ⟨v, vs, rfl, h3, h2⟩
  | sl i => obtain ⟨w, r, q, h3, _⟩ := h1; cases q; exact ⟨v, vs, rfl, h3, h2⟩
  | nw x => exact h1.elim
end
end PP
end
section
set_option maxHeartbeats 1000000
namespace PP
open PySem PySem.Spec PyProof.Rows L2
theorem fn_zero {P : Program} {w : World} {K : PySem.W.Frag} {mg : Str → Option Value} {base : Heap} {f : Addr} {fd : FuncData} {ps : List Str} {T : Tbl} {fs : Nat → Option Fn} {i n : Nat} (hn : ps.length = n) : FnG P w K mg base (5 * 0) f fd ps (spF T (calls fs 0) i n) :=
  ⟨fun vs H Q E ⟨_, _, _, h, _, hl, _⟩ => by rw [h.len, hl, hn], fun A outer s H args us vs Q E _ _ _ _ _ h => by obtain ⟨_, _, _, _, _, _, _, z⟩ := h; exact z.elim⟩
/-- a def of the text does what its small-syntax term does -/
theorem def_ok {P : Program} {w : World} {K : PySem.W.Frag} {mg : Str → Option Value} {base : Heap} {x qual : Str} {st : Stmt} {f : Addr} {fd : FuncData} {N ps : List Str} {k i n : Nat} {F : Fn} {T : Tbl} {fs : Nat → Option Fn} (Fu : FunV K x qual st f fd) (S : FnScope N ps (defScope st))
    (hN : N.length = F.n) (hn : n ≤ F.n) (hp : ps.length = n) (hf : ∀ as, calls fs (k + 1) i as = runF (calls fs k) F as)
    (hb : ∀ {X : Cx} {C : Ctx} {W : WX}, X.K = C.T.K → X.A.units + 64 < cLine → X.A.units + 200 < cLine → X.A.guards = some [] → Room (5 * k + 4) X.A → Takes X W → PassesOwn (model X.prog X.w) X.A X.env X.xe →
      (∃ (qu : Str) (cdv : Value) (A : Around) (outer : List PySem.Env) (s : Shared) (H : Hp) (E : XK), X = cxOf (L2.CX P w) P w K mg base N qu (defScope st) f cdv A outer s H E ∧ C.T = T ∧ qu = qual ∧ fd.code = cdv) → PSs X (defBody st) (tSs C W (calls fs k) F.body)) (hK : K = T.K) :
    FnG P w K mg base (5 * (k + 1)) f fd ps (spF T (calls fs (k + 1)) i n) := by
  refine FnG.of (k := 5 * k + 4) Fu S (fun vs H Q E ⟨_, _, _, h, _, hl, _⟩ => by rw [h.len, hl, hp]) fun cdv hcd A outer s H vs Q E hg hr hsp => ?_
  refine body_ok hN hn hf (fun C hC => ?_) hsp
  exact hb (by rw [hC]; exact hK) hr.units (by have := hr.un; show A.units + 3 + 200 < cLine; have e : (A.deeper (envOfC qual (defScope st) s.heap.objs.size f cdv)).units = A.units + 3 := rfl; omega) hg hr (takes_of rfl rfl rfl rfl) (passes_of rfl) ⟨qual, cdv, A, outer, s, H, E, rfl, hC, rfl, hcd⟩
end PP
end
section
set_option maxHeartbeats 1000000
namespace PP
open PySem PySem.Spec PyProof.Rows L2
def lenG : Tgs → Nat
  | .nil => 0 | .cons _ ts => lenG ts + 1
mutual
def rTg (K : PySem.W.Frag) : Tg → TG
  | .nm i => gName i
  | .tup ts => gTup K (lenG ts) (rTgs K ts)
def rTgs (K : PySem.W.Frag) : Tgs → TGs
  | .nil => gNil
  | .cons t ts => gCons (rTg K t) (rTgs K ts)
end
mutual
/-- all names of the target are among these slots -/
def tgIn (vs : List Nat) : Tg → Bool
  | .nm i => vs.contains i
  | .tup ts => tgsIn vs ts
def tgsIn (vs : List Nat) : Tgs → Bool
  | .nil => true
  | .cons t ts => tgIn vs t && tgsIn vs ts
end
theorem wipe_get (σ : L2.St) (j : Nat) : ∀ vs : List Nat, (wipe σ vs)[j]? = if j ∈ vs then (if j < σ.length then some none else none) else σ[j]?
  | [] => by simp [wipe]
  | v :: vs => by
    unfold wipe
    rw [List.getElem?_set, wipe_get σ j vs, wipe_length]
    by_cases h : v = j
    · subst h; simp
    · have h' : ¬ j = v := fun z => h z.symm
      simp [h, h']
theorem wipe_set {σ : L2.St} {i : Nat} {x : Option V} {vs : List Nat} (h : i ∈ vs) : wipe (σ.set i x) vs = wipe σ vs := by
  apply List.ext_getElem?
  intro j
  rw [wipe_get, wipe_get, List.length_set, List.getElem?_set]
  by_cases hj : j ∈ vs
  · simp [hj]
  · have : ¬ i = j := fun z => hj (z ▸ h)
    simp [hj, this]
theorem wipe_wipe {σ : L2.St} {vs : List Nat} : wipe (wipe σ vs) vs = wipe σ vs := by
  apply List.ext_getElem?
  intro j
  rw [wipe_get, wipe_get, wipe_length]
  by_cases hj : j ∈ vs <;> simp [hj]
theorem getS_wipe (j : Nat) : ∀ (vs : List Nat) (env : Env), getS (wipeE env vs) j = if j ∈ vs then .un else getS env j
  | [], env => by simp [wipeE]
  | v :: vs, env => by
    unfold wipeE
    rw [getS_wipe j vs, getS_set]
    by_cases h : v = j
    · subst h
      by_cases hv : v ∈ vs
      · simp [hv]
      · by_cases hl : v < env.length
        · simp [hv, hl]
        · have : getS env v = .un := by unfold getS; rw [List.getD_eq_getElem?_getD, List.getElem?_eq_none (by omega)]; rfl
          simp [hv, hl, this]
    · have h' : ¬ j = v := fun z => h z.symm
      simp [h, h']
theorem len_wipe : ∀ (vs : List Nat) (env : Env), (wipeE env vs).length = env.length
  | [], env => rfl
  | v :: vs, env => by unfold wipeE; rw [len_wipe vs]; simp
theorem getS_back (env0 : Env) (j : Nat) : ∀ (vs : List Nat) (env : Env), getS (backE env0 env vs) j = if j ∈ vs ∧ j < env.length then getS env0 j else getS env j
  | [], env => by simp [backE]
  | v :: vs, env => by
    unfold backE
    rw [getS_back env0 j vs, getS_set, List.length_set]
    by_cases h : v = j
    · subst h
      by_cases hl : v < env.length
      · by_cases hv : v ∈ vs <;> simp [hv, hl]
      · simp [hl]
    · have h' : ¬ j = v := fun z => h z.symm
      simp [h, h']
theorem len_back (env0 : Env) : ∀ (vs : List Nat) (env : Env), (backE env0 env vs).length = env.length
  | [], env => rfl
  | v :: vs, env => by unfold backE; rw [len_back env0 vs]; simp
theorem storeGs_len : ∀ (ts : Tgs) (ds : List D) (env env' : Env), storeGs ts ds env = some env' → ds.length = lenG ts
  | .nil, [], _, _, _ => rfl
  | .nil, _ :: _, _, _, h => by simp [storeGs] at h
  | .cons _ _, [], _, _, h => by simp [storeGs] at h
  | .cons t ts, d :: ds, env, env', h => by
    simp only [storeGs, Option.bind_eq_some_iff] at h
    obtain ⟨env1, _, h2⟩ := h
    simp [lenG, storeGs_len ts ds env1 env' h2]
section
variable {C : Ctx} {H0 H : Hp}
theorem Sim.wipe {σ : L2.St} {env : Env} (S : Sim C σ H0 H env) (vs : List Nat) : Sim C (wipe σ vs) H0 H (wipeE env vs) := by
  refine { ok := S.ok, ex := S.ex, ex0 := S.ex0, fresh := S.fresh, keep := S.keep, tabs := S.tabs, tno := S.tno, ioH := S.ioH, len := by rw [len_wipe, wipe_length]; exact S.len, slots := fun j => ?_, inj := fun j k a hjk hj hk ej ek => ?_ }
  · rw [getS_wipe, wipe_get]
    by_cases h : j ∈ vs
    · simp only [h, if_true]; trivial
    · simp only [h, if_false]; exact S.slots j
  · rw [getS_wipe] at hj hk
    rw [wipe_get] at ej ek
    by_cases h1 : j ∈ vs
    · simp only [h1, if_true] at hj; cases hj
    · by_cases h2 : k ∈ vs
      · simp only [h2, if_true] at hk; cases hk
      · simp only [h1, h2, if_false] at hj hk ej ek
        exact S.inj j k a hjk hj hk ej ek
mutual
theorem Sim.tg : ∀ (t : Tg) {σ : L2.St} {env env' : Env} {d : D} {v : V} {Q : L2.St → Hp → Prop}, Sim C σ H0 H env → Rep C.T H0 d v → storeG t d env = some env' →
    (∀ σ', Sim C σ' H0 H env' → (∀ vs, tgIn vs t = true → L2.wipe σ' vs = L2.wipe σ vs) → Q σ' H) → rTg C.T.K t v σ H Q
  | .nm i, σ, env, env', d, v, Q, S, r, hs, k => by
    simp only [storeG, Option.some.injEq] at hs
    subst hs
    show Q _ _
    refine k _ (S.store rfl ⟨v, rfl, r⟩ fun _ _ z => by cases z) fun vs hv => wipe_set (by simpa [tgIn] using hv)
  | .tup ts, σ, env, env', d, v, Q, S, r, hs, k => by
    cases d with
    | tup ds =>
      simp only [storeG] at hs
      have r' := r
      simp only [Rep] at r'
      obtain ⟨a, xs, rfl, r1, r2⟩ := r'
      have h := Sim.tgs ts (Q := Q) S r2 hs (fun σ' S' h => k σ' S' fun vs hv => h vs (by simpa [tgIn] using hv))
      exact ⟨a, xs, rfl, S.ex.sqT r1, h.1, h.2⟩
    | _ => simp [storeG] at hs
theorem Sim.tgs : ∀ (t : Tgs) {σ : L2.St} {env env' : Env} {ds : List D} {xs : List V} {Q : L2.St → Hp → Prop}, Sim C σ H0 H env → RepAll C.T H0 ds xs → storeGs t ds env = some env' →
    (∀ σ', Sim C σ' H0 H env' → (∀ vs, tgsIn vs t = true → L2.wipe σ' vs = L2.wipe σ vs) → Q σ' H) → xs.length = lenG t ∧ rTgs C.T.K t xs σ H Q
  | .nil, σ, env, env', ds, xs, Q, S, r, hs, k => by
    cases ds with
    | nil =>
      simp only [storeGs, Option.some.injEq] at hs
      subst hs
      simp only [RepAll] at r
      subst r
      exact ⟨rfl, rfl, k σ S fun _ _ => rfl⟩
    | cons d ds => simp [storeGs] at hs
  | .cons t ts, σ, env, env', ds, xs, Q, S, r, hs, k => by
    cases ds with
    | nil => simp [storeGs] at hs
    | cons d ds =>
      simp only [storeGs, Option.bind_eq_some_iff] at hs
      obtain ⟨env1, h1, h2⟩ := hs
      simp only [RepAll] at r
      obtain ⟨v, xr, rfl, r1, r2⟩ := r
      have hl : xr.length = lenG ts := by rw [r2.len]; exact storeGs_len ts _ _ _ h2
      exact ⟨by simp [lenG, hl], v, xr, rfl, Sim.tg t S r1 h1 fun σ' S' w' => (Sim.tgs ts S' r2 h2 fun σ'' S'' w'' => k σ'' S'' fun vs hv => by
        simp only [tgsIn, Bool.and_eq_true] at hv
        rw [w'' vs hv.2, w' vs hv.1]).2⟩
end
end
/-- a walk hands out these, one after another -/
def Wk (T : Tbl) (G : Hp) (ds : List D) (J : L2.It) : Prop :=
  (∀ i H0 H d, Ext G H0 → Ext H0 H → ds[i]? = some d → J.go i H ∧ ∀ x H', J.yld i H x H' → ∃ H0', Gr T H0 H H0' H' ∧ Rep T H0' d x) ∧ ∀ i H, Ext G H → ds.length ≤ i → J.stop i H
def tItr (C : Ctx) (W : WX) (cl : CallF) (it : It) : TI := fun σ H R => ∃ H0 env, Sim C σ H0 H env ∧ RQ C W σ (fun (ds : List D) _ H0' H' => ∀ J, Wk C.T H0' ds J → R J H') H0 (itD cl it env)
theorem wk_list {T : Tbl} {G : Hp} {ds : List D} {xs : List V} {a : Addr} (hs : SqL T.K G a xs) (hr : RepAll T G ds xs) : Wk T G ds (Itl T.K a) :=
  ⟨fun i H0 H d e0 e hd => by
    obtain ⟨v, hv, r⟩ := hr.get hd
    exact ⟨⟨xs, v, (e0.tr e).sqL hs, hv⟩, fun x H' ⟨hH, hx⟩ => by
      subst hH
      have := hx xs ((e0.tr e).sqL hs)
      rw [hv] at this; cases this
      exact ⟨H0, Gr.rfl' e, Rep.mono e0 _ _ r⟩⟩, fun i H e hi => ⟨xs, e.sqL hs, by rw [hr.len]; exact hi⟩⟩
theorem wk_tup {T : Tbl} {G : Hp} {ds : List D} {xs : List V} {a : Addr} (hs : SqT T.K G a xs) (hr : RepAll T G ds xs) : Wk T G ds (Itt T.K a) :=
  ⟨fun i H0 H d e0 e hd => by
    obtain ⟨v, hv, r⟩ := hr.get hd
    exact ⟨⟨xs, v, (e0.tr e).sqT hs, hv⟩, fun x H' ⟨hH, hx⟩ => by
      subst hH
      have := hx xs ((e0.tr e).sqT hs)
      rw [hv] at this; cases this
      exact ⟨H0, Gr.rfl' e, Rep.mono e0 _ _ r⟩⟩, fun i H e hi => ⟨xs, e.sqT hs, by rw [hr.len]; exact hi⟩⟩
section
variable {X : Cx} {C : Ctx} {W : WX} {cl : CallF} {tg l e a b : Expr} {es : List Expr} {l' e' a' b' : Ex} {pos : Pos}
theorem i_seq (hK : X.K = C.T.K) (h : PE X l (tI C W cl l')) : PI X tg l (tItr C W cl (.seq l')) := ⟨fun pins s σ H R I ⟨H0, env, S, q⟩ => by
  cases z : ev cl l' env with
  | bad => simp only [itD, z] at q; exact q.elim
  | exc x env1 => exact (pi_list h).run pins s σ H R I ⟨H0, env, S, by simp only [itD, z] at q ⊢; exact q⟩
  | ok u env1 =>
    simp only [itD, z, PP.R.bind_ok] at q
    obtain ⟨⟨d, env2⟩, hf, q⟩ := q.orB
    obtain ⟨xs, hx, q⟩ := q.orB
    have key : ∀ (Q : VK), (∀ H2 H1' v, Ext H0 H2 → Sim C σ H2 H1' env2 → Rep C.T H2 d v → Q v H1') → tI C W cl l' σ H Q := fun Q hQ => ⟨H0, env, S, by
      rw [z]
      intro H1 H1' e1 S1 v u1
      obtain ⟨H2, e2, S2, r2⟩ := S1.take u1 hf
      exact hQ H2 H1' v (e1.tr e2) S2 r2⟩
    cases d with
    | lst ds =>
      cases hx
      exact (pi_list h).run pins s σ H R I (key _ fun H2 H1' v e S2 r => by
        simp only [Rep] at r
        obtain ⟨a, xs, rfl, r1, r2⟩ := r
        exact ⟨a, rfl, ⟨xs, .inl (S2.ex.rd r1)⟩, hK ▸ (q H2 H1' e S2) _ (wk_list (.inl r1) r2)⟩)
    | kst ds =>
      cases hx
      exact (pi_list h).run pins s σ H R I (key _ fun H2 H1' v e S2 r => by
        simp only [Rep] at r
        obtain ⟨a, xs, rfl, r1, r2⟩ := r
        exact ⟨a, rfl, ⟨xs, hK ▸ S2.ex.sqL r1⟩, hK ▸ (q H2 H1' e S2) _ (wk_list r1 r2)⟩)
    | tup ds =>
      cases hx
      exact (pi_tup h).run pins s σ H R I (key _ fun H2 H1' v e S2 r => by
        simp only [Rep] at r
        obtain ⟨a, xs, rfl, r1, r2⟩ := r
        exact ⟨a, rfl, ⟨xs, hK ▸ S2.ex.sqT r1⟩, hK ▸ (q H2 H1' e S2) _ (wk_tup r1 r2)⟩)
    | _ => simp [itemsD] at hx⟩
theorem wk_rng {T : Tbl} {G : Hp} {m : Int} {n : Nat} : Wk T G ((List.range n).map fun (k : Nat) => D.int (m + k)) (Itr m n) :=
  ⟨fun i H0 H d e0 e hd => (by
    rw [List.getElem?_map] at hd
    by_cases hi : i < n
    · rw [List.getElem?_range hi] at hd
      cases hd
      exact ⟨hi, fun x H' ⟨hH, hx⟩ => ⟨H0, by subst hH; exact Gr.rfl' e, by rw [hx]; exact r_int _ _ _⟩⟩
    · rw [List.getElem?_eq_none (by simpa using hi)] at hd
      cases hd), fun i H e hi => (by simpa using hi : n ≤ i)⟩
theorem piI {it : Expr} {t t' : TI} (h : PI X tg it t) (i : ∀ σ H R, t' σ H R → t σ H R) : PI X tg it t' := ⟨fun pins s σ H R I q => h.run pins s σ H R I (i σ H R q)⟩
theorem i_rng1 {p : Pos} (hg : Gl X "range") (hm : X.mg "range" = none) (hb : PE X b (tI C W cl b')) (he2 : starEach [b] X.env = (false, eval b X.env) :: starEach [] X.env := by rfl) (hs : starEach [b] X.env = [(false, eval b X.env)] := by rfl) :
    PI X tg (.Call (.Name "range" p) [b] [] pos) (tItr C W cl (.rng (.cst (.int 0)) b')) :=
  piI (pi_range1 hg hm (pa_cons hb pa_nil he2) hs) fun σ H R ⟨H0, env, S, q⟩ => by
    simp only [itD, ev, PP.R.bind_ok] at q
    refine seqI S q fun w env2 y H2 H2' e2 S2 u2 q2 => ?_
    obtain ⟨dx, hx, q2⟩ := q2.orB
    obtain ⟨dy, hy, q2⟩ := q2.orB
    have hx' : D.int 0 = dx := by simpa [pend, rdU] using hx
    subst hx'
    split at q2
    · rename_i m n hh
      cases hh
      split at q2
      · rename_i hb
        simp only [b40, Bool.and_eq_true, decide_eq_true_eq] at hb
        cases rd_int (S2.rd u2 hy)
        refine ⟨n, rfl, by omega, by omega, ?_⟩
        have k := q2 H2 H2' (Ext.rfl' _) S2
        have e : (n - 0).toNat = n.toNat := by rw [Int.sub_zero]
        rw [e] at k
        exact k _ wk_rng
      · exact q2.elim
    · exact q2.elim
theorem i_str (h : PE X l (tI C W cl l')) : PI X tg l (tItr C W cl (.str l')) :=
  piI (pi_str h) fun σ H R ⟨H0, env, S, q⟩ => by
    simp only [itD] at q
    refine seqI S q fun u env1 x H1 H1' e1 S1 u1 q1 => ?_
    obtain ⟨d, hd, q1⟩ := q1.orB
    split at q1
    · rename_i z
      cases rd_str (S1.rd u1 hd)
      refine ⟨z, rfl, q1 H1 H1' (Ext.rfl' _) S1 _ ⟨fun i H0 H d e0 e hd => ?_, fun i H e hi => (by simpa using hi : z.cps.size ≤ i)⟩⟩
      rw [List.getElem?_map] at hd
      cases hc : z.cps.toList[i]? with
      | none => rw [hc] at hd; cases hd
      | some c =>
        rw [hc] at hd
        cases hd
        have hi : i < z.cps.size := by simpa using (List.getElem?_eq_some_iff.mp hc).1
        refine ⟨hi, fun x H' ⟨hH, c', hc', hx⟩ => ⟨H0, by subst hH; exact Gr.rfl' e, ?_⟩⟩
        have : c' = c := by
          have z1 : z.cps.toList[i]? = some c' := by rw [Array.getElem?_toList]; exact hc'
          rw [hc] at z1; exact (Option.some.inj z1).symm
        subst this
        rw [hx]
        exact r_str _ _ _
    · exact q1.elim
end
end PP
end
section
set_option maxHeartbeats 1000000
namespace PP
open PySem PySem.Spec PyProof.Rows L2
/-- the context, a new list at D being filled -/
def Ctx.fill (C : Ctx) (D : Addr) (xs : List V) : Ctx := ⟨C.T, C.H0e, upd C.He D (.lst xs), C.ioAt, C.fa⟩
section
variable {C : Ctx} {σ : L2.St} {H0 H : Hp} {env : Env} {D : Addr} {xs ys : List V}
theorem sl_fill (hD : C.He D = none) (hio : ¬ C.io D) {i : Nat} {o : Option (Option V)} {s : Sl} : SlOk (C.fill D xs) H0 H i o s ↔ SlOk C H0 H i o s ∧ (ownS s = true → o ≠ some (some (.ref D))) := by
  cases s with
  | un => exact ⟨fun h => ⟨h, fun z => by cases z⟩, fun h => h.1⟩
  | fn => exact ⟨fun h => ⟨h, fun z => by cases z⟩, fun h => h.1⟩
  | fz d => exact ⟨fun h => ⟨h, fun z => by cases z⟩, fun h => h.1⟩
  | ow d =>
    constructor
    · rintro ⟨a, h1, h2, h3⟩
      have ne : a ≠ D := fun z => by subst z; rw [show (C.fill a xs).He a = some (.lst xs) from upd_same] at h2; cases h2
      refine ⟨⟨a, h1, ?_, h3⟩, fun _ z => ?_⟩
      · rw [← h2]; exact (upd_ne ne).symm
      · rw [h1] at z; cases z; exact ne rfl
    · rintro ⟨⟨a, h1, h2, h3⟩, h4⟩
      have ne : a ≠ D := fun z => h4 rfl (by rw [h1, z])
      exact ⟨a, h1, (upd_ne ne).trans h2, h3⟩
  | io d =>
    constructor
    · rintro ⟨a, h1, h2, h3⟩
      refine ⟨⟨a, h1, h2, h3⟩, fun _ z => ?_⟩
      rw [h1] at z; cases z
      exact hio (List.mem_of_getElem? h2)
    · exact fun h => h.1
/-- the new list is made -/
theorem Sim.fill0 (S : Sim C σ H0 H env) (hD : H D = none) : Sim (C.fill D []) σ H0 (upd H D (.lst [])) env := by
  have he : C.He D = none := S.he hD
  have hio : ¬ C.io D := fun z => S.ioH D z hD
  have h0e : C.H0e D = none := (S.ex0.tr S.ex).no hD
  refine { tabs := (ext_upd hD).tabs S.tabs, tno := S.tno, ok := ⟨fun a ha => ?_, fun a o h => ?_⟩, ex := S.ex.tr (ext_upd hD), ex0 := S.ex0, fresh := fun a h h' => ?_, keep := fun a o h z => ?_, ioH := fun a h => ?_, len := S.len, slots := fun i => ?_, inj := S.inj }
  · obtain ⟨h1, h2⟩ := S.ok.ioNo a ha
    refine ⟨h1, fun z => h2 ?_⟩
    have ne : a ≠ D := fun w => hio (w ▸ ha)
    exact (upd_ne ne).symm.trans z
  · have ne : a ≠ D := ne_of_none h h0e
    exact (upd_ne ne).trans (S.ok.ex _ _ h)
  · have ne : a ≠ D := fun w => by subst w; exact h' (S.ex.no hD)
    exact (upd_ne ne).trans (S.fresh a h h')
  · by_cases ne : a = D
    · subst ne
      rw [show (C.fill a []).He a = some (.lst []) from upd_same] at h
      cases h; exact .inl upd_same
    · rw [upd_ne ne]
      exact S.keep a o ((upd_ne ne).symm.trans h) z
  · have ne : a ≠ D := fun w => hio (w ▸ h)
    rw [upd_ne ne]; exact S.ioH a h
  · refine (sl_fill he hio).mpr ⟨(S.slots i).step (Ext.rfl' _) fun a ha e => ⟨(S.own ha e).1, upd_ne (fun w => by
      obtain ⟨_, o, z⟩ := S.own ha e
      rw [w, hD] at z; cases z)⟩, fun ha e => ?_⟩
    obtain ⟨_, o, z⟩ := S.own ha e
    rw [hD] at z; cases z
theorem Sim.fillAt (S : Sim (C.fill D xs) σ H0 H env) (hio : ¬ C.io D) : H D = some (.lst xs) := (S.keep D _ upd_same hio).at nofun
theorem Sim.fillNo (S : Sim (C.fill D xs) σ H0 H env) (h0e : C.H0e D = none) : H0 D = none := by
  cases z : H0 D with
  | none => rfl
  | some o =>
    have := S.fresh D h0e (by rw [z]; exact nofun)
    rw [show (C.fill D xs).He D = some (.lst xs) from upd_same] at this
    cases this
/-- it grows -/
theorem Sim.fill (S : Sim (C.fill D xs) σ H0 H env) (he : C.He D = none) (hio : ¬ C.io D) (h0e : C.H0e D = none) : Sim (C.fill D ys) σ H0 (upd H D (.lst ys)) env := by
  have hn := S.fillNo h0e
  have own : ∀ i, ownS (getS env i) = true → σ[i]? ≠ some (some (.ref D)) := fun i hi => ((sl_fill he hio).mp (S.slots i)).2 hi
  refine { tabs := tabs_upd (S.fillAt hio) nofun (fun _ _ z => by cases z) S.tabs, tno := S.tno, ok := ⟨fun a ha => ?_, fun a o h => ?_⟩, ex := fun a o h => ?_, ex0 := S.ex0, fresh := fun a h h' => ?_, keep := fun a o h z => ?_, ioH := fun a h => ?_, len := S.len, slots := fun i => ?_, inj := S.inj }
  · obtain ⟨h1, h2⟩ := S.ok.ioNo a ha
    have ne : a ≠ D := fun w => hio (w ▸ ha)
    exact ⟨h1, fun z => h2 ((upd_ne ne).trans ((upd_ne ne).symm.trans z))⟩
  · have ne : a ≠ D := ne_of_none h h0e
    exact (upd_ne ne).trans ((upd_ne ne).symm.trans (S.ok.ex _ _ h))
  · rw [upd_ne (ne_of_none h hn)]; exact S.ex _ _ h
  · have ne : a ≠ D := fun w => by subst w; exact h' hn
    exact (upd_ne ne).trans ((upd_ne ne).symm.trans (S.fresh a h h'))
  · by_cases ne : a = D
    · subst ne
      rw [show (C.fill a ys).He a = some (.lst ys) from upd_same] at h
      cases h; exact .inl upd_same
    · rw [upd_ne ne]
      exact S.keep a o ((upd_ne ne).trans ((upd_ne ne).symm.trans h)) z
  · have ne : a ≠ D := fun w => hio (w ▸ h)
    rw [upd_ne ne]; exact S.ioH a h
  · refine (sl_fill he hio).mpr ⟨((sl_fill he hio).mp (S.slots i)).1.step (Ext.rfl' _) fun a ha e => ⟨(S.own ha e).1, upd_ne (fun w => own i ha (by rw [e, w]))⟩, own i⟩
/-- behind the comprehension -/
theorem Sim.fillBack {G G' : Hp} {env1 : Env} {vs : List Nat} (S : Sim (C.fill D xs) (L2.wipe σ vs) H0 H (wipeE env vs)) (S1 : Sim C σ G G' env1) (e : Ext G H0) (hD : G' D = none) (hc : (vs.all fun i => calmS (getS env1 i)) = true) : Sim C σ H0 H (backE env1 env vs) := by
  have he : C.He D = none := S1.he hD
  have hio : ¬ C.io D := fun z => S1.ioH D z hD
  have calm : ∀ i ∈ vs, ownS (getS env1 i) = false := fun i hi => by
    have := (List.all_eq_true.mp hc) i hi
    cases z : getS env1 i <;> simp_all [calmS, ownS]
  have hlen : env.length = σ.length := by have := S.len; rw [len_wipe, wipe_length] at this; exact this
  have notin : ∀ i, ownS (getS (backE env1 env vs) i) = true → i ∉ vs ∧ ownS (getS (wipeE env vs) i) = true ∧ (L2.wipe σ vs)[i]? = σ[i]? := fun i hi => by
    rw [getS_back] at hi
    by_cases h : i ∈ vs
    · by_cases hl : i < env.length
      · simp only [h, hl, and_self, if_true] at hi; rw [calm i h] at hi; cases hi
      · have z : getS env i = .un := by unfold getS; rw [List.getD_eq_getElem?_getD, List.getElem?_eq_none (by omega)]; rfl
        simp only [h, hl, and_false, if_false, z] at hi; cases hi
    · simp only [h, false_and, if_false] at hi
      exact ⟨h, by rw [getS_wipe]; simpa [h] using hi, by rw [wipe_get]; simp [h]⟩
  refine { tabs := S.tabs, tno := S.tno, ok := S1.ok, ex := S.ex, ex0 := S.ex0, fresh := fun a h h' => ?_, keep := fun a o h z => ?_, ioH := S.ioH, len := by rw [len_back]; exact hlen, slots := fun i => ?_, inj := fun i j a hij hi hj ei ej => ?_ }
  · have := S.fresh a h h'
    by_cases ne : a = D
    · subst ne; exact he
    · exact (upd_ne ne).symm.trans this
  · have ne : a ≠ D := ne_of_none h he
    exact S.keep a o ((upd_ne ne).trans h) z
  · rw [getS_back]
    by_cases h : i ∈ vs
    · by_cases hl : i < env.length
      · simp only [h, hl, and_self, if_true]
        have q := S1.slots i
        have cz := (List.all_eq_true.mp hc) i h
        cases z : getS env1 i with
        | un => trivial
        | fn => rw [z] at cz; cases cz
        | fz d => rw [z] at q; obtain ⟨v, q1, q2⟩ := q; exact ⟨v, q1, Rep.mono e _ _ q2⟩
        | ow d => rw [z] at cz; cases cz
        | io d => rw [z] at cz; cases cz
      · have z : getS env i = .un := by unfold getS; rw [List.getD_eq_getElem?_getD, List.getElem?_eq_none (by omega)]; rfl
        simp only [h, hl, and_false, if_false, z]; trivial
    · simp only [h, false_and, if_false]
      have q := ((sl_fill he hio).mp (S.slots i)).1
      rw [getS_wipe, wipe_get] at q
      simpa [h] using q
  · obtain ⟨h1, h2, h3⟩ := notin i hi
    obtain ⟨h4, h5, h6⟩ := notin j hj
    exact S.inj i j a hij h2 h5 (h3.trans ei) (h6.trans ej)
end
abbrev W0 : WX := fun _ _ _ _ => False
def tElt (T : Tbl) (cl : CallF) (e : Ex) : TE := fun σ H Q => ∃ (h0 he : Hp) (io : List (Option Addr)) (fa : Addr), tI ⟨T, h0, he, io, fa⟩ W0 cl e σ H Q
def tTst (T : Tbl) (cl : CallF) (hc : Bool) (e : Ex) : TT := fun σ H Q => match hc with
  | true => ∃ (h0 he : Hp) (io : List (Option Addr)) (fa : Addr), tT ⟨T, h0, he, io, fa⟩ W0 cl e σ H Q
  | false => Q true H
section
variable {X : Cx} {C : Ctx} {W : WX} {cl : CallF}
theorem pe_elt {T : Tbl} {elt : Expr} {e' : Ex} (h : ∀ (h0 he : Hp) (io : List (Option Addr)) (fa : Addr), PE X elt (tI ⟨T, h0, he, io, fa⟩ W0 cl e')) : PE X elt (tElt T cl e') := ⟨fun pins s σ H Q I ⟨h0, he, io, fa, q⟩ => (h h0 he io fa).run pins s σ H Q I q⟩
theorem pt_tst0 {T : Tbl} {e' : Ex} : PTs X [] (tTst T cl false e') := pts_nil
theorem takesW0 {X : Cx} : Takes X W0 := fun u s' ⟨a, B, sI, pins, σ, H, cls, d, e, I, nb, up, sky, na, os, ag, w⟩ => w.elim
theorem lcAll_bad {vs : List Nat} {env1 : Env} {σ : L2.St} {K : U → Env → Hp → Hp → Prop} {H0 : Hp} {r : R (List D)} (h : RQ C W σ K H0 (lcAll vs env1 r)) : (vs.all fun i => calmS (getS env1 i)) = true ∧ ∃ ds env2, r = .ok ds env2 ∧ RQ C W σ K H0 (.ok (.nw (.lst ds)) (backE env1 env2 vs)) := by
  unfold lcAll at h
  split at h
  · exact h.elim
  · rename_i hc
    simp only [Bool.not_eq_true', Bool.not_eq_false] at hc
    split at h
    · rename_i ds env2
      exact ⟨hc, ds, env2, rfl, h⟩
    · exact h.elim
theorem readLc {σ : L2.St} {H : Hp} {Q : VK} {vs : List Nat} {tg : Tg} {it : It} {hc : Bool} {c e : Ex} (hK : X.K = C.T.K) (hv : tgIn vs tg = true) (h : tI C W cl (.lc vs tg it hc c e) σ H Q) :
    tLc (tItr C W cl it) (rTg X.K tg) (tTst C.T cl hc c) (tElt C.T cl e) vs σ H Q := by
  obtain ⟨H0, env, S, q⟩ := h
  simp only [ev] at q
  refine ⟨H0, env, S, ?_⟩
  cases z : itD cl it env with
  | bad => rw [z] at q; exact q.elim
  | exc x env1 => rw [z] at q; exact q
  | ok ds env1 =>
    rw [z] at q
    simp only [R.bind_ok] at q
    intro G G' e0 S1 J wk D hD
    have he : C.He D = none := S1.he hD
    have hio : ¬ C.io D := fun z => S1.ioH D z hD
    have h0e : C.H0e D = none := (S1.ex0.tr S1.ex).no hD
    let P : Nat → Hp → Prop := fun i H => i ≤ ds.length ∧ ∃ H0 env acc xs, Ext G H0 ∧ Sim (C.fill D xs) (wipe σ vs) H0 H (wipeE env vs) ∧ RepAll C.T H0 acc xs ∧
      RQ C W σ (KV C σ Q) H0 (lcAll vs env1 (lcD (lcTurn vs tg hc (ev cl c) (ev cl e)) (ds.drop i) env acc))
    refine ⟨fun i m H => m = ds.length - i ∧ P i H, ⟨ds.length, by simp, Nat.zero_le _, G, env1, [], [], Ext.rfl' _, (S1.fill0 hD).wipe vs, by simp [RepAll], by rw [List.drop_zero]; exact RQ.mono e0 q⟩, ?_⟩
    rintro i m H ⟨rfl, hi, H1, env2, acc, xs, e1, S2, ra, q2⟩
    by_cases hlt : i < ds.length
    · have hd : ds[i]? = some ds[i] := List.getElem?_eq_getElem hlt
      obtain ⟨g1, g2⟩ := wk.1 i H1 H _ e1 S2.ex hd
      refine .inr ⟨g1, P (i + 1), fun H' p => ⟨ds.length - (i + 1), by omega, rfl, p⟩, fun x H' hy => ?_⟩
      obtain ⟨H2, gr, rx⟩ := g2 x H' hy
      have S3 := S2.gr gr
      rw [List.drop_eq_getElem_cons hlt] at q2
      obtain ⟨hcalm, ds', env', hr, q2'⟩ := lcAll_bad q2
      -- the turn's own equation
      cases hst : storeG tg ds[i] (wipeE env2 vs) with
      | none => simp [lcD, lcTurn, hst] at hr
      | some env3 =>
        rw [hK]
        refine Sim.tg (C := C.fill D xs) tg S3 rx hst fun σ2 S4 hw => ⟨by rw [hw vs hv, wipe_wipe], ?_⟩
        have wσ : wipe σ2 vs = wipe σ vs := by rw [hw vs hv, wipe_wipe]
        have r2 : RepAll C.T H2 acc xs := RepAll.mono gr.e0 _ _ ra
        have hturnF : hc = false → lcTurn vs tg hc (ev cl c) (ev cl e) ds[i] env2 = ((ev cl e env3).bind fun u env3 => orBad (fzU env3 u) fun p => .ok (some p.1) p.2) := fun z => by
          subst z
          unfold lcTurn
          rw [hst]
          rfl
        have hturnT : hc = true → lcTurn vs tg hc (ev cl c) (ev cl e) ds[i] env2 = ((ev cl c env3).bind fun u env2 => orBad (rdU env2 u) fun x => orBad (truD x) fun t => match t with
              | true => (ev cl e env2).bind fun u env3 => orBad (fzU env3 u) fun p => .ok (some p.1) p.2
              | false => .ok none env2) := fun z => by
          subst z
          unfold lcTurn
          rw [hst]
          rfl
        -- behind the test: the element
        have elem : ∀ env4 H3 H3', Ext H2 H3 → Sim (C.fill D xs) σ2 H3 H3' env4 → lcTurn vs tg hc (ev cl c) (ev cl e) ds[i] env2 = ((ev cl e env4).bind fun u env3 => orBad (fzU env3 u) fun p => .ok (some p.1) p.2) →
            tElt C.T cl e σ2 H3' fun y H4 => ∃ acc, H4 D = some (.lst acc) ∧ acc.length < sizeLine ∧ P (i + 1) (upd H4 D (.lst (acc ++ [y]))) := by
          intro env4 H3 H3' e3 S5 ht
          unfold lcD at q2 hr
          rw [ht] at q2 hr
          refine ⟨C.H0e, upd C.He D (.lst xs), C.ioAt, C.fa, H3, env4, S5, ?_⟩
          cases zz : ev cl e env4 with
          | bad => rw [zz] at hr; cases hr
          | exc x env5 => rw [zz] at hr; cases hr
          | ok u env5 =>
            rw [zz] at q2 hr
            simp only [R.bind_ok] at q2 hr
            intro H4 H4' e4 S6 v hu
            cases zf : fzU env5 u with
            | none => rw [zf] at hr; cases hr
            | some p =>
              rw [zf] at q2 hr
              simp only [orBad_some] at q2 hr
              obtain ⟨H5, e5, S7, r7⟩ := S6.take hu zf
              by_cases hl : acc.length < LIM
              · rw [if_pos hl] at q2
                refine ⟨xs, S6.fillAt hio, by rw [r2.len]; exact Nat.lt_of_lt_of_le hl lim_line, hlt, H5, p.2, acc ++ [p.1], xs ++ [v], (((e1.tr gr.e0).tr e3).tr e4).tr e5, ?_, ?_, RQ.mono (((gr.e0.tr e3).tr e4).tr e5) q2⟩
                · have := (S7.fill (ys := xs ++ [v]) he hio h0e).wipe vs
                  rw [wσ] at this
                  exact this
                · exact (RepAll.mono ((e3.tr e4).tr e5) _ _ r2).app (by simp only [RepAll]; exact ⟨v, [], rfl, r7, rfl⟩)
              · rw [if_neg hl] at hr; cases hr
        cases hc with
        | false =>
          exact iteT (B := P (i + 1) H') (elem env3 H2 H' (Ext.rfl' _) S4 (hturnF rfl))
        | true =>
          refine ⟨C.H0e, upd C.He D (.lst xs), C.ioAt, C.fa, H2, env3, S4, ?_⟩
          have hturn := hturnT rfl
          have hr' := hr
          unfold lcD at hr'
          rw [hturn] at hr'
          unfold evT
          cases zc : ev cl c env3 with
          | bad => rw [zc] at hr'; cases hr'
          | exc x env5 => rw [zc] at hr'; cases hr'
          | ok u env5 =>
            rw [zc] at hr' hturn
            simp only [R.bind_ok] at hr' hturn ⊢
            cases zr : rdU env5 u with
            | none => rw [zr] at hr'; cases hr'
            | some d =>
              rw [zr] at hr' hturn
              simp only [orBad_some] at hr' hturn ⊢
              cases zt : truD d with
              | none => rw [zt] at hr'; cases hr'
              | some t =>
                rw [zt] at hr' hturn
                simp only [orBad_some] at hr' hturn ⊢
                intro H3 H3' e3 S5
                cases t with
                | true =>
                  rw [if_pos rfl]
                  exact elem env5 H3 H3' e3 S5 hturn
                | false =>
                  rw [if_neg Bool.false_ne_true]
                  have q3 := q2
                  unfold lcD at q3
                  rw [hturn] at q3
                  refine ⟨hlt, H3, env5, acc, xs, (e1.tr gr.e0).tr e3, ?_, RepAll.mono e3 _ _ r2, RQ.mono (gr.e0.tr e3) q3⟩
                  have := S5.wipe vs
                  rw [wσ] at this
                  exact this
    · have hge : ds.length ≤ i := by omega
      refine .inl ⟨wk.2 i H (e1.tr S2.ex) hge, ?_⟩
      rw [List.drop_eq_nil_of_le hge] at q2
      obtain ⟨hcalm, ds', env', hr, q3⟩ := lcAll_bad q2
      cases hr
      have S5 := S2.fillBack S1 e1 hD hcalm
      refine q3 H1 H (Ext.rfl' _) S5 (.ref D) ?_
      show RepN _ _ _ _ _ _ _
      unfold RepN
      rw [if_pos (show isMutD (PP.D.lst acc) = true from rfl)]
      refine ⟨D, rfl, he, ⟨D, xs, rfl, S2.fillNo h0e, S2.fillAt hio, ra⟩, fun j hj ej => ?_⟩
      rw [getS_back] at hj
      by_cases h : j ∈ vs
      · by_cases hl : j < env2.length
        · simp only [h, hl, and_self, if_true] at hj
          have cz := (List.all_eq_true.mp hcalm) j h
          cases z : getS env1 j <;> rw [z] at hj cz <;> first | (cases hj; done) | (cases cz; done)
        · have z : getS env2 j = .un := by unfold getS; rw [List.getD_eq_getElem?_getD, List.getElem?_eq_none (by omega)]; rfl
          simp only [h, hl, and_false, if_false, z] at hj; cases hj
      · simp only [h, false_and, if_false] at hj
        have q := ((sl_fill he hio).mp (S2.slots j)).2 (by rw [getS_wipe]; simpa [h] using hj)
        rw [wipe_get] at q
        simp only [h, if_false] at q
        exact q ej
theorem c_lc {elt tg iter : Expr} {ifs : List Expr} {scope : Scope} {own : List (Str × Nat)} {pos : Pos} {vs : List Nat} {tg' : Tg} {it' : It} {hc : Bool} {c' e' : Ex} (hK : X.K = C.T.K) (hcalm : X.calm = true) (hN : X.N.Nodup) (hi : PI X tg iter (tItr C W cl it')) (ok : BlkOk X.N X.env.scope scope own)
    (hg : ∀ (s : Shared) (H : Hp) (C : Addr) (cl : List (Str × Addr)) (fp : List Addr), PG (X.blk s H scope (compEnvC scope cl C X.env) fp) tg (rTg X.K tg'))
    (ht : ∀ (s : Shared) (H : Hp) (Ca : Addr) (ce : List (Str × Addr)) (fp : List Addr), PTs (X.blk s H scope (compEnvC scope ce Ca X.env) fp) ifs (tTst C.T cl hc c'))
    (he : ∀ (s : Shared) (H : Hp) (Ca : Addr) (ce : List (Str × Addr)) (fp : List Addr), PE (X.blk s H scope (compEnvC scope ce Ca X.env) fp) elt (tElt C.T cl e'))
    (hv : tgIn vs tg' = true := by decide) (hvs : own.map (·.2) = vs := by rfl) (hs : ∀ x, foldedSetIterable iter X.env x = pure x := by intro _; rfl) :
    PE X (.ListComp elt [⟨tg, iter, ifs, 0⟩] scope pos) (tI C W cl (.lc vs tg' it' hc c' e')) := by
  subst hvs
  exact peI (pe_lc hcalm hN hi ok hg ht he hs) fun σ H Q q => readLc hK hv q
/-- name = [..] on one line -/
theorem s_asgLc {i : Nat} {y : Str} {py : Pos} {elt tg iter : Expr} {ifs : List Expr} {scope : Scope} {own : List (Str × Nat)} {pos spos : Pos} {vs : List Nat} {tg' : Tg} {it' : It} {hc : Bool} {c' e' : Ex} (hK : X.K = C.T.K) (hcalm : X.calm = true) (hN : X.N.Nodup) (hy : X.N[i]? = some y) (hyl : X.env.scope.names.lookup y = some .local)
    (hsw : swapsWith (.ListComp elt [⟨tg, iter, ifs, 0⟩] scope pos) (some (.Name y py)) spos.line X.env = pure true) (hi : PI X tg iter (tItr C W cl it')) (ok : BlkOk X.N X.env.scope scope own)
    (hg : ∀ (s : Shared) (H : Hp) (C : Addr) (cl : List (Str × Addr)) (fp : List Addr), PG (X.blk s H scope (compEnvC scope cl C X.env) fp) tg (rTg X.K tg'))
    (ht : ∀ (s : Shared) (H : Hp) (Ca : Addr) (ce : List (Str × Addr)) (fp : List Addr), PTs (X.blk s H scope (compEnvC scope ce Ca X.env) fp) ifs (tTst C.T cl hc c'))
    (he : ∀ (s : Shared) (H : Hp) (Ca : Addr) (ce : List (Str × Addr)) (fp : List Addr), PE (X.blk s H scope (compEnvC scope ce Ca X.env) fp) elt (tElt C.T cl e'))
    (hv : tgIn vs tg' = true := by decide) (hvs : own.map (·.2) = vs := by rfl) (hs : ∀ x, foldedSetIterable iter X.env x = pure x := by intro _; rfl) :
    PS X (.Assign [.Name y py] (.ListComp elt [⟨tg, iter, ifs, 0⟩] scope pos) spos) (tS C W cl (.asg i (.lc vs tg' it' hc c' e'))) := by
  subst hvs
  refine psI (ps_setLc hcalm hN hy hyl hsw hi ok hg ht he hs) fun E σ H ⟨H0, env, S, q⟩ => ?_
  simp only [ex] at q
  exact readLc (Q := fun x H1 => gName i x σ H1 E.nx) hK hv (seqE S q fun u env1 v H1 H1' e1 S1 u1 q1 => by
    obtain ⟨env2, ha, q1⟩ := q1.orB
    obtain ⟨H2, e2, S2⟩ := S1.asg u1 ha
    exact q1 _ H2 H1' e2 S2)
end
end PP
end
section
set_option maxHeartbeats 1000000
namespace PP
open PySem PySem.Spec PyProof.Rows L2
section
variable {X : Cx} {C : Ctx} {W : WX} {cl : CallF} {e a b o : Expr} {es : List Expr} {e' a' b' o' : Ex} {es' : Exs} {pos : Pos}
theorem dp_lst {T : Tbl} {H0 H : Hp} {ys : List D} {ps : List PyData} {v : V} (hK : X.K = T.K) (e : Ext H0 H) (h : toPyAll ys = some ps) {dy : D} (hy : dy = .lst ys ∨ dy = .kst ys) (r : RdV T H0 H dy v) : Dp X.K H v (.list ps) := by
  rcases hy with rfl | rfl
  · exact dp_rd hK e (by simp only [toPy, h, Option.map_some]) r
  · exact dp_rd hK e (by simp only [toPy, h, Option.map_some]) r
theorem repA_ints {T : Tbl} {H : Hp} : ∀ {ns : List Int} {xs : List V}, RepAll T H (ns.map D.int) xs → xs = ns.map V.int
  | [], xs, h => h
  | n :: r, xs, h => by
    simp only [List.map_cons, RepAll] at h
    obtain ⟨v, t, rfl, h1, h2⟩ := h
    simp only [Rep] at h1
    rw [h1, repA_ints h2]; rfl
def rInDT (K : PySem.W.Frag) : R2 := fun x y H Q => ∃ d ds, Dp K H x d ∧ Dp K H y (.tuple ds) ∧ SeqAt.shaped d = true ∧ SeqAt.shaped (.list ds) = true ∧ Q (.bl (ds.any fun z => PyData.eqv z d)) H
theorem op_inDT (hu : X.A.units + 65 < cLine) : OpR X (compareOp .In) (rInDT X.K) := by
  intro pins s σ H x y v u Q I rx ry h
  obtain ⟨d, ds, hd, he, sd, se, q⟩ := h
  obtain ⟨as, r1⟩ := Dp.reads I d x v hd rx
  obtain ⟨bs, r2⟩ := Dp.reads I (.tuple ds) y u he ry
  exact SeqAt.in_tuple_reads r2 r1 (SeqAt.canLay_of_shaped se) (SeqAt.canLay_of_shaped sd) (room_in_shaped sd hu) ⟨.bl _, H, I, rfl, q⟩
theorem dp_tup {T : Tbl} {H0 H : Hp} {ys : List D} {ps : List PyData} {v : V} (hK : X.K = T.K) (e : Ext H0 H) (h : toPyAll ys = some ps) (r : RdV T H0 H (.tup ys) v) : Dp X.K H v (.tuple ps) :=
  dp_rd hK e (by simp only [toPy, h, Option.map_some]) r
theorem o_in {T : Tbl} (hK : X.K = T.K) (hu : X.A.units + 65 < cLine) : OpR X (compareOp .In) (rD T (op2 .isin)) := orI (((((op_inD hu).or op_in_sign).or op_in_seq).or (op_inDT hu)).or (op_in_dt (by omega))) fun x y H Q ⟨H0, dx, dy, d, e, hx, hy, hg, q⟩ => by
  rcases isin_inv hg with ⟨ys, h1, h2⟩ | ⟨u, z, rfl, rfl, h2⟩ | ⟨ys, rfl, h2⟩ | ⟨ks, vs, k, rfl, hk, rfl⟩
  · obtain ⟨p, ps, h3, h4, h5, h6, rfl⟩ := inD_bl h2
    exact .inl (.inl (.inl (.inl ⟨p, ps, dp_rd hK e h3 hx, dp_lst hK e h4 h1 hy, h5, h6, q _ _ _ (Gr.rfl' e) (.flat rfl (r_bl _ _ _))⟩)))
  · obtain ⟨c, rfl, rfl⟩ := inS_bl h2
    exact .inl (.inl (.inl (.inr ⟨c, z, rd_str hx, rd_str hy, q _ _ _ (Gr.rfl' e) (.flat rfl (r_bl _ _ _))⟩)))
  · rcases inT_inv h2 with ⟨i, ns, rfl, h3, rfl⟩ | h2
    · have hy' := hy
      rw [intsD_map h3] at hy'
      obtain ⟨a, xs, rfl, h4, h5⟩ := rd_tup e hy'
      have hxs : xs = ns.map V.int := repA_ints h5
      subst hxs
      have hx' : x = .int i := rd_int hx
      subst hx'
      refine .inl (.inl (.inr ⟨a, _, rfl, .inr (hK ▸ h4), rfl, ?_, ?_⟩))
      · rw [List.all_map, List.all_eq_true]; intro _ _; rfl
      · have : inV (.int i) (ns.map V.int) = ns.any fun n => n == i := by
          unfold inV
          rw [List.any_map]
          rfl
        rw [this]
        exact q _ _ _ (Gr.rfl' e) (.flat rfl (r_bl _ _ _))
    · obtain ⟨p, ps, h3, h4, h5, h6, rfl⟩ := inD_bl h2
      exact .inl (.inr ⟨p, ps, dp_rd hK e h3 hx, dp_tup hK e h4 hy, h5, h6, q _ _ _ (Gr.rfl' e) (.flat rfl (r_bl _ _ _))⟩)
  · obtain ⟨a, od, es, rfl, h1, h2, h3, h4, h5⟩ := rd_dT e hy
    cases dx with
    | tup ys =>
      obtain ⟨b, rfl, h6⟩ := rd_key e hk hx
      exact .inr ⟨a, b, od, es, k, rfl, rfl, h1, h2, hK ▸ e.kt3 h4, hK ▸ h6, by rw [← getDT_some h3 h5]; exact q _ _ _ (Gr.rfl' e) (.flat rfl (r_bl _ _ _))⟩
    | _ => cases hk
theorem b_str : CallR X (.type "str") (rDn C.T (biD .str)) := callI call_str_int fun xs H Q ⟨H0, ds, d, e, hr, hg, q⟩ => by
  match ds, hg with
  | [.int i], hg =>
    simp only [biD] at hg
    split at hg
    · rename_i hl
      cases hg
      obtain ⟨v, rfl, h1⟩ := rd1 hr
      cases rd_int h1
      exact ⟨i, rfl, of_decide_eq_true hl, q _ _ _ (Gr.rfl' e) (.flat rfl (r_str _ _ _))⟩
    · cases hg
theorem bls_of {T : Tbl} {H : Hp} : ∀ {ds : List D} {bs : List Bool} {vs : List V}, blsD ds = some bs → RepAll T H ds vs → vs = bs.map V.bl
  | [], bs, vs, h, r => by cases h; simp only [RepAll] at r; subst r; rfl
  | d :: ds, bs, vs, h, r => by
    cases d with
    | bl c =>
      simp only [blsD, Option.map_eq_some_iff] at h
      obtain ⟨cs, h1, rfl⟩ := h
      simp only [RepAll, Rep] at r
      obtain ⟨v, r', rfl, rfl, r2⟩ := r
      rw [bls_of h1 r2]; rfl
    | _ => cases h
theorem strs_of {T : Tbl} {H : Hp} : ∀ {ds : List D} {bs : List Str} {vs : List V}, strsD ds = some bs → RepAll T H ds vs → vs = bs.map V.str
  | [], bs, vs, h, r => by cases h; simp only [RepAll] at r; subst r; rfl
  | d :: ds, bs, vs, h, r => by
    cases d with
    | str c =>
      simp only [strsD, Option.map_eq_some_iff] at h
      obtain ⟨cs, h1, rfl⟩ := h
      simp only [RepAll, Rep] at r
      obtain ⟨v, r', rfl, rfl, r2⟩ := r
      rw [strs_of h1 r2]; rfl
    | _ => cases h
theorem b_all (hc : X.calm = true) : CallR X (.builtin "all") (rDn C.T (biD .all)) := callI (cr_all hc) fun xs H Q ⟨H0, ds, d, e, hr, hg, q⟩ => by
  match ds, hg with
  | [.lst ys], hg =>
    simp only [biD, Option.map_eq_some_iff] at hg
    obtain ⟨bs, hb, rfl⟩ := hg
    obtain ⟨v, rfl, h1⟩ := rd1 hr
    obtain ⟨a, us, rfl, h2, h3⟩ := rd_lst e h1
    exact ⟨a, bs, rfl, .inl (bls_of hb h3 ▸ h2), q _ _ _ (Gr.rfl' e) (.flat rfl (r_bl _ _ _))⟩
def tyB : B → String
  | .index => "list" | _ => "str"
theorem rd_recv {T : Tbl} {H0 H : Hp} {B : B} {d : D} {v : V} {Ty : String} (hK : X.K = T.K) (e : Ext H0 H) (r : RdV T H0 H d v) (h : recvB B d = true) (hT : Ty = tyB B) : tyV X.K Ty v H := by
  subst hT
  cases B <;> cases d <;> first | (cases h; done) | skip
  · cases rd_str r; rfl
  · cases rd_str r; rfl
  · obtain ⟨a, xs, rfl, h1, _⟩ := rd_lst e r; exact .inl ⟨rfl, xs, .inl h1⟩
  · obtain ⟨a, xs, rfl, h1, _⟩ := rd_kst e r; exact .inl ⟨rfl, xs, hK ▸ h1⟩
/-- what a method gives, by the data -/
def rM1 (T : Tbl) (B : B) : V → List V → Hp → VK → Prop := fun x xs H Q => ∃ y, xs = [y] ∧ ∃ H0 dx dy d, Ext H0 H ∧ RdV T H0 H dx x ∧ RdV T H0 H dy y ∧ biD B [dx, dy] = some d ∧ ∀ v H0' H', Gr T H0 H H0' H' → RepG T H0' H' H d v → Q v H'
theorem c_bm {name : Str} {apos : Pos} {id Ty : String} {B : B} (hK : X.K = C.T.K) (pa : PlainAttrs Ty) (slot : Slot Ty name id) (hty : typeOf (.builtin id) = pure (.type "method_descriptor")) (hm : MtR X id (rM1 C.T B)) (hT : Ty = tyB B)
    (ho : PE X o (tI C W cl o')) (he : PE X e (tI C W cl e')) (hbase : attributeBase o name X.env (eval o X.env) = eval o X.env := by rfl)
    (hfew : ((backTo pos (starEach [e] X.env)).all (fun x => !x.1) && (backToKw pos (keywordEach [] X.env)).all (fun x => x.1.isSome)
      && decide (([e] : List Expr).length + ([] : List Keyword).length + (if ([] : List Keyword).isEmpty then 0 else 1) < 30)) = true := by rfl)
    (hline : (apos.endLine == pos.line) = true := by rfl) (hs : starEach [e] X.env = (false, eval e X.env) :: starEach [] X.env := by rfl) (hplain : (backTo pos (starEach [] X.env)).any (·.1) = false := by rfl) :
    PE X (.Call (.Attribute o name apos) [e] [] pos) (tI C W cl (.bm B o' e')) :=
  peI (pe_bm pa slot hty hm ho (pa_cons he pa_nil hs) hbase hfew hline hs hplain) fun σ H Q ⟨H0, env, S, q⟩ => by
    simp only [ev] at q
    refine seqI S q fun u env1 x H1 H1' e1 S1 u1 q1 => ?_
    obtain ⟨d0, hd0, q2⟩ := q1.orB
    split at q2
    · exact q2.elim
    rename_i hrc
    simp only [Bool.not_eq_true, Bool.not_eq_false'] at hrc
    refine ⟨rd_recv hK S1.ex (S1.rd u1 hd0) hrc hT, ?_⟩
    obtain ⟨H1f, e1f, S1f, u1f⟩ := S1.pend u1
    refine seqI S1f (RQ.mono e1f q2) fun w env2 y H2 H2' e2 S2 u2 q3 => ?_
    obtain ⟨dx, hx, q4⟩ := q3.orB
    obtain ⟨dy, hy, q5⟩ := q4.orB
    obtain ⟨z, hz, q6⟩ := q5.orB
    exact ⟨y, rfl, H2, dx, dy, z, S2.ex, S2.rd (u1f.wait e2) hx, S2.rd u2 hy, hz, fun v H0' H' g r => fin_nw S2 q6 g r⟩
theorem repAll_strs {T : Tbl} {H : Hp} : ∀ zs : List Str, RepAll T H (zs.map D.str) (zs.map V.str)
  | [] => by simp [RepAll]
  | z :: zs => by simp only [List.map_cons, RepAll, Rep]; exact ⟨_, _, rfl, rfl, repAll_strs zs⟩
theorem mtI {id : String} {r r' : V → List V → Hp → VK → Prop} (h : MtR X id r) (i : ∀ x xs H Q, r' x xs H Q → r x xs H Q) : MtR X id r' := fun pins s σ H x xs v us Q I rx rxs q => h pins s σ H x xs v us Q I rx rxs (i x xs H Q q)
theorem m_split : MtR X "str.split" (rM1 C.T .split) := mtI mt_split fun x xs H Q ⟨y, hxs, H0, dx, dy, d, e, hx, hy, hg, q⟩ => by
  cases dx with
  | str a =>
    cases dy with
    | str b =>
      simp only [biD] at hg
      split at hg
      · rename_i hl
        cases hg
        simp only [Bool.and_eq_true, decide_eq_true_eq, Bool.not_eq_true'] at hl
        refine ⟨a, b, rd_str hx, by rw [hxs, rd_str hy], hl.2, ?_, fun p hp => q _ _ _ (Gr.own e hp) (.lst e hp (repAll_strs _))⟩
        have h1 := hl.1
        have h2 : LIM + 2 ≤ sizeLine := by rw [PySem.sizeLine_eq]; decide
        omega
      · cases hg
    | _ => cases hg
  | _ => cases hg
theorem m_join (hK : X.K = C.T.K) : MtR X "str.join" (rM1 C.T .join) := mtI mt_join fun x xs H Q ⟨y, hxs, H0, dx, dy, d, e, hx, hy, hg, q⟩ => by
  cases dx with
  | str a =>
    cases dy with
    | lst ys =>
      simp only [biD, Option.bind_eq_some_iff] at hg
      obtain ⟨zs, hz, hg⟩ := hg
      split at hg
      · rename_i hl
        cases hg
        obtain ⟨p, us, rfl, h1, h2⟩ := rd_lst e hy
        refine ⟨a, p, zs, rd_str hx, hxs, .inl (.inl (strs_of hz h2 ▸ h1)), ?_, q _ _ _ (Gr.rfl' e) (.flat rfl (r_str _ _ _))⟩
        have h2 : LIM ≤ 16777216 := by decide
        omega
      · cases hg
    | _ => cases hg
  | _ => cases hg
end
end PP
end
section
set_option maxHeartbeats 1000000
namespace PP
open PySem PySem.Spec PyProof.Rows L2
theorem Tbl.ck_some {T : Tbl} {c : Nat} {ks : List Nat} {C : Addr} (h : T.ck c ks = some C) : T.cn c = some C ∧ ∀ k ∈ ks, T.fo c k = true := by
  unfold Tbl.ck at h
  split at h
  · rename_i z
    exact ⟨h, List.all_eq_true.mp (Bool.and_eq_true_iff.mp z).2⟩
  · cases h
theorem Tbl.ck_ec {T : Tbl} {c : Nat} {ks : List Nat} {C : Addr} (h : T.ck c ks = some C) : T.ec c = false := by
  unfold Tbl.ck at h
  split at h
  · rename_i z
    simpa using (Bool.and_eq_true_iff.mp z).1
  · cases h
theorem Tbl.cx_some {T : Tbl} {c : Nat} {ks : List Nat} {C : Addr} (h : T.cx c ks = some C) : T.cn c = some C ∧ (∀ k ∈ ks, T.fo c k = true) ∧ T.ec c = true := by
  unfold Tbl.cx at h
  split at h
  · rename_i z
    exact ⟨h, List.all_eq_true.mp (Bool.and_eq_true_iff.mp z).2, (Bool.and_eq_true_iff.mp z).1⟩
  · cases h
section
variable {T : Tbl} {H0 H : Hp} {x : V}
theorem rd_obj (e : Ext H0 H) {c : Nat} {ks : List Nat} {ds : List D} (h : RdV T H0 H (.obj c ks ds) x) :
    ∃ a C dx xs, x = .ref a ∧ T.ck c ks = some C ∧ H a = some (.ins C dx ((ks.map T.fn).zip xs)) ∧ xs.length = ks.length ∧ RepAll T H0 ds xs := by
  rcases h with h | h
  · simp only [Rep] at h
    obtain ⟨a, C, dx, xs, h1, hc, h2, h3⟩ := h
    exact ⟨a, C, dx, xs, h1, hc, e _ _ h2, h3⟩
  · obtain ⟨a, C, dx, xs, h1, h0, hc, h2, h3⟩ := h
    exact ⟨a, C, dx, xs, h1, hc, h2, h3⟩
end
/-- a field's name among the names of a class's fields -/
structure FldOk (K : PySem.W.Frag) (T : Tbl) (k : Nat) (f : Str) : Prop where
  nm : T.fn k = f
  inj : ∀ c j, T.fo c k = true → T.fo c j = true → T.fn j = f → j = k
  ok : ∀ c C, T.cn c = some C → T.fo c k = true → T.ec c = false → Cls K C ∧ NoAttr K C f
  ex : ∀ c C, T.cn c = some C → T.fo c k = true → T.ec c = true → XfC K C ∧ NoAttr K C f
theorem fld_look {T : Tbl} {H : Hp} {f : Str} {k : Nat} (hn : T.fn k = f) : ∀ {ks : List Nat} {ds : List D} {xs : List V} {z : D}, (∀ j ∈ ks, T.fn j = f → j = k) → RepAll T H ds xs → xs.length = ks.length → fldD ks ds k = some z →
    ∃ v, ((ks.map T.fn).zip xs).lookup f = some v ∧ Rep T H z v ∧ k ∈ ks
  | [], _, _, _, _, _, _, h => by simp [fldD] at h
  | j :: ks, [], _, _, _, _, _, h => by simp [fldD] at h
  | j :: ks, d :: ds, xs, z, hi, hr, hl, h => by
    obtain ⟨v, r, rfl, h1, h2⟩ := (by simpa only [RepAll] using hr : ∃ v r, xs = v :: r ∧ Rep T H d v ∧ RepAll T H ds r)
    unfold fldD at h
    simp only [List.map_cons, List.zip_cons_cons, List.lookup_cons]
    by_cases e : j = k
    · rw [if_pos e] at h
      cases h
      subst e
      rw [show (f == T.fn j) = true by rw [hn]; exact beq_self_eq_true _]
      exact ⟨v, rfl, h1, List.mem_cons_self⟩
    · rw [if_neg e] at h
      rw [show (f == T.fn j) = false by
        rw [beq_eq_false_iff_ne]
        exact fun q => e (hi j List.mem_cons_self q.symm)]
      obtain ⟨v', q1, q2, q3⟩ := fld_look hn (fun i hm => hi i (List.mem_cons_of_mem _ hm)) h2 (by simpa using hl) h
      exact ⟨v', q1, q2, List.mem_cons_of_mem _ q3⟩
section
variable {X : Cx} {C : Ctx} {W : WX} {cl : CallF} {e a b c : Expr} {es : List Expr} {e' a' b' c' : Ex} {es' : Exs} {pos : Pos}
/-- e.f, of an object or an exception -/
theorem pe_fldX {f : Str} {te : TE} (he : PE X e te) (hb : attributeBase e f X.env (eval e X.env) = eval e X.env) : PE X (.Attribute e f pos) (fun σ H Q => te σ H fun x H1 =>
    (∃ a C dx fs v, x = .ref a ∧ H1 a = some (.ins C dx fs) ∧ Cls X.K C ∧ NoAttr X.K C f ∧ fs.lookup f = some v ∧ Q v H1) ∨
    ∃ a Ca dd fs v, x = .ref a ∧ H1 a = some (ErrO Ca (some dd) a) ∧ H1 dd = some (.xd fs) ∧ fs.lookup f = some v ∧ XfC X.K Ca ∧ NoAttr X.K Ca f ∧ Q v H1) := by
  refine ⟨fun pins s σ H Q I h => ?_⟩
  refine attr_of hb (thn (he.run pins s σ H _ I h) fun u s1 ⟨x, H1, I1, rx, hq⟩ => ?_)
  rcases hq with ⟨a, C, dx, fs, v, ex, ea, c, n, l, q⟩ | ⟨a, Ca, dd, fs, v, ex, ea, ed, l, T, hno, q⟩
  · subst ex
    obtain rfl : u = Value.ref a := rx
    exact getattr_ok I1 ea c n l fun u' s2 I2 ru => ⟨v, H1, I2, ru, q⟩
  · subst ex
    obtain rfl : u = Value.ref a := rx
    have ho : ObjOk X.prog X.w H1 s1.heap a (ErrO Ca (some dd) a) := I1.hok a _ ea
    unfold ErrO at ho
    obtain ⟨⟨oe, vs, hge, hz, hd⟩, _, _⟩ := ho
    have hx : ObjOk X.prog X.w H1 s1.heap dd (.xd fs) := I1.hok dd _ ed
    obtain ⟨mA, hns, hr⟩ := hx
    obtain ⟨od, ho, hl⟩ := lookIn_ns hns
    obtain ⟨u, hu, ru⟩ := RelO.some_of (v := v) (o := mA f) (by rw [← l]; exact hr f)
    have J : PySem.W.InstAt s1.heap a oe Ca (some od) := ⟨hge, hz.1, by unfold PySem.W.notCls; rw [hd] <;> rfl, by rw [hz.2]; exact ho⟩
    exact PySem.HandSPX.exc_get I1.kIn J T.ga T.gg T.exC (PySem.W.findObj_own T.hdC hno rfl (by rw [hl, hu])) (handed_of ru) ⟨v, H1, I1.tok _, ru, q⟩
theorem fldD_mem : ∀ {ks : List Nat} {vs : List D} {k : Nat} {z : D}, fldD ks vs k = some z → k ∈ ks := by
  intro ks
  induction ks with
  | nil => intro vs k z h; simp [fldD] at h
  | cons j ks ih =>
    intro vs k z h
    cases vs with
    | nil => simp [fldD] at h
    | cons v vs =>
      unfold fldD at h
      by_cases e : j = k
      · exact e ▸ List.mem_cons_self
      · rw [if_neg e] at h; exact List.mem_cons_of_mem _ (ih h)
theorem c_fld {f : Str} {k : Nat} (hK : X.K = C.T.K) (he : PE X e (tI C W cl e')) (F : FldOk X.K C.T k f) (hb : attributeBase e f X.env (eval e X.env) = eval e X.env := by rfl) : PE X (.Attribute e f pos) (tI C W cl (.fld e' k)) :=
  peI (pe_fldX he hb) fun σ H Q ⟨H0, env, S, q⟩ => by
    simp only [ev] at q
    refine seqI S q fun u env1 x H1 H1' e1 S1 u1 q1 => ?_
    obtain ⟨d, hd, q2⟩ := q1.orB
    obtain ⟨z, hz, q3⟩ := q2.orB
    have hr := S1.rd u1 hd
    clear q1 q2
    cases d with
    | obj c ks vs =>
      obtain ⟨p, Ca, dx, xs, rfl, hc, hp, hl, ha⟩ := rd_obj S1.ex hr
      obtain ⟨hc1, hc2⟩ := Tbl.ck_some hc
      have hk : k ∈ ks := by
        have : ∀ {ks : List Nat} {vs : List D} {z : D}, fldD ks vs k = some z → k ∈ ks := by
          intro ks
          induction ks with
          | nil => intro vs z h; simp [fldD] at h
          | cons j ks ih =>
            intro vs z h
            cases vs with
            | nil => simp [fldD] at h
            | cons v vs =>
              unfold fldD at h
              by_cases e : j = k
              · exact e ▸ List.mem_cons_self
              · rw [if_neg e] at h; exact List.mem_cons_of_mem _ (ih h)
        exact this hz
      obtain ⟨v, l1, l2, _⟩ := fld_look F.nm (fun j hj => F.inj c j (hc2 k hk) (hc2 j hj)) ha hl hz
      obtain ⟨o1, o2⟩ := F.ok c Ca hc1 (hc2 k hk) (Tbl.ck_ec hc)
      exact .inl ⟨p, Ca, dx, _, v, rfl, hp, o1, o2, l1, q3 H1 H1' (Ext.rfl' _) S1 v l2⟩
    | err c ks vs =>
      have hk := fldD_mem hz
      rcases hr with hr | hr
      · simp only [Rep] at hr
        obtain ⟨a, Ca, dx, rfl, hc, hp, hr⟩ := hr
        obtain ⟨hc1, hc2, hc3⟩ := Tbl.cx_some hc
        rcases hr with ⟨hr, _⟩ | ⟨dd, xs, rfl, hdd, hl, ha⟩
        · subst hr; cases hk
        · obtain ⟨v, l1, l2, _⟩ := fld_look F.nm (fun j hj => F.inj c j (hc2 k hk) (hc2 j hj)) ha hl hz
          obtain ⟨o1, o2⟩ := F.ex c Ca hc1 (hc2 k hk) hc3
          exact .inr ⟨a, Ca, dd, _, v, rfl, S1.ex _ _ hp, S1.ex _ _ hdd, l1, o1, o2, q3 H1 H1' (Ext.rfl' _) S1 v l2⟩
      · exact hr.elim
    | _ => cases hz
theorem put_zip {T : Tbl} {H : Hp} {f : Str} {k : Nat} (hn : T.fn k = f) {z : D} {v : V} (hz : Rep T H z v) : ∀ {ks : List Nat} {ds : List D} {xs : List V}, (∀ j ∈ ks, T.fn j = f → j = k) → RepAll T H ds xs → xs.length = ks.length → ds.length = ks.length →
    ∃ xs', putF f v ((ks.map T.fn).zip xs) = (((putD ks ds k z).1.map T.fn).zip xs') ∧ xs'.length = (putD ks ds k z).1.length ∧ RepAll T H (putD ks ds k z).2 xs' ∧ ∀ j ∈ (putD ks ds k z).1, j ∈ ks ∨ j = k
  | [], [], xs, _, hr, _, _ => by
    simp only [RepAll] at hr
    subst hr
    refine ⟨[v], ?_, rfl, ?_, ?_⟩
    · simp [putF, putD, hn]
    · simp only [putD, RepAll]; exact ⟨v, [], rfl, hz, rfl⟩
    · intro j hj; simp [putD] at hj; exact .inr hj
  | [], _ :: _, _, _, _, _, h => by simp at h
  | _ :: _, [], _, _, _, _, h => by simp at h
  | j :: ks, d :: ds, xs, hi, hr, hl, hd => by
    obtain ⟨w, r, rfl, h1, h2⟩ := (by simpa only [RepAll] using hr : ∃ v r, xs = v :: r ∧ Rep T H d v ∧ RepAll T H ds r)
    unfold putD
    simp only [List.map_cons, List.zip_cons_cons]
    by_cases e : j = k
    · subst e
      simp only [if_true]
      refine ⟨v :: r, ?_, by simpa using hl, ?_, fun i hi => .inl hi⟩
      · simp [putF, hn]
      · simp only [RepAll]; exact ⟨v, r, rfl, hz, h2⟩
    · have ne : T.fn j ≠ f := fun q => e (hi j List.mem_cons_self q)
      obtain ⟨xs', q1, q2, q3, q4⟩ := put_zip hn hz (fun i hm => hi i (List.mem_cons_of_mem _ hm)) h2 (by simpa using hl) (by simpa using hd)
      simp only [if_neg e]
      refine ⟨w :: xs', ?_, by simp [q2], ?_, ?_⟩
      · simp only [putF, if_neg ne, q1, List.map_cons, List.zip_cons_cons]
      · simp only [RepAll]; exact ⟨w, xs', rfl, h1, q3⟩
      · intro i hm
        simp only [List.mem_cons] at hm ⊢
        rcases hm with rfl | hm
        · exact .inl (.inl rfl)
        · rcases q4 i hm with z | z
          · exact .inl (.inr z)
          · exact .inr z
/-- an owned object at a slot -/
theorem Sim.ob (S : Sim C σ H0 H env) {i c : Nat} {ks : List Nat} {vs : List D} (h : getS env i = .ow (.obj c ks vs) ∨ getS env i = .io (.obj c ks vs)) :
    ∃ a, σ[i]? = some (some (.ref a)) ∧ ownS (getS env i) = true ∧ RepO C.T H0 H (.obj c ks vs) (.ref a) := by
  have hi := S.slots i
  rcases h with z | z
  · rw [z] at hi ⊢
    obtain ⟨a, h1, _, h3⟩ := hi
    exact ⟨a, h1, rfl, h3⟩
  · rw [z] at hi ⊢
    obtain ⟨a, h1, _, h3⟩ := hi
    exact ⟨a, h1, rfl, h3⟩
/-- name.f = value -/
theorem s_setF {st : Stmt} {i k : Nat} {f : Str} {cs : List Nat} {σ : L2.St} (hK : X.K = C.T.K) (F : FldOk X.K C.T k f) (hc : ∀ c ∈ cs, C.T.fo c k = true) (h : PS X st (sFld X.K (tVar i) (tI C W cl e') f)) : PS X st (tS C W cl (.setF i cs k e')) := psI h fun E σ H ⟨H0, env, S, q⟩ => by
  simp only [ex] at q
  refine seqE S q fun u env1 v H1 H1' e1 S1 u1 q1 => ?_
  obtain ⟨⟨d, env2⟩, hf, q2⟩ := q1.orB
  obtain ⟨H2, e2, S2, r2⟩ := S1.take u1 hf
  have fin : ∀ c ks vs, getS env2 i = .ow (.obj c ks vs) ∨ getS env2 i = .io (.obj c ks vs) → RS C W E H1 (if (decide (ks.length < 100) && decide (vs.length = ks.length) && cs.contains c) = true then .ok .next (env2.set i (setIO (getS env2 i) (.obj c (putD ks vs k d).1 (putD ks vs k d).2))) else .bad) →
      ∃ x H2, σ[i]? = some (some x) ∧ H2 = H1' ∧ ∃ a C dx fs, x = .ref a ∧ H2 a = some (.ins C dx fs) ∧ Cls X.K C ∧ NoAttr X.K C f ∧ fs.length < 1000 ∧ E.nx σ (upd H2 a (.ins C dx (putF f v fs))) := by
    intro c ks vs hg q4
    split at q4
    · rename_i hz
      simp only [Bool.and_eq_true, decide_eq_true_eq, List.contains_iff_mem] at hz
      obtain ⟨⟨hz1, hz2⟩, hz3⟩ := hz
      obtain ⟨a, ha, ho, hr⟩ := S2.ob hg
      obtain ⟨b, Ca, dx, xs, eb, hn, hck, hp, hl, hx⟩ := hr
      cases eb
      obtain ⟨hc1, hc2⟩ := Tbl.ck_some hck
      obtain ⟨o1, o2⟩ := F.ok c Ca hc1 (hc c hz3) (Tbl.ck_ec hck)
      obtain ⟨xs', p1, p2, p3, p4⟩ := put_zip F.nm r2 (fun j hj => F.inj c j (hc c hz3) (hc2 j hj)) hx hl hz2
      refine ⟨_, _, ha, rfl, a, Ca, dx, _, rfl, hp, o1, o2, ?_, ?_⟩
      · rw [List.length_zip, List.length_map]; omega
      · rw [p1]
        refine q4 _ H2 _ e2 (S2.mut ho ha ⟨a, Ca, dx, xs', rfl, hn, ?_, upd_same, p2, p3⟩)
        unfold Tbl.ck
        rw [if_pos (Bool.and_eq_true_iff.mpr ⟨by rw [Tbl.ck_ec hck]; rfl, List.all_eq_true.mpr fun j hj => (p4 j hj).elim (hc2 j) fun z => by rw [z]; exact hc c hz3⟩)]
        exact hc1
    · exact q4.elim
  split at q2
  · rename_i c ks vs hg
    obtain ⟨x, _, hx, rfl, r⟩ := fin c ks vs (.inl hg) (by rw [hg]; exact q2)
    exact ⟨x, hx, r⟩
  · rename_i c ks vs hg
    obtain ⟨x, _, hx, rfl, r⟩ := fin c ks vs (.inr hg) (by rw [hg]; exact q2)
    exact ⟨x, hx, r⟩
  · exact q2.elim
/-- constants behind the arguments -/
def CstOk (T : Tbl) : List D → List V → Prop := fun ds vs => ∀ H, RepAll T H ds vs
theorem UcOk.app {σ : L2.St} {H0 : Hp} {ds : List D} {dvs : List V} (hd : RepAll C.T H0 ds dvs) : ∀ {us : List U} {vs : List V}, UcOk C σ H0 us vs → UcOk C σ H0 (us ++ ds.map .d) (vs ++ dvs)
  | [], _, h => by
    cases h
    induction ds generalizing dvs with
    | nil => simp only [RepAll] at hd; subst hd; rfl
    | cons d ds ih =>
      simp only [RepAll] at hd
      obtain ⟨v, r, rfl, h1, h2⟩ := hd
      exact ⟨v, r, rfl, h1, ih h2⟩
  | .d x :: us, _, h => by obtain ⟨v, r, rfl, h1, h2⟩ := h; exact ⟨v, r ++ dvs, rfl, h1, UcOk.app hd h2⟩
  | .sl i :: us, _, h => by obtain ⟨v, r, rfl, h1, h2⟩ := h; exact ⟨v, r ++ dvs, rfl, h1, UcOk.app hd h2⟩
  | .nw _ :: _, _, h => h.elim
/-- a call, from the reading of its run -/
theorem read_run {σ : L2.St} {H1 H1' : Hp} {Q : VK} {env1 : Env} {f n : Nat} {ms : List Bool} {us : List U} {vs : List V} (S1 : Sim C σ H1 H1' env1) (hv : UcOk C σ H1 us vs) (hn : ms.length = n) (q : RQ C W σ (KV C σ Q) H1 (runC cl f ms us env1)) :
    spF C.T cl f n vs H1' Q fun cls d H' => W cls d σ H' := by
  unfold runC at q
  obtain ⟨as, ha, q⟩ := q.orB
  split at q
  rotate_left
  · exact q.elim
  rename_i hd
  obtain ⟨g1, g2, g3⟩ := args_ok S1 ha hv
  refine ⟨H1, as, S1.ex, g1, io_nodup S1 ha hv hd, g2.trans hn, S1.tb, ?_⟩
  cases zc : cl f as with
  | bad => simp only [zc] at q; exact q
  | exc x outs =>
    simp only [zc] at q
    intro cls d H0' H' g o hx
    exact q cls d H0' H' g.e0 (S1.call ha hv hd g o) hx
  | ok r outs =>
    simp only [zc] at q
    intro v H0' H' g hr o
    have S2 := S1.call ha hv hd g o
    exact q H0' H' g.e0 S2 v (ret_u S1 ha hv hd g o hr)
/-- f(..) with defaults behind -/
theorem c_callD {x : Str} {p : Pos} {k f n : Nat} {fa : Addr} {fd : FuncData} {ps : List Str} {ms : List Bool} {ds : List D} {dvs : List V} {dus : List Value} (F : FnG X.prog X.w X.K X.mg X.base k fa fd ps (spF C.T cl f n)) (hgd : X.A.guards = some []) (hr : Room k X.A) (tk : Takes X W)
    (hg : Gl X x) (hm : X.mg x = some (.ref fa)) (hk : PySem.W.keepIn X.K (.ref fa) = true) (hb : Binds X.K fd ps dus) (hdv : Vals dvs dus) (hds : CstOk C.T ds dvs) (ha : PA X (e :: es) (tAC C W cl ms es')) (hn : (ms ++ ds.map fun _ => false).length = n := by rfl) (hdb : (x == ("__debug__" : Str)) = false := by decide)
    (he : starEach (e :: es) X.env = (false, eval e X.env) :: starEach es X.env := by rfl) (hpl : (backTo pos (starEach es X.env)).any (·.1) = false := by rfl) : PE X (.Call (.Name x p) (e :: es) [] pos) (tI C W cl (.callD f ms es' ds)) := by
  refine peI (t := fun σ H Q => tAC C W cl ms es' σ H fun vs H1 => spF C.T cl f n (vs ++ dvs) H1 Q fun cls d H' => W cls d σ H') ⟨fun pins s σ H Q I h => ?_⟩ fun σ H Q q => ?_
  · refine wpAny_Call_Name_kw (ld_glob I hg hm ?_ hdb)
    refine PySem.W.callWith_K (h₀ := X.base) I.ok.mod.kin hk (thn (ha.run pos pins s σ H _ I h) fun us s1 hq => ?_) he hpl
    obtain ⟨vs, H1, I1, r, q⟩ := hq
    exact ⟨I1.kIn, F.go hgd hr hb hdv tk (fun _ _ _ z => z) I1 r q⟩
  · obtain ⟨H0, env, S, q⟩ := q
    simp only [ev] at q
    refine ⟨H0, env, S, ?_⟩
    cases z : evC cl ms es' env with
    | bad => rw [z] at q; exact q.elim
    | exc x env1 => rw [z] at q; exact q
    | ok us env1 =>
      rw [z] at q
      simp only [R.bind_ok] at q
      intro H1 H1' e1 S1 vs hv
      exact read_run S1 (hv.app (hds _)) hn (RQ.mono e1 q)
/-- a method of the classes cs: where it stands, what it promises -/
def SpOk (X : Cx) (T : Tbl) (cl : CallF) (m : Nat) (nm : Str) (cs : List Nat) (n : Nat) (dvs : List V) : Prop :=
  ∀ c ∈ cs, ∀ C, T.cn c = some C → Cls X.K C ∧ (∀ j, T.fo c j = true → T.fn j ≠ nm) ∧ ∃ k f fd ps dus, Meth X.K C nm f ∧ FnG X.prog X.w X.K X.mg X.base k f fd ps (spF T cl (spec c m) n) ∧ Room k X.A ∧ Binds X.K fd ps dus ∧ Vals dvs dus
end
end PP
end
section
set_option maxHeartbeats 2000000
namespace PySem.W
open PySem PySem.Spec PySem.Calls PyProof.Rows
section
variable {prog : Program} {w : World} {A : Around} {E : Value → Shared → Prop} {s : Shared} {K : Frag} {x D : Addr} {ox : Obj} {od : Option Obj}
theorem pp_dataD {C : Addr} {name : Str} {a g : Value} (hc : (clsIn K C).isSome = true) (ha : findIn K (.ref C) name = some (some a)) (hg : specialIn K a "__get__" = some (some g)) (ht : takesIn K a = some true) : findObj K C od name = some (.bind g a) := by
  obtain ⟨cd, hc⟩ := Option.isSome_iff_exists.mp hc
  unfold findObj
  rw [hc, Option.bind_some, ha, Option.bind_some]
  simp [hg, ht]
theorem pp_classE {Q : Option Value → Shared → Prop} (hga : findIn K (.ref D) "__getattribute__" = some (some (.builtin "BaseException.__getattribute__"))) (hgt : findIn K (.ref D) "__getattr__" = some none) (hsub : subIn K (.ref D) (.type "BaseException") = some true)
    (hdct : hasDictIn K D = true) (ha : findIn K (.ref D) "__class__" = some (some (.builtin "object.__class__")))
    (hn : specialIn K (.builtin "object.__class__") "__get__" = some (some (.builtin "getset_descriptor.__get__"))) (htk : takesIn K (.builtin "object.__class__") = some true) (hm : mroIn K D (.type "object") = some true)
    (X : K.In s.heap) (I : InstAt s.heap x ox D od) (h : Q (some (.ref D)) { s with toks := s.toks + 1 }) : wpAny (model prog w) A (getAttr? (.ref x) "__class__") Q E s := by
  have hf : findObj K D od "__class__" = some (.bind (.builtin "getset_descriptor.__get__") (.builtin "object.__class__")) := pp_dataD (by obtain ⟨cd, hc, _⟩ := any_some hdct; rw [hc]; rfl) ha hn htk
  obtain ⟨hp, g, d, t, os⟩ := s
  have L0 := I.type (M := model prog w)
  have L1 := looks_findIn (M := model prog w) X hga
  have L2 := looks_findIn (M := model prog w) X hgt
  have L3 := looks_find (M := model prog w) X I hf
  have sub : Looks (model prog w) hp (isInstance (.ref x) (.type "BaseException")) true := L0.andThen (looks_subIn X hsub)
  have hx0 : (false && onTheHeap (Value.builtin "BaseException.__getattribute__")) = false := rfl
  have hx2 : (Value.builtin "BaseException.__getattribute__" == Value.builtin "object.__getattribute__") = false := by decide +kernel
  have hx1 : (onTheHeap (Value.ref D) && Value.builtin "BaseException.__getattribute__" == Value.builtin "object.__getattribute__") = false := by rw [hx2]; rfl
  unfold getAttr? getAttrBy? getAttrBy
  refine wpAny_bind (wpAny_mkText (wpAny_bind (wpAny_attempt (wpAny_holding (wpAny_bind (L0.at (wpAny_bind (L1.at ?_))))))))
  show wpAny _ _ (if (onTheHeap (Value.ref D) && Value.builtin "BaseException.__getattribute__" == Value.builtin "object.__getattribute__") = true then _ else _) _ _ _
  rw [hx1, if_neg Bool.false_ne_true]
  unfold getAttrByItsOwn hookBefore
  refine wpAny_bind ?_
  rw [if_pos (show onTheHeap (Value.ref D) = true from rfl)]
  refine L2.at ?_
  refine wpAny_bind (wpAny_attempt (wpAny_holding ?_))
  unfold callGetattribute
  rw [hx0, if_neg Bool.false_ne_true]
  unfold boundAndCalled
  rw [PySem.F.excAttr_ValueError.ga.bind (.ref x)]
  refine wpAny_bind (wpAny_pure ?_)
  show wpAny _ _ (call (.builtin "BaseException.__getattribute__") [.ref x, .str "__class__" t]) _ _ _
  refine wpAny_call (codeAny_call_builtin PySem.F.excAttr_ValueError.ga.plain PySem.F.entry_bexc_ga ?_)
  refine @check_slot (model prog w) _ _ ⟨hp, g, d, t + 1, os⟩ "BaseException.__getattribute__" "BaseException" "__getattribute__" (.ref x) [.str "__class__" t] [] _ (by decide +kernel) (by decide +kernel) sub (PySem.F.args_bexc_ga (.ref x) (.str "__class__" t)) ?_
  unfold Builtin.«object.__getattribute__»
  refine wpAny_bind (wpAny_of_eq (a := ((Value.ref x : Value), [Value.str "__class__" t])) (by first | rfl | (simp only [slotArgs]; rfl)) ?_)
  refine wpAny_bind (wpAny_pure (wpAny_bind (L0.at (wpAny_bind (L3.at ?_)))))
  show wpAny _ _ (holding [Value.builtin "object.__class__"] (call (.builtin "getset_descriptor.__get__") [.builtin "object.__class__", .ref x, .ref D]) >>= ret) _ _ _
  refine wpAny_bind (wpAny_holding (wpAny_call (class_get (s := ⟨hp, g, d, t + 1, os⟩) (ox := ox) (od := od) X I hm ?_)))
  refine wpAny_pure ?_
  show wpAny _ _ (handedOut (.ref D)) _ _ _
  rw [handedOut_of (v := .ref D) rfl]
  first
    | exact wpAny_pure (wpAny_pure h)
    | exact wpAny_pure h
    | exact wpAny_pure (wpAny_bind (wpAny_pure (wpAny_pure h)))
theorem pp_kitE (hga : findIn K (.ref D) "__getattribute__" = some (some (.builtin "BaseException.__getattribute__"))) (hgt : findIn K (.ref D) "__getattr__" = some none) (hsub : subIn K (.ref D) (.type "BaseException") = some true) (hdct : hasDictIn K D = true) (ha : findIn K (.ref D) "__class__" = some (some (.builtin "object.__class__")))
    (hn : specialIn K (.builtin "object.__class__") "__get__" = some (some (.builtin "getset_descriptor.__get__"))) (htk : takesIn K (.builtin "object.__class__") = some true) (hm : mroIn K D (.type "object") = some true) :
    KitX K (.ref x) (.ref D) (fun h => InstAt h x ox D od) where
  ty := fun _ _ _ I => I.type
  it := fun _ _ X _ => by
    obtain ⟨cdD, hcD, _⟩ := any_some hdct
    unfold clsIn at hcD
    split at hcD
    · rename_i c' d' cd' sl' ho
      intro A' Q' E' s' k q
      unfold isType loadHead
      exact wpAny_bind (wpAny_loadPart (k _ _ (X _ _ ho)) (wpAny_pure q))
    · cases hcD
  ne := fun h tp dd its n sl X htp => by
    obtain ⟨cdD, hcD, _⟩ := any_some hdct
    refine Bool.eq_false_iff.mpr fun q => ?_
    have e : D = tp := Value.ref.inj (beq_iff_eq.mp q)
    subst e
    unfold clsIn at hcD
    split at hcD
    · rename_i c' d' cd' sl' ho
      have z := (X _ _ ho).symm.trans htp
      cases z
    · cases hcD
  ca := fun X I k => pp_classE hga hgt hsub hdct ha hn htk hm X I k
end
end PySem.W
namespace PP
open PySem PySem.Spec PyProof.Rows L2
/-- an exception at a, as the heap tells of it -/
def ExcAt (H : Hp) (a Ca : Addr) : Prop := ∃ d, H a = some (ErrO Ca d a) ∧ (d = none ∨ ∃ dd fs, d = some dd ∧ H dd = some (.xd fs))
theorem exc_inst {X : Cx} {pins : List (Addr × Obj)} {σ : L2.St} {H : Hp} {s : Shared} {a Ca : Addr} (I : Inv X pins σ H s) (h : ExcAt H a Ca) : ∃ (oe : Obj) (od : Option Obj), PySem.W.InstAt s.heap a oe Ca od := by
  obtain ⟨d, ha, hd⟩ := h
  have ho : ObjOk X.prog X.w H s.heap a (ErrO Ca d a) := I.hok a _ ha
  unfold ErrO at ho
  obtain ⟨⟨oe, vs, hge, hz, hdt⟩, _, _⟩ := ho
  have nc : PySem.W.notCls oe = true := by unfold PySem.W.notCls; rw [hdt] <;> rfl
  rcases hd with rfl | ⟨dd, fs, rfl, hdd⟩
  · exact ⟨oe, none, hge, hz.1, nc, by rw [hz.2]; trivial⟩
  · have hx : ObjOk X.prog X.w H s.heap dd (.xd fs) := I.hok dd _ hdd
    obtain ⟨mA, ⟨od, es, ep, ho, _⟩, _⟩ := hx
    exact ⟨oe, some od, hge, hz.1, nc, by rw [hz.2]; exact ho⟩
/-- isinstance(e, c), e an exception that is tracked -/
def rIsX (K : PySem.W.Frag) : List V → Hp → VK → Prop := fun xs H Q => ∃ (a Ca : Addr) (c : V) (cv : Value) (b : Bool), xs = [.ref a, c] ∧ ExcAt H a Ca ∧ ExcC K Ca ∧ (∀ u, RelV c u → u = cv) ∧ PySem.W.kitOne K (.ref Ca) cv = some b ∧ Q (.bl b) H
theorem call_isX {X : Cx} : CallR X (.builtin "isinstance") (rIsX X.K) := by
  intro pins s σ H xs us Q I r h
  obtain ⟨a, Ca, c, cv, b, rfl, hx, C, hcv, e, q⟩ := h
  cases r with
  | cons rx rr =>
    cases rr with
    | cons rt rr =>
      cases rr
      cases rx
      have ec := hcv _ rt
      subst ec
      obtain ⟨oe, od, J⟩ := exc_inst I hx
      exact PySem.W.kia_one (PySem.W.pp_kitE C.hg C.hk C.hs C.hd C.ha C.hn C.ht C.hm) I.kIn J e (fun z => nomatch z) fun tk => ⟨.bl b, H, I.kept (t' := tk) fun _ _ z => z, rfl, q⟩
theorem rd_err {T : Tbl} {H0 H : Hp} (e : Ext H0 H) {c : Nat} {ks : List Nat} {vs : List D} {x : V} (h : RdV T H0 H (.err c ks vs) x) : ∃ a Ca, x = .ref a ∧ T.cn c = some Ca ∧ T.ec c = true ∧ ExcAt H a Ca := by
  rcases h with h | h
  · simp only [Rep] at h
    obtain ⟨a, Ca, d, rfl, hc, hp, hr⟩ := h
    obtain ⟨hc1, _, hc3⟩ := Tbl.cx_some hc
    refine ⟨a, Ca, rfl, hc1, hc3, d, e _ _ hp, ?_⟩
    rcases hr with ⟨_, rfl⟩ | ⟨dd, xs, rfl, hdd, _⟩
    · exact .inl rfl
    · exact .inr ⟨dd, _, rfl, e _ _ hdd⟩
  · exact h.elim
end PP
end
section
set_option maxHeartbeats 1000000
namespace PP
open PySem PySem.Spec PyProof.Rows L2
/-- what a comparison by an own def asks of the class -/
def NFs (K : PySem.W.Frag) (T : Tbl) (C : Addr) : Prop := (∀ t ∈ (["NoneType", "bool", "int", "str", "list", "tuple", "dict"] : List String), PySem.W.notFirst K C (.type t) = true) ∧ ∀ c' C', T.cn c' = some C' → PySem.W.notFirst K C (.ref C') = true
section
open PySem.W PySem.Calls
variable {prog : Program} {w : World} {A : Around} {E : Value → Shared → Prop} {s : Shared} {K : Frag} {x C L f : Addr} {h₀ : Heap} {m : Str → Option Value} {ox : Obj} {od : Option Obj} {T : String}
/-- x op b, x of an own class that has the operator, b of a built-in type -/
theorem bin_ty {op : Operator} {b : Value} {fo ro rc : Option Value} {Q : Value → Shared → Prop} (F : Fr h₀ L s.heap m) (X0 : K.In h₀) (I : InstAt s.heap x ox C od) (Lb : Looks (model prog w) s.heap (typeOf b) (.type T)) (self1 : selfFirst K C = true)
    (at1 : findIn K (.ref C) (PySem.dunder op.info.2) = some (some (.ref f))) (fn1 : isFn K (.ref f) = true) (at2 : findIn K (.ref C) (dunderR op.info.2) = some rc) (rc1 : rc = none ∨ ∃ g : Addr, rc = some (.ref g))
    (b1 : findIn K (.type T) (PySem.dunder op.info.2) = some fo) (b2 : findIn K (.type T) (dunderR op.info.2) = some ro) (sub1 : subIn K (.type T) (.ref C) = some false)
    (run : wpAny (model prog w) A (call (.ref f) [.ref x, b]) (W.CmpBack Q) E s) : wpAny (model prog w) A (binaryOp op (.ref x) b) Q E s := by
  have kin := X0.keeps F.keep
  obtain ⟨cd, rest, hcd, hm⟩ := ksp_first self1
  rcases oi : op.info with ⟨sy, nn⟩; rw [oi] at at1 at2 b1 b2; dsimp only at at1 at2 b1 b2
  have tried := ksp_try kin I at1 fn1 run
  obtain ⟨hh, gl, dd, tt, os⟩ := s
  have A1 : Looks (model prog w) hh (typeOf (.ref x)) (.ref C) := I.type
  have A3 := fills_K (M := model prog w) kin hcd hm at1; have A4 := ksp_fillsT (M := model prog w) kin b1 b2
  have A5 := looks_subIn (M := model prog w) kin sub1; have A6 := ksp_inPy (M := model prog w) kin at1 at2 rc1
  have A7 : Looks (model prog w) hh (numberSlotInPython (.type T) nn) false := Looks.of_pure rfl; have A8 := looks_findIn (M := model prog w) kin b2
  generalize ((fo.isSome && !isSeqSlot fo) || (ro.isSome && !isSeqSlot ro)) = rt at A4
  have nq : (Value.ref C == Value.type T) = false := Bool.eq_false_iff.mpr fun z => nomatch beq_iff_eq.mp z
  simp only [binaryOp, oi]
  refine wpAny_holding (wpAny_bind ?_); unfold binaryOp1
  refine wpAny_bind (A1.at (wpAny_bind (Lb.at (wpAny_bind (A3.at ?_))))); simp only [nq, Bool.false_eq_true, if_false]
  cases rt <;>
  · ksp_lk
    refine wpAny_mono tried (fun r s2 z => ?_) fun _ _ e => e
    obtain ⟨v, rfl, z⟩ := z
    ksp_lk
    exact z
end
section
variable {X : Cx} {C : Ctx} {W : WX} {cl : CallF} {a b : Expr} {a' b' : Ex} {pos : Pos}
/-- an operation whose left one may be an object of an own class, read -/
def rOw (C : Ctx) (W : WX) (cl : CallF) (o : O2) (cs ts : List Nat) (σ : L2.St) : R2 := fun x y H Q => (∃ H0 dx dy, Ext H0 H ∧ Rep C.T H0 dx x ∧ Rep C.T H0 dy y ∧ (∃ c ∈ cs, (∃ ks vs, dx = .obj c ks vs) ∧ okR o ts c dy = true ∧ spF C.T cl (spec c (opc o)) 2 [x, y] H Q fun cls d H' => W cls d σ H')) ∨ rD C.T (op2 o) x y H Q
theorem readO {σ : L2.St} {H : Hp} {Q : VK} {o : O2} {cs ts : List Nat} (hne : o ≠ .ne) (h : tI C W cl (.opo o cs ts a' b') σ H Q) : tOp (rOw C W cl o cs ts σ) (tI C W cl a') (tI C W cl b') σ H Q := by
  obtain ⟨H0, env, S, q⟩ := h
  simp only [ev] at q
  refine seqI S q fun u env1 x H1 H1' e1 S1 u1 q1 => ?_
  obtain ⟨⟨dx, env2⟩, hf, q2⟩ := q1.orB
  obtain ⟨H2, e2, S2, r2⟩ := S1.take u1 hf
  refine seqI S2 (RQ.mono e2 q2) fun w env3 y H3 H3' e3 S3 u3 q3 => ?_
  obtain ⟨⟨dy, env4⟩, hg, q4⟩ := q3.orB
  obtain ⟨H4, e4, S4, r4⟩ := S3.take u3 hg
  have rx : Rep C.T H4 dx x := Rep.mono (e3.tr e4) _ _ r2
  have q5 := RQ.mono e4 q4
  simp only at q5
  have plain : (∀ z, op2 o dx dy = some z → RQ C W σ (KV C σ Q) H4 (.ok (.nw z) env4)) → (∃ z, op2 o dx dy = some z) → rOw C W cl o cs ts σ x y H3' Q := fun k ⟨z, hz⟩ =>
    .inr ⟨H4, dx, dy, z, S4.ex, .inl rx, .inl r4, hz, fun v H0' H' g r => fin_nw S4 (k z hz) g r⟩
  cases dx with
  | obj c ks vs =>
    unfold ownOp at q5
    simp only at q5
    split at q5
    · exact q5.elim
    rename_i hcs
    simp only [Bool.not_eq_true, Bool.not_eq_false', Bool.and_eq_true, List.contains_iff_mem] at hcs
    refine .inl ⟨H4, _, dy, S4.ex, rx, r4, c, hcs.1, ⟨ks, vs, rfl⟩, hcs.2, H4, [.fz (.obj c ks vs), .fz dy], S4.ex, ⟨x, [y], rfl, rx, y, [], rfl, r4, rfl⟩, ?_, rfl, S4.tb, ?_⟩
    · intro i j p hi hj
      match i, hi with
      | 0, hi => simp [ioL] at hi
      | 1, hi => simp [ioL] at hi
      | _ + 2, hi => simp [ioL] at hi
    · cases zc : cl (spec c (opc o)) [.fz (.obj c ks vs), .fz dy] with
      | bad => simp only [zc] at q5; exact q5
      | exc z outs =>
        simp only [zc] at q5
        intro cls d H0' H' g _ hx
        refine q5 cls d H0' H' g.e0 (S4.gr ⟨g.e0, fun p o hp => g.keep p o (by simp [ioL]) hp, g.e01, g.new, g.tb⟩) hx
      | ok r outs =>
        simp only [zc] at q5
        intro v H0' H' g hr _
        have S5 := S4.gr ⟨g.e0, fun p o hp => g.keep p o (by simp [ioL]) hp, g.e01, g.new, g.tb⟩
        have q6 : RQ C W σ (KV C σ Q) H4 (.ok r env4) := by
          cases o <;> first | exact q5 | exact (hne rfl).elim
        refine q6 H0' H' g.e0 S5 v ?_
        cases r with
        | d z => exact hr
        | sl i => exact hr.elim
        | nw z => exact RepG.nw S4 hr
  | _ =>
    obtain ⟨z, hz, q6⟩ := RQ.orB (show RQ C W σ (KV C σ Q) H4 (orBad (op2 o _ dy) fun z => .ok (.nw z) env4) from q5)
    exact plain (fun z' hz' => by rw [hz] at hz'; cases hz'; exact q6) ⟨z, hz⟩
/-- the type of a value, looked at -/
theorem ty_looks {pins : List (Addr × Obj)} {σ : L2.St} {H0 H : Hp} {s : Shared} {d : D} {y : V} {u : Value} (hK : X.K = C.T.K) (I : Inv X pins σ H s) (e : Ext H0 H) (r : Rep C.T H0 d y) (ry : RelV y u) (hodd : oddD d = false) :
    (isObjD d = false ∧ PySem.W.Looks (model X.prog X.w) s.heap (typeOf u) (.type (tyN d))) ∨ (∃ c ks vs Ca, d = .obj c ks vs ∧ C.T.cn c = some Ca ∧ PySem.W.Looks (model X.prog X.w) s.heap (typeOf u) (.ref Ca)) := by
  cases hd : isObjD d with
  | false =>
    obtain ⟨P, Z, hp, _⟩ := kit_of I ry (tyx hK e (.inl r) hd)
    exact .inl ⟨rfl, Z.ty _ _ I.kIn hp⟩
  | true =>
    cases d with
    | obj c ks vs =>
      obtain ⟨p, Ca, dx, xs, rfl, hck, hp, _⟩ := rd_obj e (.inl r)
      obtain ⟨mA, O, _⟩ := ins_get I.hok hp
      obtain ⟨od, J, _⟩ := O.look
      cases (show u = Value.ref p from ry)
      exact .inr ⟨c, ks, vs, Ca, rfl, (Tbl.ck_some hck).1, J.type⟩
    | cls c => cases hodd
    | err c ks vs => cases hodd
    | dT ks vs => cases hodd
    | _ => cases hd
theorem okR_odd {o : O2} {ts : List Nat} {c : Nat} {d : D} (h : okR o ts c d = true) : oddD d = false := by cases d <;> first | rfl | cases h
theorem c_cmpO {op : CmpOp} {o : O2} {cs ts : List Nat} {nm : Str} (hK : X.K = C.T.K) (hu : X.A.units < cLine) (hop : ∀ a b, compareOp op a b = richCompare op a b) (hnm : (cmpInfo op).2.1 = nm) (SP : SpOk X C.T cl (opc o) nm cs 2 []) (NF : ∀ c ∈ cs, ∀ Ca, C.T.cn c = some Ca → NFs X.K C.T Ca)
    (hgd : X.A.guards = some []) (tk : Takes X W) (ho : OpR X (compareOp op) (rD C.T (op2 o))) (ha : PE X a (tI C W cl a')) (hb : PE X b (tI C W cl b')) (hm : behindInMarks op b = false) (hne : o ≠ .ne) : PE X (.Compare a [op] [b] pos) (tI C W cl (.opo o cs ts a' b')) := by
  refine peI (t := fun σ H Q => tOp (rOw C W cl o cs ts σ) (tI C W cl a') (tI C W cl b') σ H Q) ⟨fun pins s σ H Q I h => wpAny_Compare1 (binT ha hb I h fun v u s2 x y H2 I2 rx ry q => ?_) hm⟩ fun σ H Q q => readO hne q
  rcases q with ⟨H0, dx, dy, e, r1, r2, c, hcs, ⟨ks, vs, rfl⟩, hkr, hsp⟩ | q
  · obtain ⟨p, Ca, dd, xs, rfl, hck, hp, _⟩ := rd_obj e (.inl r1)
    have hcn := (Tbl.ck_some hck).1
    obtain ⟨kc, hno, k, f, fd, ps, dus, hm, F, hr, hb, hd⟩ := SP c hcs Ca hcn
    obtain ⟨n1, n2⟩ := NF c hcs Ca hcn
    obtain ⟨mA, O, _⟩ := ins_get I2.hok hp
    obtain ⟨od, J, _⟩ := O.look
    obtain ⟨mm, hF⟩ := I2.fr
    cases (show v = Value.ref p from rx)
    rw [hop]
    have run : wpAny (model X.prog X.w) X.A (call (.ref f) [.ref p, u]) (PySem.W.CmpBack (EP X pins σ Q)) X.xe s2 := by
      refine wpAny_mono (F.go (us := [.ref p, u]) (vs := [.ref p, y]) hgd hr hb hd tk (fun _ _ _ z => z) I2 (.cons rfl (.cons ry .nil)) (by rw [List.append_nil]; exact hsp)) (fun w s' z => ?_) fun _ _ x => x
      obtain ⟨z', H', I', rz, qz⟩ := z
      exact SlX.cmpback rz ⟨z', H', I', rz, qz⟩
    have hs : PySem.W.findIn X.K (.ref Ca) (cmpInfo op).2.1 = some (some (.ref f)) := by rw [hnm]; exact hm.at_
    rcases ty_looks hK I2 e r2 ry (okR_odd hkr) with ⟨hod, L⟩ | ⟨c', ks', vs', Cb, rfl, hcn', L⟩
    · refine PySem.W.cmp_K (op := op) hu hF I2.ok.mod.kin J L (n1 _ ?_) hs hm.fn run
      cases dy <;> first | (cases hod; done) | (show tyN _ ∈ _; simp [tyN])
    · exact PySem.W.cmp_K (op := op) hu hF I2.ok.mod.kin J L (n2 c' Cb hcn') hs hm.fn run
  · exact ho pins s2 σ H2 x y v u Q I2 rx ry q
/-- what an own operator asks of the class, and of the built-in types at its right -/
structure BinC (K : PySem.W.Frag) (C : Addr) (op : Operator) (ts : List Nat) : Prop where
  first : PySem.W.selfFirst K C = true
  refl : ∃ rc : Option Value, PySem.W.findIn K (.ref C) (dunderR op.info.2) = some rc ∧ (rc = none ∨ ∃ g : Addr, rc = some (.ref g))
  ty : ∀ d : D, isObjD d = false → ts.contains (kdD d) = true → (∃ fo ro : Option Value, PySem.W.findIn K (.type (tyN d)) (PySem.dunder op.info.2) = some fo ∧ PySem.W.findIn K (.type (tyN d)) (dunderR op.info.2) = some ro) ∧ PySem.W.subIn K (.type (tyN d)) (.ref C) = some false
theorem c_binO {op : Operator} {o : O2} {cs ts : List Nat} {nm : Str} (hK : X.K = C.T.K) (hnm : PySem.dunder op.info.2 = nm) (SP : SpOk X C.T cl (opc o) nm cs 2 []) (BC : ∀ c ∈ cs, ∀ Ca, C.T.cn c = some Ca → BinC X.K Ca op ts)
    (hgd : X.A.guards = some []) (tk : Takes X W) (ho : OpR X (binaryOp op) (rD C.T (op2 o))) (ha : PE X a (tI C W cl a')) (hb : PE X b (tI C W cl b')) (hne : isCmpO o = false) : PE X (.BinOp a op b pos) (tI C W cl (.opo o cs ts a' b')) := by
  refine peI (t := fun σ H Q => tOp (rOw C W cl o cs ts σ) (tI C W cl a') (tI C W cl b') σ H Q) ⟨fun pins s σ H Q I h => wpAny_BinOp (binT ha hb I h fun v u s2 x y H2 I2 rx ry q => ?_)⟩ fun σ H Q q => readO (by rintro rfl; cases hne) q
  rcases q with ⟨H0, dx, dy, e, r1, r2, c, hcs, ⟨ks, vs, rfl⟩, hkr, hsp⟩ | q
  · obtain ⟨p, Ca, dd, xs, rfl, hck, hp, _⟩ := rd_obj e (.inl r1)
    have hcn := (Tbl.ck_some hck).1
    obtain ⟨kc, hno, k, f, fd, ps, dus, hm, F, hr, hb, hd⟩ := SP c hcs Ca hcn
    have B := BC c hcs Ca hcn
    obtain ⟨mA, O, _⟩ := ins_get I2.hok hp
    obtain ⟨od, J, _⟩ := O.look
    obtain ⟨mm, hF⟩ := I2.fr
    cases (show v = Value.ref p from rx)
    have run : wpAny (model X.prog X.w) X.A (call (.ref f) [.ref p, u]) (PySem.W.CmpBack (EP X pins σ Q)) X.xe s2 := by
      refine wpAny_mono (F.go (us := [.ref p, u]) (vs := [.ref p, y]) hgd hr hb hd tk (fun _ _ _ z => z) I2 (.cons rfl (.cons ry .nil)) (by rw [List.append_nil]; exact hsp)) (fun w s' z => ?_) fun _ _ x => x
      obtain ⟨z', H', I', rz, qz⟩ := z
      exact SlX.cmpback rz ⟨z', H', I', rz, qz⟩
    have hs : PySem.W.findIn X.K (.ref Ca) (PySem.dunder op.info.2) = some (some (.ref f)) := by rw [hnm]; exact hm.at_
    rcases ty_looks hK I2 e r2 ry (okR_odd hkr) with ⟨hod, L⟩ | ⟨c', ks', vs', Cb, rfl, hcn', L⟩
    · have hts : ts.contains (kdD dy) = true := by
        cases dy <;> first | (cases hod; done) | (simp only [okR, hne, Bool.false_or] at hkr; exact hkr)
      obtain ⟨⟨fo, ro, t1, t2⟩, t3⟩ := B.ty dy hod hts
      obtain ⟨rc, q1, q2⟩ := B.refl
      exact bin_ty hF I2.ok.mod.kin J L B.first hs hm.fn q1 q2 t1 t2 t3 run
    · simp only [okR, hne, Bool.false_or, beq_iff_eq] at hkr
      subst hkr
      rw [hcn] at hcn'; cases hcn'
      exact PySem.W.binop_K hF I2.ok.mod.kin J L B.first hs hm.fn run
  · exact ho pins s2 σ H2 x y v u Q I2 rx ry q
end
end PP
end
section
set_option maxHeartbeats 1000000
namespace PP
open PySem PySem.Spec PyProof.Rows L2
section
variable {X : Cx} {C : Ctx} {W : WX} {cl : CallF} {e a b : Expr} {es : List Expr} {e' a' b' : Ex} {es' : Exs} {pos : Pos}
/-- what isinstance asks, for an own class u at T.cn k and each other one -/
structure IsO (X : Cx) (T : Tbl) (cs : List Nat) (u : Value) : Prop where
  ty : ∀ d : D, isObjD d = false → PySem.W.kitOne X.K (.type (tyN d)) u = some false
  ex : ∀ c C, T.cn c = some C → T.ec c = true → ExcC X.K C ∧ PySem.W.kitOne X.K (.ref C) u = some (cs.contains c)
  ob : ∀ c C, T.cn c = some C → T.ec c = false → PySem.W.kitOne X.K (.ref C) u = some (cs.contains c) ∧ Cls X.K C ∧ PySem.W.findIn X.K (.ref C) "__class__" = some (some (.builtin "object.__class__")) ∧ PySem.W.specialIn X.K (.builtin "object.__class__") "__get__" = some (some (.builtin "getset_descriptor.__get__")) ∧
    PySem.W.takesIn X.K (.builtin "object.__class__") = some true ∧ PySem.W.mroIn X.K C (.type "object") = some true
theorem c_isO {p : Pos} {cs : List Nat} {Cu : Addr} (hK : X.K = C.T.K) (IO : IsO X C.T cs (.ref Cu)) (hg : Gl X "isinstance") (hm : X.mg "isinstance" = none)
    (ha : PE X e (tI C W cl e')) (hb : PE X b (tC (.ref Cu))) (he : starEach [e, b] X.env = (false, eval e X.env) :: starEach [b] X.env := by rfl) (he2 : starEach [b] X.env = (false, eval b X.env) :: starEach [] X.env := by rfl)
    (hpl : (backTo pos (starEach [b] X.env)).any (·.1) = false := by rfl) : PE X (.Call (.Name "isinstance" p) [e, b] [] pos) (tI C W cl (.isObj cs e')) :=
  peI (pe_callB (call_isi.or call_isX) hg hm (by decide +kernel) (pa_cons ha (pa_cons hb pa_nil he2) he) (by decide) (by decide) he hpl) fun σ H Q ⟨H0, env, S, q⟩ => by
    simp only [ev] at q
    refine seqI S q fun u env1 v H1 H1' e1 S1 u1 q1 => ?_
    obtain ⟨d, hd, q2⟩ := q1.orB
    have r := S1.rd u1 hd
    cases hod : isObjD d with
    | false =>
      have eb : isObjOf cs d = false := by cases d <;> first | rfl | cases hod
      have ec : isClsD d = false := by cases d <;> first | rfl | cases hod
      rw [eb, ec] at q2
      exact .inl ⟨v, _, _, _, false, rfl, .own Cu, tyx hK S1.ex r hod, IO.ty d hod, fin_nw S1 q2 (Gr.rfl' S1.ex) (.flat rfl (r_bl _ _ _))⟩
    | true =>
      cases d with
      | obj c ks vs =>
        obtain ⟨pp, Ca, dx, xs, rfl, hck, hp, _⟩ := rd_obj S1.ex r
        obtain ⟨h1, h2, h3, h4, h5, h6⟩ := IO.ob c Ca (Tbl.ck_some hck).1 (Tbl.ck_ec hck)
        exact .inl ⟨_, _, _, _, cs.contains c, rfl, .own Cu, .base (.ins hp h2 h3 h4 h5 h6), h1, fin_nw S1 q2 (Gr.rfl' S1.ex) (.flat rfl (r_bl _ _ _))⟩
      | err c ks vs =>
        obtain ⟨a, Ca, rfl, hcn, hec, hx⟩ := rd_err S1.ex r
        obtain ⟨h1, h2⟩ := IO.ex c Ca hcn hec
        exact .inr ⟨a, Ca, _, _, cs.contains c, rfl, hx, h1, fun u hu => hu, h2, fin_nw S1 q2 (Gr.rfl' S1.ex) (.flat rfl (r_bl _ _ _))⟩
      | cls c => exact q2.elim
      | dT ks vs => exact q2.elim
      | _ => cases hod
/-- what isinstance of a built-in type says of objects and exceptions -/
structure IsB (X : Cx) (T : Tbl) (u : Value) : Prop where
  ex : ∀ c C, T.cn c = some C → T.ec c = true → ExcC X.K C ∧ PySem.W.kitOne X.K (.ref C) u = some false
  ob : ∀ c C, T.cn c = some C → T.ec c = false → PySem.W.kitOne X.K (.ref C) u = some false ∧ Cls X.K C ∧ PySem.W.findIn X.K (.ref C) "__class__" = some (some (.builtin "object.__class__")) ∧ PySem.W.specialIn X.K (.builtin "object.__class__") "__get__" = some (some (.builtin "getset_descriptor.__get__")) ∧
    PySem.W.takesIn X.K (.builtin "object.__class__") = some true ∧ PySem.W.mroIn X.K C (.type "object") = some true
/-- isinstance(e, T), T built-in -/
theorem c_isi {p : Pos} {B : B} {n : String} (hK : X.K = C.T.K) (hB : ∀ d z, biD B [d] = some z → ∃ r, z = .bl r ∧ ((isObjD d = false ∧ kitB (tyN d) n = some r) ∨ (isXD d = true ∧ r = false))) (IB : IsB X C.T (.type n)) (hg : Gl X "isinstance") (hm : X.mg "isinstance" = none)
    (ha : PE X e (tI C W cl e')) (hb : PE X b (tC (.ty n))) (he : starEach [e, b] X.env = (false, eval e X.env) :: starEach [b] X.env := by rfl) (he2 : starEach [b] X.env = (false, eval b X.env) :: starEach [] X.env := by rfl)
    (hpl : (backTo pos (starEach [b] X.env)).any (·.1) = false := by rfl) : PE X (.Call (.Name "isinstance" p) [e, b] [] pos) (tI C W cl (.bi B (.cons e' .nil))) :=
  peI (pe_callB (call_isi.or call_isX) hg hm (by decide +kernel) (pa_cons ha (pa_cons hb pa_nil he2) he) (by decide) (by decide) he hpl) fun σ H Q ⟨H0, env, S, q⟩ => by
    simp only [ev, evR] at q
    have q' : RQ C W σ (KV C σ Q) H0 ((ev cl e' env).bind fun u env1 => orBad (rdAll env1 [pend u]) fun ds => orBad (biD B ds) fun z => .ok (.nw z) env1) := by
      cases z : ev cl e' env <;> simp only [z, R.bind_ok, R.bind_exc, R.bind_bad] at q ⊢ <;> exact q
    refine seqI S q' fun u env1 v H1 H1' e1 S1 u1 q1 => ?_
    obtain ⟨H2, e2, S2, u2⟩ := S1.pend u1
    obtain ⟨ds, hd, q1⟩ := q1.orB
    obtain ⟨z, hz, q1⟩ := q1.orB
    unfold rdAll at hd
    split at hd
    · rename_i d ds' h1 h2
      cases h2
      cases hd
      obtain ⟨r, rfl, ho⟩ := hB d z hz
      have rr := S2.rd u2 h1
      have q9 := RQ.mono e2 q1
      rcases ho with ⟨ho, hk⟩ | ⟨hx, rfl⟩
      · exact .inl ⟨v, _, _, _, r, rfl, .ty n, tyx hK S2.ex rr ho, kit_ty hk, fin_nw S2 q9 (Gr.rfl' S2.ex) (.flat rfl (r_bl _ _ _))⟩
      · cases d with
        | obj c ks vs =>
          obtain ⟨pp, Ca, dx, xs, rfl, hck, hp, _⟩ := rd_obj S2.ex rr
          obtain ⟨h1, h2, h3, h4, h5, h6⟩ := IB.ob c Ca (Tbl.ck_some hck).1 (Tbl.ck_ec hck)
          exact .inl ⟨_, _, _, _, false, rfl, .ty n, .base (.ins hp h2 h3 h4 h5 h6), h1, fin_nw S2 q9 (Gr.rfl' S2.ex) (.flat rfl (r_bl _ _ _))⟩
        | err c ks vs =>
          obtain ⟨a, Ca, rfl, hcn, hec, hx⟩ := rd_err S2.ex rr
          obtain ⟨h1, h2⟩ := IB.ex c Ca hcn hec
          exact .inr ⟨a, Ca, _, _, false, rfl, hx, h1, fun u hu => hu, h2, fin_nw S2 q9 (Gr.rfl' S2.ex) (.flat rfl (r_bl _ _ _))⟩
        | _ => cases hx
    · cases hd
theorem fz_noIo {as : List Ar} {vs : List V} {T : Tbl} {H0 H : Hp} (h : allFz as = true) (hr : ArOk T H0 H as vs) : ∀ i : Nat, (ioL as vs)[i]? ≠ some (some (p : Addr)) := by
  induction as generalizing vs with
  | nil => intro i; cases hr; simp [ioL]
  | cons a as ih =>
    cases a with
    | io d => cases h
    | fz d =>
      obtain ⟨v, r, rfl, _, h2⟩ := hr
      intro i
      cases i with
      | zero => simp [ioL]
      | succ i => simpa [ioL] using ih (by simpa [allFz] using h) h2 i
theorem fz_outs {as : List Ar} {vs : List V} {T : Tbl} {H0 H Ha Hb : Hp} {ds : List D} (h : allFz as = true) (hr : ArOk T H0 H as vs) (ho : OutsOk T Ha Hb (ioL as vs) ds) : ds = [] := by
  induction as generalizing vs with
  | nil => cases hr; exact ho
  | cons a as ih =>
    cases a with
    | io d => cases h
    | fz d =>
      obtain ⟨v, r, rfl, _, h2⟩ := hr
      exact ih (by simpa [allFz] using h) h2 ho
theorem ArOk.grow {T : Tbl} {H0 H H' : Hp} : ∀ {as : List Ar} {vs : List V}, allFz as = true → ArOk T H0 H as vs → ArOk T H0 H' as vs
  | [], _, _, h => h
  | .fz d :: as, _, hz, h => by
    obtain ⟨v, r, rfl, h1, h2⟩ := h
    exact ⟨v, r, rfl, h1, ArOk.grow (by simpa [allFz] using hz) h2⟩
  | .io _ :: _, _, hz, _ => by cases hz
/-- a new object's reading -/
theorem read_mk {σ : L2.St} {H1 H1' : Hp} {Q : VK} {env1 : Env} {c n : Nat} {Ca x dx : Addr} {as : List Ar} {vs : List V} (S1 : Sim C σ H1 H1' env1) (hz : allFz as = true) (hr : ArOk C.T H1 H1' as vs) (hn : as.length + 1 = n) (hc : C.T.ck c [] = some Ca)
    (nx : H1' x = none) (nd : H1' dx = none) (ne : dx ≠ x) (q : RQ C W σ (KV C σ Q) H1 (makeO cl c as env1)) :
    spF C.T cl (spec c 0) n (.ref x :: vs) (upd (upd H1' dx (.own x)) x (.ins Ca dx [])) (fun v H2 => v = .non ∧ Q (.ref x) H2) fun cls d H' => W cls d σ H' := by
  have n1 : H1 x = none := S1.ex.no nx
  have n2 : H1 dx = none := S1.ex.no nd
  have E1 : Ext H1' (upd (upd H1' dx (.own x)) x (.ins Ca dx [])) := (ext_upd nd).tr (ext_upd (by rw [upd_ne ne.symm]; exact nx))
  refine ⟨H1, .io (.obj c [] []) :: as, S1.ex.tr E1, ⟨x, vs, rfl, ⟨x, Ca, dx, [], rfl, n1, hc, upd_same, rfl, rfl⟩, hr.grow hz⟩, ?_, hn, ⟨E1.tabs S1.tabs, S1.tno⟩, ?_⟩
  · intro i j a hi hj
    cases i with
    | zero => cases j with
      | zero => rfl
      | succ j => exact (fz_noIo hz hr j hj).elim
    | succ i => exact (fz_noIo hz hr i hi).elim
  · have grow : ∀ {H0' H' : Hp}, GrC C.T (some x :: ioL as vs) H1 (upd (upd H1' dx (.own x)) x (.ins Ca dx [])) H0' H' → Gr C.T H1 H1' H0' H' := fun g =>
      ⟨g.e0, fun a o ha => by
        have na : a ≠ x := ne_of_none ha nx
        refine g.keep a o (fun hm => ?_) (E1 a o ha)
        rcases List.mem_cons.mp hm with z | z
        · cases z; exact na rfl
        · obtain ⟨i, hi⟩ := List.mem_iff_getElem?.mp z
          exact fz_noIo hz hr i hi, g.e01, fun a h h' => by
        have := g.new a h h'
        exact E1.no this, fun t => g.tb (E1.tabs t)⟩
    unfold makeO at q
    cases zc : cl (spec c 0) (.io (.obj c [] []) :: as) with
    | bad => simp only [zc] at q; exact q
    | exc z outs =>
      simp only [zc] at q
      intro cls d H0' H' g o hx
      exact q cls d H0' H' g.e0 (S1.gr (grow g)) hx
    | ok r outs =>
      simp only [zc] at q
      split at q
      · rename_i hh
        intro v H0' H' g hr2 o
        cases hh
        obtain ⟨d, ds', e1, o1, o2⟩ := o
        have := fz_outs hz hr o2
        subst this
        cases e1
        refine ⟨by simpa only [RetOk, Rep] using hr2, ?_⟩
        refine q H0' H' g.e0 (S1.gr (grow g)) (.ref x) ?_
        show RepN _ _ _ _ _ _ _
        unfold RepN
        rw [if_pos (RepO.ref o1).1]
        refine ⟨x, rfl, S1.he nx, o1, fun i hi ei => ?_⟩
        obtain ⟨_, o, z⟩ := S1.own hi ei
        rw [nx] at z; cases z
      · rename_i hh
        cases hh
      · exact q.elim
theorem under_guards {A : Around} {Ca : Addr} {us : List Value} {kw : List (Str × Value)} (h : A.guards = some []) : (A.under (.builtin "type.__call__" ⟨.ref Ca :: us, kw⟩)).guards = some [] := by
  first
  | exact h
  | (simp [Around.under, h]; done)
  | (rw [Around.under_plainId (by decide +kernel)]; exact h)
theorem mk_run {k : Nat} {f Ca : Addr} {fd : FuncData} {ps : List Str} {sp : Sp} {ds : List Value} {dvs : List V} {pins : List (Addr × Obj)} {σ : L2.St} {H : Hp} {s : Shared} {Q : VK} {us : List Value} {vs : List V} {E : XK}
    (M : Mk X.K Ca f) (F : FnG X.prog X.w X.K X.mg X.base k f fd ps sp) (hgd : X.A.guards = some []) (room : Room (k + 1) X.A) (bd : Binds X.K fd ps ds) (hd : Vals dvs ds) (tk : Takes X W) (hE : ∀ cls d H', E cls d H' → W cls d σ H')
    (I : Inv X pins σ H s) (r : Vals vs us) (h : ∀ x dx, H x = none → H dx = none → dx ≠ x → sp (.ref x :: (vs ++ dvs)) (upd (upd H dx (.own x)) x (.ins Ca dx [])) (fun v H2 => v = .non ∧ Q (.ref x) H2) E) :
    wpAny (model X.prog X.w) X.A (call (.ref Ca) us) (EP X pins σ Q) X.xe s := by
  have q := h (s.heap.objs.size + 1) s.heap.objs.size (I.hok.fresh (Nat.le_succ _)) (I.hok.fresh (Nat.le_refl _)) (Nat.ne_of_lt (Nat.lt_succ_self _))
  have J := Inv.made (C := Ca) I
  have rr : Vals (V.ref (s.heap.objs.size + 1) :: (vs ++ dvs)) (Value.ref (s.heap.objs.size + 1) :: (us ++ ds)) := .cons rfl (r.append hd)
  have ll : (Value.ref (s.heap.objs.size + 1) :: us ++ ds).length = ps.length := by
    have z := rr.length
    rw [F.len _ _ _ _ q] at z; exact z.symm
  refine wpAny_call (make_map (f := f) I.kIn M.makes M.init (beq_iff_eq.mp M.fn) (codeAny_mono (F.run _ X.stack _ _ ⟨Value.ref (s.heap.objs.size + 1) :: us, []⟩ (Value.ref (s.heap.objs.size + 1) :: (us ++ ds)) _ _ E (under_guards hgd) (room.make Ca us []) (J.env0.make Ca us []) (bd _ (Value.ref (s.heap.objs.size + 1) :: us) J.kIn ll) rr q) fun r s' z => ?_))
  cases r with
  | error e => exact tk _ _ (XE.of_call J hE z)
  | ok fl =>
    cases fl with
    | ret u =>
      obtain ⟨v, H', I3, rv, ev, q3⟩ := J.after z
      subst ev
      exact ⟨rv, ⟨V.ref (s.heap.objs.size + 1), H', I3, rfl, q3⟩⟩
    | _ => exact False.elim z
/-- what is read of C(..) -/
def tMk (C : Ctx) (W : WX) (cl : CallF) (c n : Nat) (Ca : Addr) (dvs : List V) (t : TA) : TE := fun σ H Q => t σ H fun vs H1 => ∀ x dx, H1 x = none → H1 dx = none → dx ≠ x →
  spF C.T cl (spec c 0) n (.ref x :: (vs ++ dvs)) (upd (upd H1 dx (.own x)) x (.ins Ca dx [])) (fun v H2 => v = .non ∧ Q (.ref x) H2) fun cls d H' => W cls d σ H'
theorem readMk {σ : L2.St} {H : Hp} {Q : VK} {c n : Nat} {Ca : Addr} {ms : List Bool} {ds : List D} {dvs : List V} (hcn : C.T.ck c [] = some Ca) (hds : CstOk C.T ds dvs) (hn : (ms ++ ds.map fun _ => false).length + 1 = n) (h : tI C W cl (.mk c ms es' ds) σ H Q) :
    tMk C W cl c n Ca dvs (tAC C W cl ms es') σ H Q := by
  obtain ⟨H0, env, S, q⟩ := h
  simp only [ev] at q
  refine ⟨H0, env, S, ?_⟩
  cases z : evC cl ms es' env with
  | bad => rw [z] at q; exact q.elim
  | exc x env1 => rw [z] at q; exact q
  | ok us env1 =>
    rw [z] at q
    simp only [R.bind_ok] at q
    intro H1 H1' e1 S1 vs hv x dx nx nd ne
    obtain ⟨as, ha, q1⟩ := (RQ.mono e1 q).orB
    split at q1
    · rename_i hz
      obtain ⟨g1, g2, _⟩ := args_ok S1 ha (hv.app (hds _))
      exact read_mk S1 hz g1 (by rw [g2]; exact hn) hcn nx nd ne q1
    · exact q1.elim
theorem c_mk {x : Str} {p : Pos} {k c n : Nat} {f Ca : Addr} {fd : FuncData} {ps : List Str} {ms : List Bool} {ds : List D} {dvs : List V} {dus : List Value} (M : Mk X.K Ca f) (F : FnG X.prog X.w X.K X.mg X.base k f fd ps (spF C.T cl (spec c 0) n)) (hgd : X.A.guards = some []) (room : Room (k + 1) X.A)
    (tk : Takes X W) (hg : Gl X x) (hm : X.mg x = some (.ref Ca)) (hcn : C.T.ck c [] = some Ca) (bd : Binds X.K fd ps dus) (hdv : Vals dvs dus) (hds : CstOk C.T ds dvs) (ha : PA X (e :: es) (tAC C W cl ms es')) (hn : (ms ++ ds.map fun _ => false).length + 1 = n := by rfl)
    (hdb : (x == ("__debug__" : Str)) = false := by decide) (he : starEach (e :: es) X.env = (false, eval e X.env) :: starEach es X.env := by rfl) (hpl : (backTo pos (starEach es X.env)).any (·.1) = false := by rfl) : PE X (.Call (.Name x p) (e :: es) [] pos) (tI C W cl (.mk c ms es' ds)) := by
  refine peI (t := tMk C W cl c n Ca dvs (tAC C W cl ms es')) ⟨fun pins s σ H Q I h => ?_⟩ fun σ H Q q => readMk hcn hds hn q
  refine wpAny_Call_Name_kw (ld_glob I hg hm ?_ hdb)
  refine PySem.W.callWith_K (h₀ := X.base) I.ok.mod.kin M.kp (thn (ha.run pos pins s σ H _ I h) fun us s1 hq => ?_) he hpl
  obtain ⟨vs, H1, I1, r, q⟩ := hq
  exact ⟨I1.kIn, mk_run M F hgd room bd hdv tk (fun _ _ _ z => z) I1 r q⟩
/-- a call of two frozen things -/
theorem own_two {σ : L2.St} {H4 H3' : Hp} {env4 : Env} {f : Nat} {dx dy : D} {x y : V} {g : U → R U} {Q Q' : VK} (S4 : Sim C σ H4 H3' env4) (rx : Rep C.T H4 dx x) (ry : Rep C.T H4 dy y)
    (q : match cl f [.fz dx, .fz dy] with
      | .ok r _ => RQ C W σ (KV C σ Q) H4 (g r)
      | .exc z _ => RQ C W σ (KV C σ Q) H4 (.exc z env4)
      | .bad => False)
    (k : ∀ r v H0' H', Gr C.T H4 H3' H0' H' → RetOk C.T H0' H' H3' r v → RQ C W σ (KV C σ Q) H4 (g r) → Q' v H') : spF C.T cl f 2 [x, y] H3' Q' fun cls d H' => W cls d σ H' := by
  refine ⟨H4, [.fz dx, .fz dy], S4.ex, ⟨x, [y], rfl, rx, y, [], rfl, ry, rfl⟩, ?_, rfl, S4.tb, ?_⟩
  · intro i j p hi hj
    match i, hi with
    | 0, hi => simp [ioL] at hi
    | 1, hi => simp [ioL] at hi
    | _ + 2, hi => simp [ioL] at hi
  · cases zc : cl f [.fz dx, .fz dy] with
    | bad => simp only [zc] at q
    | exc z outs =>
      simp only [zc] at q
      intro cls d H0' H' g _ hx
      exact q cls d H0' H' g.e0 (S4.gr ⟨g.e0, fun p o hp => g.keep p o (by simp [ioL]) hp, g.e01, g.new, g.tb⟩) hx
    | ok r outs =>
      simp only [zc] at q
      intro v H0' H' g hr _
      exact k r v H0' H' ⟨g.e0, fun p o hp => g.keep p o (by simp [ioL]) hp, g.e01, g.new, g.tb⟩ hr q
end
end PP
end
section
set_option maxHeartbeats 1000000
namespace PySem.W
open PySem PySem.Calls PyProof.Rows
section
variable {prog : Program} {w : World} {A : Around} {E : Value → Shared → Prop} {s : Shared} {K : Frag} {x C L f : Addr} {h₀ : Heap} {m : Str → Option Value} {ox : Obj} {od : Option Obj}
theorem ppne_bind (self : Value) : bindSpecial (.builtin "object.__ne__") self = pure (.builtin "object.__ne__", [self]) :=
  (Slot.of (T := "object") (name := "__ne__") (owner := "object") (n := "__ne__") (by rw [typeLookup_type, builtinLookup_eq_fast]; kernel_rfl) (by decide +kernel) (by decide +kernel) (by decide +kernel) (.inl (by decide +kernel)) (by rw [isSubtype_type]; kernel_rfl)).bind self
theorem ppne_plain : plainId "object.__ne__" = true := by decide +kernel
/-- x != b by the class's own == -/
theorem pp_ne {b tb : Value} {Q : Value → Shared → Prop} (hu : A.units + 1 < cLine) (F : Fr h₀ L s.heap m) (X0 : K.In h₀) (I : InstAt s.heap x ox C od) (hb : Looks (model prog w) s.heap (typeOf b) tb) (hn : notFirst K C tb = true)
    (he : findIn K (.ref C) "__eq__" = some (some (.ref f))) (hf : isFn K (.ref f) = true) (hne : findIn K (.ref C) "__ne__" = some (some (.builtin "object.__ne__"))) (hi : Looks (model prog w) s.heap (isInstance (.ref x) (.type "object")) true)
    (h : wpAny (model prog w) A.in1 (call (.ref f) [.ref x, b]) (fun v s' => ∃ t, v = .bool t ∧ Q (.bool (!t)) s') E s) : wpAny (model prog w) A (richCompare .NotEq (.ref x) b) Q E s := by
  have kin := X0.keeps F.keep
  have one : wpAny (model prog w) A (tryCompare (.ref x) "__ne__" b) (fun r s' => ∃ v, r = some v ∧ Q v s') E s := by
    unfold tryCompare
    simp only [callSpecialIfBound?, bindSpecialIfBound?]
    refine wpAny_bind (wpAny_holding (wpAny_bind (wpAny_bind (wpAny_bind (I.type.here ((looks_findIn kin hne).here ?_))))))
    refine wpAny_bind (wpAny_askSetting (wpAny_ite ?_))
    have inst : Looks (model prog w) s.heap (isInstance (.ref x) (.type "object")) true := hi
    have body : wpAny (model prog w) A.in1 (Builtin.«object.__ne__» ⟨[.ref x, b], []⟩) (fun fin s' => ∃ v, fin = .done (.ret v) ∧ (∃ t, v = Value.bool t) ∧ Q v s') E s := by
      unfold Builtin.«object.__ne__»
      have hs : slotArgs "__ne__" 1 ⟨[.ref x, b], []⟩ = pure (.ref x, [b]) := by kernel_rfl
      rw [hs]
      refine wpAny_bind (wpAny_pure ?_)
      refine wpAny_bind (wpAny_cRoomFor hu ?_)
      refine wpAny_bind (ifBound_K kin I he hf (wpAny_mono h (fun v s' z => ?_) fun _ _ e => e))
      obtain ⟨t, rfl, z⟩ := z
      refine wpAny_bind (wpAny_truthy_bool ?_)
      exact wpAny_pure ⟨_, rfl, ⟨_, rfl⟩, z⟩
    have run : wpAny (model prog w) A (call (.builtin "object.__ne__") ([.ref x] ++ [b])) (fun v s' => (∃ t, v = Value.bool t) ∧ Q v s') E s := by
      refine wpAny_call (codeAny_call_builtin ppne_plain PySem.F.cmpEntry_ne ?_)
      refine check_slot PySem.F.cmpKind_ne PySem.F.cmpSplit_ne inst (PySem.F.cmpArgs_ne _ _) ?_
      refine wpAny_mono body (fun z s' q => ?_) fun _ _ e => e
      obtain ⟨v, rfl, q⟩ := q
      exact q
    have fin : wpAny (model prog w) A (call (.builtin "object.__ne__") ([.ref x] ++ [b]) >>= fun v => pure (some v)) (fun r s' => ∃ v, r = some v ∧ (∃ t, v = Value.bool t) ∧ Q v s') E s := wpAny_bind (wpAny_mono run (fun v s' z => wpAny_pure ⟨v, rfl, z⟩) fun _ _ e => e)
    have fin2 : ∀ {m : Sem (Option (Value × List Value))}, wpAny (model prog w) A m (fun a s' => a = some (.builtin "object.__ne__", [.ref x]) ∧ s' = s) E s → wpAny (model prog w) A m (fun a s' => wpAny (model prog w) A (match a with
        | some (g, first) => do
          let v ← call g (first ++ [b])
          pure (some v)
        | x => pure none) (fun a s' => wpAny (model prog w) A (match a with
          | some Value.notImplemented => pure none
          | none => pure none
          | some v => pure (some v)) (fun r s' => ∃ v, r = some v ∧ Q v s') E s') E s') E s := fun hm => wpAny_mono hm (fun a s' z => by
        obtain ⟨rfl, rfl⟩ := z
        refine wpAny_mono fin (fun r s' z => ?_) fun _ _ e => e
        obtain ⟨v, rfl, ⟨t, rfl⟩, q⟩ := z
        exact wpAny_pure ⟨_, rfl, q⟩) fun _ _ e => e
    split
    · rw [ppne_bind]
      exact fin2 (wpAny_bind (wpAny_pure (wpAny_pure ⟨rfl, rfl⟩)))
    · rw [ppne_bind]
      exact fin2 (wpAny_tryCatch (wpAny_bind (wpAny_pure (wpAny_pure ⟨rfl, rfl⟩))))
  unfold richCompare
  simp only [oneThing_ref]
  refine wpAny_holding (wpAny_bind (wpAny_cRoomFor (Nat.lt_of_succ_lt hu) ?_)); rw [cmpInfo_NotEq]; dsimp only
  refine wpAny_bind (I.type.here (wpAny_bind (hb.here ?_))); split
  · rename_i q
    have e : subIn K tb (.ref C) = some false := by
      rcases Bool.or_eq_true_iff.mp hn with e | e
      · rw [beq_iff_eq.mp e] at q; simp at q
      · exact beq_iff_eq.mp e
    refine wpAny_bind ((looks_subIn kin e).here ?_); simp only [Bool.false_eq_true, if_false]
    refine wpAny_bind (wpAny_mono one (fun r s' z => ?_) fun _ _ e => e); obtain ⟨v, rfl, hq⟩ := z
    exact wpAny_pure hq
  · refine wpAny_bind (wpAny_pure ?_); simp only [Bool.false_eq_true, if_false]
    refine wpAny_bind (wpAny_mono one (fun r s' z => ?_) fun _ _ e => e); obtain ⟨v, rfl, hq⟩ := z
    exact wpAny_pure hq
end
end PySem.W
namespace PP
open PySem PySem.Spec PyProof.Rows L2
section
variable {X : Cx} {C : Ctx} {W : WX} {cl : CallF} {e a b : Expr} {es : List Expr} {e' a' b' : Ex} {es' : Exs} {pos : Pos}
theorem FnG.goIn {k : Nat} {f : Addr} {fd : FuncData} {ps : List Str} {sp : Sp} {ds : List Value} {dvs : List V} {pins : List (Addr × Obj)} {σ : L2.St} {H : Hp} {s : Shared} {Q : VK} {us : List Value} {vs : List V} {E : XK}
    (F : FnG X.prog X.w X.K X.mg X.base k f fd ps sp) (hgd : X.A.guards = some []) (hr : Room (k + 1) X.A) (hb : Binds X.K fd ps ds) (hd : Vals dvs ds) (tk : Takes X W) (hE : ∀ cls d H', E cls d H' → W cls d σ H')
    (I : Inv X pins σ H s) (r : Vals vs us) (h : sp (vs ++ dvs) H Q E) : wpAny (model X.prog X.w) X.A.in1 (call (.ref f) us) (EP X pins σ Q) X.xe s := by
  have r2 := r.append hd
  have hlen : (us ++ ds).length = ps.length := r2.length ▸ F.len _ _ _ _ h
  refine wpAny_call (codeAny_mono (F.run X.A.in1 X.stack s H ⟨us, []⟩ _ _ Q E hgd hr.in1 I.env0.in1 (hb s us I.kIn hlen) r2 h) fun res s' hq => ?_)
  cases res with
  | error ee => exact tk _ _ (XE.of_call I hE hq)
  | ok fl =>
    cases fl with
    | ret u => exact I.after hq
    | _ => exact hq.elim
/-- x != y, x perhaps of an own class with its own == -/
def rNe (C : Ctx) (W : WX) (cl : CallF) (cs : List Nat) (σ : L2.St) : R2 := fun x y H Q => (∃ H0 dx dy c, Ext H0 H ∧ Rep C.T H0 dx x ∧ Rep C.T H0 dy y ∧ c ∈ cs ∧ oddD dy = false ∧ (∃ ks vs, dx = .obj c ks vs) ∧
  spF C.T cl (spec c 16) 2 [x, y] H (fun v H' => ∃ t, v = .bl t ∧ Q (.bl (!t)) H') fun cls d H' => W cls d σ H') ∨ rD C.T (op2 .ne) x y H Q
theorem readNe {σ : L2.St} {H : Hp} {Q : VK} {cs : List Nat} (h : tI C W cl (.neo cs a' b') σ H Q) : tOp (rNe C W cl cs σ) (tI C W cl a') (tI C W cl b') σ H Q := by
  obtain ⟨H0, env, S, q⟩ := h
  simp only [ev] at q
  refine seqI S q fun u env1 x H1 H1' e1 S1 u1 q1 => ?_
  obtain ⟨⟨dx, env2⟩, hf, q2⟩ := q1.orB
  obtain ⟨H2, e2, S2, r2⟩ := S1.take u1 hf
  refine seqI S2 (RQ.mono e2 q2) fun w env3 y H3 H3' e3 S3 u3 q3 => ?_
  obtain ⟨⟨dy, env4⟩, hg, q4⟩ := q3.orB
  obtain ⟨H4, e4, S4, r4⟩ := S3.take u3 hg
  have rx : Rep C.T H4 dx x := Rep.mono (e3.tr e4) _ _ r2
  have q5 := RQ.mono e4 q4
  simp only at q5
  cases dx with
  | obj c ks vs =>
    unfold ownNe at q5
    simp only at q5
    split at q5
    · exact q5.elim
    rename_i hcs
    replace hcs : c ∈ cs ∧ oddD dy = false := by simpa [List.contains_iff_mem] using hcs
    refine .inl ⟨H4, _, dy, c, S4.ex, rx, r4, hcs.1, hcs.2, ⟨ks, vs, rfl⟩, own_two (Q := Q) (g := fun r => match r with | .d (.bl t) => .ok (.nw (.bl (!t))) env4 | _ => .bad) S4 rx r4 ?_ ?_⟩
    · cases zc : cl (spec c 16) [.fz (.obj c ks vs), .fz dy] with
      | bad => simp only [zc] at q5; exact q5
      | exc z outs => simp only [zc] at q5 ⊢; exact q5
      | ok r outs =>
        simp only [zc] at q5 ⊢
        split at q5
        · rename_i hh; cases hh; exact q5
        · rename_i hh; cases hh
        · exact q5.elim
    · intro r v H0' H' g hr q6
      split at q6
      · rename_i t
        have rv : v = .bl t := by simpa only [RetOk, Rep] using hr
        exact ⟨t, rv, q6 H0' H' g.e0 (S4.gr g) _ (RepG.nw S4 (.flat rfl (r_bl _ _ _)))⟩
      · exact q6.elim
  | _ =>
    simp only [ownNe] at q5
    obtain ⟨z, hz, q6⟩ := q5.orB
    exact .inr ⟨H4, _, dy, z, S4.ex, .inl rx, .inl r4, hz, fun v H0' H' g r => fin_nw S4 q6 g r⟩
/-- what != asks of the class, besides its own == -/
structure NeC (K : PySem.W.Frag) (C : Addr) : Prop where
  ne : PySem.W.findIn K (.ref C) "__ne__" = some (some (.builtin "object.__ne__"))
  top : PySem.W.mroIn K C (.type "object") = some true
def SpQ (X : Cx) (T : Tbl) (cl : CallF) (cs : List Nat) : Prop :=
  ∀ c ∈ cs, ∀ C, T.cn c = some C → Cls X.K C ∧ NeC X.K C ∧ NFs X.K T C ∧ ∃ k f fd ps dus, Meth X.K C "__eq__" f ∧ FnG X.prog X.w X.K X.mg X.base k f fd ps (spF T cl (spec c 16) 2) ∧ Room (k + 1) X.A ∧ Binds X.K fd ps dus ∧ Vals [] dus
theorem c_neO {cs : List Nat} (hK : X.K = C.T.K) (hu : X.A.units + 64 < cLine) (SP : SpQ X C.T cl cs) (hgd : X.A.guards = some []) (tk : Takes X W) (ho : OpR X (compareOp .NotEq) (rD C.T (op2 .ne)))
    (ha : PE X a (tI C W cl a')) (hb : PE X b (tI C W cl b')) (hm : behindInMarks .NotEq b = false) : PE X (.Compare a [.NotEq] [b] pos) (tI C W cl (.neo cs a' b')) := by
  refine peI (t := fun σ H Q => tOp (rNe C W cl cs σ) (tI C W cl a') (tI C W cl b') σ H Q) ⟨fun pins s σ H Q I h => wpAny_Compare1 (binT ha hb I h fun v u s2 x y H2 I2 rx ry q => ?_) hm⟩ fun σ H Q q => readNe q
  rcases q with ⟨H0, dx, dy, c, e, r1, r2, hcs, hodd, ⟨ks, vs, rfl⟩, hsp⟩ | q
  · obtain ⟨p, Ca, dd, xs, rfl, hck, hp, _⟩ := rd_obj e (.inl r1)
    have hcn := (Tbl.ck_some hck).1
    obtain ⟨kc, nc, ⟨n1, n2⟩, k, f, fd, ps, dus, hme, F, hr, hb, hd⟩ := SP c hcs Ca hcn
    obtain ⟨mA, O, _⟩ := ins_get I2.hok hp
    obtain ⟨od, J, _⟩ := O.look
    obtain ⟨mm, hF⟩ := I2.fr
    cases (show v = Value.ref p from rx)
    have run := F.goIn (Q := fun v H' => ∃ t, v = .bl t ∧ Q (.bl (!t)) H') (us := [.ref p, u]) (vs := [.ref p, y]) hgd hr hb hd tk (fun _ _ _ z => z) I2 (.cons rfl (.cons ry .nil)) (by rw [List.append_nil]; exact hsp)
    have run2 := wpAny_mono run (fun w s' z => (by
      obtain ⟨z', H', I', rz, t, rfl, qz⟩ := z
      cases (show w = Value.bool t from rz)
      exact ⟨t, rfl, .bl (!t), H', I', rfl, qz⟩ : ∃ t, w = Value.bool t ∧ EP X pins σ Q (.bool (!t)) s')) fun _ _ x => x
    have inst : PySem.W.Looks (model X.prog X.w) s2.heap (isInstance (.ref p) (.type "object")) true := J.type.andThen (PySem.W.looks_mroIn I2.kIn nc.top)
    rcases ty_looks hK I2 e r2 ry hodd with ⟨hod, L⟩ | ⟨c', ks', vs', Cb, rfl, hcn', L⟩
    · refine PySem.W.pp_ne (by omega) hF I2.ok.mod.kin J L (n1 _ ?_) hme.at_ hme.fn nc.ne inst run2
      cases dy <;> first | (cases hod; done) | (show tyN _ ∈ _; simp [tyN])
    · exact PySem.W.pp_ne (by omega) hF I2.ok.mod.kin J L (n2 c' Cb hcn') hme.at_ hme.fn nc.ne inst run2
  · exact ho pins s2 σ H2 x y v u Q I2 rx ry q
end
end PP
end
section
set_option maxHeartbeats 2000000
namespace PP
open PySem PySem.Spec PyProof.Rows L2
theorem RepAll.rev {T : Tbl} {H : Hp} : ∀ {ds : List D} {vs : List V}, RepAll T H ds vs → RepAll T H ds.reverse vs.reverse
  | [], _, h => by simp only [RepAll] at h; subst h; simp [RepAll]
  | d :: ds, _, h => by
    simp only [RepAll] at h
    obtain ⟨v, r, rfl, h2, h3⟩ := h
    rw [List.reverse_cons, List.reverse_cons]
    exact (RepAll.rev h3).app (by simp only [RepAll]; exact ⟨v, [], rfl, h2, rfl⟩)
theorem zip_rev {α β : Type} : ∀ {xs : List α} {ys : List β}, xs.length = ys.length → (xs.zip ys).reverse = xs.reverse.zip ys.reverse
  | [], [], _ => rfl
  | [], _ :: _, h => by simp at h
  | _ :: _, [], h => by simp at h
  | x :: xs, y :: ys, h => by
    rw [List.zip_cons_cons, List.reverse_cons, List.reverse_cons, List.reverse_cons, zip_rev (by simpa using h), List.zip_append (by simpa using h)]
    rfl
/-- what an exception's own __init__ keeps -/
def spI (Ca : Addr) (ns : List Str) : Sp := fun vs H Q _ => ∃ a ys, vs = .ref a :: ys ∧ ys.length = ns.length ∧ H a = some (exo a Ca none) ∧
  ∀ dx, H dx = none → dx ≠ a → Q .non (upd (upd H dx (exd dx ((ns.zip ys).reverse))) a (exo a Ca (some dx)))
theorem exc_fn1 {P : Program} {w : World} {K : PySem.W.Frag} {mg : Str → Option Value} {base : Heap} {x qual f1 : Str} {st : Stmt} {f Ca : Addr} {fd : FuncData} {N ps : List Str} {k : Nat} (Fu : FunV K x qual st f fd) (S : FnScope N ps (defScope st)) (hp : ps.length = 2)
    (T : OexC K Ca) (hno : PySem.W.findIn K (.ref Ca) f1 = some none)
    (hb : ∀ {X : Cx}, (∃ (cdv : Value) (A : Around) (outer : List PySem.Env) (s : Shared) (H : Hp) (E : XK), X = cxOf (L2.CX P w) P w K mg base N qual (defScope st) f cdv A outer s H E) → PSs X (defBody st) (tSeq (tOst K f1 (tVar 0) (tVar 1)) tNext)) :
    FnG P w K mg base (k + 1) f fd ps (spI Ca [f1]) := by
  refine FnG.of Fu S (fun vs H Q E ⟨a, ys, e, h, _⟩ => by rw [e, List.length_cons, h, hp]; rfl) fun cdv hcd A outer s H vs Q E hg hr hsp => ?_
  refine ⟨_, hb ⟨cdv, A, outer, s, H, E, rfl⟩, ?_⟩
  obtain ⟨a, ys, rfl, hl, ha, q⟩ := hsp
  match ys, hl with
  | [y], _ =>
    refine ⟨y, rfl, .ref a, rfl, a, Ca, rfl, T, hno, .inl ⟨ha, fun dx hd hne => ?_⟩⟩
    exact q dx hd hne
theorem exc_fn2 {P : Program} {w : World} {K : PySem.W.Frag} {mg : Str → Option Value} {base : Heap} {x qual f1 f2 : Str} {st : Stmt} {f Ca : Addr} {fd : FuncData} {N ps : List Str} {k : Nat} (Fu : FunV K x qual st f fd) (S : FnScope N ps (defScope st)) (hp : ps.length = 3)
    (T : OexC K Ca) (hno1 : PySem.W.findIn K (.ref Ca) f1 = some none) (hno2 : PySem.W.findIn K (.ref Ca) f2 = some none)
    (hb : ∀ {X : Cx}, (∃ (cdv : Value) (A : Around) (outer : List PySem.Env) (s : Shared) (H : Hp) (E : XK), X = cxOf (L2.CX P w) P w K mg base N qual (defScope st) f cdv A outer s H E) → PSs X (defBody st) (tSeq (tOst K f1 (tVar 0) (tVar 1)) (tSeq (tOst K f2 (tVar 0) (tVar 2)) tNext))) :
    FnG P w K mg base (k + 1) f fd ps (spI Ca [f1, f2]) := by
  refine FnG.of Fu S (fun vs H Q E ⟨a, ys, e, h, _⟩ => by rw [e, List.length_cons, h, hp]; rfl) fun cdv hcd A outer s H vs Q E hg hr hsp => ?_
  refine ⟨_, hb ⟨cdv, A, outer, s, H, E, rfl⟩, ?_⟩
  obtain ⟨a, ys, rfl, hl, ha, q⟩ := hsp
  match ys, hl with
  | [y, z], _ =>
    refine ⟨y, rfl, .ref a, rfl, a, Ca, rfl, T, hno1, .inl ⟨ha, fun dx hd hne => ?_⟩⟩
    refine ⟨z, rfl, .ref a, rfl, a, Ca, rfl, T, hno2, .inr ⟨dx, [(f1, y)], upd_same, by rw [upd_ne hne, upd_same], by simp, ?_⟩⟩
    have e : upd (upd (upd H dx (exd dx [(f1, y)])) a (exo a Ca (some dx))) dx (exd dx ((f2, z) :: [(f1, y)])) = upd (upd H dx (exd dx [(f2, z), (f1, y)])) a (exo a Ca (some dx)) := by
      funext b
      by_cases h1 : b = dx
      · subst h1; rw [upd_same, upd_ne hne, upd_same]
      · rw [upd_ne h1]
        by_cases h2 : b = a
        · subst h2; rw [upd_same, upd_same]
        · rw [upd_ne h2, upd_ne h2, upd_ne h1, upd_ne h1]
    rw [e]
    exact q dx hd hne
section
variable {X : Cx} {C : Ctx} {W : WX} {cl : CallF} {e a b c : Expr} {es : List Expr} {e' a' b' c' : Ex} {es' : Exs} {pos : Pos}
/-- C(e, ..), an exception is made -/
def tMkX (Ca : Addr) (ns : List Str) (ta : TA) : L2.St → Hp → XK → Prop := fun σ H Q => ta σ H fun vs H1 => vs.length = ns.length ∧ ∀ d, H1 d = none → Q (.ref Ca) (some d) (upd H1 d (.xd ((ns.zip vs).reverse)))
theorem pmk_X {x : Str} {Ca fI : Addr} {k : Nat} {fd : FuncData} {ps ns : List Str} {ta : TA} {p : Pos} (T : OexC X.K Ca) (iC : PySem.W.findIn X.K (.ref Ca) "__init__" = some (some (.ref fI))) (tI : PySem.W.typeIn X.K (.ref fI) = some (.type "function"))
    (F1 : FnG X.prog X.w X.K X.mg X.base k fI fd ps (spI Ca ns)) (hgd : X.A.guards = some []) (hr : Room (k + 1) X.A) (hb : Binds X.K fd ps []) (tk : Takes X W) (hlen : ns.length ≤ 100) (hg : Gl X x) (hm : X.mg x = some (.ref Ca)) (ha : PA X (e :: es) ta)
    (hdb : (x == ("__debug__" : Str)) = false := by decide) (he : starEach (e :: es) X.env = (false, eval e X.env) :: starEach es X.env := by rfl) (hpl : (backTo pos (starEach es X.env)).any (·.1) = false := by rfl) :
    PMk X (.Call (.Name x p) (e :: es) [] pos) (tMkX Ca ns ta) := by
  intro pins s σ H Q I h
  obtain ⟨nm, q, N, bs, bm, sn, sub, ab, col, dd, k0, k1, k2, k3, k5, hC, hbm⟩ := T.cls
  refine wpAny_Call_Name_kw (ld_glob I hg hm ?_ hdb)
  refine PySem.W.callWith_K (h₀ := X.base) I.ok.mod.kin T.kC (thn (ha.run pos pins s σ H _ I h) fun us s1 ⟨vs, H1, I1, r1, hz, q1⟩ => ⟨I1.kIn, ?_⟩) he hpl
  show wpAny _ _ (call (.ref Ca) us) _ _ _
  obtain ⟨hp, g, dr, tk1, os⟩ := s1
  have hsz : hp.objs.size ≤ hp.objs.size + 1 := Nat.le_succ _
  have hn : H1 (hp.objs.size + 1) = none := I1.hok.fresh hsz
  have kk : ∀ b o, hp.get? b = some o → ((hp.push (PySem.W.kdv_tup us)).push (PySem.HandSPX.excO Ca hp.objs.size)).get? b = some o := fun b o e => Heap.get?_push_of_some _ (Heap.get?_push_of_some _ e)
  have hget : ((hp.push (PySem.W.kdv_tup us)).push (PySem.HandSPX.excO Ca hp.objs.size)).get? (hp.objs.size + 1) = some (PySem.HandSPX.excO Ca hp.objs.size) := by heap_get
  have I2 : Inv X pins σ (upd H1 (hp.objs.size + 1) (exo (hp.objs.size + 1) Ca none)) ⟨(hp.push (PySem.W.kdv_tup us)).push (PySem.HandSPX.excO Ca hp.objs.size), g, dr, tk1, os⟩ :=
    I1.laid (t' := tk1) (a := hp.objs.size + 1) (o := exo (hp.objs.size + 1) Ca none) (h' := (hp.push (PySem.W.kdv_tup us)).push (PySem.HandSPX.excO Ca hp.objs.size)) kk hsz (exo_ok hget)
  have hq : spI Ca ns (.ref (hp.objs.size + 1) :: vs) (upd H1 (hp.objs.size + 1) (exo (hp.objs.size + 1) Ca none))
      (fun v H2 => v = .non ∧ ∃ (d : Addr) (fs : List (Str × V)), H2 (hp.objs.size + 1) = some (exo (hp.objs.size + 1) Ca (some d)) ∧ H2 d = some (exd d fs) ∧ H1 d = none ∧ Q (.ref Ca) (some d) (upd (del H2 (hp.objs.size + 1)) d (.xd fs))) (fun _ _ _ => False) := by
    refine ⟨_, vs, rfl, hz, upd_same, fun dx hd hne => ⟨rfl, dx, _, upd_same, by rw [upd_ne hne, upd_same], ?_, ?_⟩⟩
    · rw [upd_ne hne] at hd; exact hd
    · have hd1 : H1 dx = none := by rw [upd_ne hne] at hd; exact hd
      have ee : upd (del (upd (upd (upd H1 (hp.objs.size + 1) (exo (hp.objs.size + 1) Ca none)) dx (exd dx ((ns.zip vs).reverse))) (hp.objs.size + 1) (exo (hp.objs.size + 1) Ca (some dx))) (hp.objs.size + 1)) dx (.xd ((ns.zip vs).reverse)) = upd H1 dx (.xd ((ns.zip vs).reverse)) := by
        funext b
        by_cases h1 : b = dx
        · subst h1; rw [upd_same, upd_same]
        · rw [upd_ne h1, upd_ne h1]
          by_cases h2 : b = hp.objs.size + 1
          · subst h2; rw [del_same, hn]
          · rw [del_ne h2, upd_ne h2, upd_ne h1, upd_ne h2]
      rw [ee]
      exact q1 dx hd1
  have r2 : Vals (V.ref (hp.objs.size + 1) :: vs) (Value.ref (hp.objs.size + 1) :: us) := .cons rfl r1
  have hl : (Value.ref (hp.objs.size + 1) :: us ++ []).length = ps.length := by
    have e := r2.length
    rw [F1.len _ _ _ _ hq] at e
    rw [List.append_nil]
    exact e.symm
  have hus : us.length ≤ sizeLine := by
    rw [← Paired.length r1, hz, sizeLine_eq]
    omega
  have hb2 := hb ⟨(hp.push (PySem.W.kdv_tup us)).push (PySem.HandSPX.excO Ca hp.objs.size), g, dr, tk1, os⟩ (Value.ref (hp.objs.size + 1) :: us) I2.kIn hl
  refine wpAny_call (PySem.HandSPX.call_own F.excBase_ValueError (fun Y => PySem.HandSPX.refsVE_contains Y bm hbm) (I1.kIn _ _ hC) (PySem.W.looks_findIn I1.kIn iC) (fun self => PySem.W.bind_fn I1.kIn self tI) hus
    (codeAny_mono (F1.run _ X.stack _ _ ⟨Value.ref (hp.objs.size + 1) :: us, []⟩ (Value.ref (hp.objs.size + 1) :: us) _ _ (fun _ _ _ => False) hgd (hr.make Ca us []) (I2.env0.make Ca us []) (by simpa using hb2) r2 hq) fun r s' hq' => ?_))
  cases r with
  | error er => exact (passes_call (W := fun _ _ _ _ => False) (Takes.imp tk fun _ _ _ _ z => z.elim) (fun _ _ _ _ z => z)) pins σ _ _ er s' I2 hq'
  | ok fl =>
    cases fl with
    | ret u =>
      obtain ⟨v, H2, os2, bare2, un2, hok2, rv, ev, d, fs, ea, ed, hd1, q2⟩ := hq'
      subst ev
      obtain ⟨h2, g2, d2, t2, os'⟩ := s'
      exact ⟨rv, mk_end (raises_own T.exC T.tyC) I1 hsz kk un2 hok2 os2 bare2 ea ed hd1 q2⟩
    | next => exact False.elim hq'
    | brk => exact False.elim hq'
    | cont => exact False.elim hq'
theorem s_raise {c : Nat} {ks : List Nat} {ns : List Str} {Ca : Addr} (hcx : C.T.cx c ks = some Ca) (hns : ks.map C.T.fn = ns.reverse) (hc : X.calm = true) (tk : Takes X W) (hM : PMk X e (tMkX Ca ns (tAF C W cl es'))) : PS X (.Raise (some e) none pos) (tS C W cl (.raise c ks es')) :=
  psI (ps_raise hc tk hM) fun E σ H ⟨H0, env, S, q⟩ => by
    simp only [ex] at q
    refine ⟨H0, env, S, ?_⟩
    cases z : evF cl es' env with
    | bad => rw [z] at q; exact q
    | exc x env1 => rw [z] at q; exact fun cls d H0' H' e' S' x => q σ cls d H0' H' e' S' x
    | ok ds env1 =>
      rw [z] at q
      simp only [R.bind_ok] at q
      split at q
      rotate_left
      · exact q.elim
      rename_i hl
      intro H1 H1' e1 S1 vs hv
      have ln : ns.length = ks.length := by have := congrArg List.length hns; simpa using this.symm
      refine ⟨by rw [hv.len, hl, ln], fun d hd => ?_⟩
      have g1 : Gr C.T H1 H1' (upd H1 d (.xd ((ns.zip vs).reverse))) (upd H1' d (.xd ((ns.zip vs).reverse))) := Gr.froz S1.ex hd
      refine q σ _ _ _ _ (e1.tr g1.e0) (S1.gr g1) ⟨Ca, hcx, rfl, .inr ⟨d, vs.reverse, rfl, ?_, ?_, (RepAll.mono g1.e0 _ _ hv).rev⟩⟩
      · rw [upd_same, zip_rev (by rw [hv.len, hl, ln]), hns]
      · rw [List.length_reverse, hv.len, hl]
end
end PP
end
section
set_option maxHeartbeats 4000000
namespace PP
open PySem PySem.Spec PyProof.Rows L2
/-- an exception that is at hand, its class any value -/
def ErrV (cls : Value) (d : Option Addr) (a : Addr) : HO := .ext fun h => ∃ (oe : Obj) (vs : Array Value), h.get? a = some oe ∧ Zc cls d oe ∧ oe.data = .fields vs
theorem errV_ok {P : Program} {w : World} {H : Hp} {h : Heap} {a : Addr} {cls : Value} {d : Option Addr} {oe : Obj} {vs : Array Value} (e : h.get? a = some oe) (z : Zc cls d oe) (hd : oe.data = .fields vs) : ObjOk P w H h a (ErrV cls d a) :=
  ⟨⟨oe, vs, e, z, hd⟩, ⟨oe, e⟩, fun _ _ ⟨o, v, q, r⟩ k => ⟨o, v, k o q, r⟩⟩
theorem inv_track {X : Cx} {pins : List (Addr × Obj)} {σ : L2.St} {H : Hp} {s : Shared} {a : Addr} {oe : Obj} {vs : Array Value} {φ : Heap → Prop} (I : L2.Inv X pins σ H s) (ha : s.heap.get? a = some oe) (hd : oe.data = .fields vs) (na : H a = none) (n0 : X.s_0.heap.get? a = none) (nL : a ≠ X.env.locals)
    (np : ∀ p ∈ X.pn ++ pins, p.1 ≠ a) (new : ObjOk X.prog X.w (upd H a (.ext φ)) s.heap a (.ext φ)) : L2.Inv X pins σ (upd H a (.ext φ)) s := by
  have hc : ∀ x c, X.env.cells.lookup x = some c → c ≠ a := fun x c e z => by
    obtain ⟨v, o, ho, hd2⟩ := I.cell x c e
    rw [z, ha] at ho
    cases ho
    rw [hd] at hd2
    cases hd2
  refine ⟨I.ok, I.os, I.bare, ⟨I.base.keep, I.base.slot, fun b o e n hx => ?_, I.base.there, fun b xs e => ?_, fun b o u e => ?_, fun b ps e => ?_⟩, I.loc, I.cell, ?_, fun x c e => ?_, fun p hp => ?_, fun b u e => ?_, I.len⟩
  · rw [upd_ne (fun z => by rw [z, n0] at e; cases e)]
    exact I.base.free b o e n hx
  · have q := I.base.tups b xs e
    rw [upd_ne (ne_of_none q na)]; exact q
  · have q := I.base.frzs b o u e
    rw [upd_ne (ne_of_none q na)]; exact q
  · obtain ⟨m, q⟩ := I.base.tbls b ps e
    exact ⟨m, by rw [upd_ne (ne_of_none q na)]; exact q⟩
  · rw [upd_ne (Ne.symm nL)]; exact I.free
  · rw [upd_ne (hc x c e)]; exact I.freeC x c e
  · obtain ⟨e, n, ne, nf, d⟩ := I.pin p hp
    exact ⟨e, by rw [upd_ne (np p hp)]; exact n, ne, nf, d⟩
  · by_cases hb : b = a
    · subst hb
      rw [upd_same] at e
      cases e
      exact new
    · rw [upd_ne hb] at e
      exact (I.hok b u e).stay (fun c v _ q => q) (fun c q => by rw [upd_ne (ne_of_none q na)]; exact q) fun c xs q => by rw [upd_ne (ne_of_none q na)]; exact q
/-- what 'except x as n' wishes of an exception of the body: it stays at hand -/
def wKeep (K : PySem.W.Frag) (c : Value) (i : Nat) (ts : Addr → Value → Option Addr → TS) (Wout : WX) (D : Ends) : WX := fun cls d σ H =>
  ∃ b, PySem.W.exmOne K cls c = some b ∧ (b = true → i < σ.length → ∀ a, H a = none → ts a cls d { nx := fun σ' H' => H' a = none → D.nx (σ'.set i none) (upd H' a (ErrV cls d a)), rt := fun _ _ => False, bk := fun _ _ => False, ct := fun _ _ => False } (σ.set i (some (.ref a))) H) ∧
    (b = false → Wout cls d σ H)
section
variable {X : Cx} {x n : Str} {c : Value} {i : Nat} {body suite : List Stmt} {b₀ : Stmt} {np pos pos' : Pos} {tb : WX → TS} {ts : Addr → Value → Option Addr → TS} {Wout : WX}
theorem ps_try_keep (hs : X.stack = X.env :: X.outer) (hf : X.env.frame = some X.env.locals) (hex : X.ex = []) (hN : X.N.Nodup) (hi : X.N[i]? = some n) (hln : X.env.kindOf n = some .local) (hc : Names X x c) (tk : Takes X Wout)
    (hb : ∀ (W : WX) (pn : List (Addr × Obj)) (xe : Value → Shared → Prop), Takes (X.tr pn xe) W → PassesOwn (model X.prog X.w) X.A X.env xe → PSs (X.tr pn xe) body (tb W))
    (hsu : ∀ (a : Addr) (oe : Obj) (cls : Value) (d : Option Addr) (pn : List (Addr × Obj)), Zc cls d oe → (∃ vs, oe.data = .fields vs) → PSs (X.suite a ((a, oe) :: pn)) (b₀ :: suite) (ts a cls d)) :
    PS X (.Try body [.ExceptHandler (some (.Name x np)) (some n) (b₀ :: suite) pos'] [] [] pos) (fun D σ H => tb (wKeep X.K c i ts Wout D) D σ H) := by
  refine ⟨fun pins s σ H D I h => ?_⟩
  have ok := I.ok
  have hfr : X.A.frames = some (X.env :: X.outer) := by rw [ok.frames, hs]
  have hloc : Loc X.env.scope n := .inl hln
  refine wpAny_Try_except ?_
  refine wpAny_mono ((hb (wKeep X.K c i ts Wout D) (X.pn ++ pins) (fun e s₁ => wpAny (model X.prog X.w) X.A (noteFrame e X.env) (fun _ s₂ => wpAny (model X.prog X.w) X.A (setFlight e none) (fun _ s₃ =>
    wpAny (model X.prog X.w) X.A (handleBy e X.env [.ExceptHandler (some (.Name x np)) (some n) (b₀ :: suite) pos']) (SP X pins D) X.xe s₃) X.xe s₂) X.xe s₁) (fun u s' xx => ?_) PassesOwn.looking).run [] s σ H D (I.toTry _) h) (fun f s1 hsp => ?_) (fun e s1 he => he)
  · -- the catch
    obtain ⟨a, B, sI, pins', σ', H', cls, d, rfl, J', nb, up, sky, na, os, ag, b, hb1, hyes, hno⟩ := xx
    have J : Inv X pins σ' H' sI := J'.ofTry ok
    have sky' : Sky B (X.env :: X.outer) a (Zc cls d) X.env.locals s'.heap := by rw [← hs]; exact sky
    show wpAny (model X.prog X.w) X.A (noteFrame (.ref a) X.env) _ _ _
    refine Sky.land Zc.steady hfr hf sky' fun h3 fl3 up3 => ?_
    have J3 : Inv X pins σ' H' { s' with heap := h3 } := J.landed nb fl3.1 (up.trans up3) os ag
    obtain ⟨oe3, vs3, he3, hz3, hd3⟩ := fl3.there
    have notFr : ∀ {h : Heap} {o : Obj} {vs : Array Value}, h.FunFrames B (X.env :: X.outer) → h.get? a = some o → o.data = .fields vs → a ∉ frs (X.env :: X.outer) := fun {h o vs} ff e dd hm => by
      obtain ⟨_, o', e', hnf⟩ := ff.mem hm
      rw [e] at e'; cases e'
      exact hnf _ dd
    have nfr := notFr fl3.2.2.1 he3 hd3
    have nL : a ≠ X.env.locals := fun z => nfr (List.mem_filterMap.mpr ⟨X.env, List.mem_cons_self, by rw [hf, z]⟩)
    have nF : a ∉ X.fs := fun hm => by
      obtain ⟨e, he, q⟩ := List.mem_filterMap.mp hm
      exact nfr (List.mem_filterMap.mpr ⟨e, List.mem_cons_of_mem _ he, q⟩)
    have nB : B.get? a = none := fl3.2.1
    have nI : sI.heap.get? a = none := by
      cases e : sI.heap.get? a with
      | none => rfl
      | some o =>
        have q := nb a o e (by rw [hs]; exact nfr)
        rw [nB] at q; cases q
    have n0 : X.s_0.heap.get? a = none := by
      cases e : X.s_0.heap.get? a with
      | none => rfl
      | some o =>
        obtain ⟨o', q⟩ := J.base.there a o e (by rw [hex]; exact fun z => nomatch z)
        rw [nI] at q; cases q
    have npin : ∀ p ∈ X.pn ++ pins, p.1 ≠ a := fun p hp z => by
      obtain ⟨e, _⟩ := J.pin p hp
      rw [z, nI] at e; cases e
    have S3 := J3.suite he3 hd3 na nL nF
    refine wpAny_handleBy_cons (codeAny_handlers_test ?_) (by intro q; cases q)
    have LT : PySem.W.Looks (model X.prog X.w) h3 (typeOf (.ref a)) cls := fun A Q E s k q => wpAny_typeOf_ref (k _ _ he3) (by rw [hz3.1]; exact q)
    have LM := PySem.W.exm_one (M := model X.prog X.w) (J3.kIn) LT hb1
    have test : ∀ {Q : Value → Shared → Prop} {E : Value → Shared → Prop}, Q c { s' with heap := h3 } → wpAny (model X.prog X.w) (X.A.mark (some (.ref a))) (eval (.Name x np) X.env) Q E { s' with heap := h3 } := fun {Q E} q => by
      obtain ⟨hg, hdbg, hm | ⟨hm, hv, hnn⟩⟩ := hc
      · exact ld_glob (X := X.suite a ((a, oe3) :: (X.pn ++ pins))) S3 hg hm q hdbg
      · exact ld_blt (X := X.suite a ((a, oe3) :: (X.pn ++ pins))) S3 hg hm hv q hnn hdbg
    refine test (LM.here ?_)
    cases b with
    | true =>
      refine codeAny_handlers_suite_as ?_
      refine HandSPX.lands_againZ fl3 fun h4 fl4 up4 => ?_
      have J4 : Inv X pins σ' H' { s' with heap := h4 } := J.landed nb fl4.1 ((up.trans up3).trans up4) os ag
      obtain ⟨oe4, vs4, he4, hz4, hd4⟩ := fl4.there
      have S4 := J4.suite he4 hd4 na nL nF
      refine store_ok (X := X.suite a ((a, oe4) :: (X.pn ++ pins))) (v := .ref a) S4 hN hi hloc rfl (fun s5 S5 => ?_) (.inr hln)
      refine wpAny_mono ((hsu a oe4 cls d (X.pn ++ pins) hz4 ⟨_, hd4⟩).run [] s5 _ H' _ S5 (hyes rfl (by rw [J.len]; exact (List.getElem?_eq_some_iff.mp hi).1) a na)) (fun f s6 hsp => ?_) (fun _ _ z => False.elim z)
      have end_ : ∀ {σ6 : L2.St} {H6 : Hp} {Q : Shared → Prop}, Inv (X.suite a ((a, oe4) :: (X.pn ++ pins))) [] σ6 H6 s6 → (H6 a = none → ∀ s7, Inv X pins (σ6.set i none) (upd H6 a (ErrV cls d a)) s7 → Q s7) →
          wpAny (model X.prog X.w) X.A (do bindName X.env n .none; unbindBehindTheSuite X.env n pos') (fun _ s7 => Q s7) X.xe s6 := fun {σ6 H6 Q} S6 hq => by
        obtain ⟨pa, pb, _⟩ := S6.pin (a, oe4) (List.mem_append_left _ List.mem_cons_self)
        exact gone_ok (inv_track (S6.unsuite ok) pa hd4 pb n0 nL npin (errV_ok pa hz4 hd4)) hN hi hln (hq pb)
      cases f with
      | next =>
        obtain ⟨σ6, H6, S6, q6⟩ := hsp
        exact end_ S6 fun na6 s7 J7 => ⟨_, _, J7, q6 na6⟩
      | brk =>
        obtain ⟨σ6, H6, S6, q6⟩ := hsp
        exact q6.elim
      | cont =>
        obtain ⟨σ6, H6, S6, q6⟩ := hsp
        exact q6.elim
      | ret u =>
        obtain ⟨v6, σ6, H6, S6, r6, q6⟩ := hsp
        exact q6.elim
    | false =>
      show wpAny _ X.A (handleBy (.ref a) X.env []) _ _ _
      refine wpAny_handleBy_nil ?_
      obtain ⟨k1, k2, k3, oe, vs, T, oT, ts', he, hz, hd, h1, hr⟩ := id fl3
      unfold PySem.passOn
      refine wpAny_bind (wpAny_field he hd h1 ?_)
      rw [if_neg (show ¬ ((Value.ref T == Value.none) = true) from by simp)]
      have fin : wpAny (model X.prog X.w) X.A (setFlight (.ref a) X.env.frame) (fun _ s4 => wpAny (model X.prog X.w) X.A (throw (.ref a) : Sem Flow) (SP X pins D) X.xe s4) X.xe { s' with heap := h3 } := by
        rw [hf]
        refine HandSPX.setFlight_upZ fl3 fun h4 hh4 up4 => wpAny_throw (tk _ _ ?_)
        exact ⟨a, B, sI, pins, σ', H', cls, d, rfl, J, nb, (up.trans up3).trans up4, .inr (.inr (by rw [hs]; exact hh4)), na, os, ag, hno rfl⟩
      first
        | exact wpAny_bind (wpAny_pure (wpAny_bind fin))
        | exact wpAny_bind fin
  · cases f with
    | next =>
      obtain ⟨σ', H', J', q⟩ := hsp
      exact wpAny_execs_nil ⟨σ', H', J'.ofTry ok, q⟩
    | brk =>
      obtain ⟨σ', H', J', q⟩ := hsp
      exact ⟨σ', H', J'.ofTry ok, q⟩
    | cont =>
      obtain ⟨σ', H', J', q⟩ := hsp
      exact ⟨σ', H', J'.ofTry ok, q⟩
    | ret u =>
      obtain ⟨v, σ', H', J', r, q⟩ := hsp
      exact ⟨v, σ', H', J'.ofTry ok, r, q⟩
end
theorem Sim.unset {C : Ctx} {σ : L2.St} {H0 H : Hp} {env : Env} (S : Sim C σ H0 H env) (i : Nat) : Sim C (σ.set i none) H0 H (env.set i .un) := by
  have old : ∀ j, ownS (getS (env.set i .un) j) = true → i ≠ j ∧ ownS (getS env j) = true := fun j h => by
    rw [getS_set] at h
    by_cases z : i = j
    · subst z
      by_cases l : i < env.length
      · simp only [l, and_self, if_true] at h; cases h
      · have e : getS env i = .un := by unfold getS; rw [List.getD_eq_getElem?_getD, List.getElem?_eq_none (by omega)]; rfl
        simp only [l, and_false, if_false, e] at h; cases h
    · simp only [z, false_and, if_false] at h; exact ⟨z, h⟩
  refine { tabs := S.tabs, tno := S.tno, ok := S.ok, ex := S.ex, ex0 := S.ex0, fresh := S.fresh, keep := S.keep, ioH := S.ioH, len := by simp only [List.length_set]; exact S.len, slots := fun j => ?_, inj := fun j k a hjk hj hk ej ek => ?_ }
  · rw [getS_set]
    by_cases z : i = j
    · subst z
      by_cases l : i < env.length
      · simp only [l, and_self, if_true]; trivial
      · have e : getS env i = .un := by unfold getS; rw [List.getD_eq_getElem?_getD, List.getElem?_eq_none (by omega)]; rfl
        simp only [l, and_false, if_false, e]; trivial
    · simp only [z, false_and, if_false]
      rw [List.getElem?_set_ne z]
      exact S.slots j
  · obtain ⟨n1, o1⟩ := old j hj
    obtain ⟨n2, o2⟩ := old k hk
    rw [List.getElem?_set_ne n1] at ej
    rw [List.getElem?_set_ne n2] at ek
    exact S.inj j k a hjk o1 o2 ej ek
section
variable {X : Cx} {C : Ctx} {W : WX} {cl : CallF} {x n : Str} {body : List Stmt} {np pos pos' p1 p2 p3 : Pos} {b' : Ss} {cs : List Nat} {i j : Nat} {CE : Addr} {m : Str}
/-- try: body, except x as n: m = n -/
theorem s_try (hs : X.stack = X.env :: X.outer) (hf : X.env.frame = some X.env.locals) (hex : X.ex = []) (hN : X.N.Nodup) (hi : X.N[i]? = some n) (hln : X.env.kindOf n = some .local) (hc : Names X x (.ref CE)) (tk : Takes X W)
    (hcs : ∀ c ∈ cs, ∀ Ca, C.T.cn c = some Ca → PySem.W.exmOne X.K (.ref Ca) (.ref CE) = some true) (hij : i ≠ j)
    (hb : ∀ (W : WX) (pn : List (Addr × Obj)) (xe : Value → Shared → Prop), Takes (X.tr pn xe) W → PassesOwn (model X.prog X.w) X.A X.env xe → PSs (X.tr pn xe) body (tSs C W cl b'))
    (hsu : ∀ (a : Addr) (oe : Obj) (pn : List (Addr × Obj)), PSs (X.suite a ((a, oe) :: pn)) [.Assign [.Name m p1] (.Name n p2) p3] (tSeq (tAsg (tVar i) (gName j)) tNext)) :
    PS X (.Try body [.ExceptHandler (some (.Name x np)) (some n) [.Assign [.Name m p1] (.Name n p2) p3] pos'] [] [] pos) (tS C W cl (.tryC b' cs i j)) := by
  refine psI (ps_try_keep (ts := fun _ _ _ => tSeq (tAsg (tVar i) (gName j)) tNext) hs hf hex hN hi hln hc tk hb fun a oe cls d pn _ _ => hsu a oe pn) fun E σ H ⟨H0, env, S, q⟩ => ?_
  refine ⟨H0, env, S, ?_⟩
  simp only [ex] at q
  cases z : exs cl b' env with
  | bad => rw [z] at q; exact q
  | ok fl env1 => rw [z] at q; cases fl <;> exact q
  | exc y env1 =>
    rw [z] at q
    simp only at q
    split at q
    rotate_left
    · exact q.elim
    rename_i hy
    intro σ1 cls d H1 H1' e1 S1 hx
    obtain ⟨Ca, hcx, rfl, hx⟩ := hx
    obtain ⟨hcn, _, hec⟩ := Tbl.cx_some hcx
    refine ⟨true, hcs y.1 (by simpa [List.contains_iff_mem] using hy) Ca hcn, fun _ hli a ha => ?_, fun z => by cases z⟩
    refine ⟨.ref a, by rw [List.getElem?_set_self hli], fun ha' => ?_⟩
    have g := Gr.froz (T := C.T) (o := ErrO Ca d a) S1.ex ha
    have S2 := S1.gr g
    have S3 := S2.store (i := i) (v := .ref a) (s := .un) rfl trivial (fun _ _ z => by cases z)
    have S4 := S3.store (i := j) (v := .ref a) (s := .fz (.err y.1 y.2.1 y.2.2)) rfl (by
      refine ⟨.ref a, rfl, ?_⟩
      simp only [Rep]
      refine ⟨a, Ca, d, rfl, hcx, upd_same, ?_⟩
      rcases hx with hx | ⟨dd, xs, rfl, hd, hl, hr⟩
      · exact .inl hx
      · exact .inr ⟨dd, xs, rfl, g.e0 _ _ hd, hl, RepAll.mono g.e0 _ _ hr⟩) (fun _ _ z => by cases z)
    exact q _ _ _ (e1.tr g.e0) (S4.unset i)
end
end PP
end
section
set_option maxHeartbeats 4000000
namespace PP
open PySem PySem.Spec PyProof.Rows L2 LamX
section
variable {X : Cx} {pins : List (Addr × Obj)} {σ : L2.St} {H HZ : Hp} {s s1 : Shared}
/-- the lambda is made; all but its table stays -/
theorem lam_mk {T : List (Addr × Str)} {c P : Addr} {params : Arguments} {body : Expr} {scope : Scope} {pos : Pos} {E : Value → Shared → Prop} {Q : Value → Shared → Prop} (I : Inv X pins σ H s) (TB : TabB X.base X.mg c P) (hcode : X.env.code = .ref c)
    (hm : (P, X.env.qual ++ "<lambda>") ∈ T) (hu : ∀ p ∈ T, p.1 = P → p.2 = X.env.qual ++ "<lambda>") (hT : Tabs T H) (hdef : defaultsOf params X.env = ([], [])) (hfree : ∀ y ∈ scope.names, y.2 = .free → ∃ c, X.env.cells.lookup y.1 = some c)
    (h : ∀ (f c' : Addr) (pm ctv : Value) (H1 : Hp) (s' : Shared), Inv X pins σ H1 s' → (∀ b o, b ≠ P → H b = some o → H1 b = some o) → Tabs T H1 →
      s'.heap.get? f = some (PySem.W.kla_obj "<lambda>" (X.env.qual ++ "<lambda>") params body scope (cloFrom X.env.cells scope.names []) pm c' ctv) → H1 f = none → f ∉ frs X.stack → H1 c' = some (CodeO c' (X.env.qual ++ "<lambda>")) → Q (.ref f) s') :
    wpAny (model X.prog X.w) X.A (eval (.Lambda params body scope pos) X.env) Q E s := by
  obtain ⟨ps, hP, ht, ha⟩ := hT _ hm
  refine PySem.W.kla_eval hdef ?_
  have bP : s.heap.BuiltinsAt X.mg P := TB.bm.keeps I.bk
  have hP' : s.heap.get? P = some { cls := .none, data := .fields ps } := I.hok P _ hP
  have nofr : ∀ f, s.heap.objs.size ≤ f → f ∉ frs X.stack := fun f hf z => by
    rcases List.mem_cons.mp (I.stkSub _ z) with e | e
    · have h1 := I.lt
      rw [← e] at h1
      exact Nat.lt_irrefl _ (Nat.lt_of_lt_of_le h1 hf)
    · exact I.nofs hf e
  cases hc : codeAmong pos ps.toList with
  | none =>
    refine PySem.W.kla_makeFunction (mg := X.mg) (c := c) (P := P) (ps := ps) (closure_ok hfree) I.ok.glob (I.mod.glob.keeps I.bk) hcode (TB.code.keeps I.bk) hP' ht hc TB.gP bP fun c' ctv h' tk hx hge hlt hrec htb => ?_
    obtain ⟨c2, oc, vs, t, e2, hoc, hd, hv⟩ := hrec
    cases e2
    have hsz : s.heap.objs.size ≤ h'.objs.size := Nat.le_trans hge (Nat.le_of_lt hlt)
    have nC : H c' = none := I.hok.fresh hge
    have I1 := inv_table (t' := tk) (more := #[rawInt pos.line, rawInt pos.col, .ref c']) (h' := h'.push (PySem.W.kla_obj "<lambda>" (X.env.qual ++ "<lambda>") params body scope (cloFrom X.env.cells scope.names []) ((X.mg "__name__").getD .none) c' ctv)) I hP
      (fun b o hb e => Heap.get?_push_of_some _ (hx b o hb e)) (Heap.get?_push_of_some _ htb) hge ⟨oc, vs, t, Heap.get?_push_of_some _ hoc, hd, hv⟩
    have hE : ∀ b o, b ≠ P → H b = some o → upd (upd H P (.tbl (ps ++ #[rawInt pos.line, rawInt pos.col, .ref c']))) c' (CodeO c' (X.env.qual ++ "<lambda>")) b = some o := fun b o n e => by
      rw [upd_ne (ne_of_none e nC), upd_ne n]
      exact e
    have neP : ∀ b : Addr, ∀ q : Str, H b = some (CodeO b q) → b ≠ P := fun b q e z => by
      rw [z, hP] at e
      exact codeO_ne ps (Option.some.inj e).symm
    have eL : (ps ++ #[rawInt pos.line, rawInt pos.col, .ref c']).toList = ps.toList ++ [rawInt pos.line, rawInt pos.col, .ref c'] := by simp
    refine h h'.objs.size c' ((X.mg "__name__").getD .none) ctv _ _ I1 hE (fun p hp => ?_) (Heap.get?_push_size _ rfl) ?_ (nofr _ hsz) upd_same
    · by_cases hb : p.1 = P
      · rw [hu p hp hb, hb]
        refine ⟨_, by rw [upd_ne (ne_of_none hP nC), upd_same], by rw [eL]; exact PySem.TriplesOk_snoc _ _ _ _ ht, fun p' cv hcv => ?_⟩
        rw [eL] at hcv
        rcases among_app _ ht hcv with z | z
        · obtain ⟨c0, e1, e2⟩ := ha p' cv z
          exact ⟨c0, e1, hE _ _ (neP c0 _ e2) e2⟩
        · exact ⟨c', z, upd_same⟩
      · obtain ⟨ps', a1, a2, a3⟩ := hT p hp
        refine ⟨ps', by rw [upd_ne (ne_of_none a1 nC), upd_ne hb]; exact a1, a2, fun p' cv hcv => ?_⟩
        obtain ⟨c0, e1, e2⟩ := a3 p' cv hcv
        exact ⟨c0, e1, hE _ _ (neP c0 _ e2) e2⟩
    · have n1 : h'.objs.size ≠ c' := Nat.ne_of_gt hlt
      have n2 : h'.objs.size ≠ P := Nat.ne_of_gt (Nat.lt_of_lt_of_le (Heap.lt_size hP') hsz)
      rw [upd_ne n1, upd_ne n2]
      exact I.hok.fresh hsz
  | some cv =>
    obtain ⟨c', e, hco⟩ := ha pos cv hc
    subst e
    refine PySem.W.kla_makeFunctionHit (mg := X.mg) (c := c) (P := P) (ps := ps) (closure_ok hfree) I.ok.glob (I.mod.glob.keeps I.bk) hcode (TB.code.keeps I.bk) hP' ht hc bP fun ctv h' tk hx hsz => ?_
    have I1 : Inv X pins σ H { s with heap := h'.push (PySem.W.kla_obj "<lambda>" (X.env.qual ++ "<lambda>") params body scope (cloFrom X.env.cells scope.names []) ((X.mg "__name__").getD .none) c' ctv), toks := tk } := I.kept fun b o e => Heap.get?_push_of_some _ (hx b o e)
    exact h h'.objs.size c' ((X.mg "__name__").getD .none) ctv H _ I1 (fun b o _ e => e) hT (Heap.get?_push_size _ rfl) (I.hok.fresh hsz) (nofr _ hsz) hco
end
section
variable {C : Ctx} {W : WX} {σ : L2.St} {cl : CallF} {H0 H H0' H' : Hp} {env : Env}
theorem Sim.frzAll : ∀ {vs : List Nat} {H0 : Hp} {env env1 : Env}, Sim C σ H0 H env → frzAll vs env = some env1 → ∃ H0', Ext H0 H0' ∧ Sim C σ H0' H env1
  | [], H0, env, env1, S, h => by cases h; exact ⟨H0, Ext.rfl' _, S⟩
  | i :: vs, H0, env, env1, S, h => by
    unfold PP.frzAll at h
    obtain ⟨⟨d, env2⟩, hf, h⟩ := Option.bind_eq_some_iff.mp h
    have hv : ∃ v, σ[i]? = some (some v) := by
      have q := S.slots i
      cases z : getS env i with
      | un => simp [fzU, z] at hf
      | fn => simp [fzU, z] at hf
      | io d => simp [fzU, z] at hf
      | fz d => rw [z] at q; obtain ⟨v, h1, _⟩ := q; exact ⟨v, h1⟩
      | ow d => rw [z] at q; obtain ⟨a, h1, _⟩ := q; exact ⟨_, h1⟩
    obtain ⟨v, hv⟩ := hv
    obtain ⟨H1, e1, S1, _⟩ := S.take (u := .sl i) hv hf
    obtain ⟨H2, e2, S2⟩ := Sim.frzAll S1 h
    exact ⟨H2, e1.tr e2, S2⟩
theorem getS_mask {i : Nat} : getS (maskE env) i = maskS (getS env i) := by
  unfold getS maskE
  simp only [List.getD_eq_getElem?_getD, List.getElem?_map]
  cases env[i]? <;> rfl
/-- the caller's own frozen names, at a later heap -/
theorem Sim.mask (S : Sim C σ H0 H env) (e0 : Ext H0 H0') (e01 : Ext H0' H') (t : LamX.Tabs C.T.tt H') (tn : ∀ p ∈ C.T.tt, H0' p.1 = none) : Sim ⟨C.T, H0', H', [], 0⟩ σ H0' H' (maskE env) where
  ok := ⟨fun a ha => absurd (show some a ∈ ([] : List (Option Addr)) from ha) (by simp), e01⟩
  ex := e01
  ex0 := Ext.rfl' _
  fresh := fun a h h' => (h' h).elim
  keep := fun a o h _ => .inl h
  ioH := fun a ha => absurd (show some a ∈ ([] : List (Option Addr)) from ha) (by simp)
  len := by unfold maskE; rw [List.length_map]; exact S.len
  slots := fun i => by
    rw [getS_mask]
    have q := S.slots i
    cases z : getS env i with
    | fz d => rw [z] at q; obtain ⟨v, h1, h2⟩ := q; exact ⟨v, h1, Rep.mono e0 _ _ h2⟩
    | un => trivial
    | fn => trivial
    | ow d => trivial
    | io d => trivial
  inj := fun i j a hij hi _ _ _ => by
    rw [getS_mask] at hi
    cases z : getS env i <;> (rw [z] at hi; cases hi)
  tabs := t
  tno := tn
theorem getS_lamE {n i : Nat} (hn : 0 < n) : getS (lamE n) i = if i = 0 then .fn else .un := by
  have hl : (startE n []).length = n := startE_len
  unfold lamE
  rw [getS_set, getS_start (Nat.zero_le _)]
  by_cases h : i = 0
  · subst h; simp [hl, hn]
  · simp [h, Ne.symm h]
/-- the def that asks begins -/
theorem sim_lam {T : Tbl} {N : List Str} {f : Addr} {n : Nat} (hN : N.length = n) (hn : 0 < n) (e : Ext H0 H) (tb : TbOk T H0 H) : Sim ⟨T, H0, H, [], f⟩ (L2.start N [.ref f]) H0 H (lamE n) where
  ok := ⟨fun a ha => absurd (show some a ∈ ([] : List (Option Addr)) from ha) (by simp), e⟩
  ex := e
  ex0 := Ext.rfl' _
  fresh := fun a h h' => (h' h).elim
  keep := fun a o h _ => .inl h
  ioH := fun a ha => absurd (show some a ∈ ([] : List (Option Addr)) from ha) (by simp)
  len := by
    unfold lamE L2.start
    rw [List.length_set, startE_len]
    simp only [List.length_append, List.length_map, List.length_replicate, List.length_cons, List.length_nil]
    omega
  slots := fun i => by
    rw [getS_lamE hn]
    split
    · rename_i z; subst z; rfl
    · trivial
  inj := fun i j a hij hi hj _ _ => by
    rw [getS_lamE hn] at hi
    split at hi <;> cases hi
  tabs := tb.1
  tno := tb.2
end
/-- what a lambda gave, as its call gives it -/
def outD (o : D) (env : Env) : R U := match o with
  | .tup [.non, d] => .ok (.d d) env
  | .err c ks vs => .exc (c, ks, vs) env
  | _ => .bad
theorem ask_out {o : D} {cl : CallF} {env : Env} : askR (askCl o cl 999 []) env = outD o env := by
  unfold askCl outD
  rw [if_pos rfl]
  split
  · rfl
  · rfl
  · rename_i h1 h2
    split
    · rename_i d; exact (h1 d rfl rfl).elim
    · rename_i c ks vs; exact (h2 c ks vs rfl rfl).elim
    · rfl
/-- a def that asks what it got -/
def HearG (P : Program) (w : World) (K : PySem.W.Frag) (mg : Str → Option Value) (base : Heap) (Ng : List Str) (x a : Str) (stg : Stmt) (g : Addr) (T : Tbl) (cl0 : CallF) (F : Fn) (j : Nat) : Prop :=
  ∀ {Z : Cx} {CZ : Ctx} {WZ : WX} {o : D}, Z.K = CZ.T.K → Z.A.units + 64 < cLine → Z.A.units + 200 < cLine → Z.A.guards = some [] → Room j Z.A → Takes Z WZ → PassesOwn (model Z.prog Z.w) Z.A Z.env Z.xe →
      (∃ (cdv : Value) (A : Around) (outer : List PySem.Env) (s : Shared) (H : Hp) (E : XK), Z = cxOf (L2.CX P w) P w K mg base Ng x (defScope stg) g cdv A outer s H E ∧ CZ.T = T) →
      (∀ (W : WX) (pn : List (Addr × Obj)) (xe : Value → Shared → Prop) (p1 p2 : Pos), Takes (Z.tr pn xe) W → PE (Z.tr pn xe) (.Call (.Name a p1) [] [] p2) (tI CZ W (askCl o cl0) (.ask 0))) → PSs Z (defBody stg) (tSs CZ WZ (askCl o cl0) F.body)
/-- what the asking def's end must serve -/
def tHR (C : Ctx) (W : WX) (σ : L2.St) (H1 H : Hp) (env1 : Env) (Q : VK) : RC → Prop
  | .ok r _ => ∀ H0' H', Gr C.T H1 H H0' H' → ∀ v, UOk C σ H0' H' env1 r v → Q v H'
  | .exc x _ => ∀ cls d H0' H', Gr C.T H1 H H0' H' → XOk C.T H0' H' x cls d → W cls d σ H'
  | .bad => False
def tHeard (C : Ctx) (W : WX) (cl : CallF) (f : Nat) (e' : Ex) : TE := fun σ H Q => ∃ env1 H1, Sim C σ H1 H env1 ∧ match ev cl e' (maskE env1) with
  | .ok u env2 => ∃ p, fzU env2 u = some p ∧ tHR C W σ H1 H env1 Q (cl f [.fz (.tup [.non, p.1])])
  | .exc x _ => tHR C W σ H1 H env1 Q (cl f [.fz (.err x.1 x.2.1 x.2.2)])
  | .bad => False
section
variable {X : Cx} {C : Ctx} {W : WX} {cl cl0 : CallF} {pos p lpos : Pos} {e' : Ex}
theorem c_heardG {x a : Str} {g c P : Addr} {f j : Nat} {stg : Stmt} {fdg : FuncData} {Ng : List Str} {F : Fn} {params : Arguments} {body : Expr} {scope : Scope}
    (hg : Gl X x) (hm : X.mg x = some (.ref g)) (Fg : Fun X.K x x stg g fdg) (Sg : FnScope Ng [a] (defScope stg)) (hNg : Ng[0]? = some a) (hva : Vis (defScope stg) a) (hln : Ng.length = F.n) (hb : Binds X.K fdg [a] [])
    (hf : ∀ o, cl f [.fz o] ≠ .bad → cl f [.fz o] = finR [] (exs (askCl o cl0) F.body (lamE F.n)))
    (hG : HearG X.prog X.w X.K X.mg X.base Ng x a stg g C.T cl0 F (j + 1))
    (TB : TabB X.base X.mg c P) (hcode : X.env.code = .ref c) (hmT : (P, X.env.qual ++ "<lambda>") ∈ C.T.tt) (hu : ∀ q ∈ C.T.tt, q.1 = P → q.2 = X.env.qual ++ "<lambda>")
    (hK : X.K = C.T.K) (hgd : X.A.guards = some []) (hr : Room (j + 2) X.A) (tk : Takes X W) (L : LamS X.env.scope scope) (hdef : defaultsOf params X.env = ([], []))
    (hbind : ∀ (q : Str) (cl : List (Str × Addr)) (pm cv ctv : Value), bindArgs (PySem.W.kla_fn "<lambda>" q params body scope cl pm cv ctv) ⟨[], []⟩ = pure [])
    (hbody : ∀ {Y : Cx} {CY : Ctx} {WY : WX}, Y.K = CY.T.K → Y.A.units + 64 < cLine → Y.A.units + 200 < cLine → Y.A.guards = some [] → Room j Y.A → Takes Y WY → PassesOwn (model Y.prog Y.w) Y.A Y.env Y.xe →
      (∃ (A : Around) (outer : List PySem.Env) (s : Shared) (H : Hp) (E : XK) (f c' : Addr), Y = lamCx X A outer s H E scope f c' ∧ CY.T = C.T) → PE Y body (tI CY WY cl e'))
    (hdb : (x == ("__debug__" : Str)) = false := by decide) (hd : (a == ("__debug__" : Str)) = false := by decide) (hcd : (a == ("__classdict__" : Str)) = false := by decide) :
    PE X (.Call (.Name x p) [.Lambda params body scope lpos] [] pos) (tHeard C W cl f e') := by
  obtain ⟨oc, od, kV, doc, pm, an, cdv, ct, osl, rfl, lk, hcdv⟩ := Fg.ex
  refine ⟨fun pins s σ H Q I h => ?_⟩
  obtain ⟨env1, H1, S1, q⟩ := h
  refine wpAny_Call_Name_kw (ld_glob I hg hm ?_ hdb)
  refine PySem.W.callWith_K (h₀ := X.base) I.ok.mod.kin Fg.kp ?_ (by rfl) (by rfl)
  show wpAny _ _ (spliced ((false, eval (.Lambda params body scope lpos) X.env) :: backTo pos (starEach [] X.env))) _ _ s
  refine Calls.spliced_cons (lam_mk I TB hcode hmT hu S1.tabs hdef (L.has I.ok) fun f' c' pm' ctv H1' s' I1 eN T1 hf' hfn hfr hco => ?_)
  refine Calls.spliced_nil ⟨I1.kIn, ?_⟩
  -- the caller's names at the new heap
  have neP : ∀ b o, H1 b = some o → b ≠ P := fun b o e z => by
    have := S1.tno _ hmT
    rw [← z, e] at this
    cases this
  have g1 : Gr C.T H1 H H1 H1' := ⟨Ext.rfl' _, fun b o e => by
    by_cases hbP : b = P
    · obtain ⟨ps, h1, _⟩ := S1.tabs _ hmT
      obtain ⟨ps', h2, _⟩ := T1 _ hmT
      subst hbP
      rw [h1] at e
      cases e
      exact .inr ⟨ps, ps', rfl, h2⟩
    · exact .inl (eN b o hbP e), fun b o e => eN b o (neP b o e) (S1.ex b o e), fun a h h' => (h' h).elim, fun _ => T1⟩
  have S2 := S1.gr g1
  -- what comes of the lambda
  obtain ⟨o, ho, qo⟩ : ∃ o, tHR C W σ H1 H env1 Q (cl f [.fz o]) ∧ ∀ (CZ : Ctx) (HZ0 HZ : Hp) (σZ : L2.St) (envz : Env) (WZ : WX) (QZ : VK), CZ.T = C.T → Ext H1 HZ0 → Ext HZ0 HZ → LamX.Tabs C.T.tt HZ → (∀ p ∈ C.T.tt, HZ0 p.1 = none) → Sim CZ σZ HZ0 HZ envz →
      RQ CZ WZ σZ (KV CZ σZ QZ) HZ0 (outD o envz) →
      tI ⟨C.T, HZ0, HZ, [], 0⟩ (fun cls d _ H' => WZ cls d σZ H') cl e' σ HZ QZ := by
    have grow : ∀ {CZ : Ctx} {HZ0 HZ : Hp} {env2 : Env} {H0' H' : Hp}, CZ.T = C.T → Ext HZ0 H0' → Sim ⟨C.T, HZ0, HZ, [], 0⟩ σ H0' H' env2 → Gr CZ.T HZ0 HZ H0' H' := fun hCZ e0 S3 => ⟨e0, fun b u e => S3.keep b u e (fun z => absurd (show some b ∈ ([] : List (Option Addr)) from z) (by simp)), S3.ex, S3.fresh, fun _ => by rw [hCZ]; exact S3.tabs⟩
    cases z : ev cl e' (maskE env1) with
    | bad => rw [z] at q; exact q.elim
    | exc x env2 =>
      rw [z] at q
      obtain ⟨xc, xk, xv⟩ := x
      refine ⟨_, q, fun CZ HZ0 HZ σZ envz WZ QZ hCZ eZ e01 t tn SZ qz => ⟨HZ0, maskE env1, S2.mask eZ e01 t tn, ?_⟩⟩
      rw [z]
      intro cls d H0' H' e0 S3 hx
      refine qz cls d H0' H' e0 (SZ.gr (grow hCZ e0 S3)) ?_
      rw [hCZ]
      exact hx
    | ok u env2 =>
      rw [z] at q
      obtain ⟨⟨d, env3⟩, hfu, q⟩ := q
      refine ⟨_, q, fun CZ HZ0 HZ σZ envz WZ QZ hCZ eZ e01 t tn SZ qz => ⟨HZ0, maskE env1, S2.mask eZ e01 t tn, ?_⟩⟩
      rw [z]
      intro H0' H' e0 S3 v hv
      obtain ⟨H4, e4, S4, r4⟩ := S3.take hv hfu
      have g4 := grow (CZ := CZ) hCZ (e0.tr e4) S4
      refine qz H4 H' (e0.tr e4) (SZ.gr g4) v ?_
      show Rep _ _ _ _
      rw [hCZ]
      exact r4
  -- the def that asks
  have run : codeAny (model X.prog X.w) X.A (.call (.ref g) ⟨[.ref f'], []⟩) (CR (L2.CX X.prog X.w) X.stack X.prog X.w H1' s' Q (fun cls d H' => W cls d σ H')) s' := by
    refine run_ofS (N := Ng) (ps := [a]) (us := [.ref f']) (vs := [.ref f']) lk hcdv Sg hr I1.env0 (hb s' [.ref f'] I1.kIn rfl) (.cons rfl .nil) rfl fun hr' => ?_
    have hask : ∀ (WZ : WX) (pn : List (Addr × Obj)) (xe : Value → Shared → Prop) (p1 p2 : Pos), Takes ((cxOf (L2.CX X.prog X.w) X.prog X.w X.K X.mg X.base Ng x (defScope stg) g cdv X.A X.stack s' H1' (fun cls d H' => W cls d σ H')).tr pn xe) WZ →
        PE ((cxOf (L2.CX X.prog X.w) X.prog X.w X.K X.mg X.base Ng x (defScope stg) g cdv X.A X.stack s' H1' (fun cls d H' => W cls d σ H')).tr pn xe) (.Call (.Name a p1) [] [] p2) (tI ⟨C.T, H1, H1', [], f'⟩ WZ (askCl o cl0) (.ask 0)) := by
      intro WZ pn xe p1 p2 tkZ
      refine ⟨fun pinsZ sZ σZ HZ QZ IZ ⟨HZ0, envz, SZ, qz⟩ => ?_⟩
      simp only [ev] at qz
      split at qz
      rotate_left
      · exact qz.elim
      rename_i hfn0
      have hs0 : σZ[0]? = some (some (.ref f')) := by
        have z := SZ.slots 0
        rw [hfn0] at z
        exact z
      have hcZ : HZ c' = some (CodeO c' (X.env.qual ++ "<lambda>")) := (SZ.keep c' _ hco (fun z => absurd (show some c' ∈ ([] : List (Option Addr)) from z) (by simp))).at fun ps z => codeO_ne ps z
      have qz' : RQ ⟨C.T, H1, H1', [], f'⟩ WZ σZ (KV ⟨C.T, H1, H1', [], f'⟩ σZ QZ) HZ0 (outD o envz) := by
        rw [ask_out] at qz
        exact qz
      have ht := qo ⟨C.T, H1, H1', [], f'⟩ HZ0 HZ σZ envz WZ QZ rfl SZ.ex0 SZ.ex SZ.tabs SZ.tno SZ qz'
      refine wpAny_Call_Name_kw (thn ((pe_var (pos := p1) (i := 0) hNg hva hd hcd).run pinsZ sZ σZ HZ (fun v H1 => v = .ref f' ∧ H1 = HZ) IZ ⟨.ref f', hs0, rfl, rfl⟩) fun u s1 ⟨v, H2, I2, r2, q2⟩ => ?_)
      obtain ⟨ev', eH⟩ := q2
      subst ev'
      rw [eH] at I2
      obtain rfl : u = Value.ref f' := r2
      have of1 : s1.heap.get? f' = some (PySem.W.kla_obj "<lambda>" (X.env.qual ++ "<lambda>") params body scope (cloFrom X.env.cells scope.names []) pm' c' ctv) := I2.base.keep f' _ hf' hfn hfr (fun z => nomatch (show f' ∈ ([] : List Addr) from z))
      refine PySem.W.callWith_F0 ⟨_, _, _, _, of1⟩ ?_
      have un : Un (frs X.stack) [] H1' HZ s'.heap s1.heap := I2.base
      obtain ⟨⟨oc, vs', t, hoc, hdc, hvc⟩, _, _⟩ := I2.hok c' _ hcZ
      have rc : codeAny (model X.prog X.w) (X.A.deeper (envOfC x (defScope stg) s'.heap.objs.size g cdv)) (.call (.ref f') ⟨[], []⟩) (CR (L2.CX X.prog X.w) (envOfC x (defScope stg) s'.heap.objs.size g cdv :: X.stack) X.prog X.w HZ s1 QZ (fun cls d H' => WZ cls d σZ H')) s1 := by
        refine PySem.W.kla_callFunE hr'.depth of1 rfl L.co L.gen rfl ⟨c', oc, vs', t, rfl, hoc, hdc, hvc⟩ ?_
        rw [hbind]
        refine wpAny_pure (wpAny_newFunctionEnv (fun y hy => (L.own y hy).2) (fun y hy => absurd hy (by simp)) (fun h₁ hns hsb => ⟨I2.nolimit.fresh _ hsb, ?_⟩) L.kind)
        show codeAny _ _ (.expr body (lamEnv X scope s1.heap.objs.size f' c')) _ _
        have kp : ∀ b o, s1.heap.get? b = some o → h₁.get? b = some o := fun b o e => hsb.extBut b o (Nat.ne_of_lt (Heap.lt_size e)) (Heap.get?_push_of_some _ e)
        have J : Inv (lamCx X (X.A.deeper (envOfC x (defScope stg) s'.heap.objs.size g cdv)) (envOfC x (defScope stg) s'.heap.objs.size g cdv :: X.stack) s1 HZ (fun cls d H' => WZ cls d σZ H') scope f' c') [] σ HZ { s1 with heap := h₁, toks := s1.toks + ([] : List (Str × Value)).length } :=
          lam_start2 I1 L I2.env0 hr'.hd un hns kp
        have hrl : Room j (lamCx X (X.A.deeper (envOfC x (defScope stg) s'.heap.objs.size g cdv)) (envOfC x (defScope stg) s'.heap.objs.size g cdv :: X.stack) s1 HZ (fun cls d H' => WZ cls d σZ H') scope f' c').A := hr'.deeper _
        have hpe := hbody (Y := lamCx X (X.A.deeper (envOfC x (defScope stg) s'.heap.objs.size g cdv)) (envOfC x (defScope stg) s'.heap.objs.size g cdv :: X.stack) s1 HZ (fun cls d H' => WZ cls d σZ H') scope f' c') (CY := ⟨C.T, HZ0, HZ, [], 0⟩) (WY := fun cls d _ H' => WZ cls d σZ H')
          hK (by have := hrl.un; omega) (by have := hrl.un; omega) hgd hrl (takes_of rfl rfl rfl rfl) (passes_of rfl) ⟨_, _, _, _, _, _, _, rfl, rfl⟩
        refine PySem.W.kla_codeExpr (wpAny_mono (hpe.run [] _ _ HZ QZ J ht) (fun v s' hq => ?_) fun e s' hq => hq)
        obtain ⟨w', H', J', rv, q⟩ := hq
        exact ⟨w', H', J'.os, J'.bare, J'.base, J'.hok, rv, q⟩
      refine wpAny_call (codeAny_mono rc fun r s2 hq => ?_)
      cases r with
      | error e => exact tkZ _ _ (XE.of_call I2 (fun _ _ _ z => z) hq)
      | ok fl =>
        cases fl with
        | ret u => exact I2.after hq
        | next => exact False.elim hq
        | brk => exact False.elim hq
        | cont => exact False.elim hq
    have hP := hG (Z := cxOf (L2.CX X.prog X.w) X.prog X.w X.K X.mg X.base Ng x (defScope stg) g cdv X.A X.stack s' H1' (fun cls d H' => W cls d σ H')) (CZ := ⟨C.T, H1, H1', [], f'⟩) (WZ := fun cls d _ H' => W cls d σ H') (o := o)
      hK (by have := hr'.un; exact (by omega : (X.A.deeper (envOfC x (defScope stg) s'.heap.objs.size g cdv)).units + 64 < cLine)) (by have := hr'.un; exact (by omega : (X.A.deeper (envOfC x (defScope stg) s'.heap.objs.size g cdv)).units + 200 < cLine)) hgd hr' (takes_of rfl rfl rfl rfl) (passes_of rfl) ⟨_, _, _, _, _, _, rfl, rfl⟩ hask
    refine ⟨_, hP, H1, lamE F.n, sim_lam hln (by rw [← hln]; exact (List.getElem?_eq_some_iff.mp hNg).1) S2.ex S2.tb, ?_⟩
    rw [hf o (fun z => by rw [z] at ho; exact ho)] at ho
    unfold finR at ho
    have back : ∀ {CZ : Ctx} {σZ : L2.St} {H0' H' : Hp} {envz : Env}, CZ = ⟨C.T, H1, H1', [], f'⟩ → Sim CZ σZ H0' H' envz → Gr C.T H1 H1' H0' H' := fun hCZ SZ => by
      subst hCZ
      exact ⟨SZ.ex0, fun b u e => SZ.keep b u e (fun z => absurd (show some b ∈ ([] : List (Option Addr)) from z) (by simp)), SZ.ex, SZ.fresh, fun _ => SZ.tabs⟩
    cases z : exs (askCl o cl0) F.body (lamE F.n) with
    | bad => simp only [z] at ho; exact ho
    | exc x env5 =>
      simp only [z, outsOf, finX] at ho
      intro σ5 cls d H0' H' _ S5 hx
      have g5 := back rfl S5
      exact ho cls d H0' H' (g1.tr g5) hx
    | ok fl env5 =>
      simp only [z, outsOf] at ho
      cases fl with
      | brk => exact ho.elim
      | cont => exact ho.elim
      | next =>
        intro σ5 H0' H' _ S5
        have g5 := back rfl S5
        exact ho H0' H' (g1.tr g5) .non (by show Rep _ _ _ _; simp only [Rep])
      | ret u =>
        intro σ5 H0' H' v _ S5 hv
        have g5 := back rfl S5
        cases u with
        | sl i => exact ho.elim
        | d y => exact ho H0' H' (g1.tr g5) v hv
        | nw y =>
          simp only [finO] at ho
          have h' : RepN ⟨C.T, H1, H1', [], f'⟩ σ5 H0' H' env5 y v := hv
          unfold RepN at h'
          unfold nrm at ho
          by_cases hmu : isMutD y = true
          · rw [if_pos hmu] at h' ho
            obtain ⟨b, rfl, hb1, hb2, _⟩ := h'
            refine ho H0' H' (g1.tr g5) _ ?_
            exact RepG.nw S2 (by unfold RepG; rw [if_pos hmu]; exact ⟨b, rfl, hb1, hb2⟩)
          · rw [if_neg hmu] at h' ho
            exact ho H0' H' (g1.tr g5) _ h'
  refine wpAny_call (codeAny_mono run fun r s2 hq => ?_)
  cases r with
  | error e => exact tk _ _ (XE.of_call I1 (fun _ _ _ z => z) hq)
  | ok fl =>
    cases fl with
    | ret u => exact I1.after hq
    | next => exact False.elim hq
    | brk => exact False.elim hq
    | cont => exact False.elim hq
theorem c_heard {x a : Str} {g c P : Addr} {f j : Nat} {stg : Stmt} {fdg : FuncData} {Ng : List Str} {F : Fn} {vs : List Nat} {params : Arguments} {body : Expr} {scope : Scope}
    (hg : Gl X x) (hm : X.mg x = some (.ref g)) (Fg : Fun X.K x x stg g fdg) (Sg : FnScope Ng [a] (defScope stg)) (hNg : Ng[0]? = some a) (hva : Vis (defScope stg) a) (hln : Ng.length = F.n) (hb : Binds X.K fdg [a] [])
    (hf : ∀ o, cl f [.fz o] ≠ .bad → cl f [.fz o] = finR [] (exs (askCl o cl0) F.body (lamE F.n)))
    (hG : HearG X.prog X.w X.K X.mg X.base Ng x a stg g C.T cl0 F (j + 1))
    (TB : TabB X.base X.mg c P) (hcode : X.env.code = .ref c) (hmT : (P, X.env.qual ++ "<lambda>") ∈ C.T.tt) (hu : ∀ q ∈ C.T.tt, q.1 = P → q.2 = X.env.qual ++ "<lambda>")
    (hK : X.K = C.T.K) (hgd : X.A.guards = some []) (hr : Room (j + 2) X.A) (tk : Takes X W) (L : LamS X.env.scope scope) (hdef : defaultsOf params X.env = ([], []))
    (hbind : ∀ (q : Str) (cl : List (Str × Addr)) (pm cv ctv : Value), bindArgs (PySem.W.kla_fn "<lambda>" q params body scope cl pm cv ctv) ⟨[], []⟩ = pure [])
    (hbody : ∀ {Y : Cx} {CY : Ctx} {WY : WX}, Y.K = CY.T.K → Y.A.units + 64 < cLine → Y.A.units + 200 < cLine → Y.A.guards = some [] → Room j Y.A → Takes Y WY → PassesOwn (model Y.prog Y.w) Y.A Y.env Y.xe →
      (∃ (A : Around) (outer : List PySem.Env) (s : Shared) (H : Hp) (E : XK) (f c' : Addr), Y = lamCx X A outer s H E scope f c' ∧ CY.T = C.T) → PE Y body (tI CY WY cl e'))
    (hdb : (x == ("__debug__" : Str)) = false := by decide) (hd : (a == ("__debug__" : Str)) = false := by decide) (hcd : (a == ("__classdict__" : Str)) = false := by decide) :
    PE X (.Call (.Name x p) [.Lambda params body scope lpos] [] pos) (tI C W cl (.heard f vs e')) :=
  peI (c_heardG hg hm Fg Sg hNg hva hln hb hf hG TB hcode hmT hu hK hgd hr tk L hdef hbind hbody hdb hd hcd) fun σ H Q ⟨H0, env, S, q⟩ => by
    simp only [ev] at q
    obtain ⟨env1, hfz, q⟩ := q.orB
    obtain ⟨H1, e1, S1⟩ := S.frzAll hfz
    have q := RQ.mono e1 q
    have key : ∀ o, RQ C W σ (KV C σ Q) H1 (hearC cl f o env1) → tHR C W σ H1 H env1 Q (cl f [.fz o]) := fun o ho => by
      unfold hearC at ho
      cases z : cl f [.fz o] with
      | bad => rw [z] at ho; exact ho
      | exc x outs => rw [z] at ho; exact fun cls d H0' H' g hx => ho cls d H0' H' g.e0 (S1.gr g) hx
      | ok r outs => rw [z] at ho; exact fun H0' H' g v hv => ho H0' H' g.e0 (S1.gr g) v hv
    refine ⟨env1, H1, S1, ?_⟩
    cases z : ev cl e' (maskE env1) with
    | bad => rw [z] at q; exact q
    | exc x env2 => rw [z] at q; exact key _ q
    | ok u env2 =>
      rw [z] at q
      simp only at q
      obtain ⟨p, hfu, q⟩ := q.orB
      exact ⟨p, hfu, key _ q⟩
end
end PP
end
section
set_option maxHeartbeats 2000000
namespace PP
open PySem PySem.Spec PyProof.Rows L2
section
variable {X : Cx} {C : Ctx} {W : WX} {cl : CallF} {e a b : Expr} {es : List Expr} {e' a' b' : Ex} {es' : Exs} {pos : Pos}
def tPs (C : Ctx) (W : WX) (cl : CallF) : Exs → List TE
  | .nil => []
  | .cons e es => tFmt (tI C W cl e) :: tPs C W cl es
  | .star _ _ => []
theorem joinsI {σ : L2.St} {Q : Str → Hp → Prop} : ∀ (es : Exs) (acc : Str) (H H0 : Hp) (env : Env), Sim C σ H0 H env → RQ C W σ (fun z _ _ H' => Q z H') H0 (evJ cl es acc env) → tJs (tPs C W cl es) acc σ H Q
  | .nil, acc, H, H0, env, S, q => q H0 H (Ext.rfl' _) S
  | .star _ _, acc, H, H0, env, S, q => q.elim
  | .cons e es, acc, H, H0, env, S, q => by
    simp only [evJ] at q
    refine seqI S q fun u env1 x H1 H1' e1 S1 u1 q1 => ?_
    obtain ⟨d, hd, q2⟩ := q1.orB
    obtain ⟨y, hy, q3⟩ := q2.orB
    have r := S1.rd u1 hd
    have key : (acc ++ y).length ≤ sizeLine ∧ tJs (tPs C W cl es) (acc ++ y) σ H1' Q := by
      split at q3
      · rename_i hl
        exact ⟨Nat.le_trans hl lim_line, joinsI es (acc ++ y) H1' H1 env1 S1 q3⟩
      · exact q3.elim
    unfold fmtD at hy
    split at hy
    · split at hy
      · rename_i hz
        cases hy
        cases rd_str r
        exact .inl ⟨_, rfl, Nat.le_trans hz lim_line, _, rfl, key⟩
      · cases hy
    · split at hy
      · rename_i hz
        cases hy
        cases rd_int r
        exact .inr ⟨_, rfl, hz, _, rfl, key⟩
      · cases hy
    · cases hy
theorem str_empty_app (y : Str) : Str.empty ++ y = y := by
  refine TL.ext_tl ?_
  rw [TL.tl_append]
  rfl
theorem tI_mono {σ : L2.St} {H : Hp} {Q Q' : VK} (h : ∀ v H', Q v H' → Q' v H') (q : tI C W cl e' σ H Q) : tI C W cl e' σ H Q' := by
  obtain ⟨H0, env, S, q⟩ := q
  refine ⟨H0, env, S, ?_⟩
  cases z : ev cl e' env with
  | bad => rw [z] at q; exact q
  | exc x env1 => rw [z] at q; exact q
  | ok u env1 => rw [z] at q; exact fun H0' H' e1 S1 v hv => h v H' (q H0' H' e1 S1 v hv)
theorem c_fstr1 (h : PE X e (tFmt (tI C W cl e'))) : PE X (.JoinedStr [e] pos) (tI C W cl (.fstr (.cons e' .nil))) := peI (pe_joined1 h) fun σ H Q ⟨H0, env, S, q⟩ => by
  simp only [ev] at q
  have z := joinsI (C := C) (W := W) (cl := cl) (σ := σ) (Q := fun out H1 => Q (.str out) H1) (.cons e' .nil) Str.empty H H0 env S (by
    cases z : evJ cl (.cons e' .nil) Str.empty env with
    | bad => rw [z] at q; exact q
    | exc x env1 => rw [z] at q; exact q
    | ok y env1 =>
      rw [z] at q
      exact fun H0' H' e' S' => q H0' H' e' S' (.str y) (by show RepN _ _ _ _ _ _ _; unfold RepN; rw [if_neg (by simp [isMutD])]; simp only [Rep]))
  simp only [tPs, tJs] at z
  refine tI_mono (fun x H1 hx => ?_) z
  rcases hx with ⟨y, e1, h1, y', e2, _, q1⟩ | ⟨i, e1, h1, y', e2, _, q1⟩
  · cases e2
    rw [str_empty_app] at q1
    exact .inl ⟨y, e1, h1, q1⟩
  · cases e2
    rw [str_empty_app] at q1
    exact .inr ⟨i, e1, h1, q1⟩
end
end PP
end
section
set_option maxHeartbeats 2000000
namespace PP
open PySem PySem.Spec PyProof.Rows L2
theorem tyN_tys {d : D} (h : isObjD d = false) : tyN d ∈ tys := by
  cases d <;> first | (cases h; done) | (show tyN _ ∈ tys; simp [tyN, tys])
/-- the address of a name of the main module -/
def adr (K : PySem.W.Frag) (x : Str) : Option Addr := match PySem.W.nsIn K mainGlobals x with
  | some (some (.ref C)) => some C
  | _ => none
theorem adr_of {K : PySem.W.Frag} {x : Str} {C : Addr} (h : PySem.W.nsIn K mainGlobals x = some (some (.ref C))) : adr K x = some C := by
  unfold adr
  rw [h]
theorem na_of {K : PySem.W.Frag} {C : Addr} {fs : List Str} (h : naB K C fs = true) : ∀ f ∈ fs, NoAttr K C f := fun f hf => (of_decide_eq_true (List.all_eq_true.mp h f hf) : PySem.W.findIn K (.ref C) f = some none)
theorem cls_of {K : PySem.W.Frag} {C : Addr} (h : clsB K C = true) : Cls K C := by
  unfold clsB at h
  simp only [Bool.and_eq_true, decide_eq_true_eq] at h
  exact ⟨h.1, h.2.1, h.2.2.1, h.2.2.2⟩
theorem xf_of {K : PySem.W.Frag} {C : Addr} (h : xcB K C = true) : XfC K C := xfB_ok (Bool.and_eq_true_iff.mp h).1
theorem xc_of {K : PySem.W.Frag} {C : Addr} (h : xcB K C = true) : ExcC K C := by
  obtain ⟨h1, h2⟩ := Bool.and_eq_true_iff.mp h
  have x := xfB_ok h1
  unfold cgB at h2
  simp only [Bool.and_eq_true, decide_eq_true_eq] at h2
  exact ⟨x.ga, x.gg, x.exC, x.hdC, h2.1, h2.2.1, h2.2.2.1, h2.2.2.2⟩
theorem iso_of {X : Cx} {T : Tbl} {cs : List Nat} {u : Addr} {l : List (Addr × Bool)} (h : isoB X.K u l = true) (hl : ∀ c C, T.cn c = some C → (C, cs.contains c) ∈ l ∧ (T.ec c = true → ExcC X.K C) ∧ (T.ec c = false → Cls X.K C ∧ cgB X.K C = true)) : IsO X T cs (.ref u) := by
  obtain ⟨h1, h2⟩ := Bool.and_eq_true_iff.mp h
  refine ⟨fun d hd => of_decide_eq_true (List.all_eq_true.mp h1 _ (tyN_tys hd)), fun c C hc he => ?_, fun c C hc he => ?_⟩
  · obtain ⟨m, x, _⟩ := hl c C hc
    exact ⟨x he, of_decide_eq_true (List.all_eq_true.mp h2 _ m)⟩
  · obtain ⟨m, _, x⟩ := hl c C hc
    obtain ⟨x1, x2⟩ := x he
    unfold cgB at x2
    simp only [Bool.and_eq_true, decide_eq_true_eq] at x2
    exact ⟨of_decide_eq_true (List.all_eq_true.mp h2 _ m), x1, x2.1, x2.2.1, x2.2.2.1, x2.2.2.2⟩
theorem nf_of {K : PySem.W.Frag} {T : Tbl} {C : Addr} {Cs : List Addr} (h : nfB K C Cs = true) (hl : ∀ c' C', T.cn c' = some C' → C' ∈ Cs) : NFs K T C := by
  obtain ⟨h1, h2⟩ := Bool.and_eq_true_iff.mp h
  exact ⟨fun t ht => List.all_eq_true.mp h1 t ht, fun c' C' hc => List.all_eq_true.mp h2 _ (hl c' C' hc)⟩
theorem bc_of {K : PySem.W.Frag} {C : Addr} {op : Operator} {ts : List Nat} (h : bcB K C op = true) : BinC K C op ts := by
  unfold bcB at h
  rw [Bool.and_eq_true, Bool.and_eq_true] at h
  obtain ⟨h1, h2, h3⟩ := h
  refine ⟨h1, ?_, fun d hd _ => ?_⟩
  · cases z : PySem.W.findIn K (.ref C) (dunderR op.info.2) with
    | none => rw [z] at h2; cases h2
    | some r =>
      refine ⟨r, rfl, ?_⟩
      cases r with
      | none => exact .inl rfl
      | some v =>
        rw [z] at h2
        cases v <;> first | (cases h2; done) | exact .inr ⟨_, rfl⟩
  · have q := List.all_eq_true.mp h3 _ (tyN_tys hd)
    rw [Bool.and_eq_true, Bool.and_eq_true, decide_eq_true_eq] at q
    obtain ⟨q1, q2, q3⟩ := q
    obtain ⟨a, ha⟩ := Option.isSome_iff_exists.mp q1
    obtain ⟨b, hb⟩ := Option.isSome_iff_exists.mp q2
    exact ⟨⟨a, b, ha, hb⟩, q3⟩
theorem ne_of' {K : PySem.W.Frag} {C : Addr} (h : neB K C = true) : NeC K C := by
  obtain ⟨h1, h2⟩ := Bool.and_eq_true_iff.mp h
  exact ⟨of_decide_eq_true h1, of_decide_eq_true h2⟩
theorem exm_of {K : PySem.W.Frag} {CE : Addr} {Cs : List Addr} (h : exmB K CE Cs = true) {C : Addr} (hc : C ∈ Cs) : PySem.W.exmOne K (.ref C) (.ref CE) = some true := of_decide_eq_true (List.all_eq_true.mp h C hc)
/-- an exception class of one's own -/
theorem oex_of {K : PySem.W.Frag} {C : Addr} {nm q : Str} {N : Addr} {bs bm : List Value} {sn : List Str} {sub : List Value} {ab : Bool} {col : Option Bool} {dd : Option Addr} {k0 k1 k2 k3 k5 : Option Value} (h : K.lookup C = some (excClassObj nm q C N bs bm true sn sub ab col dd k0 k1 k2 k3 k5 "ValueError.__new__")) (hr : PySem.HandSPX.refsVE bm = true)
    (h2 : (decide (PySem.W.findIn K (.ref C) "__setattr__" = some (some (.builtin "object.__setattr__"))) && (decide (PySem.W.subIn K (.ref C) (.type "BaseException") = some true) && (decide (PySem.W.typeIn K (.ref C) = some (.type "type")) && PySem.W.keepIn K (.ref C)))) = true) : OexC K C := by
  simp only [Bool.and_eq_true, decide_eq_true_eq] at h2
  exact ⟨⟨_, _, _, _, _, _, _, _, _, _, _, _, _, _, _, h, hr⟩, h2.1, h2.2.1, h2.2.2.1, h2.2.2.2⟩
theorem tt_mem {K : PySem.W.Frag} {names : List Str} {x : Str} {c P : Addr} (h : PySem.W.tabIn K x = some (c, P)) (hx : x ∈ names) : (P, x ++ ".<locals>." ++ "<lambda>") ∈ ttOf K names :=
  List.mem_filterMap.mpr ⟨x, hx, by rw [h]; rfl⟩
theorem tt_un {K : PySem.W.Frag} {names : List Str} {P : Addr} {y : Str} (h : ttB K names P y = true) : ∀ q ∈ ttOf K names, q.1 = P → q.2 = y := fun q hq e => by
  have z := List.all_eq_true.mp h q hq
  rw [e] at z
  simpa using z
theorem cs_tt {names : List Str} {K : PySem.W.Frag} : ∀ p ∈ ttOf K names, ∃ q ∈ csOf names K, q.2 = p.1 := fun p hp => by
  obtain ⟨x, hx, e⟩ := List.mem_filterMap.mp hp
  rw [Option.map_eq_some_iff] at e
  obtain ⟨q, hq, rfl⟩ := e
  exact ⟨q, List.mem_filterMap.mpr ⟨x, hx, hq⟩, rfl⟩
/-- defaults -/
theorem binds_of {K : PySem.W.Frag} {x qual : Str} {st : Stmt} {dvs : List V} {f : Addr} {fd : FuncData} {ps : List Str} (F : FunD K x qual (defArgs st) (defBody st) (defScope st) dvs [] f fd) (n j : Nat) (hd : dvs ≠ []) (hn : n + (dvs.length - j) = ps.length)
    (h : ∀ (T : Addr) (kV doc pm : Value) (an : Option Addr) (cdv ct : Value) (us its : List Value), us.length = n → its.length = dvs.length →
      ∃ k, bindArgs (PySem.W.fnOf x qual (defArgs st) (defBody st) (defScope st) (.ref T) kV doc pm an cdv ct) ⟨us, []⟩ = seqItems? (.ref T) >>= k ∧ k (some its.toArray) = pure (ps.zip (us ++ its.drop j))) : ∃ ds, Vals (dvs.drop j) ds ∧ Binds K fd ps ds := F.binds1 n j hd hn h
theorem funD_V {K : PySem.W.Frag} {x qual : Str} {st : Stmt} {dvs : List V} {kws : List (Str × V)} {f : Addr} {fd : FuncData} (F : FunD K x qual (defArgs st) (defBody st) (defScope st) dvs kws f fd) : FunV K x qual st f fd := by
  obtain ⟨oc, od, dV, kV, doc, pm, an, cdv, ct, osl, e, l, c, _, _⟩ := F.ex
  exact ⟨⟨oc, od, dV, kV, doc, pm, an, cdv, ct, osl, e, l, c⟩, F.kp⟩
theorem hear_calls {fs : Nat → Option Fn} {F : Fn} {k f : Nat} {o : D} (hF : fs f = some F) (hl : F.lam = true) (h : calls fs k f [.fz o] ≠ .bad) : calls fs k f [.fz o] = finR [] (exs (askCl o (calls fs (k - 1))) F.body (lamE F.n)) := by
  cases k with
  | zero => exact absurd rfl h
  | succ k =>
    show (match fs f with | some F => _ | none => _) = _
    rw [hF]
    show (match F.lam with | false => _ | true => _) = _
    rw [hl]
    rfl
theorem isb_of {X : Cx} {T : Tbl} {l : List Addr} {t : String} (h : isbB X.K l = true) (ht : t ∈ tys) (hl : ∀ c C, T.cn c = some C → C ∈ l ∧ (T.ec c = true → ExcC X.K C) ∧ (T.ec c = false → Cls X.K C ∧ cgB X.K C = true)) : IsB X T (.type t) := by
  have h2 := List.all_eq_true.mp h t ht
  refine ⟨fun c C hc he => ?_, fun c C hc he => ?_⟩
  · obtain ⟨m, x, _⟩ := hl c C hc
    exact ⟨x he, of_decide_eq_true (List.all_eq_true.mp h2 _ m)⟩
  · obtain ⟨m, _, x⟩ := hl c C hc
    obtain ⟨x1, x2⟩ := x he
    unfold cgB at x2
    simp only [Bool.and_eq_true, decide_eq_true_eq] at x2
    exact ⟨of_decide_eq_true (List.all_eq_true.mp h2 _ m), x1, x2.1, x2.2.1, x2.2.2.1, x2.2.2.2⟩
end PP
end
section
set_option maxHeartbeats 1000000
namespace PP
open PySem L2
end PP
end
section
set_option maxHeartbeats 1000000
namespace PP
open PySem L2
def FnGS (P : Program) (w : World) (K : PySem.W.Frag) (mg : Str → Option Value) (base : Heap) (k : Nat) (f : Addr) (sp : Sp) : Prop :=
  ∀ (A : Around) (outer : List PySem.Env) (s : Shared) (H : Hp) (us : List Value) (vs : List V) (Q : VK) (E : XK), A.guards = some [] → Room k A → Env0 P w K mg base A outer s H → Vals vs us → sp vs H Q E →
    codeAny (model P w) A (.call (.ref f) ⟨us, []⟩) (CR (L2.CX P w) outer P w H s Q E) s
theorem FnGS.up {P : Program} {w : World} {K : PySem.W.Frag} {mg : Str → Option Value} {base : Heap} {j k : Nat} {f : Addr} {sp : Sp} (F : FnGS P w K mg base j f sp) (h : j ≤ k) : FnGS P w K mg base k f sp :=
  fun A outer s H us vs Q E hg hr => F A outer s H us vs Q E hg (hr.mono h)
theorem arOk_fz {T : Tbl} {H0 H : Hp} : ∀ {ds : List D} {vs : List V}, RepAll T H0 ds vs → ArOk T H0 H (ds.map .fz) vs
  | [], vs, h => by simp only [RepAll] at h; exact h
  | d :: ds, vs, h => by
    simp only [RepAll] at h
    obtain ⟨v, r, rfl, h1, h2⟩ := h
    exact ⟨v, r, rfl, h1, arOk_fz h2⟩
theorem allFz_map : ∀ ds : List D, allFz (ds.map .fz) = true
  | [] => rfl
  | d :: ds => allFz_map ds
theorem args_fz (env : Env) : ∀ ds : List D, argsOf env (ds.map fun _ => false) (ds.map .d) = some (ds.map .fz)
  | [] => rfl
  | d :: ds => by simp only [List.map_cons, argsOf, args_fz env ds, Option.map_some]
theorem io_fz : ∀ ds : List D, ioSlots (ds.map U.d) = []
  | [] => rfl
  | d :: ds => io_fz ds
theorem run_fz (cl : CallF) (f : Nat) (ds : List D) (env : Env) : runC cl f (ds.map fun _ => false) (ds.map .d) env = match cl f (ds.map .fz) with
  | .ok r _ => .ok r env
  | .exc x _ => .exc x env
  | .bad => .bad := by
  unfold runC
  rw [args_fz]
  simp only [orBad_some, io_fz, dupFree, if_true]
  cases cl f (ds.map .fz) with
  | ok r outs => cases outs <;> rfl
  | exc x outs => cases outs <;> rfl
  | bad => rfl
section
variable {X : Cx} {C : Ctx} {W : WX} {cl : CallF} {e : Expr} {es : List Expr} {es' : Exs} {pos p : Pos}
theorem FnGS.go {k : Nat} {f : Addr} {sp : Sp} {pins : List (Addr × Obj)} {σ : L2.St} {H : Hp} {s : Shared} {Q : VK} {us : List Value} {vs : List V} {E : XK}
    (F : FnGS X.prog X.w X.K X.mg X.base k f sp) (hgd : X.A.guards = some []) (hr : Room k X.A) (tk : Takes X W) (hE : ∀ cls d H', E cls d H' → W cls d σ H')
    (I : Inv X pins σ H s) (r : Vals vs us) (h : sp vs H Q E) : wpAny (model X.prog X.w) X.A (call (.ref f) us) (EP X pins σ Q) X.xe s := by
  refine wpAny_call (codeAny_mono (F X.A X.stack s H us vs Q E hgd hr I.env0 r h) fun res s' hq => ?_)
  cases res with
  | error ee => exact tk _ _ (XE.of_call I hE hq)
  | ok fl =>
    cases fl with
    | ret u => exact I.after hq
    | next => exact hq.elim
    | brk => exact hq.elim
    | cont => exact hq.elim
end
end PP
end
section
set_option maxHeartbeats 1000000
namespace PP
open PySem PySem.Spec PyProof.Rows L2
end PP
end
section
set_option maxHeartbeats 1000000
namespace PP
open PySem PySem.Spec PyProof.Rows L2
end PP
end
section
set_option maxHeartbeats 1000000
namespace PP
open PySem PySem.Spec PyProof.Rows L2
theorem RepAll.erase {T : Tbl} {H : Hp} : ∀ {ds : List D} {vs : List V} (j : Nat), RepAll T H ds vs → RepAll T H (ds.eraseIdx j) (vs.eraseIdx j)
  | [], vs, j, h => by simp only [RepAll] at h; subst h; simp [RepAll]
  | d :: ds, vs, 0, h => by simp only [RepAll] at h; obtain ⟨v, r, rfl, _, h2⟩ := h; exact h2
  | d :: ds, vs, j + 1, h => by
    simp only [RepAll] at h
    obtain ⟨v, r, rfl, h1, h2⟩ := h
    simp only [List.eraseIdx_cons_succ, RepAll]
    exact ⟨v, _, rfl, h1, RepAll.erase j h2⟩
end PP
end
section
set_option maxHeartbeats 1000000
namespace PP
open PySem PySem.Spec PyProof.Rows L2
section
variable {X : Cx} {C : Ctx} {W : WX} {cl : CallF} {a b e o : Expr} {es : List Expr} {a' b' e' o' : Ex} {es' : Exs} {pos p apos : Pos}
/-- C.m(..), m a classmethod -/
theorem readCmt {σ : L2.St} {H : Hp} {Q : VK} {c m n : Nat} {Ca : Addr} (hcn : C.T.cn c = some Ca) (h : tI C W cl (.cmt c m n es') σ H Q) : tAF C W cl es' σ H fun vs H1 => spF C.T cl (spec c m) (n + 1) (.ref Ca :: vs) H1 Q fun cls d H' => W cls d σ H' := by
  obtain ⟨H0, env, S, q⟩ := h
  simp only [ev] at q
  refine ⟨H0, env, S, ?_⟩
  cases z : evF cl es' env with
  | bad => rw [z] at q; exact q.elim
  | exc x env1 => rw [z] at q; exact q
  | ok ds env1 =>
    rw [z] at q
    simp only [R.bind_ok] at q
    split at q
    · rename_i hn
      intro H1 H1' e1 S1 vs hv
      have hv2 : RepAll C.T H1 (.cls c :: ds) (.ref Ca :: vs) := by
        simp only [RepAll]
        exact ⟨_, _, rfl, by simp only [Rep]; exact ⟨Ca, hcn, rfl⟩, hv⟩
      have z2 := read_run (us := (D.cls c :: ds).map .d) (ms := (D.cls c :: ds).map fun _ => false) (n := n + 1) (Q := Q) S1 (UcOk.app (us := []) (vs := []) hv2 rfl) (by simp [hn]) (f := spec c m) (cl := cl) (by
        rw [run_fz]
        exact RQ.mono e1 q)
      exact z2
    · exact q.elim
theorem c_cmt {x mn : Str} {p1 apos : Pos} {k c m n : Nat} {Ca pp g : Addr} {mc : Value} {fd : FuncData} {ps : List Str} {pl : Sem Bool} (F : FnG X.prog X.w X.K X.mg X.base k g fd ps (spF C.T cl (spec c m) (n + 1))) (hgd : X.A.guards = some []) (hr : Room k X.A) (tk : Takes X W)
    (hg : Gl X x) (hm : X.mg x = some (.ref Ca)) (hcn : C.T.cn c = some Ca) (r : ClX.CRead X.K Ca mc) (M : ClX.CMet X.K Ca mc mn pp g) (hb : Binds X.K fd ps []) (ha : PA X (e :: es) (tAF C W cl es')) (hdb : (x == ("__debug__" : Str)) = false := by decide)
    (he : starEach (e :: es) X.env = (false, eval e X.env) :: starEach es X.env := by rfl) (hpl : (backTo pos (starEach es X.env)).any (·.1) = false := by rfl)
    (ht : eval (.Call (.Attribute (.Name x p1) mn apos) (e :: es) [] pos) X.env = (do
      let ov ← eval (.Name x p1) X.env
      standAt apos.atName
      let (f, first) ← holding [ov] (getMethod ov mn pl)
      callWith pos f first (backTo pos (starEach (e :: es) X.env)) (backToKw pos (keywordEach [] X.env))) := by rfl) : PE X (.Call (.Attribute (.Name x p1) mn apos) (e :: es) [] pos) (tI C W cl (.cmt c m n es')) := by
  refine peI (t := fun σ H Q => tAF C W cl es' σ H fun vs H1 => spF C.T cl (spec c m) (n + 1) (.ref Ca :: vs) H1 Q fun cls d H' => W cls d σ H') ⟨fun pins s σ H Q I h => ?_⟩ fun σ H Q q => readCmt hcn q
  refine PySem.W.methodCall_KW (pl := pl) (ld_glob I hg hm ?_ hdb) ht
  refine ClX.getmethcm_ok I r M fun s2 I2 => ?_
  refine ClX.callwith_cm I2 (ClX.base_none I (Nat.le_refl _)) M.fi (thn (ha.run pos _ s2 σ H _ I2 h) fun us s3 ⟨vs, H2, I3, rv, q2⟩ => ⟨⟨ClX.pin_at I3, I3.kIn⟩, ?_⟩) he hpl
  have hlen : (Value.ref Ca :: us).length = ps.length := by
    have z := F.len _ _ _ _ q2
    have z2 : (Value.ref Ca :: us).length = (V.ref Ca :: vs).length := by simp only [List.length_cons]; rw [rv.length]
    rw [z2]; exact z
  have hb2 := hb s3 (.ref Ca :: us) I3.kIn (by simpa using hlen)
  have z : wpAny (model X.prog X.w) X.A (call (.ref _) us) (EP X (_ :: pins) σ Q) X.xe s3 :=
    wpAny_call (PySem.W.method_call (ClX.pin_at I3) (codeAny_mono (F.run X.A X.stack s3 H2 ⟨.ref Ca :: us, []⟩ (.ref Ca :: us) (.ref Ca :: vs) Q _ hgd hr I3.env0 (by simpa using hb2) (.cons rfl rv) q2) fun res s' hq => (by
      cases res with
      | error ee => exact tk _ _ (XE.of_call I3 (fun _ _ _ z => z) hq)
      | ok fl =>
        cases fl with
        | ret u => exact I3.after hq
        | next => exact hq.elim
        | brk => exact hq.elim
        | cont => exact hq.elim)))
  exact thn z fun _ _ y => ClX.unpinE y
/-- cls(..): a name that holds the class -/
def tMkL (C : Ctx) (W : WX) (cl : CallF) (i c n : Nat) (Ca : Addr) (es' : Exs) : TE := fun σ H Q => σ[i]? = some (some (.ref Ca)) ∧ tAF C W cl es' σ H fun vs H1 => ∀ x dx, H1 x = none → H1 dx = none → dx ≠ x →
  spF C.T cl (spec c 0) (n + 1) (.ref x :: (vs ++ [])) (upd (upd H1 dx (.own x)) x (.ins Ca dx [])) (fun v H2 => v = .non ∧ Q (.ref x) H2) fun cls d H' => W cls d σ H'
theorem cls_slot {σ : L2.St} {H0 H : Hp} {env : Env} {i c : Nat} {Ca : Addr} (S : Sim C σ H0 H env) (hcn : C.T.cn c = some Ca) (h : isClsN c (getS env i) = true) : σ[i]? = some (some (.ref Ca)) := by
  have q := S.slots i
  cases z : getS env i with
  | fz d =>
    rw [z] at q h
    cases d with
    | cls c' =>
      have hc : c = c' := by simpa [isClsN] using h
      subst hc
      obtain ⟨v, h1, h2⟩ := q
      simp only [Rep] at h2
      obtain ⟨Cb, h3, rfl⟩ := h2
      rw [hcn] at h3
      cases h3
      exact h1
    | _ => simp [isClsN] at h
  | _ => rw [z] at h; simp [isClsN] at h
theorem readMkL {σ : L2.St} {H : Hp} {Q : VK} {i c n : Nat} {Ca : Addr} (hck : C.T.ck c [] = some Ca) (h : tI C W cl (.mkL i c n es') σ H Q) : tMkL C W cl i c n Ca es' σ H Q := by
  obtain ⟨H0, env, S, q⟩ := h
  simp only [ev] at q
  split at q
  · exact q.elim
  rename_i hcl
  simp only [Bool.not_eq_true, Bool.not_eq_false'] at hcl
  refine ⟨cls_slot S (Tbl.ck_some hck).1 hcl, H0, env, S, ?_⟩
  cases z : evF cl es' env with
  | bad => rw [z] at q; exact q.elim
  | exc x env1 => rw [z] at q; exact q
  | ok ds env1 =>
    rw [z] at q
    simp only [R.bind_ok] at q
    split at q
    · rename_i hn
      intro H1 H1' e1 S1 vs hv x dx nx nd ne
      rw [List.append_nil]
      exact read_mk S1 (allFz_map ds) (arOk_fz hv) (by simp [hn]) hck nx nd ne (RQ.mono e1 q)
    · exact q.elim
theorem c_mkL {y : Str} {k i c n : Nat} {f Ca : Addr} {fd : FuncData} {ps : List Str} (M : Mk X.K Ca f) (F : FnG X.prog X.w X.K X.mg X.base k f fd ps (spF C.T cl (spec c 0) (n + 1))) (hgd : X.A.guards = some []) (room : Room (k + 1) X.A)
    (tk : Takes X W) (hN : X.N[i]? = some y) (hv : Vis X.env.scope y) (hck : C.T.ck c [] = some Ca) (bd : Binds X.K fd ps []) (ha : PA X (e :: es) (tAF C W cl es'))
    (hdb : (y == ("__debug__" : Str)) = false := by decide) (hcd : (y == ("__classdict__" : Str)) = false := by decide) (he : starEach (e :: es) X.env = (false, eval e X.env) :: starEach es X.env := by rfl) (hpl : (backTo pos (starEach es X.env)).any (·.1) = false := by rfl) : PE X (.Call (.Name y p) (e :: es) [] pos) (tI C W cl (.mkL i c n es')) := by
  refine peI (t := tMkL C W cl i c n Ca es') ⟨fun pins s σ H Q I ⟨hs, h⟩ => ?_⟩ fun σ H Q q => readMkL hck q
  refine wpAny_Call_Name_kw (thn ((pe_var (pos := p) (i := i) hN hv hdb hcd).run pins s σ H (fun v H1 => v = .ref Ca ∧ H1 = H) I ⟨.ref Ca, hs, rfl, rfl⟩) fun u s1 ⟨v, H1, I1, r1, q1⟩ => ?_)
  obtain ⟨ev', eH⟩ := q1
  subst ev' eH
  obtain rfl : u = Value.ref Ca := r1
  refine PySem.W.callWith_K (h₀ := X.base) I1.ok.mod.kin M.kp (thn (ha.run pos pins s1 σ _ _ I1 h) fun us s2 hq => ?_) he hpl
  obtain ⟨vs, H2, I2, r, q⟩ := hq
  exact ⟨I2.kIn, mk_run M F hgd room bd .nil tk (fun _ _ _ z => z) I2 r q⟩
end
end PP
end
section
set_option maxHeartbeats 1000000
namespace PP
open PySem PySem.Spec PyProof.Rows L2
end PP
end
section
set_option maxHeartbeats 1000000
namespace PP
open PySem PySem.Spec PyProof.Rows L2
end PP
namespace PP
open PySem PySem.Spec PyProof.Rows L2
end PP
end
section
set_option maxHeartbeats 1000000
namespace PP
open PySem PySem.Spec PyProof.Rows L2
end PP
end
section
set_option maxHeartbeats 1000000
namespace PP
open PySem PySem.Spec PyProof.Rows L2
end PP
end
section
set_option maxHeartbeats 1000000
namespace PP
open PySem PySem.Spec PyProof.Rows L2
end PP
end
section
namespace ZL
open PySem PySem.Spec PyProof.Rows L2
/-- what stands behind some turns -/
structure ZE (h0 h : Heap) (S : Addr) (xs ys : Array Value) (n1 i : Nat) (Ts : List Addr) : Prop where
  lst : ∃ c, h.get? S = some (lstObj (Ts.map Value.ref).toArray c)
  len : Ts.length = i
  prs : ∀ (j : Nat) (T : Addr), Ts[j]? = some T → ∃ x y, xs[j]? = some x ∧ ys[j]? = some y ∧ IsPair h T x y
  ge : ∀ T ∈ Ts, n1 ≤ T
  nd : Ts.Nodup
  keep : ∀ b o, h0.get? b = some o → h.get? b = some o
theorem ZE.stay {h0 h h' : Heap} {S : Addr} {xs ys : Array Value} {n1 i : Nat} {Ts : List Addr} (x : ZE h0 h S xs ys n1 i Ts) {ch : List Addr} (k : ∀ c o, c ∉ ch → h.get? c = some o → h'.get? c = some o) (hS : S ∉ ch) (hT : ∀ c ∈ ch, c < n1) (h0c : ∀ c ∈ ch, h0.objs.size ≤ c) :
    ZE h0 h' S xs ys n1 i Ts where
  lst := let ⟨c, e⟩ := x.lst; ⟨c, k _ _ hS e⟩
  len := x.len
  prs := fun j T hj => let ⟨a, b, e1, e2, e3⟩ := x.prs j T hj; ⟨a, b, e1, e2, k _ _ (fun hm => absurd (hT _ hm) (Nat.not_lt.mpr (x.ge T (List.mem_of_getElem? hj)))) e3⟩
  ge := x.ge
  nd := x.nd
  keep := fun b o e => k _ _ (fun hm => absurd (Heap.lt_size e) (Nat.not_lt.mpr (h0c _ hm))) (x.keep b o e)
end ZL
namespace PP
open PySem PySem.Spec PyProof.Rows L2
end PP
end
section
namespace PP
open PySem PySem.Spec PyProof.Rows L2
theorem isTrueC {M : Model} {A : Around} {env : PySem.Env} {E : Value → Shared → Prop} {s : Shared} {l r : Expr} {op : CmpOp} {pos : Pos} {whole : Sem Value} {Q : Bool → Shared → Prop}
    (h : wpAny M A (eval (.Compare l [op] [r] pos) env) (fun c s3 => wpAny M A (truthy c) Q E s3) E s) (hm : behindInMarks op r = false) :
    wpAny M A (isTrue (.Compare l [op] [r] pos) env whole) Q E s := fun Γ p hΓ => by
  have h := h Γ p hΓ
  simp only [eval_Compare1, markedBehindIn_of_false hm, Sem.wp_bind', Sem.wp_holding, Sem.wp_cmd_standAt, Sem.wp_operate] at h
  simp only [isTrue_Compare1, markedBehindIn_of_false hm, Sem.wp_bind', Sem.wp_holding, Sem.wp_cmd_standAt, Sem.wp_operate]
  exact Sem.wp_mono M Γ _ (fun a p₁ s₁ h₁ => Sem.wp_mono M Γ _ (fun b _ s₂ h₂ => Sem.wp_mono M Γ _ (fun c p₃ s₃ h₃ => h₃ Γ p₃ hΓ)
    (fun _ _ _ h' => h') _ _ h₂) (fun _ _ _ h' => h') _ _ h₁) (fun _ _ _ h' => h') _ _ h
section
variable {X : Cx} {C : Ctx} {W : WX} {cl : CallF} {l r : Expr} {a' : Ex} {ta : TE}
theorem pt_truthC {op : CmpOp} {pos : Pos} (ha : PE X (.Compare l [op] [r] pos) ta) (hm : behindInMarks op r = false) :
    PT X (.Compare l [op] [r] pos) (fun σ H Q => ta σ H fun x H' => ∃ k, TruV X.K x H' k ∧ Q k H') := by
  refine ⟨fun pins s σ H Q I h => ?_⟩
  exact isTrueC (thn (ha.run pins s σ H _ I h) fun v s1 ⟨x, H1, I1, r1, q1⟩ => tru_ok pins s1 σ H1 x v Q I1 r1 q1) hm
theorem t_truC {op : CmpOp} {pos : Pos} (hK : X.K = C.T.K) (ha : PE X (.Compare l [op] [r] pos) (tI C W cl a')) (hm : behindInMarks op r = false) : PT X (.Compare l [op] [r] pos) (tT C W cl a') :=
  ptI (pt_truthC ha hm) fun σ H Q ⟨H0, env, S, q⟩ => by
    simp only [evT] at q
    refine seqI S q fun u env1 x H1 H1' e1 S1 u1 q1 => ?_
    obtain ⟨dx, hx, q1⟩ := q1.orB
    obtain ⟨t, ht, q1⟩ := q1.orB
    exact ⟨t, hK ▸ rd_truth S1.ex (S1.rd u1 hx) ht, q1 H1 H1' (Ext.rfl' _) S1⟩
end
end PP
end
section
set_option maxHeartbeats 1000000
namespace PP
open PySem PySem.Spec PyProof.Rows L2
/-- how a method's call by keywords binds: g puts the values in the parameters' order -/
structure KwBindsM (fd : FuncData) (ps ks : List Str) (gW : List Value → List Value) (gV : List V → List V) : Prop where
  to : ∀ (s : Shared) (u : Value) (ws : List Value), ws.length = ks.length → BindsTo s fd ⟨[u], ks.zip ws⟩ (ps.zip (u :: gW ws))
  rel : ∀ {vs : List V} {ws : List Value}, Vals vs ws → Vals (gV vs) (gW ws)
section
variable {X : Cx} {C : Ctx} {W : WX} {cl : CallF} {a b e o : Expr} {es : List Expr} {a' b' e' o' : Ex} {es' : Exs} {pos p apos : Pos}
theorem kb1 {fd : FuncData} {ps ks : List Str} (h : ∀ (s : Shared) (u : Value) (ws : List Value), ws.length = ks.length → BindsTo s fd ⟨[u], ks.zip ws⟩ (ps.zip (u :: ws))) : KwBindsM fd ps ks id id := ⟨h, fun r => r⟩
def swp {α : Type} : List α → List α
  | [a, b] => [b, a]
  | l => l
theorem swp_vals : ∀ {vs : List V} {ws : List Value}, Vals vs ws → Vals (swp vs) (swp ws)
  | _, _, .nil => .nil
  | _, _, .cons a .nil => .cons a .nil
  | _, _, .cons a (.cons b .nil) => .cons b (.cons a .nil)
  | _, _, .cons a (.cons b (.cons c r)) => .cons a (.cons b (.cons c r))
theorem kb2 {fd : FuncData} {ps ks : List Str} (h : ∀ (s : Shared) (u : Value) (ws : List Value), ws.length = ks.length → BindsTo s fd ⟨[u], ks.zip ws⟩ (ps.zip (u :: swp ws))) : KwBindsM fd ps ks swp swp := ⟨h, swp_vals⟩
end
end PP
end
section
namespace PP
open PySem PySem.Spec PyProof.Rows L2
end PP
end
section
set_option maxHeartbeats 1000000
namespace PP
open PySem PySem.Spec PyProof.Rows L2
section
open PySem.W PySem.Calls
variable {prog : Program} {w : World} {A : Around} {E : Value → Shared → Prop} {s : Shared} {K : Frag} {x C L f : Addr} {h₀ : Heap} {m : Str → Option Value} {ox : Obj} {od : Option Obj} {T : String}
theorem cls_looks {M : Model} {h : Heap} {cd : ClassData} (kin : K.In h) (e : clsIn K C = some cd) : Looks M h (classData C) cd := by
  unfold clsIn at e
  split at e
  · rename_i cl dd cd' sl hl
    cases e
    unfold classData
    refine Looks.andThen (Looks.ld (kin _ _ hl)) ?_
    exact Looks.of_pure rfl
  · cases e
theorem anyM_false {α : Type} {M : Model} {h : Heap} {f : α → Sem Bool} : ∀ {l : List α}, (∀ c ∈ l, Looks M h (f c) false) → Looks M h (l.anyM f) false
  | [], _ => Looks.now
  | c :: l, k => by
    unfold List.anyM
    refine Looks.andThen (k c (by simp)) ?_
    exact anyM_false fun c' hc => k c' (by simp [hc])
theorem fillsI_none {M : Model} {h : Heap} {nm : String} {add : Bool} (kin : K.In h) (hb : ipB K C nm = true) : Looks M h (fillsInplaceSlot (.ref C) nm add) false := by
  unfold ipB at hb
  split at hb
  · rename_i cd e
    unfold fillsInplaceSlot
    refine Looks.andThen (a := cd.mro) ?_ ?_
    · unfold mroOf
      exact Looks.andThen (cls_looks kin e) Looks.now
    · refine anyM_false fun c hc => ?_
      have h2 := eq_of_beq (List.all_eq_true.mp hb c hc)
      exact Looks.andThen (looks_findIn kin h2) Looks.now
  · cases hb
theorem inpl {op : Operator} {b : Value} {Q : Value → Shared → Prop} (F : Fr h₀ L s.heap m) (X0 : K.In h₀) (I : InstAt s.heap x ox C od) (hb : ipB K C op.info.2 = true)
    (h : wpAny (model prog w) A (binaryOp1 op.info.2 (.ref x) b) (fun r s' => ∃ v, r = some v ∧ Q v s') E s) : wpAny (model prog w) A (inplaceOp op (.ref x) b) Q E s := by
  have kin := X0.keeps F.keep
  have fl : Looks (model prog w) s.heap (fillsInplaceSlot (.ref C) op.info.2 (op == .Add)) false := fillsI_none kin hb
  obtain ⟨hh, gl, dd, tt, os⟩ := s
  have A1 : Looks (model prog w) hh (typeOf (.ref x)) (.ref C) := I.type
  unfold inplaceOp
  refine wpAny_holding (wpAny_bind (A1.at (wpAny_bind (fl.at ?_))))
  refine wpAny_bind (wpAny_mono h (fun r s2 z => ?_) fun _ _ e => e)
  obtain ⟨v, rfl, z⟩ := z
  ksp_lk
  exact z
/-- x op b, x of an own class that has the operator, b of a built-in type -/
theorem b1_ty {op : Operator} {b : Value} {fo ro rc : Option Value} {Q : Value → Shared → Prop} (F : Fr h₀ L s.heap m) (X0 : K.In h₀) (I : InstAt s.heap x ox C od) (Lb : Looks (model prog w) s.heap (typeOf b) (.type T)) (self1 : selfFirst K C = true)
    (at1 : findIn K (.ref C) (PySem.dunder op.info.2) = some (some (.ref f))) (fn1 : isFn K (.ref f) = true) (at2 : findIn K (.ref C) (dunderR op.info.2) = some rc) (rc1 : rc = none ∨ ∃ g : Addr, rc = some (.ref g))
    (b1 : findIn K (.type T) (PySem.dunder op.info.2) = some fo) (b2 : findIn K (.type T) (dunderR op.info.2) = some ro) (sub1 : subIn K (.type T) (.ref C) = some false)
    (run : wpAny (model prog w) A (call (.ref f) [.ref x, b]) (W.CmpBack Q) E s) : wpAny (model prog w) A (binaryOp1 op.info.2 (.ref x) b) (fun r s' => ∃ v, r = some v ∧ Q v s') E s := by
  have kin := X0.keeps F.keep
  obtain ⟨cd, rest, hcd, hm⟩ := ksp_first self1
  rcases oi : op.info with ⟨sy, nn⟩; rw [oi] at at1 at2 b1 b2; dsimp only at at1 at2 b1 b2
  have tried := ksp_try kin I at1 fn1 run
  obtain ⟨hh, gl, dd, tt, os⟩ := s
  have A1 : Looks (model prog w) hh (typeOf (.ref x)) (.ref C) := I.type
  have A3 := fills_K (M := model prog w) kin hcd hm at1; have A4 := ksp_fillsT (M := model prog w) kin b1 b2
  have A5 := looks_subIn (M := model prog w) kin sub1; have A6 := ksp_inPy (M := model prog w) kin at1 at2 rc1
  have A7 : Looks (model prog w) hh (numberSlotInPython (.type T) nn) false := Looks.of_pure rfl; have A8 := looks_findIn (M := model prog w) kin b2
  generalize ((fo.isSome && !isSeqSlot fo) || (ro.isSome && !isSeqSlot ro)) = rt at A4
  have nq : (Value.ref C == Value.type T) = false := Bool.eq_false_iff.mpr fun z => nomatch beq_iff_eq.mp z
  unfold binaryOp1
  refine wpAny_bind (A1.at (wpAny_bind (Lb.at (wpAny_bind (A3.at ?_))))); simp only [nq, Bool.false_eq_true, if_false]
  cases rt <;>
  · ksp_lk
    refine wpAny_mono tried (fun r s2 z => ?_) fun _ _ e => e
    obtain ⟨v, rfl, z⟩ := z
    ksp_lk
    exact ⟨v, rfl, z⟩
/-- .. b of the same class -/
theorem b1_same {op : Operator} {b : Value} {Q : Value → Shared → Prop} (F : Fr h₀ L s.heap m) (X0 : K.In h₀) (I : InstAt s.heap x ox C od) (Lb : Looks (model prog w) s.heap (typeOf b) (.ref C)) (self1 : selfFirst K C = true)
    (at1 : findIn K (.ref C) (PySem.dunder op.info.2) = some (some (.ref f))) (fn1 : isFn K (.ref f) = true)
    (run : wpAny (model prog w) A (call (.ref f) [.ref x, b]) (W.CmpBack Q) E s) : wpAny (model prog w) A (binaryOp1 op.info.2 (.ref x) b) (fun r s' => ∃ v, r = some v ∧ Q v s') E s := by
  have kin := X0.keeps F.keep
  obtain ⟨cd, rest, hcd, hm⟩ := ksp_first self1
  rcases oi : op.info with ⟨sy, nn⟩; rw [oi] at at1; dsimp only at at1
  have tried := ksp_try kin I at1 fn1 run
  obtain ⟨hh, gl, dd, tt, os⟩ := s
  have A1 : Looks (model prog w) hh (typeOf (.ref x)) (.ref C) := I.type
  have A3 := fills_K (M := model prog w) kin hcd hm at1
  have eq : (Value.ref C == Value.ref C) = true := beq_self_eq_true _
  unfold binaryOp1
  refine wpAny_bind (A1.at (wpAny_bind (Lb.at (wpAny_bind (A3.at ?_))))); simp only [eq, if_true]
  ksp_lk
  refine wpAny_mono tried (fun r s2 z => ?_) fun _ _ e => e
  obtain ⟨v, rfl, z⟩ := z
  ksp_lk
  exact ⟨v, rfl, z⟩
theorem aug_name {M : Model} {A : Around} {E : Value → Shared → Prop} {s : Shared} {env : PySem.Env} {x : Str} {pos' : Pos} {op : Operator} {value : Expr} {pos : Pos} {Q : Flow → Shared → Prop} (hx : (x == "__debug__") = false)
    (h : wpAny M A (eval (.Name x pos') env) (fun old s₁ => wpAny M A (eval value env) (fun v s₂ => wpAny M A (inplaceOp op old v) (fun r s₃ => wpAny M A (storeName env x r) (fun _ => Q Flow.next) E s₃) E s₂) E s₁) E s) : wpAny M A (exec (.AugAssign (.Name x pos') op value pos) env) Q E s := by
  have e : exec (.AugAssign (.Name x pos') op value pos) env = (eval (.Name x pos') env) >>= fun old => (do
      let v ← holding [old] (eval value env)
      standAt pos
      let new ← operate [old, v] (inplaceOp op old v)
      standAt pos'
      bindName env x new
      pure .next) := by
    rw [exec_AugAssign_Name, eval_Name _ _ _ hx]
    rfl
  rw [e]
  refine wpAny_bind (wpAny_mono h (fun old s1 h1 => ?_) fun _ _ e => e)
  refine wpAny_bind (wpAny_holding (wpAny_mono h1 (fun v s2 h2 => ?_) fun _ _ e => e))
  refine wpAny_bind (wpAny_standAt ?_)
  unfold operate
  refine wpAny_bind (wpAny_bind (wpAny_holding (wpAny_mono h2 (fun r s3 h3 => ?_) fun _ _ e => e)))
  refine wpAny_bind (wpAny_release ?_)
  refine wpAny_pure ?_
  refine wpAny_bind (wpAny_standAt ?_)
  exact wpAny_bind (wpAny_bindName (wpAny_mono h3 (fun _ s4 h4 => wpAny_pure h4) fun _ _ e => e))
end
section
variable {X : Cx} {C : Ctx} {W : WX} {cl : CallF} {b : Expr} {b' : Ex} {pos : Pos}
/-- x op= e: as x = x op e, where x's value is an object of an own class -/
theorem s_augO {i : Nat} {x : Str} {pos' : Pos} {op : Operator} {o : O2} {cs ts : List Nat} {nm : Str} (hK : X.K = C.T.K) (hnm : PySem.dunder op.info.2 = nm) (SP : SpOk X C.T cl (opc o) nm cs 2 []) (BC : ∀ c ∈ cs, ∀ Ca, C.T.cn c = some Ca → BinC X.K Ca op ts)
    (IP : ∀ c ∈ cs, ∀ Ca, C.T.cn c = some Ca → ipB X.K Ca op.info.2 = true)
    (hgd : X.A.guards = some []) (tk : Takes X W) (ho : OpR X (inplaceOp op) (rD C.T (op2 o))) (ha : PE X (.Name x pos') (tI C W cl (.var i))) (hb : PE X b (tI C W cl b')) (hne : isCmpO o = false)
    (hN : X.N.Nodup) (hi : X.N[i]? = some x) (hl : Loc X.env.scope x) (hx : (x == "__debug__") = false) (hf : X.fn x = true ∨ X.env.scope.names.lookup x = some .local) :
    PS X (.AugAssign (.Name x pos') op b pos) (tS C W cl (.asg i (.opo o cs ts (.var i) b'))) := by
  refine ⟨fun pins s σ H D I q => ?_⟩
  obtain ⟨H0, env, S, q⟩ := q
  simp only [ex] at q
  have q1 : tI C W cl (.opo o cs ts (.var i) b') σ H fun z H2 => D.nx (σ.set i (some z)) H2 := seqE S q fun u env1 v H1 H1' e1 S1 u1 q1 => by
    obtain ⟨env2, ha, q1⟩ := q1.orB
    obtain ⟨H2, e2, S2⟩ := S1.asg u1 ha
    exact q1 _ H2 H1' e2 S2
  have q2 := readO (by rintro rfl; cases hne) q1
  refine aug_name hx (binT (f := inplaceOp op) ha hb I q2 fun v u s2 x y H2 I2 rx ry q => ?_)
  refine wpAny_mono (Q := EP X pins σ fun z H2 => D.nx (σ.set i (some z)) H2) ?_ (fun r s3 z => ?_) fun _ _ e => e
  rotate_left
  · obtain ⟨z, H3, I3, rz, hz⟩ := z
    exact store_ok I3 hN hi hl rz (fun s4 I4 => ⟨_, _, I4, hz⟩) hf
  rcases q with ⟨H0, dx, dy, e, r1, r2, c, hcs, ⟨ks, vs, rfl⟩, hkr, hsp⟩ | q
  · obtain ⟨p, Ca, dd, xs, rfl, hck, hp, _⟩ := rd_obj e (.inl r1)
    have hcn := (Tbl.ck_some hck).1
    obtain ⟨kc, hno, k, f, fd, ps, dus, hm, F, hr, hb, hd⟩ := SP c hcs Ca hcn
    have B := BC c hcs Ca hcn
    obtain ⟨mA, O, _⟩ := ins_get I2.hok hp
    obtain ⟨od, J, _⟩ := O.look
    obtain ⟨mm, hF⟩ := I2.fr
    cases (show v = Value.ref p from rx)
    have run : wpAny (model X.prog X.w) X.A (call (.ref f) [.ref p, u]) (PySem.W.CmpBack (EP X pins σ fun z H2 => D.nx (σ.set i (some z)) H2)) X.xe s2 := by
      refine wpAny_mono (F.go (us := [.ref p, u]) (vs := [.ref p, y]) hgd hr hb hd tk (fun _ _ _ z => z) I2 (.cons rfl (.cons ry .nil)) (by rw [List.append_nil]; exact hsp)) (fun w s' z => ?_) fun _ _ x => x
      obtain ⟨z', H', I', rz, qz⟩ := z
      exact SlX.cmpback rz ⟨z', H', I', rz, qz⟩
    have hs : PySem.W.findIn X.K (.ref Ca) (PySem.dunder op.info.2) = some (some (.ref f)) := by rw [hnm]; exact hm.at_
    rcases ty_looks hK I2 e r2 ry (okR_odd hkr) with ⟨hod, L⟩ | ⟨c', ks', vs', Cb, rfl, hcn', L⟩
    · have hts : ts.contains (kdD dy) = true := by
        cases dy <;> first | (cases hod; done) | (simp only [okR, hne, Bool.false_or] at hkr; exact hkr)
      obtain ⟨⟨fo, ro, t1, t2⟩, t3⟩ := B.ty dy hod hts
      obtain ⟨rc, q1, q2⟩ := B.refl
      exact inpl hF I2.ok.mod.kin J (IP c hcs Ca hcn) (b1_ty hF I2.ok.mod.kin J L B.first hs hm.fn q1 q2 t1 t2 t3 run)
    · simp only [okR, hne, Bool.false_or, beq_iff_eq] at hkr
      subst hkr
      rw [hcn] at hcn'; cases hcn'
      exact inpl hF I2.ok.mod.kin J (IP _ hcs Ca hcn) (b1_same hF I2.ok.mod.kin J L B.first hs hm.fn run)
  · exact ho pins s2 σ H2 x y v u _ I2 rx ry q
end
section
variable {X : Cx} {T : Tbl}
theorem oi_band : OpR X (inplaceOp .BitAnd) (rD T (op2 .band)) := opInts (gd := fun i j => .int (Builtin.bitAnd i j)) (rI0I iop_and) (fun _ _ => rfl) (fun T H i j => r_int T H _) (by
  intro dx dy d h
  cases dx <;> first | (cases h; done) | (cases dy <;> first | (cases h; done) | (cases h; exact ⟨_, _, rfl, rfl, trivial, rfl⟩)))
theorem oi_bor : OpR X (inplaceOp .BitOr) (rD T (op2 .bor)) := opInts (gd := fun i j => .int (Builtin.bitOr i j)) (rI0I iop_or) (fun _ _ => rfl) (fun T H i j => r_int T H _) (by
  intro dx dy d h
  cases dx <;> first | (cases h; done) | (cases dy <;> first | (cases h; done) | (cases h; exact ⟨_, _, rfl, rfl, trivial, rfl⟩)))
end
end PP
end
section
set_option maxHeartbeats 1000000
namespace PP
open PySem PySem.Spec PyProof.Rows L2
end PP
end
section
set_option maxHeartbeats 1000000
namespace PP
open PySem PySem.Spec PyProof.Rows L2
end PP
end
section
set_option maxHeartbeats 1000000
namespace PP
open PySem PySem.Spec PyProof.Rows L2
end PP
end
section
namespace PP
open PySem PySem.Spec PyProof.Rows L2
end PP
end
section
namespace PP
open PySem PySem.Spec PyProof.Rows L2
end PP
end
section
set_option maxHeartbeats 1000000
namespace PP
open PySem PySem.Spec PyProof.Rows L2
end PP
end
section
set_option maxHeartbeats 1000000
namespace PP
open PySem PySem.Spec PyProof.Rows L2
end PP
end
section
set_option maxHeartbeats 1000000
namespace PP
open PySem PySem.Spec PyProof.Rows L2
end PP
end
section
set_option maxHeartbeats 1000000
namespace PP
open PySem PySem.Spec PyProof.Rows L2
end PP
end
section
set_option maxHeartbeats 1000000
namespace PP
open PySem PySem.Spec PyProof.Rows L2
end PP
end
section
set_option maxHeartbeats 1000000
namespace PP
open PySem PySem.Spec PyProof.Rows L2
end PP
end
section
set_option maxHeartbeats 1000000
namespace PPLN
open PySem PySem.SeqAt
open AutoSeq1 (wpAny_loadPart')
open MeetsSeq MeetsSeq2 MeetsSeq3 SeqRoads2 GQ
section
variable {prog : Program} {w : World} {A : Around} {R : Result → Shared → Prop}
theorem ne_loopG (l b : Addr) (N : Nat) (I : Nat → Shared → Prop) (hl : ListI prog w A (fun e s' => R (.error e) s') l b N I)
    (fin : ∀ s, I N s → R (.ok (.ret (.bool false))) s) (k : Nat) :
    ∀ i : Nat, N - i = k → i ≤ N → ∀ s, I i s →
      wpAny (model prog w) A.in1 (Builtin.«list.__eq__.loop» ⟨[.ref l, .ref b, rawInt i, rawInt 3], []⟩) (FinOf prog w A R) (fun e s' => R (.error e) s') s := by
  induction k with
  | zero =>
    intro i hk hi s h
    obtain ⟨items, items2, n, n2, hl1, hb1, hs1, hs2, _⟩ := hl _ _ h
    have hi' : i = N := by omega
    have hR : R (.ok (.ret (.bool false))) s := fin s (hi' ▸ h)
    obtain ⟨hp, g, d, tk, os⟩ := s
    wp_walk using wpAny_loadPart' hl1, wpAny_loadPart' hb1
    have hi1 : items[((i : Nat) : Int).toNat]? = none := by simp; omega
    have hi2 : items2[((i : Nat) : Int).toNat]? = none := by simp; omega
    rw [hi1, hi2]
    wp_walk using wpAny_loadPart' hl1, wpAny_loadPart' hb1
    show R (.ok (.ret (.bool (items.size != items2.size)))) _
    rw [hs1, hs2]
    simpa using hR
  | succ k ih =>
    intro i hk hi s h
    obtain ⟨items, items2, n, n2, hl1, hb1, hs1, hs2, turn⟩ := hl _ _ h
    have hlt : i < items.size := by omega
    have hlt2 : i < items2.size := by omega
    have ht := turn hlt hlt2
    obtain ⟨hp, g, d, tk, os⟩ := s
    wp_walk using wpAny_loadPart' hl1, wpAny_loadPart' hb1
    have hi1 : items[((i : Nat) : Int).toNat]? = some items[i] := by simp [hlt]
    have hi2 : items2[((i : Nat) : Int).toNat]? = some items2[i] := by simp [hlt2]
    have hc : ((i : Int) + 1) = ((i + 1 : Nat) : Int) := by omega
    rw [hi1, hi2]
    refine wpAny_bind (wpAny_mono ht (fun r s2 h2 => ?_) fun _ _ x => x)
    obtain ⟨hr, h2⟩ := h2
    subst hr
    have hrec := ih (i + 1) (by omega) (by omega) s2 h2
    obtain ⟨hp2, g2, d2, tk2, os2⟩ := s2
    wp_walk
    rw [hc]
    exact ⟨plainId_quiet plain_eq_loop _, codeAny_builtin entry_eq_loop (by
      rw [Around.under_plainId plain_eq_loop _]
      exact hrec)⟩
theorem list_neG (l b : Addr) (N : Nat) (I : Nat → Shared → Prop) (hl : ListI prog w A (fun e s' => R (.error e) s') l b N I)
    (fin : ∀ s, I N s → R (.ok (.ret (.bool false))) s) {s : Shared} (h : I 0 s) :
    wpAny (model prog w) A.in1 (Builtin.«list.__ne__» ⟨[.ref l, .ref b], []⟩) (FinOf prog w A R) (fun e s' => R (.error e) s') s := by
  obtain ⟨items, items2, n, n2, hl1, hb1, hs1, hs2, _⟩ := hl _ _ h
  have hrec := ne_loopG (A := A) (R := R) l b N I hl fin _ 0 rfl (Nat.zero_le _) s h
  obtain ⟨hp, g, d, tk, os⟩ := s
  have f3 := AutoSeq1.sub_list_list
  have hne : ¬ (items.size != items2.size) = true := by simp [hs1, hs2]
  wp_walk using wpAny_loadPart' hl1, wpAny_loadPart' hb1
  exact ⟨plainId_quiet plain_eq_loop _, codeAny_builtin entry_eq_loop (by
    rw [Around.under_plainId plain_eq_loop _]
    exact hrec)⟩
end
section
variable {prog : Program} {w : World} {A : Around} {E : Value → Shared → Prop} {s : Shared}
theorem rc_listNe {l b : Addr} {N : Nat} {Q : Value → Shared → Prop} (hu : A.units < cLine) (I : Nat → Shared → Prop) (hl : ListI prog w A E l b N I)
    (fin : ∀ s, I N s → Q (.bool false) s) (h : I 0 s) : wpAny (model prog w) A (richCompare .NotEq (.ref l) (.ref b)) Q E s := by
  obtain ⟨items, items2, n, n2, hl1, hb1, _, _, _⟩ := hl _ _ h
  refine wpAny_richCompare_same_room (op := .NotEq) ⟨_, hl1, rfl⟩ ⟨_, hb1, rfl⟩ F.slot_list_ne (call_here F.slot_list_ne ⟨_, hl1, rfl⟩ F.entry_list_ne (F.args_list_ne_2 _ _) ?_) hu
  exact list_neG (R := wants (fun v s' => v ≠ .notImplemented ∧ Q v s') E) l b N I hl (fun s' q => ⟨(fun x => nomatch x), fin s' q⟩) h
end
end PPLN
namespace PP
open PySem PySem.Spec PyProof.Rows L2
/-- an own == that can be called some levels below -/
def SpE (X : Cx) (T : Tbl) (cl : CallF) (cs : List Nat) (k : Nat) : Prop :=
  ∀ c ∈ cs, ∀ C, T.cn c = some C → Cls X.K C ∧ NFs X.K T C ∧ ∃ f fd ps, Meth X.K C "__eq__" f ∧ FnG X.prog X.w X.K X.mg X.base k f fd ps (spF T cl (spec c 16) 2) ∧ Binds X.K fd ps []
/-- the state has grown -/
def Grown (X : Cx) (T : Tbl) (H0 H : Hp) (pins : List (Addr × Obj)) (σ : L2.St) (s : Shared) : Prop := ∃ H0' H', Inv X pins σ H' s ∧ Gr T H0 H H0' H'
/-- x == y is True in lists, n levels below -/
def EqL (X : Cx) (T : Tbl) (n : Nat) (H0 H : Hp) (x y : V) : Prop := ∀ (A : Around) (pins : List (Addr × Obj)) (σ : L2.St) (s : Shared) (u v : Value), Room n A → A.frames = X.A.frames → A.guards = some [] →
  Grown X T H0 H pins σ s → RelV x u → RelV y v → wpAny (model X.prog X.w) A (eqBool u v) (fun r s' => r = true ∧ Grown X T H0 H pins σ s') X.xe s
theorem EqL.mono {X : Cx} {T : Tbl} {n m : Nat} {H0 H : Hp} {x y : V} (h : EqL X T n H0 H x y) (hn : n ≤ m) : EqL X T m H0 H x y := fun A pins σ s u v hr => h A pins σ s u v (hr.mono hn)
def PrsL (X : Cx) (T : Tbl) (n : Nat) (H0 H : Hp) (xs ys : List V) : Prop := xs.length = ys.length ∧ ∀ (i : Nat) x y, xs[i]? = some x → ys[i]? = some y → EqL X T n H0 H x y
theorem turnL {X : Cx} {T : Tbl} {n : Nat} {H0 H : Hp} {A : Around} (hr : Room (n + 1) A) (hf : A.frames = X.A.frames) (hg : A.guards = some []) {pins : List (Addr × Obj)} {σ : L2.St} {xs ys : List V} {its its2 : List Value} (p : PrsL X T n H0 H xs ys) (r : Vals xs its) (r2 : Vals ys its2)
    (i : Nat) (h1 : i < its.toArray.size) (h2 : i < its2.toArray.size) (s' : Shared) (l : Grown X T H0 H pins σ s') :
    wpAny (model X.prog X.w) A.in1 (eqBool its.toArray[i] its2.toArray[i]) (fun r s2 => r = true ∧ Grown X T H0 H pins σ s2) X.xe s' := by
  have g1 : its[i]? = some its.toArray[i] := by
    have h1' : i < its.length := by simpa using h1
    rw [List.getElem?_eq_getElem h1'] <;> simp
  have g2 : its2[i]? = some its2.toArray[i] := by
    have h2' : i < its2.length := by simpa using h2
    rw [List.getElem?_eq_getElem h2'] <;> simp
  have k1 : i < xs.length := by rw [r.length]; simpa using h1
  have k2 : i < ys.length := by rw [r2.length]; simpa using h2
  obtain ⟨u, hu, ru⟩ := r.get (List.getElem?_eq_getElem k1)
  obtain ⟨v, hv, rv⟩ := r2.get (List.getElem?_eq_getElem k2)
  rw [g1] at hu
  rw [g2] at hv
  rw [Option.some.inj hu, Option.some.inj hv]
  exact p.2 i _ _ (List.getElem?_eq_getElem k1) (List.getElem?_eq_getElem k2) A.in1 pins σ s' u v hr.in1 hf hg l ru rv
theorem listsI {X : Cx} {T : Tbl} {n : Nat} {H0 H : Hp} (e : Ext H0 H) {A : Around} (hr : Room (n + 1) A) (hf : A.frames = X.A.frames) (hg : A.guards = some []) {pins : List (Addr × Obj)} {σ : L2.St} {a b : Addr} {xs ys : List V} (ha : Rd H0 a (.lst xs)) (hb : Rd H0 b (.lst ys)) (p : PrsL X T n H0 H xs ys) :
    GQ.ListI X.prog X.w A X.xe a b xs.length (fun _ s' => Grown X T H0 H pins σ s') := fun i s' q => by
  obtain ⟨H0', H', I1, g⟩ := id q
  have e' : Ext H0 H' := g.e0.tr g.e01
  obtain ⟨z, its, k, r, e1⟩ := rd_of I1.hok (e'.rd ha)
  obtain ⟨z2, its2, k2, r2, e2⟩ := rd_of I1.hok (e'.rd hb)
  refine ⟨its.toArray, its2.toArray, k, k2, e1, e2, by rw [List.size_toArray, ← r.length], by rw [List.size_toArray, ← r2.length, ← p.1], fun h1 h2 => ?_⟩
  exact turnL hr hf hg p r r2 i h1 h2 s' q
theorem eqL_list {X : Cx} {T : Tbl} {n : Nat} {H0 H : Hp} (e : Ext H0 H) {a b : Addr} {xs ys : List V} (ha : Rd H0 a (.lst xs)) (hb : Rd H0 b (.lst ys)) (p : PrsL X T n H0 H xs ys) : EqL X T (n + 1) H0 H (.ref a) (.ref b) := fun A pins σ s u v hr hf hg l rx ry => by
  cases rx
  cases ry
  by_cases hab : a = b
  · subst hab
    exact SeqAt.EqAt.same (A := A) (s := s) (.ref a) X.prog X.w X.xe _ ⟨rfl, l⟩
  · refine GQ.eqBool_refG hab (GQ.rc_listG (N := xs.length) (by have := hr.un; omega) (fun _ s' => Grown X T H0 H pins σ s') (listsI e hr hf hg ha hb p) (fun s' q => ⟨true, rfl, rfl, q⟩) l)
theorem eqL_plain {X : Cx} {T : Tbl} {H0 H : Hp} (hK : X.K = T.K) (e : Ext H0 H) {dx dy : D} {x y : V} (h : eqP dx dy = some true) (rx : Rep T H0 dx x) (ry : Rep T H0 dy y) : EqL X T 0 H0 H x y := fun A pins σ s u v hr hf hg l ru rv => by
  obtain ⟨H0', H', I1, g⟩ := id l
  have e' : Ext H0 H' := g.e0.tr g.e01
  obtain ⟨p, p', h2, h3, s1, s2, eb⟩ := eqP_inv h
  obtain ⟨as, r1⟩ := Dp.reads I1 _ _ _ (dp_rd hK e' h2 (.inl rx)) ru
  obtain ⟨bs, r2⟩ := Dp.reads I1 _ _ _ (dp_rd hK e' h3 (.inl ry)) rv
  have q := SeqAt.eqAt_reads p p' A s u v as bs r1 r2 (SeqAt.canLay_of_shaped s1) (SeqAt.canLay_of_shaped s2) (SeqAt.room_of_shaped s1 (by have := hr.un; omega))
  rw [← eb] at q
  exact q X.prog X.w X.xe _ ⟨rfl, l⟩
theorem eqL_obj {X : Cx} {T : Tbl} {cl : CallF} {cs : List Nat} {k : Nat} {H0 H : Hp} (hK : X.K = T.K) (SP : SpE X T cl cs k) (e : Ext H0 H) (tb : TbOk T H0 H) {c c' : Nat} {ks ks' : List Nat} {vs vs' : List D} {x y : V}
    (hcs : c ∈ cs) (hc : ∃ outs, cl (spec c 16) [.fz (.obj c ks vs), .fz (.obj c' ks' vs')] = .ok (.d (.bl true)) outs) (rx : Rep T H0 (.obj c ks vs) x) (ry : Rep T H0 (.obj c' ks' vs') y) : EqL X T k H0 H x y := fun A pins σ s u v hr hf hg l ru rv => by
  obtain ⟨outs, hc⟩ := hc
  obtain ⟨p, Ca, dd, xs, rfl, hck, hp, _⟩ := rd_obj (Ext.rfl' H0) (.inl rx)
  obtain ⟨q, Cb, dd', ys, rfl, hck', hq, _⟩ := rd_obj (Ext.rfl' H0) (.inl ry)
  cases ru
  cases rv
  by_cases hpq : p = q
  · subst hpq
    exact SeqAt.EqAt.same (A := A) (s := s) (.ref p) X.prog X.w X.xe _ ⟨rfl, l⟩
  obtain ⟨H0', H', I1, g⟩ := id l
  have e' : Ext H0 H' := g.e0.tr g.e01
  obtain ⟨kc, ⟨n1, n2⟩, f, fd, ps, hm, F, hb⟩ := SP c hcs Ca (Tbl.ck_some hck).1
  obtain ⟨mA, O, _⟩ := ins_get I1.hok (e' _ _ hp)
  obtain ⟨mB, O', _⟩ := ins_get I1.hok (e' _ _ hq)
  obtain ⟨od, J, _⟩ := O.look
  obtain ⟨od', J', _⟩ := O'.look
  obtain ⟨mm, hF⟩ := I1.fr
  have tb' : TbOk T H0' H' := by
    refine ⟨g.tb tb.1, fun p hp => ?_⟩
    obtain ⟨ps, h1, _⟩ := tb.1 p hp
    cases z : H0' p.1 with
    | none => rfl
    | some u => rw [g.new p.1 (tb.2 p hp) (by rw [z]; exact nofun)] at h1; cases h1
  have hsp : spF T cl (spec c 16) 2 [.ref p, .ref q] H' (fun z H2 => z = .bl true ∧ ∃ H02, Gr T H0 H H02 H2) fun _ _ _ => False := by
    refine ⟨H0', [.fz (.obj c ks vs), .fz (.obj c' ks' vs')], g.e01, ?_, ?_, rfl, tb', ?_⟩
    · exact ⟨_, _, rfl, Rep.mono g.e0 _ _ rx, _, _, rfl, Rep.mono g.e0 _ _ ry, rfl⟩
    · intro i j a h1 _
      exfalso
      simp only [ioL] at h1
      match i, h1 with
      | 0, h1 => cases h1
      | 1, h1 => cases h1
      | _ + 2, h1 => simp at h1
    · rw [hc]
      intro v H02 H2 gc rr _
      refine ⟨by simpa only [RetOk, Rep] using rr, H02, ?_⟩
      exact g.tr ⟨gc.e0, fun a o ha => gc.keep a o (by simp [ioL]) ha, gc.e01, gc.new, gc.tb⟩
  have run : wpAny (model X.prog X.w) A (call (.ref f) [.ref p, .ref q]) (fun w s' => w = .bool true ∧ Grown X T H0 H pins σ s') X.xe s := by
    have hl := F.len _ _ _ _ hsp
    have e0 : Env0 X.prog X.w X.K X.mg X.base A X.stack s H' := by
      have e := I1.env0
      exact ⟨by rw [hf]; exact e.frames, e.mod, e.bs, e.bsz, e.funs, e.frf, e.hok, e.bare⟩
    have r2 : Vals [V.ref p, V.ref q] [Value.ref p, Value.ref q] := .cons rfl (.cons rfl .nil)
    refine wpAny_call (codeAny_mono (F.run A X.stack s H' ⟨[.ref p, .ref q], []⟩ [.ref p, .ref q] [.ref p, .ref q] _ _ hg hr e0 (by
      have := hb s [.ref p, .ref q] I1.kIn (by simpa using hl)
      simpa using this) r2 hsp) fun r s' hq => ?_)
    cases r with
    | error e => obtain ⟨_, _, _, _, _, _, _, _, _, _, _, _, w⟩ := hq; exact w.elim
    | ok fl =>
      cases fl with
      | ret w =>
        obtain ⟨z, H2, I', rz, ez, H02, g2⟩ := I1.after hq
        subst ez
        cases rz
        exact ⟨rfl, H02, H2, I', g2⟩
      | next => exact False.elim hq
      | brk => exact False.elim hq
      | cont => exact False.elim hq
  refine GQ.eqBool_refG hpq ?_
  have cm := PySem.W.cmp_K (Q := fun w s' => w = .bool true ∧ Grown X T H0 H pins σ s') (op := .Eq) (tb := .ref Cb) (by have := hr.un; omega) hF I1.ok.mod.kin J J'.type (n2 c' Cb (Tbl.ck_some hck').1) hm.at_ hm.fn (wpAny_mono run (fun w s' z => by
    obtain ⟨ez, g2⟩ := z
    subst ez
    exact SlX.cmpback (z := .bl true) (show RelV (.bl true) (.bool true) from rfl) ⟨rfl, g2⟩) fun _ _ x => x)
  exact wpAny_mono cm (fun w s' z => by
    obtain ⟨ez, g2⟩ := z
    exact ⟨true, ez, rfl, g2⟩) fun _ _ x => x
mutual
theorem eqOO_run {X : Cx} {T : Tbl} {cl : CallF} {cs : List Nat} {k : Nat} {H0 H : Hp} (hK : X.K = T.K) (SP : SpE X T cl cs k) (e : Ext H0 H) (tb : TbOk T H0 H) : ∀ (dx dy : D) (x y : V), eqOO cl cs dx dy = true → Rep T H0 dx x → Rep T H0 dy y → EqL X T (k + dpO dx) H0 H x y
  | .obj c ks vs, dy, x, y, h, rx, ry => by
    cases dy with
    | obj c' ks' vs' =>
      simp only [eqOO, Bool.and_eq_true, List.contains_iff_mem] at h
      obtain ⟨h1, h2⟩ := h
      refine eqL_obj hK SP e tb h1 ?_ rx ry
      split at h2
      · rename_i outs z; exact ⟨outs, z⟩
      · cases h2
    | _ => exact (eqL_plain hK e (by simp only [eqOO] at h; split at h <;> first | assumption | cases h) rx ry).mono (Nat.zero_le _)
  | .lst xs, dy, x, y, h, rx, ry => by
    cases dy with
    | lst ys =>
      simp only [eqOO] at h
      simp only [Rep] at rx ry
      obtain ⟨a, us, rfl, h1, h2⟩ := rx
      obtain ⟨b, ws, rfl, h3, h4⟩ := ry
      have := eqL_list (X := X) (T := T) (n := k + dpOs xs) e h1 h3 (eqOOs_run hK SP e tb xs ys us ws h h2 h4)
      exact this
    | _ => exact (eqL_plain hK e (by simp only [eqOO] at h; split at h <;> first | assumption | cases h) rx ry).mono (Nat.zero_le _)
  | .non, dy, x, y, h, rx, ry => (eqL_plain hK e (by cases dy <;> simp only [eqOO] at h <;> split at h <;> first | assumption | cases h) rx ry).mono (Nat.zero_le _)
  | .bl _, dy, x, y, h, rx, ry => (eqL_plain hK e (by cases dy <;> simp only [eqOO] at h <;> split at h <;> first | assumption | cases h) rx ry).mono (Nat.zero_le _)
  | .int _, dy, x, y, h, rx, ry => (eqL_plain hK e (by cases dy <;> simp only [eqOO] at h <;> split at h <;> first | assumption | cases h) rx ry).mono (Nat.zero_le _)
  | .str _, dy, x, y, h, rx, ry => (eqL_plain hK e (by cases dy <;> simp only [eqOO] at h <;> split at h <;> first | assumption | cases h) rx ry).mono (Nat.zero_le _)
  | .tup _, dy, x, y, h, rx, ry => (eqL_plain hK e (by cases dy <;> simp only [eqOO] at h <;> split at h <;> first | assumption | cases h) rx ry).mono (Nat.zero_le _)
  | .kst _, dy, x, y, h, rx, ry => (eqL_plain hK e (by cases dy <;> simp only [eqOO] at h <;> split at h <;> first | assumption | cases h) rx ry).mono (Nat.zero_le _)
  | .dK _ _, dy, x, y, h, rx, ry => (eqL_plain hK e (by cases dy <;> simp only [eqOO] at h <;> split at h <;> first | assumption | cases h) rx ry).mono (Nat.zero_le _)
  | .dT _ _, dy, x, y, h, rx, ry => (eqL_plain hK e (by cases dy <;> simp only [eqOO] at h <;> split at h <;> first | assumption | cases h) rx ry).mono (Nat.zero_le _)
  | .cls _, dy, x, y, h, rx, ry => (eqL_plain hK e (by cases dy <;> simp only [eqOO] at h <;> split at h <;> first | assumption | cases h) rx ry).mono (Nat.zero_le _)
  | .err _ _ _, dy, x, y, h, rx, ry => (eqL_plain hK e (by cases dy <;> simp only [eqOO] at h <;> split at h <;> first | assumption | cases h) rx ry).mono (Nat.zero_le _)
theorem eqOOs_run {X : Cx} {T : Tbl} {cl : CallF} {cs : List Nat} {k : Nat} {H0 H : Hp} (hK : X.K = T.K) (SP : SpE X T cl cs k) (e : Ext H0 H) (tb : TbOk T H0 H) : ∀ (xs ys : List D) (us ws : List V), eqOOs cl cs xs ys = true → RepAll T H0 xs us → RepAll T H0 ys ws → PrsL X T (k + dpOs xs) H0 H us ws
  | [], [], us, ws, _, rx, ry => by
    simp only [RepAll] at rx ry
    subst rx ry
    exact ⟨rfl, fun i x y h _ => by simp at h⟩
  | [], _ :: _, _, _, h, _, _ => by simp [eqOOs] at h
  | _ :: _, [], _, _, h, _, _ => by simp [eqOOs] at h
  | dx :: xs, dy :: ys, us, ws, h, rx, ry => by
    simp only [eqOOs, Bool.and_eq_true] at h
    simp only [RepAll] at rx ry
    obtain ⟨u, us', rfl, r1, r2⟩ := rx
    obtain ⟨w, ws', rfl, r3, r4⟩ := ry
    have h1 := eqOO_run hK SP e tb dx dy u w h.1 r1 r3
    have h2 := eqOOs_run hK SP e tb xs ys us' ws' h.2 r2 r4
    refine ⟨by rw [List.length_cons, List.length_cons, h2.1], fun i a b ha hb => ?_⟩
    cases i with
    | zero =>
      simp at ha hb
      subst ha hb
      exact h1.mono (by simp only [dpOs]; omega)
    | succ i =>
      simp at ha hb
      exact (h2.2 i a b ha hb).mono (by simp only [dpOs]; omega)
end
section
variable {X : Cx} {C : Ctx} {W : WX} {cl : CallF} {a b : Expr} {a' b' : Ex} {pos : Pos}
def rNeL (C : Ctx) (cl : CallF) (cs : List Nat) : R2 := fun x y H Q => ∃ H0 dx dy, Ext H0 H ∧ TbOk C.T H0 H ∧ Rep C.T H0 dx x ∧ Rep C.T H0 dy y ∧ eqLL cl cs dx dy = true ∧ ∀ H0' H', Gr C.T H0 H H0' H' → Q (.bl false) H'
theorem readNeL {σ : L2.St} {H : Hp} {Q : VK} {cs : List Nat} (h : tI C W cl (.neL cs a' b') σ H Q) : tOp (rNeL C cl cs) (tI C W cl a') (tI C W cl b') σ H Q := by
  obtain ⟨H0, env, S, q⟩ := h
  simp only [ev] at q
  refine seqI S q fun u env1 x H1 H1' e1 S1 u1 q1 => ?_
  obtain ⟨⟨dx, env2⟩, hf, q2⟩ := q1.orB
  obtain ⟨H2, e2, S2, r2⟩ := S1.take u1 hf
  refine seqI S2 (RQ.mono e2 q2) fun w env3 y H3 H3' e3 S3 u3 q3 => ?_
  obtain ⟨⟨dy, env4⟩, hg, q4⟩ := q3.orB
  obtain ⟨H4, e4, S4, r4⟩ := S3.take u3 hg
  have rx : Rep C.T H4 dx x := Rep.mono (e3.tr e4) _ _ r2
  have q5 := RQ.mono e4 q4
  simp only at q5
  split at q5
  · rename_i hl
    exact ⟨H4, dx, dy, S4.ex, S4.tb, rx, r4, hl, fun H0' H' g => fin_nw S4 q5 g (.flat rfl (r_bl _ _ _))⟩
  · exact q5.elim
theorem c_neL {cs : List Nat} {k : Nat} (hK : X.K = C.T.K) (SP : SpE X C.T cl cs k) (hr : Room (k + 3) X.A) (hgd : X.A.guards = some []) (ha : PE X a (tI C W cl a')) (hb : PE X b (tI C W cl b')) (hm : behindInMarks .NotEq b = false) :
    PE X (.Compare a [.NotEq] [b] pos) (tI C W cl (.neL cs a' b')) := by
  refine peI (t := fun σ H Q => tOp (rNeL C cl cs) (tI C W cl a') (tI C W cl b') σ H Q) ⟨fun pins s σ H Q I h => wpAny_Compare1 (binT ha hb I h fun v u s2 x y H2 I2 rx ry q => ?_) hm⟩ fun σ H Q q => readNeL q
  obtain ⟨H0, dx, dy, e, tb, r1, r2, hl, hq⟩ := q
  cases dx with
  | lst xs =>
    cases dy with
    | lst ys =>
      simp only [eqLL, Bool.and_eq_true, decide_eq_true_eq] at hl
      simp only [Rep] at r1 r2
      obtain ⟨p, us, rfl, h1, h2⟩ := r1
      obtain ⟨q, ws, rfl, h3, h4⟩ := r2
      cases rx
      cases ry
      have pr : PrsL X C.T (k + 2) H0 H2 us ws := by
        have := eqOOs_run hK SP e tb xs ys us ws hl.2 h2 h4
        exact ⟨this.1, fun i x y hx hy => (this.2 i x y hx hy).mono (by omega)⟩
      show wpAny (model X.prog X.w) X.A (richCompare .NotEq (.ref p) (.ref q)) _ _ _
      exact PPLN.rc_listNe (N := us.length) (by have := hr.un; omega) (fun _ s' => Grown X C.T H0 H2 pins σ s') (listsI e hr rfl hgd h1 h3 pr) (fun s' ⟨H0', H', I', g⟩ => ⟨.bl false, H', I', rfl, hq H0' H' g⟩) ⟨H0, H2, I2, Gr.rfl' e⟩
    | _ => simp [eqLL] at hl
  | _ => simp [eqLL] at hl
end
end PP
end
section
namespace PP
open PySem L2
/-- is_integer(value): 0 value -/
def F_is_integer : Fn := { n := 1, body := (.cons (.ret (.and (.bi .isInt (.cons (.var 0) .nil)) (.not (.bi .isBool (.cons (.var 0) .nil))))) .nil) }
/-- is_between(value, least, most): 0 value 1 least 2 most -/
def F_is_between : Fn := { n := 3, body := (.cons (.ret (.and (.call 0 [false] (.cons (.var 0) .nil)) (.chain .le .le (.var 1) (.var 0) (.var 2)))) .nil) }
/-- need_box(other): 0 other -/
def F_need_box : Fn := { n := 1, body := (.cons (.iff (.not (.isObj [5] (.var 0))) (.cons (.raise 3 [1] (.cons (.cst (.str "other")) .nil)) .nil) .nil) .nil) }
/-- is_within(one, other): 0 one 1 other -/
def F_is_within : Fn := { n := 2, body := (.cons (.iff (.or (.op2 .lt (.fld (.var 0) 2) (.fld (.var 1) 2)) (.op2 .lt (.fld (.var 0) 3) (.fld (.var 1) 3))) (.cons (.ret (.cst (.bl false))) .nil) .nil) (.cons (.ret (.and (.op2 .le (.op2 .add (.fld (.var 0) 2) (.fld (.var 0) 4)) (.op2 .add (.fld (.var 1) 2) (.fld (.var 1) 4))) (.op2 .le (.op2 .add (.fld (.var 0) 3) (.fld (.var 0) 5)) (.op2 .add (.fld (.var 1) 3) (.fld (.var 1) 5))))) .nil)) }
/-- common_box(one, other): 0 one 1 other 2 left 3 low 4 right 5 top -/
def F_common_box : Fn := { n := 6, body := (.cons (.par [2, 3] (.cons (.bi .max2 (.cons (.bi .int (.cons (.fld (.var 0) 2) .nil)) (.cons (.bi .int (.cons (.fld (.var 1) 2) .nil)) .nil))) (.cons (.bi .max2 (.cons (.bi .int (.cons (.fld (.var 0) 3) .nil)) (.cons (.bi .int (.cons (.fld (.var 1) 3) .nil)) .nil))) .nil))) (.cons (.asg 4 (.bi .min2 (.cons (.bi .int (.cons (.op2 .add (.fld (.var 0) 2) (.fld (.var 0) 4)) .nil)) (.cons (.bi .int (.cons (.op2 .add (.fld (.var 1) 2) (.fld (.var 1) 4)) .nil)) .nil)))) (.cons (.asg 5 (.bi .min2 (.cons (.bi .int (.cons (.op2 .add (.fld (.var 0) 3) (.fld (.var 0) 5)) .nil)) (.cons (.bi .int (.cons (.op2 .add (.fld (.var 1) 3) (.fld (.var 1) 5)) .nil)) .nil)))) (.cons (.ret (.ife (.and (.op2 .lt (.var 2) (.var 4)) (.op2 .lt (.var 3) (.var 5))) (.mk 5 [false, false, false, false] (.cons (.var 2) (.cons (.var 3) (.cons (.op2 .sub (.var 4) (.var 2)) (.cons (.op2 .sub (.var 5) (.var 3)) .nil)))) []) (.cst .non))) .nil)))) }
/-- least_box(one, other): 0 one 1 other 2 left 3 low 4 right 5 top -/
def F_least_box : Fn := { n := 6, body := (.cons (.par [2, 3] (.cons (.bi .min2 (.cons (.bi .int (.cons (.fld (.var 0) 2) .nil)) (.cons (.bi .int (.cons (.fld (.var 1) 2) .nil)) .nil))) (.cons (.bi .min2 (.cons (.bi .int (.cons (.fld (.var 0) 3) .nil)) (.cons (.bi .int (.cons (.fld (.var 1) 3) .nil)) .nil))) .nil))) (.cons (.asg 4 (.bi .max2 (.cons (.bi .int (.cons (.op2 .add (.fld (.var 0) 2) (.fld (.var 0) 4)) .nil)) (.cons (.bi .int (.cons (.op2 .add (.fld (.var 1) 2) (.fld (.var 1) 4)) .nil)) .nil)))) (.cons (.asg 5 (.bi .max2 (.cons (.bi .int (.cons (.op2 .add (.fld (.var 0) 3) (.fld (.var 0) 5)) .nil)) (.cons (.bi .int (.cons (.op2 .add (.fld (.var 1) 3) (.fld (.var 1) 5)) .nil)) .nil)))) (.cons (.ret (.mk 5 [false, false, false, false] (.cons (.var 2) (.cons (.var 3) (.cons (.op2 .sub (.var 4) (.var 2)) (.cons (.op2 .sub (.var 5) (.var 3)) .nil)))) [])) .nil)))) }
/-- Box.__init__(self, x, y, width, height): 0 self 1 x 2 y 3 width 4 height -/
def F_Box__init__ : Fn := { n := 5, body := (.cons (.iff (.not (.call 1 [false, false, false] (.cons (.var 1) (.cons (.cst (.int 0)) (.cons (.op2 .sub (.cst (.int 1267650600228229401496703205376)) (.cst (.int 1))) .nil))))) (.cons (.raise 3 [1] (.cons (.cst (.str "x")) .nil)) .nil) .nil) (.cons (.iff (.not (.call 1 [false, false, false] (.cons (.var 2) (.cons (.cst (.int 0)) (.cons (.op2 .sub (.cst (.int 1267650600228229401496703205376)) (.cst (.int 1))) .nil))))) (.cons (.raise 3 [1] (.cons (.cst (.str "y")) .nil)) .nil) .nil) (.cons (.iff (.not (.call 1 [false, false, false] (.cons (.var 3) (.cons (.cst (.int 1)) (.cons (.cst (.int 1267650600228229401496703205376)) .nil))))) (.cons (.raise 3 [1] (.cons (.cst (.str "width")) .nil)) .nil) .nil) (.cons (.iff (.not (.call 1 [false, false, false] (.cons (.var 4) (.cons (.cst (.int 1)) (.cons (.cst (.int 1267650600228229401496703205376)) .nil))))) (.cons (.raise 3 [1] (.cons (.cst (.str "height")) .nil)) .nil) .nil) (.cons (.setF 0 [5] 2 (.var 1)) (.cons (.setF 0 [5] 3 (.var 2)) (.cons (.setF 0 [5] 4 (.var 3)) (.cons (.setF 0 [5] 5 (.var 4)) .nil)))))))) }
/-- Box.__and__(self, other): 0 self 1 other -/
def F_Box__and__ : Fn := { n := 2, body := (.cons (.ex (.call 4 [false] (.cons (.var 1) .nil))) (.cons (.ret (.call 8 [false, false] (.cons (.var 0) (.cons (.var 1) .nil)))) .nil)) }
/-- Box.__or__(self, other): 0 self 1 other -/
def F_Box__or__ : Fn := { n := 2, body := (.cons (.ex (.call 4 [false] (.cons (.var 1) .nil))) (.cons (.ret (.call 9 [false, false] (.cons (.var 0) (.cons (.var 1) .nil)))) .nil)) }
/-- Box.__le__(self, other): 0 self 1 other -/
def F_Box__le__ : Fn := { n := 2, body := (.cons (.ex (.call 4 [false] (.cons (.var 1) .nil))) (.cons (.ret (.call 7 [false, false] (.cons (.var 0) (.cons (.var 1) .nil)))) .nil)) }
/-- Box.__lt__(self, other): 0 self 1 other -/
def F_Box__lt__ : Fn := { n := 2, body := (.cons (.ex (.call 4 [false] (.cons (.var 1) .nil))) (.cons (.ret (.and (.call 7 [false, false] (.cons (.var 0) (.cons (.var 1) .nil))) (.not (.call 7 [false, false] (.cons (.var 1) (.cons (.var 0) .nil)))))) .nil)) }
/-- Box.__ge__(self, other): 0 self 1 other -/
def F_Box__ge__ : Fn := { n := 2, body := (.cons (.ex (.call 4 [false] (.cons (.var 1) .nil))) (.cons (.ret (.call 7 [false, false] (.cons (.var 1) (.cons (.var 0) .nil)))) .nil)) }
/-- Box.__gt__(self, other): 0 self 1 other -/
def F_Box__gt__ : Fn := { n := 2, body := (.cons (.ex (.call 4 [false] (.cons (.var 1) .nil))) (.cons (.ret (.and (.call 7 [false, false] (.cons (.var 1) (.cons (.var 0) .nil))) (.not (.call 7 [false, false] (.cons (.var 0) (.cons (.var 1) .nil)))))) .nil)) }
/-- number_in(word, least, most): 0 word 1 least 2 most 3 sign -/
def F_number_in : Fn := { n := 4, body := (.cons (.iff (.or (.op2 .eq (.var 0) (.cst (.str ""))) (.or (.op2 .gt (.bi .len (.cons (.var 0) .nil)) (.bi .len (.cons (.fstr (.cons (.var 2) .nil)) .nil))) (.not (.bi .all (.cons (.lc [3] (.nm 3) (.str (.var 0)) false (.cst .non) (.op2 .isin (.var 3) (.cst (.str "0123456789")))) .nil))))) (.cons (.ret (.cst .non)) .nil) .nil) (.cons (.iff (.or (.and (.op2 .eq (.ix (.var 0) (.cst (.int 0))) (.cst (.str "0"))) (.op2 .ne (.var 0) (.cst (.str "0")))) (.not (.chain .le .le (.var 1) (.bi .int (.cons (.var 0) .nil)) (.var 2)))) (.cons (.ret (.cst .non)) .nil) .nil) (.cons (.ret (.bi .int (.cons (.var 0) .nil))) .nil))) }
/-- Box.read(cls, text): 0 cls 1 text 2 words 3 x 4 y 5 width 6 height -/
def F_Box_read : Fn := { n := 7, body := (.cons (.iff (.not (.bi .isStr (.cons (.var 1) .nil))) (.cons (.raise 6 [7, 6] (.cons (.cst (.int 0)) (.cons (.cst (.int 0)) .nil))) .nil) .nil) (.cons (.asg 2 (.bm .split (.var 1) (.cst (.str " ")))) (.cons (.unp [3, 4, 5, 6] (.callD 11 [false] (.cons (.var 2) .nil) [(.int 0), (.int 0)])) (.cons (.iff (.op2 .gt (.bi .len (.cons (.var 2) .nil)) (.cst (.int 4))) (.cons (.raise 6 [7, 6] (.cons (.cst (.int 0)) (.cons (.cst (.int 4)) .nil))) .nil) .nil) (.cons (.ret (.mkL 0 5 4 (.cons (.var 3) (.cons (.var 4) (.cons (.var 5) (.cons (.var 6) .nil)))))) .nil))))) }
/-- box_numbers(words, begin, line): 0 words 1 begin 2 line 3 found 4 at 5 word 6 told -/
def F_box_numbers : Fn := { n := 7, body := (.cons (.asg 3 (.lst .nil)) (.cons (.forr 4 (.cst (.int 4)) (.cons (.asg 5 (.ife (.op2 .lt (.op2 .add (.var 1) (.var 4)) (.bi .len (.cons (.var 0) .nil))) (.ix (.var 0) (.op2 .add (.var 1) (.var 4))) (.cst (.str "")))) (.cons (.asg 6 (.ife (.op2 .lt (.var 4) (.cst (.int 2))) (.call 10 [false, false, false] (.cons (.var 5) (.cons (.cst (.int 0)) (.cons (.op2 .sub (.cst (.int 1267650600228229401496703205376)) (.cst (.int 1))) .nil)))) (.call 10 [false, false, false] (.cons (.var 5) (.cons (.cst (.int 1)) (.cons (.cst (.int 1267650600228229401496703205376)) .nil)))))) (.cons (.iff (.op2 .is (.var 6) (.cst .non)) (.cons (.raise 6 [7, 6] (.cons (.var 2) (.cons (.op2 .add (.var 1) (.var 4)) .nil))) .nil) .nil) (.cons (.app 3 (.var 6)) .nil))))) (.cons (.ret (.var 3)) .nil))) }
end PP
end
section
namespace PP
open PySem L2
/-- Box.__eq__(self, other): 0 self 1 other -/
def F_Box__eq__ : Fn := { n := 2, body := (.cons (.iff (.or (.not (.isObj [5] (.var 1))) (.or (.op2 .ne (.fld (.var 0) 2) (.fld (.var 1) 2)) (.op2 .ne (.fld (.var 0) 3) (.fld (.var 1) 3)))) (.cons (.ret (.cst (.bl false))) .nil) .nil) (.cons (.ret (.and (.op2 .eq (.fld (.var 0) 4) (.fld (.var 1) 4)) (.op2 .eq (.fld (.var 0) 5) (.fld (.var 1) 5)))) .nil)) }
end PP
end
section
namespace PP
open PySem L2
theorem ev_w0 {cl : CallF} {i} {s0 : Sl} {r0 : Env} : ev cl (.var i) (s0 :: r0) = (match getS (s0 :: r0) i with
    | .un => .bad
    | .fz d => .ok (.d d) (s0 :: r0)
    | _ => .ok (.sl i) (s0 :: r0)) := rfl
theorem ev_w1 {cl : CallF} {d} {s0 : Sl} {r0 : Env} : ev cl (.cst d) (s0 :: r0) = (.ok (.d d) (s0 :: r0)) := rfl
theorem ev_w2 {cl : CallF} {a} {b} {o} {s0 : Sl} {r0 : Env} : ev cl (.op2 o a b) (s0 :: r0) = ((ev cl a (s0 :: r0)).bind fun u env1 => (ev cl b env1).bind fun w env2 =>
      orBad (rdU env2 (pend u)) fun x => orBad (rdU env2 w) fun y => orBad (op2 o x y) fun z => .ok (.nw z) env2) := rfl
theorem ev_w3 {cl : CallF} {a} {o} {s0 : Sl} {r0 : Env} : ev cl (.op1 o a) (s0 :: r0) = ((ev cl a (s0 :: r0)).bind fun u env1 => orBad (rdU env1 u) fun x => orBad (op1 o x) fun z => .ok (.nw z) env1) := rfl
theorem ev_w4 {cl : CallF} {a} {b} {c} {d} {o} {p} {r} {s0 : Sl} {r0 : Env} : ev cl (.chain3 o p r a b c d) (s0 :: r0) = ((ev cl a (s0 :: r0)).bind fun u env1 => (ev cl b env1).bind fun w env2 =>
      orBad (rdU env2 (pend u)) fun x => orBad (rdU env2 (pend w)) fun y => orBad (op2 o x y) fun z => match z with
        | .bl true => (ev cl c env2).bind fun q env3 => orBad (rdU env3 (pend w)) fun y' => orBad (rdU env3 (pend q)) fun x2 => orBad (op2 p y' x2) fun z2 => match z2 with
          | .bl true => (ev cl d env3).bind fun q2 env4 => orBad (rdU env4 (pend q)) fun y2 => orBad (rdU env4 q2) fun x3 => orBad (op2 r y2 x3) fun z3 => .ok (.nw z3) env4
          | .bl false => .ok (.nw (.bl false)) env3
          | _ => .bad
        | .bl false => .ok (.nw (.bl false)) env2
        | _ => .bad) := rfl
theorem ev_w5 {cl : CallF} {a} {b} {c} {o} {p} {s0 : Sl} {r0 : Env} : ev cl (.chain o p a b c) (s0 :: r0) = ((ev cl a (s0 :: r0)).bind fun u env1 => (ev cl b env1).bind fun w env2 =>
      orBad (rdU env2 (pend u)) fun x => orBad (rdU env2 (pend w)) fun y => orBad (op2 o x y) fun z => match z with
        | .bl true => (ev cl c env2).bind fun q env3 => orBad (rdU env3 (pend w)) fun y' => orBad (rdU env3 q) fun r => orBad (op2 p y' r) fun z' => .ok (.nw z') env3
        | .bl false => .ok (.nw (.bl false)) env2
        | _ => .bad) := rfl
theorem ev_w6 {cl : CallF} {a} {b} {s0 : Sl} {r0 : Env} : ev cl (.and a b) (s0 :: r0) = ((ev cl a (s0 :: r0)).bind fun u env1 => orBad (rdU env1 u) fun x => orBad (truD x) fun t => match t with
        | true => ev cl b env1
        | false => .ok (pend u) env1) := rfl
theorem ev_w7 {cl : CallF} {a} {b} {s0 : Sl} {r0 : Env} : ev cl (.or a b) (s0 :: r0) = ((ev cl a (s0 :: r0)).bind fun u env1 => orBad (rdU env1 u) fun x => orBad (truD x) fun t => match t with
        | true => .ok (pend u) env1
        | false => ev cl b env1) := rfl
theorem ev_w8 {cl : CallF} {a} {s0 : Sl} {r0 : Env} : ev cl (.not a) (s0 :: r0) = ((ev cl a (s0 :: r0)).bind fun u env1 => orBad (rdU env1 u) fun x => orBad (truD x) fun t => .ok (.nw (.bl (!t))) env1) := rfl
theorem ev_w9 {cl : CallF} {a} {b} {c} {s0 : Sl} {r0 : Env} : ev cl (.ife c a b) (s0 :: r0) = ((ev cl c (s0 :: r0)).bind fun u env1 => orBad (rdU env1 u) fun x => orBad (truD x) fun t => match t with
        | true => ev cl a env1
        | false => ev cl b env1) := rfl
theorem ev_w10 {cl : CallF} {es} {s0 : Sl} {r0 : Env} : ev cl (.tup es) (s0 :: r0) = ((evF cl es (s0 :: r0)).bind fun ds env1 => if ds.length ≤ LIM then .ok (.nw (.tup ds)) env1 else .bad) := rfl
theorem ev_w11 {cl : CallF} {es} {s0 : Sl} {r0 : Env} : ev cl (.lst es) (s0 :: r0) = ((evF cl es (s0 :: r0)).bind fun ds env1 => if ds.length ≤ LIM then .ok (.nw (.lst ds)) env1 else .bad) := rfl
theorem ev_w12 {cl : CallF} {s0 : Sl} {r0 : Env} : ev cl (.dic) (s0 :: r0) = (.ok (.nw (.dK [] [])) (s0 :: r0)) := rfl
theorem ev_w13 {cl : CallF} {es} {f} {ms} {s0 : Sl} {r0 : Env} : ev cl (.call f ms es) (s0 :: r0) = ((evC cl ms es (s0 :: r0)).bind fun us env1 => orBad (argsOf env1 ms us) fun as =>
      if dupFree (ioSlots us) then match cl f as with
        | .ok r outs => .ok r (putIO env1 (ioSlots us) outs)
        | .exc x outs => .exc x (putIO env1 (ioSlots us) outs)
        | .bad => .bad
      else .bad) := rfl
theorem ev_w14 {cl : CallF} {es} {f} {ms} {pm} {s0 : Sl} {r0 : Env} : ev cl (.callP f ms pm es) (s0 :: r0) = ((evC cl (ms.map fun _ => false) es (s0 :: r0)).bind fun us env1 => orBad (argsOf env1 ms (permL pm us)) fun as =>
      if dupFree (ioSlots (permL pm us)) && decide (us.length = ms.length) then match cl f as with
        | .ok r outs => .ok r (putIO env1 (ioSlots (permL pm us)) outs)
        | .exc x outs => .exc x (putIO env1 (ioSlots (permL pm us)) outs)
        | .bad => .bad
      else .bad) := rfl
theorem ev_w15 {cl : CallF} {b} {es} {s0 : Sl} {r0 : Env} : ev cl (.bi b es) (s0 :: r0) = ((evR cl es (s0 :: r0)).bind fun us env1 => orBad (rdAll env1 us) fun ds => orBad (biD b ds) fun z => .ok (.nw z) env1) := rfl
theorem ev_w16 {cl : CallF} {a} {i} {s0 : Sl} {r0 : Env} : ev cl (.ix a i) (s0 :: r0) = ((ev cl a (s0 :: r0)).bind fun u env1 => (ev cl i env1).bind fun w env2 =>
      orBad (rdU env2 (pend u)) fun x => orBad (rdU env2 w) fun y => orBad (ixD x y) fun z => .ok (.d z) env2) := rfl
theorem ev_w17 {cl : CallF} {a} {bh} {bl} {hi} {lo} {s0 : Sl} {r0 : Env} : ev cl (.slice a bl bh lo hi) (s0 :: r0) = ((ev cl a (s0 :: r0)).bind fun u env1 => (optP bl (ev cl lo) env1).bind fun l env2 => (optP bh (ev cl hi) env2).bind fun h env3 => orBad (rdU env3 (pend u)) fun x => match x with
        | .lst xs => .ok (.nw (.lst (cutD xs l h))) env3
        | .kst xs => .ok (.nw (.lst (cutD xs l h))) env3
        | .tup xs => if HT.sIx xs.length 0 l = 0 ∧ HT.sIx xs.length xs.length h = xs.length then .bad else .ok (.nw (.tup (cutD xs l h))) env3
        | .str z => if z.length ≤ LIM then .ok (.nw (.str (cutS z l h))) env3 else .bad
        | _ => .bad) := rfl
theorem ev_w18 {cl : CallF} {a} {k} {s0 : Sl} {r0 : Env} : ev cl (.fld a k) (s0 :: r0) = ((ev cl a (s0 :: r0)).bind fun u env1 => orBad (rdU env1 u) fun x => orBad (fldOf x k) fun z => .ok (.d z) env1) := rfl
theorem ev_w19 {cl : CallF} {a} {b} {cs} {o} {ts} {s0 : Sl} {r0 : Env} : ev cl (.opo o cs ts a b) (s0 :: r0) = ((ev cl a (s0 :: r0)).bind fun u env1 => orBad (fzU env1 u) fun p => (ev cl b p.2).bind fun w env2 => orBad (fzU env2 w) fun q => ownOp cl o cs ts p.1 q.1 q.2) := rfl
theorem ev_w20 {cl : CallF} {ds} {es} {f} {ms} {s0 : Sl} {r0 : Env} : ev cl (.callD f ms es ds) (s0 :: r0) = ((evC cl ms es (s0 :: r0)).bind fun us env1 => runC cl f (ms ++ ds.map fun _ => false) (us ++ ds.map .d) env1) := rfl
theorem ev_w21 {cl : CallF} {c} {ds} {es} {ms} {s0 : Sl} {r0 : Env} : ev cl (.mk c ms es ds) (s0 :: r0) = ((evC cl ms es (s0 :: r0)).bind fun us env1 => orBad (argsOf env1 (ms ++ ds.map fun _ => false) (us ++ ds.map .d)) fun as => if allFz as then makeO cl c as env1 else .bad) := rfl
theorem ev_w22 {cl : CallF} {a} {cs} {ds} {es} {io} {m} {ms} {s0 : Sl} {r0 : Env} : ev cl (.mth io a m cs ms es ds) (s0 :: r0) = ((ev cl a (s0 :: r0)).bind fun u env1 => orBad (recvU io env1 u) fun p => if !cs.contains p.1 then .bad else (evC cl ms es p.2.2).bind fun us env2 =>
      runC cl (spec p.1 m) (io :: (ms ++ ds.map fun _ => false)) (p.2.1 :: (us ++ ds.map .d)) env2) := rfl
theorem ev_w23 {cl : CallF} {a} {cs} {m} {s0 : Sl} {r0 : Env} : ev cl (.prp a m cs) (s0 :: r0) = ((ev cl a (s0 :: r0)).bind fun u env1 => orBad (recvU false env1 u) fun p => if !cs.contains p.1 then .bad else orBad (rdU p.2.2 p.2.1) fun x => match cl (spec p.1 m) [.fz x] with
      | .ok r _ => .ok r p.2.2
      | _ => .bad) := rfl
theorem ev_w24 {cl : CallF} {a} {b} {cs} {neg} {s0 : Sl} {r0 : Env} : ev cl (.ino neg cs a b) (s0 :: r0) = ((ev cl a (s0 :: r0)).bind fun u env1 => orBad (fzU env1 u) fun p => (ev cl b p.2).bind fun w env2 => orBad (fzU env2 w) fun q => ownIn cl neg cs p.1 q.1 q.2) := rfl
theorem ev_w25 {cl : CallF} {a} {b} {cs} {s0 : Sl} {r0 : Env} : ev cl (.neo cs a b) (s0 :: r0) = ((ev cl a (s0 :: r0)).bind fun u env1 => orBad (fzU env1 u) fun p => (ev cl b p.2).bind fun w env2 => orBad (fzU env2 w) fun q => ownNe cl cs p.1 q.1 q.2) := rfl
theorem ev_w26 {cl : CallF} {c} {e} {hc} {it} {tg} {vs} {s0 : Sl} {r0 : Env} : ev cl (.lc vs tg it hc c e) (s0 :: r0) = ((itD cl it (s0 :: r0)).bind fun ds env1 => lcAll vs env1 (lcD (lcTurn vs tg hc (ev cl c) (ev cl e)) ds env1 [])) := rfl
theorem ev_w27 {cl : CallF} {e} {i} {s0 : Sl} {r0 : Env} : ev cl (.popI i e) (s0 :: r0) = (if !isLs (getS (s0 :: r0) i) then .bad else (ev cl e (s0 :: r0)).bind fun u env1 => orBad (rdU env1 u) fun k => match getS env1 i, k with
      | .ow (.lst xs), .int n => orBad (popD xs n) fun p => .ok (.d p.1) (env1.set i (.ow (.lst p.2)))
      | .io (.lst xs), .int n => orBad (popD xs n) fun p => .ok (.d p.1) (env1.set i (.io (.lst p.2)))
      | _, _ => .bad) := rfl
theorem ev_w28 {cl : CallF} {b} {e} {o} {s0 : Sl} {r0 : Env} : ev cl (.bm b o e) (s0 :: r0) = ((ev cl o (s0 :: r0)).bind fun u env1 => orBad (rdU env1 u) fun x0 => if !recvB b x0 then .bad else (ev cl e env1).bind fun w env2 => orBad (rdU env2 (pend u)) fun x => orBad (rdU env2 w) fun y => orBad (biD b [x, y]) fun z => .ok (.nw z) env2) := rfl
theorem ev_w29 {cl : CallF} {a} {cs} {s0 : Sl} {r0 : Env} : ev cl (.booO cs a) (s0 :: r0) = ((ev cl a (s0 :: r0)).bind fun u env1 => orBad (recvU false env1 u) fun p => if !cs.contains p.1 then .bad else orBad (rdU p.2.2 p.2.1) fun x => match cl (spec p.1 24) [.fz x] with
      | .ok (.d (.bl b)) _ => .ok (.nw (.bl b)) p.2.2
      | _ => .bad) := rfl
theorem ev_w30 {cl : CallF} {a} {cs} {s0 : Sl} {r0 : Env} : ev cl (.lenO cs a) (s0 :: r0) = ((ev cl a (s0 :: r0)).bind fun u env1 => orBad (recvU false env1 u) fun p => if !cs.contains p.1 then .bad else orBad (rdU p.2.2 p.2.1) fun x => match cl (spec p.1 19) [.fz x] with
      | .ok (.d (.int n)) _ => if decide (0 ≤ n) && decide (n < 2 ^ 40) then .ok (.nw (.int n)) p.2.2 else .bad
      | _ => .bad) := rfl
theorem ev_w31 {cl : CallF} {es} {s0 : Sl} {r0 : Env} : ev cl (.fstr es) (s0 :: r0) = ((evJ cl es Str.empty (s0 :: r0)).bind fun z env1 => .ok (.nw (.str z)) env1) := rfl
theorem ev_w32 {cl : CallF} {a} {cs} {s0 : Sl} {r0 : Env} : ev cl (.strO cs a) (s0 :: r0) = ((ev cl a (s0 :: r0)).bind fun u env1 => orBad (recvU false env1 u) fun p => if !cs.contains p.1 then .bad else orBad (rdU p.2.2 p.2.1) fun x => match cl (spec p.1 21) [.fz x] with
      | .ok (.d (.str z)) _ => .ok (.nw (.str z)) p.2.2
      | _ => .bad) := rfl
theorem ev_w33 {cl : CallF} {c} {es} {pm} {s0 : Sl} {r0 : Env} : ev cl (.mkP c pm es) (s0 :: r0) = ((evC cl (pm.map fun _ => false) es (s0 :: r0)).bind fun us env1 => orBad (argsOf env1 (pm.map fun _ => false) (permL pm us)) fun as => if allFz as && decide (us.length = pm.length) then makeO cl c as env1 else .bad) := rfl
theorem ev_w34 {cl : CallF} {c} {es} {ks} {pm} {s0 : Sl} {r0 : Env} : ev cl (.mkEP c ks pm es) (s0 :: r0) = ((evF cl es (s0 :: r0)).bind fun ds env1 => if (permL pm ds).length = ks.length ∧ ds.length = ks.length then .ok (.d (.err c ks (permL pm ds).reverse)) env1 else .bad) := rfl
theorem ev_w35 {cl : CallF} {c} {es} {ks} {s0 : Sl} {r0 : Env} : ev cl (.mkE c ks es) (s0 :: r0) = ((evF cl es (s0 :: r0)).bind fun ds env1 => if ds.length = ks.length then .ok (.d (.err c ks ds.reverse)) env1 else .bad) := rfl
theorem ev_w36 {cl : CallF} {e} {f} {vs} {s0 : Sl} {r0 : Env} : ev cl (.heard f vs e) (s0 :: r0) = (orBad (frzAll vs (s0 :: r0)) fun env1 => match ev cl e (maskE env1) with
      | .ok u env2 => orBad (fzU env2 u) fun p => hearC cl f (.tup [.non, p.1]) env1
      | .exc x _ => hearC cl f (.err x.1 x.2.1 x.2.2) env1
      | .bad => .bad) := rfl
theorem ev_w37 {cl : CallF} {i} {k} {s0 : Sl} {r0 : Env} : ev cl (.ixK i k) (s0 :: r0) = (orBad (dkS (getS (s0 :: r0) i)) fun _ => (ev cl k (s0 :: r0)).bind fun w env1 => orBad (rdU env1 w) fun y => orBad (dkS (getS env1 i)) fun p => orBad (keyI y) fun n => orBad (getK p.1 p.2 n) fun d => .ok (.d d) env1) := rfl
theorem ev_w38 {cl : CallF} {i} {k} {x} {s0 : Sl} {r0 : Env} : ev cl (.dgt i k x) (s0 :: r0) = (orBad (dkS (getS (s0 :: r0) i)) fun _ => (ev cl k (s0 :: r0)).bind fun w env1 => (ev cl x env1).bind fun z env2 => orBad (fzU env2 z) fun q => orBad (rdU q.2 (pend w)) fun y => orBad (dkS (getS q.2 i)) fun p => orBad (keyI y) fun n =>
    .ok (.d ((getK p.1 p.2 n).getD q.1)) q.2) := rfl
theorem ev_w39 {cl : CallF} {e} {f} {vs} {s0 : Sl} {r0 : Env} : ev cl (.heardK f vs e) (s0 :: r0) = (orBad (frzAll vs (s0 :: r0)) fun env1 => match ev cl e (maskE env1) with
      | .ok u env2 => orBad (fzU env2 u) fun p => keepC (s0 :: r0) (hearC cl f (.tup [.non, p.1]) env1)
      | .exc x _ => keepC (s0 :: r0) (hearC cl f (.err x.1 x.2.1 x.2.2) env1)
      | .bad => .bad) := rfl
theorem ev_w40 {cl : CallF} {i} {s0 : Sl} {r0 : Env} : ev cl (.ask i) (s0 :: r0) = (match getS (s0 :: r0) i with
      | .fn => askR (cl 999 []) (s0 :: r0)
      | _ => .bad) := rfl
theorem ev_w41 {cl : CallF} {a} {b} {cs} {s0 : Sl} {r0 : Env} : ev cl (.getO cs a b) (s0 :: r0) = ((ev cl a (s0 :: r0)).bind fun u env1 => orBad (fzU env1 u) fun p => (ev cl b p.2).bind fun w env2 => orBad (fzU env2 w) fun q => ownGet cl cs p.1 q.1 q.2) := rfl
theorem ev_w42 {cl : CallF} {a} {cs} {es} {n} {s0 : Sl} {r0 : Env} : ev cl (.calO cs n a es) (s0 :: r0) = ((ev cl a (s0 :: r0)).bind fun u env1 => orBad (fzU env1 u) fun p => if !isObD p.1 then .bad else (evF cl es p.2).bind fun ds env2 => if ds.length = n then ownCal cl cs p.1 ds env2 else .bad) := rfl
theorem ev_w43 {cl : CallF} {c} {es} {m} {n} {s0 : Sl} {r0 : Env} : ev cl (.cmt c m n es) (s0 :: r0) = ((evF cl es (s0 :: r0)).bind fun ds env1 => if ds.length = n then (match cl (spec c m) ((.cls c :: ds).map .fz) with
      | .ok r _ => .ok r env1
      | .exc x _ => .exc x env1
      | .bad => .bad) else .bad) := rfl
theorem ev_w44 {cl : CallF} {c} {es} {i} {n} {s0 : Sl} {r0 : Env} : ev cl (.mkL i c n es) (s0 :: r0) = (if !isClsN c (getS (s0 :: r0) i) then .bad else (evF cl es (s0 :: r0)).bind fun ds env1 => if ds.length = n then makeO cl c (ds.map .fz) env1 else .bad) := rfl
theorem ev_w45 {cl : CallF} {c} {es} {i} {s0 : Sl} {r0 : Env} : ev cl (.mkLS i c es) (s0 :: r0) = (if !isClsN c (getS (s0 :: r0) i) then .bad else (evF cl es (s0 :: r0)).bind fun ds env1 => makeO cl c (ds.map .fz) env1) := rfl
theorem ev_w46 {cl : CallF} {es} {f} {s0 : Sl} {r0 : Env} : ev cl (.callS f es) (s0 :: r0) = ((evF cl es (s0 :: r0)).bind fun ds env1 => match cl f (ds.map .fz) with
      | .ok r _ => .ok r env1
      | .exc x _ => .exc x env1
      | .bad => .bad) := rfl
theorem ev_w47 {cl : CallF} {c} {es} {s0 : Sl} {r0 : Env} : ev cl (.mkS c es) (s0 :: r0) = ((evF cl es (s0 :: r0)).bind fun ds env1 => makeO cl c (ds.map .fz) env1) := rfl
theorem ev_w48 {cl : CallF} {a} {b} {cs} {s0 : Sl} {r0 : Env} : ev cl (.neL cs a b) (s0 :: r0) = ((ev cl a (s0 :: r0)).bind fun u env1 => orBad (fzU env1 u) fun p => (ev cl b p.2).bind fun w env2 => orBad (fzU env2 w) fun q => if eqLL cl cs p.1 q.1 then .ok (.nw (.bl false)) q.2 else .bad) := rfl
theorem ev_w49 {cl : CallF} {c} {es} {n} {s0 : Sl} {r0 : Env} : ev cl (.mkF c n es) (s0 :: r0) = ((evF cl es (s0 :: r0)).bind fun ds env1 => if ds.length = n then makeO cl c (ds.map .fz) env1 else .bad) := rfl
theorem ev_w50 {cl : CallF} {es} {f} {n} {s0 : Sl} {r0 : Env} : ev cl (.callF f n es) (s0 :: r0) = ((evF cl es (s0 :: r0)).bind fun ds env1 => if ds.length = n then (match cl f (ds.map .fz) with
      | .ok r _ => .ok r env1
      | .exc x _ => .exc x env1
      | .bad => .bad) else .bad) := rfl
theorem ev_w51 {cl : CallF} {a} {s0 : Sl} {r0 : Env} : ev cl (.keep a) (s0 :: r0) = (if (frzE (s0 :: r0)).all calmS then keepV (s0 :: r0) (ev cl a (frzE (s0 :: r0))) else .bad) := rfl
theorem ev_w52 {cl : CallF} {a} {cs} {m} {s0 : Sl} {r0 : Env} : ev cl (.opu m cs a) (s0 :: r0) = ((ev cl a (s0 :: r0)).bind fun u env1 => orBad (fzU env1 u) fun p => ownUn cl m cs p.1 p.2) := rfl
theorem ev_w53 {cl : CallF} {s0 : Sl} {r0 : Env} : ev cl (.dicT) (s0 :: r0) = (.ok (.nw (.dT [] [])) (s0 :: r0)) := rfl
theorem ev_w54 {cl : CallF} {i} {j} {m} {n} {s0 : Sl} {r0 : Env} : ev cl (.dis1 i j m n) (s0 :: r0) = (.ok (.nw (.dT [[i, j]] [.tup [.int m, .int n]])) (s0 :: r0)) := rfl
theorem ev_w55 {cl : CallF} {a} {k} {x} {s0 : Sl} {r0 : Env} : ev cl (.dgtT a k x) (s0 :: r0) = ((ev cl a (s0 :: r0)).bind fun u env0 => orBad (fzU env0 u) fun t => if !isDT t.1 then .bad else (ev cl k t.2).bind fun w env1 => orBad (fzU env1 w) fun y => (ev cl x y.2).bind fun z env2 => orBad (fzU env2 z) fun q => match t.1 with
      | .dT ks vs => orBad (keyTI y.1) fun n => .ok (.d ((getDT ks vs n).getD q.1)) q.2
      | _ => .bad) := rfl
theorem ev_w56 {cl : CallF} {a} {cs} {s0 : Sl} {r0 : Env} : ev cl (.isObj cs a) (s0 :: r0) = ((ev cl a (s0 :: r0)).bind fun u env1 => orBad (rdU env1 u) fun x => if isClsD x then .bad else .ok (.nw (.bl (isObjOf cs x))) env1) := rfl
theorem evF_w0 {cl : CallF} {s0 : Sl} {r0 : Env} : evF cl (.nil) (s0 :: r0) = (.ok [] (s0 :: r0)) := rfl
theorem evF_w1 {cl : CallF} {e} {es} {s0 : Sl} {r0 : Env} : evF cl (.cons e es) (s0 :: r0) = ((ev cl e (s0 :: r0)).bind fun u env1 => orBad (fzU env1 u) fun p => (evF cl es p.2).bind fun ds env2 => .ok (p.1 :: ds) env2) := rfl
theorem evF_w2 {cl : CallF} {e} {es} {s0 : Sl} {r0 : Env} : evF cl (.star e es) (s0 :: r0) = ((ev cl e (s0 :: r0)).bind fun u env1 => orBad (fzU env1 u) fun p => orBad (itemsD p.1) fun xs => (evF cl es p.2).bind fun ds env2 => .ok (xs ++ ds) env2) := rfl
theorem evR_w0 {cl : CallF} {s0 : Sl} {r0 : Env} : evR cl (.nil) (s0 :: r0) = (.ok [] (s0 :: r0)) := rfl
theorem evR_w1 {cl : CallF} {e} {es} {s0 : Sl} {r0 : Env} : evR cl (.cons e es) (s0 :: r0) = ((ev cl e (s0 :: r0)).bind fun u env1 => (evR cl es env1).bind fun us env2 => .ok (pend u :: us) env2) := rfl
theorem evR_w2 {cl : CallF} {z1} {z2} {s0 : Sl} {r0 : Env} : evR cl (.star z1 z2) (s0 :: r0) = (.bad) := rfl
theorem evC_w0 {cl : CallF} {z1} {s0 : Sl} {r0 : Env} : evC cl (z1) (.nil) (s0 :: r0) = (.ok [] (s0 :: r0)) := rfl
theorem evC_w1 {cl : CallF} {e} {es} {m} {ms} {s0 : Sl} {r0 : Env} : evC cl (m :: ms) (.cons e es) (s0 :: r0) = ((ev cl e (s0 :: r0)).bind fun u env1 => match m with
      | true => match u with
        | .sl i => (evC cl ms es env1).bind fun us env2 => .ok (.sl i :: us) env2
        | _ => .bad
      | false => orBad (fzU env1 u) fun p => (evC cl ms es p.2).bind fun us env2 => .ok (.d p.1 :: us) env2) := rfl
theorem evC_w2 {cl : CallF} {e} {es} {ms} {s0 : Sl} {r0 : Env} : evC cl (ms) (.star e es) (s0 :: r0) = ((ev cl e (s0 :: r0)).bind fun u env1 => orBad (fzU env1 u) fun p => orBad (itemsD p.1) fun xs => (evC cl ms es p.2).bind fun us env2 => .ok (xs.map .d ++ us) env2) := rfl
theorem evC_w3 {cl : CallF} {z1} {z2} {s0 : Sl} {r0 : Env} : evC cl ([]) (.cons z1 z2) (s0 :: r0) = (.bad) := rfl
theorem ex_w0 {cl : CallF} {e} {i} {s0 : Sl} {r0 : Env} : ex cl (.asg i e) (s0 :: r0) = ((ev cl e (s0 :: r0)).bind fun u env1 => orBad (asgU env1 i u) fun env2 => .ok .next env2) := rfl
theorem ex_w1 {cl : CallF} {e} {i} {x} {s0 : Sl} {r0 : Env} : ex cl (.setK i x e) (s0 :: r0) = ((ev cl e (s0 :: r0)).bind fun u env1 => orBad (fzU env1 u) fun q => if !isDk (getS q.2 i) then .bad else (ev cl x q.2).bind fun w env3 => orBad (rdU env3 w) fun y => if !isDk (getS env3 i) then .bad else
      orBad (dkS (getS env3 i)) fun p => orBad (keyI y) fun n => if p.1.length < LIM then .ok .next (env3.set i (setIO (getS env3 i) (putKD p.1 p.2 n q.1))) else .bad) := rfl
theorem ex_w2 {cl : CallF} {e} {i} {x} {s0 : Sl} {r0 : Env} : ex cl (.setT i x e) (s0 :: r0) = ((ev cl e (s0 :: r0)).bind fun u env1 => orBad (fzU env1 u) fun q => if !isDtS (getS q.2 i) then .bad else (ev cl x q.2).bind fun w env3 => orBad (fzU env3 w) fun y => orBad (dtS (getS y.2 i)) fun p => orBad (keyTI y.1) fun n =>
      if p.1.length < LIM then .ok .next (y.2.set i (setIO (getS y.2 i) (mkDT (putPT (p.1.zip p.2) n q.1)))) else .bad) := rfl
theorem ex_w3 {cl : CallF} {e} {i} {x} {s0 : Sl} {r0 : Env} : ex cl (.setI i x e) (s0 :: r0) = ((ev cl e (s0 :: r0)).bind fun u env1 => orBad (fzU env1 u) fun p => if !isLs (getS p.2 i) then .bad else (ev cl x p.2).bind fun w env2 =>
      orBad (rdU env2 w) fun k => match getS env2 i, k with
        | .ow (.lst xs), .int n => orBad (setD xs n p.1) fun ys => .ok .next (env2.set i (.ow (.lst ys)))
        | .io (.lst xs), .int n => orBad (setD xs n p.1) fun ys => .ok .next (env2.set i (.io (.lst ys)))
        | _, _ => .bad) := rfl
theorem ex_w4 {cl : CallF} {e} {i} {s0 : Sl} {r0 : Env} : ex cl (.app i e) (s0 :: r0) = (if !isLs (getS (s0 :: r0) i) then .bad else (ev cl e (s0 :: r0)).bind fun u env1 => orBad (fzU env1 u) fun p => match getS p.2 i with
        | .ow (.lst xs) => if xs.length < LIM then .ok .next (p.2.set i (.ow (.lst (xs ++ [p.1])))) else .bad
        | .io (.lst xs) => if xs.length < LIM then .ok .next (p.2.set i (.io (.lst (xs ++ [p.1])))) else .bad
        | _ => .bad) := rfl
theorem ex_w5 {cl : CallF} {e} {i} {s0 : Sl} {r0 : Env} : ex cl (.ext i e) (s0 :: r0) = (if !isLs (getS (s0 :: r0) i) then .bad else (ev cl e (s0 :: r0)).bind fun u env1 => orBad (fzU env1 u) fun p => match getS p.2 i, p.1 with
        | .ow (.lst xs), .lst ys => if xs.length + ys.length < LIM then .ok .next (p.2.set i (.ow (.lst (xs ++ ys)))) else .bad
        | .io (.lst xs), .lst ys => if xs.length + ys.length < LIM then .ok .next (p.2.set i (.io (.lst (xs ++ ys)))) else .bad
        | _, _ => .bad) := rfl
theorem ex_w6 {cl : CallF} {e} {i} {o} {s0 : Sl} {r0 : Env} : ex cl (.aug i o e) (s0 :: r0) = (match getS (s0 :: r0) i with
        | .fz (.int n) => (ev cl e (s0 :: r0)).bind fun u env1 => orBad (rdU env1 u) fun y => match y with
          | .int m => match o with
            | .add => .ok .next (env1.set i (.fz (.int (n + m))))
            | .sub => .ok .next (env1.set i (.fz (.int (n - m))))
            | _ => .bad
          | _ => .bad
        | _ => .bad) := rfl
theorem ex_w7 {cl : CallF} {e} {s0 : Sl} {r0 : Env} : ex cl (.ex e) (s0 :: r0) = ((ev cl e (s0 :: r0)).bind fun _ env1 => .ok .next env1) := rfl
theorem ex_w8 {cl : CallF} {a} {b} {c} {s0 : Sl} {r0 : Env} : ex cl (.iff c a b) (s0 :: r0) = ((evT cl c (s0 :: r0)).bind fun t env1 => match t with
      | true => exs cl a env1
      | false => exs cl b env1) := rfl
theorem ex_w9 {cl : CallF} {b} {i} {n} {s0 : Sl} {r0 : Env} : ex cl (.forr i n b) (s0 :: r0) = ((ev cl n (s0 :: r0)).bind fun u env1 => orBad (rdU env1 u) fun y => match y with
      | .int m => if decide (-(2 ^ 40) ≤ m) && decide (m < 2 ^ 40) then forD (exs cl b) i ((List.range m.toNat).map fun (k : Nat) => .int k) env1 else .bad
      | _ => .bad) := rfl
theorem ex_w10 {cl : CallF} {b} {i} {l} {s0 : Sl} {r0 : Env} : ex cl (.forl i l b) (s0 :: r0) = ((ev cl l (s0 :: r0)).bind fun u env1 => orBad (fzU env1 u) fun p => match p.1 with
      | .lst xs => forD (exs cl b) i xs p.2
      | .tup xs => forD (exs cl b) i xs p.2
      | .kst xs => forD (exs cl b) i xs p.2
      | _ => .bad) := rfl
theorem ex_w11 {cl : CallF} {b} {it} {tg} {s0 : Sl} {r0 : Env} : ex cl (.fort tg it b) (s0 :: r0) = ((itD cl it (s0 :: r0)).bind fun ds env1 => forG (exs cl b) tg ds env1) := rfl
theorem ex_w12 {cl : CallF} {b} {c} {s0 : Sl} {r0 : Env} : ex cl (.whil c b) (s0 :: r0) = (whD (evT cl c) (exs cl b) FUEL (s0 :: r0)) := rfl
theorem ex_w13 {cl : CallF} {e} {s0 : Sl} {r0 : Env} : ex cl (.ret e) (s0 :: r0) = ((ev cl e (s0 :: r0)).bind fun u env1 => orBad (retU env1 u) fun r => .ok (.ret r.1) r.2) := rfl
theorem ex_w14 {cl : CallF} {s0 : Sl} {r0 : Env} : ex cl (.retN) (s0 :: r0) = (.ok (.ret (.d .non)) (s0 :: r0)) := rfl
theorem ex_w15 {cl : CallF} {s0 : Sl} {r0 : Env} : ex cl (.pass) (s0 :: r0) = (.ok .next (s0 :: r0)) := rfl
theorem ex_w16 {cl : CallF} {s0 : Sl} {r0 : Env} : ex cl (.never) (s0 :: r0) = (.bad) := rfl
theorem ex_w17 {cl : CallF} {es} {is} {s0 : Sl} {r0 : Env} : ex cl (.par is es) (s0 :: r0) = ((evF cl es (s0 :: r0)).bind fun ds env1 => orBad (storeAll is ds env1) fun env2 => .ok .next env2) := rfl
theorem ex_w18 {cl : CallF} {a} {b} {i} {j} {s0 : Sl} {r0 : Env} : ex cl (.parK i j a b) (s0 :: r0) = ((ev cl a (s0 :: r0)).bind fun u env1 => orBad (fzU env1 u) fun p => (ev cl b p.2).bind fun w env3 => orBad (asgU env3 j w) fun env4 => .ok .next (env4.set i (.fz p.1))) := rfl
theorem ex_w19 {cl : CallF} {a} {d} {i} {j} {s0 : Sl} {r0 : Env} : ex cl (.parL i j a d) (s0 :: r0) = ((ev cl a (s0 :: r0)).bind fun u env1 => orBad (asgU env1 i u) fun env2 => .ok .next (env2.set j (.fz d))) := rfl
theorem ex_w20 {cl : CallF} {a} {d} {d2} {i} {j} {k} {s0 : Sl} {r0 : Env} : ex cl (.parL3 i j k a d d2) (s0 :: r0) = ((ev cl a (s0 :: r0)).bind fun u env1 => orBad (asgU env1 i u) fun env2 => .ok .next ((env2.set j (.fz d)).set k (.fz d2))) := rfl
theorem ex_w21 {cl : CallF} {a} {i} {j} {s0 : Sl} {r0 : Env} : ex cl (.parN i j a) (s0 :: r0) = ((ev cl a (s0 :: r0)).bind fun u env1 => orBad (asgU env1 i u) fun env2 => orBad (asgU env2 j (.nw (.lst []))) fun env3 => .ok .next env3) := rfl
theorem ex_w22 {cl : CallF} {is} {ses} {s0 : Sl} {r0 : Env} : ex cl (.parS is ses) (s0 :: r0) = (orBad (setSE is ses (s0 :: r0)) fun env2 => .ok .next env2) := rfl
theorem ex_w23 {cl : CallF} {e} {is} {s0 : Sl} {r0 : Env} : ex cl (.unp is e) (s0 :: r0) = ((ev cl e (s0 :: r0)).bind fun u env1 => orBad (rdU env1 u) fun d => match d with
      | .tup ds => orBad (storeAll is ds env1) fun env2 => .ok .next env2
      | .lst ds => orBad (storeAll is ds env1) fun env2 => .ok .next env2
      | .kst ds => orBad (storeAll is ds env1) fun env2 => .ok .next env2
      | _ => .bad) := rfl
theorem ex_w24 {cl : CallF} {cs} {e} {i} {k} {s0 : Sl} {r0 : Env} : ex cl (.setF i cs k e) (s0 :: r0) = ((ev cl e (s0 :: r0)).bind fun u env1 => orBad (fzU env1 u) fun p => match getS p.2 i with
      | .ow (.obj c ks vs) => if (decide (ks.length < 100) && decide (vs.length = ks.length) && cs.contains c) = true then .ok .next (p.2.set i (.ow (.obj c (putD ks vs k p.1).1 (putD ks vs k p.1).2))) else .bad
      | .io (.obj c ks vs) => if (decide (ks.length < 100) && decide (vs.length = ks.length) && cs.contains c) = true then .ok .next (p.2.set i (.io (.obj c (putD ks vs k p.1).1 (putD ks vs k p.1).2))) else .bad
      | _ => .bad) := rfl
theorem ex_w25 {cl : CallF} {s0 : Sl} {r0 : Env} : ex cl (.brk) (s0 :: r0) = (.ok .brk (s0 :: r0)) := rfl
theorem ex_w26 {cl : CallF} {s0 : Sl} {r0 : Env} : ex cl (.cont) (s0 :: r0) = (.ok .cont (s0 :: r0)) := rfl
theorem ex_w27 {cl : CallF} {c} {es} {ks} {s0 : Sl} {r0 : Env} : ex cl (.raise c ks es) (s0 :: r0) = ((evF cl es (s0 :: r0)).bind fun ds env1 => if ds.length = ks.length then .exc (c, ks, ds.reverse) env1 else .bad) := rfl
theorem ex_w28 {cl : CallF} {b} {cs} {i} {j} {s0 : Sl} {r0 : Env} : ex cl (.tryC b cs i j) (s0 :: r0) = (match exs cl b (s0 :: r0) with
      | .exc x env1 => if cs.contains x.1 then .ok .next (((env1.set i .un).set j (.fz (.err x.1 x.2.1 x.2.2))).set i .un) else .bad
      | r => r) := rfl
theorem exs_w0 {cl : CallF} {s0 : Sl} {r0 : Env} : exs cl (.nil) (s0 :: r0) = (.ok .next (s0 :: r0)) := rfl
theorem exs_w1 {cl : CallF} {r} {s} {s0 : Sl} {r0 : Env} : exs cl (.cons s r) (s0 :: r0) = ((ex cl s (s0 :: r0)).bind fun fl env1 => match fl with
      | .next => exs cl r env1
      | f => .ok f env1) := rfl
theorem itD_w0 {cl : CallF} {e} {s0 : Sl} {r0 : Env} : itD cl (.seq e) (s0 :: r0) = ((ev cl e (s0 :: r0)).bind fun u env1 => orBad (fzU env1 u) fun p => orBad (itemsD p.1) fun xs => .ok xs p.2) := rfl
theorem itD_w1 {cl : CallF} {hi} {lo} {s0 : Sl} {r0 : Env} : itD cl (.rng lo hi) (s0 :: r0) = ((ev cl lo (s0 :: r0)).bind fun u env1 => (ev cl hi env1).bind fun w env2 => orBad (rdU env2 (pend u)) fun x => orBad (rdU env2 w) fun y => match x, y with
      | .int m, .int n => if b40 m && b40 n then .ok ((List.range (n - m).toNat).map fun (k : Nat) => .int (m + k)) env2 else .bad
      | _, _ => .bad) := rfl
theorem itD_w2 {cl : CallF} {hi} {lo} {s0 : Sl} {r0 : Env} : itD cl (.down lo hi) (s0 :: r0) = ((ev cl lo (s0 :: r0)).bind fun u env1 => (ev cl hi env1).bind fun w env2 => orBad (rdU env2 (pend u)) fun x => orBad (rdU env2 w) fun y => match x, y with
      | .int m, .int n => if b40 m && b40 n then .ok ((List.range (m - n).toNat).map fun (k : Nat) => .int (m - k)) env2 else .bad
      | _, _ => .bad) := rfl
theorem itD_w3 {cl : CallF} {e} {s0 : Sl} {r0 : Env} : itD cl (.enum e) (s0 :: r0) = ((ev cl e (s0 :: r0)).bind fun u env1 => orBad (fzU env1 u) fun p => orBad (itemsD p.1) fun xs => .ok (enumD 0 xs) p.2) := rfl
theorem itD_w4 {cl : CallF} {a} {b} {s0 : Sl} {r0 : Env} : itD cl (.zip a b) (s0 :: r0) = ((ev cl a (s0 :: r0)).bind fun u env1 => orBad (fzU env1 u) fun p => (ev cl b p.2).bind fun w env2 => orBad (fzU env2 w) fun q => orBad (zipD p.1 q.1) fun xs => .ok xs q.2) := rfl
theorem itD_w5 {cl : CallF} {e} {s0 : Sl} {r0 : Env} : itD cl (.str e) (s0 :: r0) = ((ev cl e (s0 :: r0)).bind fun u env1 => orBad (rdU env1 u) fun x => match x with
      | .str z => .ok (z.cps.toList.map fun c => .str ⟨#[c]⟩) env1
      | _ => .bad) := rfl
theorem itD_w6 {cl : CallF} {e} {s0 : Sl} {r0 : Env} : itD cl (.keysT e) (s0 :: r0) = ((ev cl e (s0 :: r0)).bind fun u env1 => orBad (fzU env1 u) fun p => match p.1 with
      | .dT ks _ => .ok (ks.map keyTD) p.2
      | _ => .bad) := rfl
theorem itD_w7 {cl : CallF} {i} {s0 : Sl} {r0 : Env} : itD cl (.keys i) (s0 :: r0) = (orBad (dkW (getS (s0 :: r0) i)) fun p => .ok (p.1.map keyD) ((s0 :: r0).set i (.fz (.dK p.1 p.2)))) := rfl
theorem itD_w8 {cl : CallF} {cs} {e} {j} {s0 : Sl} {r0 : Env} : itD cl (.own cs j e) (s0 :: r0) = ((ev cl e (s0 :: r0)).bind fun u env1 => orBad (recvU false env1 u) fun p => if !cs.contains p.1 then .bad else orBad (rdU p.2.2 p.2.1) fun x => orBad (fldOf x j) fun d => orBad (itemsD d) fun xs => .ok xs p.2.2) := rfl
theorem evT_w {cl : CallF} {e} {s0 : Sl} {r0 : Env} : evT cl e (s0 :: r0) = ((ev cl e (s0 :: r0)).bind fun u env1 => orBad (rdU env1 u) fun x => orBad (truD x) fun t => .ok t env1) := rfl
end PP
end
section
namespace PP
open PySem L2
theorem getS_0 (s : Sl) (r : Env) : getS (s :: r) 0 = s := rfl
theorem getS_s (s : Sl) (r : Env) (n : Nat) : getS (s :: r) (n + 1) = getS r n := rfl
theorem set_0 (s x : Sl) (r : Env) : List.set (s :: r) 0 x = x :: r := rfl
theorem set_s (s x : Sl) (r : Env) (n : Nat) : List.set (s :: r) (n + 1) x = s :: List.set r n x := rfl
theorem bnd64_l {i j : Int} (h : -18446744073709551616 < i) (h' : i < 18446744073709551616) : (bnd64 i || bnd64 j) = true := by simp [bnd64]; omega
theorem mulOk_b {i j : Int} (h : (bnd64 i || bnd64 j) = true) : mulOk i j = true := by simp only [mulOk, h, Bool.true_or]
theorem mul_l {i j : Int} (h : -18446744073709551616 < i) (h' : i < 18446744073709551616) : op2 .mul (.int i) (.int j) = some (.int (i * j)) := by simp only [op2, mulOk_b (bnd64_l h h'), if_true]
theorem log2_lt {i : Int} {n : Nat} (h : i.natAbs < 2 ^ (n + 1)) : i.natAbs.log2 < n + 1 := by
  by_cases hz : i.natAbs = 0
  · rw [hz]; simp
  · exact (Nat.log2_lt hz).mpr h
theorem log2_b {i : Int} (h : -57896044618658097711785492504343953926634992332820282019728792003956564819968 < i) (h' : i < 57896044618658097711785492504343953926634992332820282019728792003956564819968) : i.natAbs.log2 < 300 := by
  have : i.natAbs < 2 ^ (254 + 1) := by
    have e : (2 : Nat) ^ (254 + 1) = 57896044618658097711785492504343953926634992332820282019728792003956564819968 := by decide
    rw [e]; omega
  have := log2_lt this
  omega
/-- two factors below 2 ^ 255 -/
theorem mul_w {i j : Int} (h : -57896044618658097711785492504343953926634992332820282019728792003956564819968 < i) (h1 : i < 57896044618658097711785492504343953926634992332820282019728792003956564819968) (h2 : -57896044618658097711785492504343953926634992332820282019728792003956564819968 < j) (h3 : j < 57896044618658097711785492504343953926634992332820282019728792003956564819968) : op2 .mul (.int i) (.int j) = some (.int (i * j)) := by
  have a := log2_b h h1
  have b := log2_b h2 h3
  have : mulOk i j = true := by
    simp only [mulOk, Bool.or_eq_true, decide_eq_true_eq]
    exact .inr (by omega)
  simp only [op2, this, if_true]
theorem mul_1 (j : Int) : op2 .mul (.int 1) (.int j) = some (.int j) := by rw [mul_l (by decide) (by decide), Int.one_mul]
theorem mul_m1 (j : Int) : op2 .mul (.int (-1)) (.int j) = some (.int (-j)) := by rw [mul_l (by decide) (by decide), Int.neg_mul, Int.one_mul]
theorem shl_p {i j : Int} (h0 : 0 ≤ j) (h1 : j ≤ 1000000) (h : -57896044618658097711785492504343953926634992332820282019728792003956564819968 < i) (h' : i < 57896044618658097711785492504343953926634992332820282019728792003956564819968) : op2 .shl (.int i) (.int j) = some (.int (i * 2 ^ j.toNat)) := by
  have a := log2_b h h'
  have : shlOk i j = true := by
    simp only [shlOk, Bool.and_eq_true, decide_eq_true_eq]
    exact ⟨⟨h0, h1⟩, by omega⟩
  simp only [op2, this, if_true]
theorem mod_p {i j : Int} (h : 0 < j) : op2 .mod (.int i) (.int j) = some (.int (i % j)) := by simp only [op2, h, if_true]
theorem fdiv_w {i j : Int} (h : 0 < j) (h' : j < 57896044618658097711785492504343953926634992332820282019728792003956564819968) : op2 .fdiv (.int i) (.int j) = some (.int (i / j)) := by
  have a := log2_b (i := j) (by omega) h'
  have : divOk j = true := by simp only [divOk, h, decide_true, Bool.true_and, decide_eq_true_eq]; omega
  simp only [op2, this, if_true]
theorem fdiv_p {i j : Int} (h : 0 < j) (h' : j < 1073741824) : op2 .fdiv (.int i) (.int j) = some (.int (i / j)) := by
  have a := log2_lt (i := j) (n := 29) (by omega)
  have : divOk j = true := by simp only [divOk, h, decide_true, Bool.true_and, decide_eq_true_eq]; omega
  simp only [op2, this, if_true]
theorem pow_p {i j : Int} (h : 0 ≤ j) (h1 : j ≤ 1000000) (h' : i.natAbs < 18446744073709551616) : op2 .pow (.int i) (.int j) = some (.int (i ^ j.toNat)) := by
  have z : i.natAbs < 2 ^ 64 := h'
  simp only [op2, powOk, h, h1, z, decide_true, Bool.and_self, if_true]
theorem fin_ok (as : List Ar) (fl : Fl) (env : Env) : finR as (.ok fl env) = finO (outsOf as env) fl := rfl
theorem fin_exc (as : List Ar) (d : Exn) (env : Env) : finR as (.exc d env) = finX (outsOf as env) d := rfl
theorem finX_s (o : List D) (d : Exn) : finX (some o) d = .exc d o := rfl
theorem finO_next (o : List D) : finO (some o) .next = .ok (.d .non) o := rfl
theorem finO_d (o : List D) (x : D) : finO (some o) (.ret (.d x)) = .ok (.d x) o := rfl
theorem finO_nw (o : List D) (x : D) : finO (some o) (.ret (.nw x)) = .ok (nrm x) o := rfl
theorem rdU_d (env : Env) (x : D) : rdU env (.d x) = some x := rfl
theorem rdU_nw (env : Env) (x : D) : rdU env (.nw x) = some x := rfl
theorem rdU_sl (env : Env) (i : Nat) : rdU env (.sl i) = rdS (getS env i) := rfl
theorem rdS_fz (d : D) : rdS (.fz d) = some d := rfl
theorem rdS_ow (d : D) : rdS (.ow d) = some d := rfl
theorem rdS_io (d : D) : rdS (.io d) = some d := rfl
theorem pend_d (x : D) : pend (.d x) = .d x := rfl
theorem pend_nw (x : D) : pend (.nw x) = .d x := rfl
theorem pend_sl (i : Nat) : pend (.sl i) = .sl i := rfl
theorem fzU_d (env : Env) (x : D) : fzU env (.d x) = some (x, env) := rfl
theorem fzU_nw (env : Env) (x : D) : fzU env (.nw x) = some (x, env) := rfl
theorem fzU_sl (env : Env) (i : Nat) : fzU env (.sl i) = match getS env i with | .fz d => some (d, env) | .ow d => some (d, env.set i (.fz d)) | _ => none := rfl
theorem asgU_d (env : Env) (i : Nat) (d : D) : asgU env i (.d d) = some (env.set i (.fz d)) := rfl
theorem asgU_nw (env : Env) (i : Nat) (d : D) : asgU env i (.nw d) = some (env.set i (slOf (.nw d) d)) := rfl
theorem asgU_sl (env : Env) (i j : Nat) : asgU env i (.sl j) = (fzU env (.sl j)).map fun p => p.2.set i (.fz p.1) := rfl
theorem slOf_non (u : U) : slOf u .non = .fz .non := by cases u <;> rfl
theorem slOf_bl (u : U) (b : Bool) : slOf u (.bl b) = .fz (.bl b) := by cases u <;> rfl
theorem slOf_int (u : U) (b : Int) : slOf u (.int b) = .fz (.int b) := by cases u <;> rfl
theorem slOf_str (u : U) (b : Str) : slOf u (.str b) = .fz (.str b) := by cases u <;> rfl
theorem slOf_tup (u : U) (b : List D) : slOf u (.tup b) = .fz (.tup b) := by cases u <;> rfl
theorem slOf_lst (x : D) (b : List D) : slOf (.nw x) (.lst b) = .ow (.lst b) := rfl
theorem slOf_dK (x : D) (ks : List Key) (b : List D) : slOf (.nw x) (.dK ks b) = .ow (.dK ks b) := rfl
theorem isLs_ow (xs : List D) : isLs (.ow (.lst xs)) = true := rfl
theorem isLs_io (xs : List D) : isLs (.io (.lst xs)) = true := rfl
theorem retU_d (env : Env) (x : D) : retU env (.d x) = some (.d x, env) := rfl
theorem retU_nw (env : Env) (x : D) : retU env (.nw x) = some (.nw x, env) := rfl
theorem retU_sl (env : Env) (i : Nat) : retU env (.sl i) = match getS env i with | .ow x => some (.nw x, env.set i .un) | .fz x => some (.d x, env) | _ => none := rfl
theorem nrm_non : nrm .non = .d .non := rfl
theorem nrm_bl (b : Bool) : nrm (.bl b) = .d (.bl b) := rfl
theorem nrm_int (b : Int) : nrm (.int b) = .d (.int b) := rfl
theorem nrm_str (b : Str) : nrm (.str b) = .d (.str b) := rfl
theorem nrm_tup (b : List D) : nrm (.tup b) = .d (.tup b) := rfl
theorem nrm_lst (b : List D) : nrm (.lst b) = .nw (.lst b) := rfl
theorem nrm_dK (k : List Key) (b : List D) : nrm (.dK k b) = .nw (.dK k b) := rfl
theorem setIO_ow (x d : D) : setIO (.ow x) d = .ow d := rfl
theorem setIO_io (x d : D) : setIO (.io x) d = .io d := rfl
theorem dupF_0 : dupFree [] = true := rfl
theorem dupF_1 (i : Nat) : dupFree [i] = true := by simp [dupFree]
theorem optP_f (f : Env → R U) (env : Env) : optP false f env = .ok none env := rfl
theorem optP_t (f : Env → R U) (env : Env) : optP true f env = (f env).bind partD := rfl
theorem truD_bl (b : Bool) : truD (.bl b) = some b := rfl
theorem truD_non : truD .non = some false := rfl
theorem truD_lst (b : List D) : truD (.lst b) = some (!b.isEmpty) := rfl
theorem partD_eq (u : U) (env : Env) : partD u env = orBad (rdU env u) fun d => match d with | .int i => .ok (some i) env | _ => .bad := rfl
theorem atI_c {α : Type} (xs : List α) (n : Nat) (a : α) (h : xs[n]? = some a) : L2.atI xs (n : Int) = some a := by
  have h5 : n < xs.length := (List.getElem?_eq_some_iff.mp h).1
  unfold L2.atI L2.ixN
  rw [if_pos (by omega), if_pos (by omega)]
  simpa using h
theorem ix_lst_0 (a0 : D) (xs : List D) : ixD (.lst (a0 :: xs)) (.int 0) = some a0 := atI_c _ 0 _ rfl
theorem ix_lst_1 (a0 a1 : D) (xs : List D) : ixD (.lst (a0 :: a1 :: xs)) (.int 1) = some a1 := atI_c _ 1 _ rfl
theorem ix_lst_2 (a0 a1 a2 : D) (xs : List D) : ixD (.lst (a0 :: a1 :: a2 :: xs)) (.int 2) = some a2 := atI_c _ 2 _ rfl
theorem ix_lst_3 (a0 a1 a2 a3 : D) (xs : List D) : ixD (.lst (a0 :: a1 :: a2 :: a3 :: xs)) (.int 3) = some a3 := atI_c _ 3 _ rfl
theorem ix_lst_4 (a0 a1 a2 a3 a4 : D) (xs : List D) : ixD (.lst (a0 :: a1 :: a2 :: a3 :: a4 :: xs)) (.int 4) = some a4 := atI_c _ 4 _ rfl
theorem ix_lst_5 (a0 a1 a2 a3 a4 a5 : D) (xs : List D) : ixD (.lst (a0 :: a1 :: a2 :: a3 :: a4 :: a5 :: xs)) (.int 5) = some a5 := atI_c _ 5 _ rfl
theorem ix_tup_0 (a0 : D) (xs : List D) : ixD (.tup (a0 :: xs)) (.int 0) = some a0 := atI_c _ 0 _ rfl
theorem ix_tup_1 (a0 a1 : D) (xs : List D) : ixD (.tup (a0 :: a1 :: xs)) (.int 1) = some a1 := atI_c _ 1 _ rfl
theorem ix_tup_2 (a0 a1 a2 : D) (xs : List D) : ixD (.tup (a0 :: a1 :: a2 :: xs)) (.int 2) = some a2 := atI_c _ 2 _ rfl
theorem ix_tup_3 (a0 a1 a2 a3 : D) (xs : List D) : ixD (.tup (a0 :: a1 :: a2 :: a3 :: xs)) (.int 3) = some a3 := atI_c _ 3 _ rfl
theorem ix_tup_4 (a0 a1 a2 a3 a4 : D) (xs : List D) : ixD (.tup (a0 :: a1 :: a2 :: a3 :: a4 :: xs)) (.int 4) = some a4 := atI_c _ 4 _ rfl
theorem ix_tup_5 (a0 a1 a2 a3 a4 a5 : D) (xs : List D) : ixD (.tup (a0 :: a1 :: a2 :: a3 :: a4 :: a5 :: xs)) (.int 5) = some a5 := atI_c _ 5 _ rfl
theorem bi_len_s {z : Str} (h : z.length ≤ 100000) : biD .len [.str z] = some (.int z.length) := if_pos h
theorem bi_int_s {z : Str} {v : Int} (hl : z.length ≤ 640) (h : PySem.intText? z = some v) : biD .int [.str z] = some (.int v) := by
  show (if _ then _ else _) = _
  rw [if_pos hl, h]
  rfl
theorem bi_split {z : Str} (h : z.length ≤ 100000) : biD .split [.str z, .str " "] = some (.lst ((Txt.split z " ").map .str)) := by
  have h : z.length ≤ LIM := h
  show (if _ then _ else _) = _
  rw [if_pos (by simp only [h, decide_true, Bool.true_and]; decide)]
theorem ix_str {z : Str} {c : Nat} {r : List Nat} (h : z.length ≤ 100000) (e : z.cps.toList = c :: r) : ixD (.str z) (.int 0) = some (.str ⟨#[c]⟩) := by
  have h : z.length ≤ LIM := h
  simp only [ixD, h, if_true, e]
  rw [show L2.atI (c :: r) 0 = some c from atI_c _ 0 _ rfl]
  rfl
theorem ix_kst_0 (a0 : D) (xs : List D) : ixD (.kst (a0 :: xs)) (.int 0) = some a0 := atI_c _ 0 _ rfl
theorem ix_kst_1 (a0 a1 : D) (xs : List D) : ixD (.kst (a0 :: a1 :: xs)) (.int 1) = some a1 := atI_c _ 1 _ rfl
theorem ix_kst_2 (a0 a1 a2 : D) (xs : List D) : ixD (.kst (a0 :: a1 :: a2 :: xs)) (.int 2) = some a2 := atI_c _ 2 _ rfl
theorem ix_kst_3 (a0 a1 a2 a3 : D) (xs : List D) : ixD (.kst (a0 :: a1 :: a2 :: a3 :: xs)) (.int 3) = some a3 := atI_c _ 3 _ rfl
theorem ix_kst_4 (a0 a1 a2 a3 a4 : D) (xs : List D) : ixD (.kst (a0 :: a1 :: a2 :: a3 :: a4 :: xs)) (.int 4) = some a4 := atI_c _ 4 _ rfl
theorem ix_kst_5 (a0 a1 a2 a3 a4 a5 : D) (xs : List D) : ixD (.kst (a0 :: a1 :: a2 :: a3 :: a4 :: a5 :: xs)) (.int 5) = some a5 := atI_c _ 5 _ rfl
theorem set_l3_1 (a b c x : D) : setD [a, b, c] 1 x = some [a, x, c] := rfl
theorem set_l3_2 (a b c x : D) : setD [a, b, c] 2 x = some [a, b, x] := rfl
theorem bi_int_i (i : Int) : biD .int [.int i] = some (.int i) := rfl
theorem bi_int_b (b : Bool) : biD .int [.bl b] = some (.int (if b then 1 else 0)) := rfl
theorem bi_abs (i : Int) : biD .abs [.int i] = some (.int (if i < 0 then -i else i)) := rfl
theorem bi_len_l (xs : List D) : biD .len [.lst xs] = some (.int xs.length) := rfl
theorem bi_len_t (xs : List D) : biD .len [.tup xs] = some (.int xs.length) := rfl
theorem bi_isInt_non : biD .isInt [.non] = some (.bl false) := rfl
theorem bi_isInt_bl (a : Bool) : biD .isInt [.bl a] = some (.bl true) := rfl
theorem bi_isInt_int (a : Int) : biD .isInt [.int a] = some (.bl true) := rfl
theorem bi_isInt_str (a : Str) : biD .isInt [.str a] = some (.bl false) := rfl
theorem bi_isInt_tup (a : List D) : biD .isInt [.tup a] = some (.bl false) := rfl
theorem bi_isInt_lst (a : List D) : biD .isInt [.lst a] = some (.bl false) := rfl
theorem bi_isInt_kst (a : List D) : biD .isInt [.kst a] = some (.bl false) := rfl
theorem bi_isInt_dK (k : List Key) (a : List D) : biD .isInt [.dK k a] = some (.bl false) := rfl
theorem bi_isBool_non : biD .isBool [.non] = some (.bl false) := rfl
theorem bi_isBool_bl (a : Bool) : biD .isBool [.bl a] = some (.bl true) := rfl
theorem bi_isBool_int (a : Int) : biD .isBool [.int a] = some (.bl false) := rfl
theorem bi_isBool_str (a : Str) : biD .isBool [.str a] = some (.bl false) := rfl
theorem bi_isBool_tup (a : List D) : biD .isBool [.tup a] = some (.bl false) := rfl
theorem bi_isBool_lst (a : List D) : biD .isBool [.lst a] = some (.bl false) := rfl
theorem bi_isBool_kst (a : List D) : biD .isBool [.kst a] = some (.bl false) := rfl
theorem bi_isBool_dK (k : List Key) (a : List D) : biD .isBool [.dK k a] = some (.bl false) := rfl
theorem bi_isTuple_non : biD .isTuple [.non] = some (.bl false) := rfl
theorem bi_isTuple_bl (a : Bool) : biD .isTuple [.bl a] = some (.bl false) := rfl
theorem bi_isTuple_int (a : Int) : biD .isTuple [.int a] = some (.bl false) := rfl
theorem bi_isTuple_str (a : Str) : biD .isTuple [.str a] = some (.bl false) := rfl
theorem bi_isTuple_tup (a : List D) : biD .isTuple [.tup a] = some (.bl true) := rfl
theorem bi_isTuple_lst (a : List D) : biD .isTuple [.lst a] = some (.bl false) := rfl
theorem bi_isTuple_kst (a : List D) : biD .isTuple [.kst a] = some (.bl false) := rfl
theorem bi_isTuple_dK (k : List Key) (a : List D) : biD .isTuple [.dK k a] = some (.bl false) := rfl
theorem bi_isList_non : biD .isList [.non] = some (.bl false) := rfl
theorem bi_isList_bl (a : Bool) : biD .isList [.bl a] = some (.bl false) := rfl
theorem bi_isList_int (a : Int) : biD .isList [.int a] = some (.bl false) := rfl
theorem bi_isList_str (a : Str) : biD .isList [.str a] = some (.bl false) := rfl
theorem bi_isList_tup (a : List D) : biD .isList [.tup a] = some (.bl false) := rfl
theorem bi_isList_lst (a : List D) : biD .isList [.lst a] = some (.bl true) := rfl
theorem bi_isList_kst (a : List D) : biD .isList [.kst a] = some (.bl true) := rfl
theorem bi_isList_dK (k : List Key) (a : List D) : biD .isList [.dK k a] = some (.bl false) := rfl
theorem bi_isStr_non : biD .isStr [.non] = some (.bl false) := rfl
theorem bi_isStr_bl (a : Bool) : biD .isStr [.bl a] = some (.bl false) := rfl
theorem bi_isStr_int (a : Int) : biD .isStr [.int a] = some (.bl false) := rfl
theorem bi_isStr_str (a : Str) : biD .isStr [.str a] = some (.bl true) := rfl
theorem bi_isStr_tup (a : List D) : biD .isStr [.tup a] = some (.bl false) := rfl
theorem bi_isStr_lst (a : List D) : biD .isStr [.lst a] = some (.bl false) := rfl
theorem bi_isStr_kst (a : List D) : biD .isStr [.kst a] = some (.bl false) := rfl
theorem bi_isStr_dK (k : List Key) (a : List D) : biD .isStr [.dK k a] = some (.bl false) := rfl
theorem le_lim {n : Nat} (h : n ≤ 100000) : (n ≤ LIM) = True := eq_true h
theorem lt_lim {n : Nat} (h : n < 100000) : (n < LIM) = True := eq_true h
theorem pw_10_18 : op2 .pow (.int 10) (.int 18) = some (.int 1000000000000000000) := rfl
theorem o_gt_i (i j : Int) : op2 .gt (.int i) (.int j) = some (.bl (decide (j < i))) := rfl
theorem o_lt_i (i j : Int) : op2 .lt (.int i) (.int j) = some (.bl (decide (i < j))) := rfl
theorem o_ge_i (i j : Int) : op2 .ge (.int i) (.int j) = some (.bl (decide (j ≤ i))) := rfl
theorem o_le_i (i j : Int) : op2 .le (.int i) (.int j) = some (.bl (decide (i ≤ j))) := rfl
theorem o_add_i (i j : Int) : op2 .add (.int i) (.int j) = some (.int (i + j)) := rfl
theorem o_sub_i (i j : Int) : op2 .sub (.int i) (.int j) = some (.int (i - j)) := rfl
theorem o_rev_l (xs : List D) : op1 .rev (.lst xs) = some (.lst xs.reverse) := rfl
theorem o_rev_t (xs : List D) : op1 .rev (.tup xs) = some (.tup xs.reverse) := rfl
theorem o_neg_i (i : Int) : op1 .neg (.int i) = some (.int (-i)) := rfl
theorem o_eq_i (i j : Int) : op2 .eq (.int i) (.int j) = some (.bl (i == j)) := rfl
theorem o_ne_i (i j : Int) : op2 .ne (.int i) (.int j) = some (.bl (!(i == j))) := rfl
theorem o_eq_s (i j : Str) : op2 .eq (.str i) (.str j) = some (.bl (decide (i = j))) := rfl
theorem o_ne_s (i j : Str) : op2 .ne (.str i) (.str j) = some (.bl (!decide (i = j))) := rfl
theorem o_eq_b (i j : Bool) : op2 .eq (.bl i) (.bl j) = some (.bl (i == j)) := rfl
theorem ints_py : ∀ cs : List Int, toPyAll (cs.map D.int) = some (cs.map PyData.int)
  | [] => rfl
  | c :: cs => by simp only [List.map_cons, toPyAll, toPy, ints_py cs]
theorem ints_lay : ∀ cs : List Int, PyData.canLayAll0 (cs.map PyData.int) = true ∧ PyData.depthAll (cs.map PyData.int) = 0
  | [] => ⟨by simp [PyData.canLayAll0], by simp [PyData.depthAll]⟩
  | c :: cs => by
    obtain ⟨h1, h2⟩ := ints_lay cs
    exact ⟨by simp [PyData.canLayAll0, PyData.canLay0, h1], by simp [PyData.depthAll, PyData.depth, h2]⟩
theorem ne_nil (cs : List Int) : op2 .ne (.lst (cs.map D.int)) (.lst []) = some (.bl (!cs.isEmpty)) := by
  obtain ⟨h1, h2⟩ := ints_lay cs
  have s1 : SeqAt.shaped (.list (cs.map PyData.int)) = true := by simp [SeqAt.shaped, PyData.canLay0, PyData.depth, h1, h2]
  have s2 : SeqAt.shaped (.list []) = true := by decide +kernel
  have e : op2 .ne (.lst (cs.map D.int)) (.lst []) = (eqP (.lst (cs.map D.int)) (.lst [])).map fun b => .bl (!b) := rfl
  rw [e]
  unfold eqP
  simp only [toPy, ints_py, Option.map_some, toPyAll, s1, s2, Bool.and_self, if_true, PyData.eqv]
  cases cs <;> simp [PyData.eqvAll]
theorem fldOf_o (c : Nat) (ks : List Nat) (vs : List D) (j : Nat) : fldOf (.obj c ks vs) j = fldD ks vs j := rfl
theorem fldOf_e (c : Nat) (ks : List Nat) (vs : List D) (j : Nat) : fldOf (.err c ks vs) j = fldD ks vs j := rfl
theorem fldD_c (k : Nat) (ks : List Nat) (v : D) (vs : List D) (j : Nat) : fldD (k :: ks) (v :: vs) j = if k = j then some v else fldD ks vs j := rfl
theorem putD_c (k : Nat) (ks : List Nat) (v : D) (vs : List D) (j : Nat) (x : D) : putD (k :: ks) (v :: vs) j x = if k = j then (k :: ks, x :: vs) else (k :: (putD ks vs j x).1, v :: (putD ks vs j x).2) := rfl
theorem putD_n (j : Nat) (x : D) : putD [] [] j x = ([j], [x]) := rfl
theorem isObj_o (cs : List Nat) (c : Nat) (ks : List Nat) (vs : List D) : isObjOf cs (.obj c ks vs) = cs.contains c := rfl
theorem isObj_e (cs : List Nat) (c : Nat) (ks : List Nat) (vs : List D) : isObjOf cs (.err c ks vs) = cs.contains c := rfl
theorem isObj_non (cs : List Nat) : isObjOf cs .non = false := rfl
theorem isObj_bl (cs : List Nat) (b : Bool) : isObjOf cs (.bl b) = false := rfl
theorem isObj_int (cs : List Nat) (b : Int) : isObjOf cs (.int b) = false := rfl
theorem isObj_str (cs : List Nat) (b : Str) : isObjOf cs (.str b) = false := rfl
theorem isObj_lst (cs : List Nat) (b : List D) : isObjOf cs (.lst b) = false := rfl
theorem isObj_tup (cs : List Nat) (b : List D) : isObjOf cs (.tup b) = false := rfl
theorem isObj_kst (cs : List Nat) (b : List D) : isObjOf cs (.kst b) = false := rfl
theorem isObj_dK (cs : List Nat) (k : List Key) (b : List D) : isObjOf cs (.dK k b) = false := rfl
theorem isCls_o (c : Nat) (ks : List Nat) (vs : List D) : isClsD (.obj c ks vs) = false := rfl
theorem isCls_e (c : Nat) (ks : List Nat) (vs : List D) : isClsD (.err c ks vs) = false := rfl
theorem isCls_non : isClsD .non = false := rfl
theorem isCls_bl (b : Bool) : isClsD (.bl b) = false := rfl
theorem isCls_int (b : Int) : isClsD (.int b) = false := rfl
theorem isCls_str (b : Str) : isClsD (.str b) = false := rfl
theorem isCls_lst (b : List D) : isClsD (.lst b) = false := rfl
theorem isCls_tup (b : List D) : isClsD (.tup b) = false := rfl
theorem isCls_kst (b : List D) : isClsD (.kst b) = false := rfl
theorem isCls_dK (k : List Key) (b : List D) : isClsD (.dK k b) = false := rfl
theorem runC_eq (cl : CallF) (f : Nat) (ms : List Bool) (us : List U) (env : Env) : runC cl f ms us env = orBad (argsOf env ms us) fun as =>
  if dupFree (ioSlots us) then match cl f as with
    | .ok r outs => .ok r (putIO env (ioSlots us) outs)
    | .exc x outs => .exc x (putIO env (ioSlots us) outs)
    | .bad => .bad
  else .bad := rfl
theorem makeO_eq (cl : CallF) (c : Nat) (as : List Ar) (env : Env) : makeO cl c as env = match cl (spec c 0) (.io (.obj c [] []) :: as) with
  | .ok (.d .non) [o] => .ok (.nw o) env
  | .exc x _ => .exc x env
  | _ => .bad := rfl
theorem spec_eq (c m : Nat) : spec c m = 1000 + 1000 * c + m := rfl
theorem allFz_0 : allFz [] = true := rfl
theorem allFz_c (d : D) (as : List Ar) : allFz (.fz d :: as) = allFz as := rfl
theorem recv_f (env : Env) (u : U) : recvU false env u = match fzU env u with
    | some (.obj c ks vs, env') => some (c, .d (.obj c ks vs), env')
    | _ => none := rfl
theorem recv_t (env : Env) (i : Nat) : recvU true env (.sl i) = match getS env i with
      | .ow (.obj c _ _) => some (c, .sl i, env)
      | .io (.obj c _ _) => some (c, .sl i, env)
      | _ => none := rfl
theorem ownOp_o (cl : CallF) (o : O2) (cs ts : List Nat) (c : Nat) (ks : List Nat) (vs : List D) (y : D) (env : Env) : ownOp cl o cs ts (.obj c ks vs) y env = (if !(cs.contains c && okR o ts c y) then .bad else match cl (spec c (opc o)) [.fz (.obj c ks vs), .fz y] with
    | .ok r _ => match o with
      | .ne => match r with
        | .d (.bl t) => .ok (.nw (.bl (!t))) env
        | _ => .bad
      | _ => .ok r env
    | .exc x _ => .exc x env
    | .bad => .bad) := rfl
theorem ownIn_o (cl : CallF) (neg : Bool) (cs : List Nat) (x : D) (c : Nat) (ks : List Nat) (vs : List D) (env : Env) : ownIn cl neg cs x (.obj c ks vs) env = (if !cs.contains c then .bad else match cl (spec c 17) [.fz (.obj c ks vs), .fz x] with
    | .ok (.d (.bl t)) _ => .ok (.nw (.bl (if neg then !t else t))) env
    | .exc x _ => .exc x env
    | _ => .bad) := rfl
theorem ownNe_o (cl : CallF) (cs : List Nat) (c : Nat) (ks : List Nat) (vs : List D) (y : D) (env : Env) : ownNe cl cs (.obj c ks vs) y env = (if !(cs.contains c && !oddD y) then .bad else match cl (spec c 16) [.fz (.obj c ks vs), .fz y] with
    | .ok (.d (.bl t)) _ => .ok (.nw (.bl (!t))) env
    | .exc x _ => .exc x env
    | _ => .bad) := rfl
theorem opc_add : opc .add = 1 := rfl
theorem opc_sub : opc .sub = 2 := rfl
theorem opc_mul : opc .mul = 3 := rfl
theorem opc_shl : opc .shl = 7 := rfl
theorem opc_shr : opc .shr = 8 := rfl
theorem opc_band : opc .band = 9 := rfl
theorem opc_bor : opc .bor = 10 := rfl
theorem opc_lt : opc .lt = 12 := rfl
theorem opc_le : opc .le = 13 := rfl
theorem opc_gt : opc .gt = 14 := rfl
theorem opc_ge : opc .ge = 15 := rfl
theorem opc_eq : opc .eq = 16 := rfl
theorem opc_ne : opc .ne = 16 := rfl
theorem okR_o (o : O2) (ts : List Nat) (c c' : Nat) (ks : List Nat) (vs : List D) : okR o ts c (.obj c' ks vs) = (isCmpO o || c == c') := rfl
theorem okR_int (o : O2) (ts : List Nat) (c : Nat) (i : Int) : okR o ts c (.int i) = (isCmpO o || ts.contains 2) := rfl
theorem okR_bl (o : O2) (ts : List Nat) (c : Nat) (i : Bool) : okR o ts c (.bl i) = (isCmpO o || ts.contains 1) := rfl
theorem okR_non (o : O2) (ts : List Nat) (c : Nat) : okR o ts c .non = (isCmpO o || ts.contains 0) := rfl
theorem okR_str (o : O2) (ts : List Nat) (c : Nat) (i : Str) : okR o ts c (.str i) = (isCmpO o || ts.contains 3) := rfl
theorem okR_lst (o : O2) (ts : List Nat) (c : Nat) (i : List D) : okR o ts c (.lst i) = (isCmpO o || ts.contains 4) := rfl
theorem okR_kst (o : O2) (ts : List Nat) (c : Nat) (i : List D) : okR o ts c (.kst i) = (isCmpO o || ts.contains 4) := rfl
theorem okR_tup (o : O2) (ts : List Nat) (c : Nat) (i : List D) : okR o ts c (.tup i) = (isCmpO o || ts.contains 5) := rfl
theorem cmp_lt : isCmpO .lt = true := rfl
theorem cmp_le : isCmpO .le = true := rfl
theorem cmp_gt : isCmpO .gt = true := rfl
theorem cmp_ge : isCmpO .ge = true := rfl
theorem cmp_eq : isCmpO .eq = true := rfl
theorem cmp_ne : isCmpO .ne = true := rfl
theorem cmp_add : isCmpO .add = false := rfl
theorem cmp_sub : isCmpO .sub = false := rfl
theorem cmp_band : isCmpO .band = false := rfl
theorem cmp_bor : isCmpO .bor = false := rfl
theorem cmp_shl : isCmpO .shl = false := rfl
theorem cmp_shr : isCmpO .shr = false := rfl
theorem cmp_mul : isCmpO .mul = false := rfl
theorem slOf_obj (x : D) (c : Nat) (ks : List Nat) (vs : List D) : slOf (.nw x) (.obj c ks vs) = .ow (.obj c ks vs) := rfl
theorem nrm_obj (c : Nat) (ks : List Nat) (vs : List D) : nrm (.obj c ks vs) = .nw (.obj c ks vs) := rfl
theorem slOf_err (u : U) (c : Nat) (ks : List Nat) (vs : List D) : slOf u (.err c ks vs) = .fz (.err c ks vs) := by cases u <;> rfl
theorem hear_eq (cl : CallF) (f : Nat) (o : D) (env : Env) : hearC cl f o env = match cl f [.fz o] with
  | .ok r _ => .ok r env
  | .exc x _ => .exc x env
  | .bad => .bad := rfl
theorem frz_0 (env : Env) : frzAll [] env = some env := rfl
theorem frz_c (i : Nat) (is : List Nat) (env : Env) : frzAll (i :: is) env = (fzU env (.sl i)).bind fun p => frzAll is p.2 := rfl
theorem mask_c (s : Sl) (env : Env) : maskE (s :: env) = maskS s :: maskE env := rfl
theorem mask_n : maskE [] = [] := rfl
theorem maskS_fz (d : D) : maskS (.fz d) = .fz d := rfl
theorem maskS_ow (d : D) : maskS (.ow d) = .un := rfl
theorem maskS_io (d : D) : maskS (.io d) = .un := rfl
theorem maskS_un : maskS .un = .un := rfl
theorem item_t (xs : List D) : itemsD (.tup xs) = some xs := rfl
theorem item_l (xs : List D) : itemsD (.lst xs) = some xs := rfl
theorem item_k (xs : List D) : itemsD (.kst xs) = some xs := rfl
theorem bi_max2 (i j : Int) : biD .max2 [.int i, .int j] = some (.int (max i j)) := by
  have : (if j > i then j else i) = max i j := by omega
  rw [← this]; rfl
theorem bi_min2 (i j : Int) : biD .min2 [.int i, .int j] = some (.int (min i j)) := by
  have : (if j < i then j else i) = min i j := by omega
  rw [← this]; rfl
theorem bi_bool_b (b : Bool) : biD .bool [.bl b] = some (.bl b) := rfl
theorem o_shr_i {i j : Int} (h : 0 ≤ j) : op2 .shr (.int i) (.int j) = some (.int (i / 2 ^ j.toNat)) := by simp only [op2, h, if_true]
theorem o_is_n (x : D) : op2 .is x .non = some (.bl (match x with | .non => true | _ => false)) := rfl
theorem o_isnot_n (x : D) : op2 .isnot x .non = some (.bl (match x with | .non => false | _ => true)) := rfl
theorem o_is_b (x : D) (b : Bool) : op2 .is x (.bl b) = some (.bl (match x with | .bl c => b == c | _ => false)) := rfl
theorem o_isnot_b (x : D) (b : Bool) : op2 .isnot x (.bl b) = some (.bl (match x with | .bl c => !(b == c) | _ => true)) := rfl
theorem o_add_l (xs ys : List D) : op2 .add (.lst xs) (.lst ys) = if xs.length + ys.length ≤ LIM then some (.lst (xs ++ ys)) else none := rfl
theorem o_mul_l (xs : List D) (j : Int) : op2 .mul (.lst xs) (.int j) = if decide (0 ≤ j) && decide (j ≤ 1000) && decide (xs.length * j.toNat ≤ LIM) then some (.lst (List.replicate j.toNat xs).flatten) else none := rfl
theorem set_l4_0 (a b c d x : D) : setD [a, b, c, d] 0 x = some [x, b, c, d] := rfl
theorem set_l4_1 (a b c d x : D) : setD [a, b, c, d] 1 x = some [a, x, c, d] := rfl
theorem set_l4_2 (a b c d x : D) : setD [a, b, c, d] 2 x = some [a, b, x, d] := rfl
theorem set_l4_3 (a b c d x : D) : setD [a, b, c, d] 3 x = some [a, b, c, x] := rfl
theorem ask_o (o : D) (cl : CallF) (env : Env) : askR (askCl o cl 999 []) env = outD o env := ask_out
theorem outD_t (d : D) (env : Env) : outD (.tup [.non, d]) env = .ok (.d d) env := rfl
theorem outD_e (c : Nat) (ks : List Nat) (vs : List D) (env : Env) : outD (.err c ks vs) env = .exc (c, ks, vs) env := rfl
theorem keep_d (env env' : Env) (d : D) : keepC env (.ok (.d d) env') = if noLst d then .ok (.d d) env else .bad := rfl
theorem noL_non : noLst .non = true := by rw [noLst]
theorem noL_int (i : Int) : noLst (.int i) = true := by rw [noLst]
theorem noL_bl (i : Bool) : noLst (.bl i) = true := by rw [noLst]
theorem noL_str (i : Str) : noLst (.str i) = true := by rw [noLst]
theorem noL_tup (xs : List D) : noLst (.tup xs) = noLsts xs := by rw [noLst]
theorem noL_0 : noLsts [] = true := by rw [noLsts]
theorem noL_c (x : D) (xs : List D) : noLsts (x :: xs) = (noLst x && noLsts xs) := by rw [noLsts]
theorem evJ_0 {cl : CallF} {acc : Str} {env : Env} : evJ cl .nil acc env = .ok acc env := rfl
theorem evJ_s {cl : CallF} {e : Ex} {es : Exs} {acc y : Str} {env env1 : Env} {u : U} {d : D} (h1 : ev cl e env = .ok u env1) (h2 : rdU env1 u = some d) (h3 : fmtD d = some y) (h4 : (acc ++ y).length ≤ 100000) : evJ cl (.cons e es) acc env = evJ cl es (acc ++ y) env1 := by
  have h4 : (acc ++ y).length ≤ LIM := h4
  simp only [evJ, h1, R.bind_ok, h2, orBad_some, h3, h4, if_true]
theorem nrm_mut {x : D} (h : isMutD x = true) : nrm x = .nw x := by simp only [nrm, h, if_true]
theorem rv_split (z : Str) : recvB .split (.str z) = true := rfl
theorem rv_join (z : Str) : recvB .join (.str z) = true := rfl
theorem rv_ix_l (xs : List D) : recvB .index (.lst xs) = true := rfl
theorem rv_ix_k (xs : List D) : recvB .index (.kst xs) = true := rfl
theorem clsN_eq (c : Nat) : isClsN c (.fz (.cls c)) = true := by simp [isClsN]
end PP
end
section
namespace PP
open PySem L2
mutual
def wfD : D → Bool
  | .non => true | .bl _ => true | .int _ => true | .str z => PyData.strOk z
  | .lst xs => wfL xs | .tup xs => wfL xs | .kst xs => wfL xs | _ => false
def wfL : List D → Bool
  | [] => true | d :: r => wfD d && wfL r
end
mutual
def dpD : D → Nat
  | .lst xs => dpL xs + 1 | .tup xs => dpL xs + 1 | .kst xs => dpL xs + 1 | _ => 0
def dpL : List D → Nat
  | [] => 0 | d :: r => max (dpD d) (dpL r)
end
def eqvD (x y : D) : Bool := match toPy x, toPy y with
  | some p, some q => PyData.eqv p q
  | _, _ => false
def eqvL (xs ys : List D) : Bool := match toPyAll xs, toPyAll ys with
  | some p, some q => PyData.eqvAll p q
  | _, _ => false
mutual
theorem wf_py : ∀ d : D, wfD d = true → ∃ p, toPy d = some p ∧ p.canLay0 = true ∧ p.depth = dpD d
  | .non, _ => ⟨.none, rfl, by simp [PyData.canLay0], by simp [PyData.depth, dpD]⟩
  | .bl b, _ => ⟨.bool b, rfl, by simp [PyData.canLay0], by simp [PyData.depth, dpD]⟩
  | .int i, _ => ⟨.int i, rfl, by simp [PyData.canLay0], by simp [PyData.depth, dpD]⟩
  | .str z, h => ⟨.str z, rfl, by simp only [wfD] at h; simp only [PyData.canLay0, h], by simp [PyData.depth, dpD]⟩
  | .lst xs, h => by
    obtain ⟨ps, h1, h2, h3⟩ := wfs_py xs (by simpa only [wfD] using h)
    exact ⟨.list ps, by simp only [toPy, h1, Option.map_some], by simp only [PyData.canLay0, h2], by simp only [PyData.depth, dpD, h3]⟩
  | .tup xs, h => by
    obtain ⟨ps, h1, h2, h3⟩ := wfs_py xs (by simpa only [wfD] using h)
    exact ⟨.tuple ps, by simp only [toPy, h1, Option.map_some], by simp only [PyData.canLay0, h2], by simp only [PyData.depth, dpD, h3]⟩
  | .kst xs, h => by
    obtain ⟨ps, h1, h2, h3⟩ := wfs_py xs (by simpa only [wfD] using h)
    exact ⟨.list ps, by simp only [toPy, h1, Option.map_some], by simp only [PyData.canLay0, h2], by simp only [PyData.depth, dpD, h3]⟩
  | .dK _ _, h => by simp [wfD] at h
  | .dT _ _, h => by simp [wfD] at h
  | .obj _ _ _, h => by simp [wfD] at h
  | .cls _, h => by simp [wfD] at h
  | .err _ _ _, h => by simp [wfD] at h
theorem wfs_py : ∀ ds : List D, wfL ds = true → ∃ ps, toPyAll ds = some ps ∧ PyData.canLayAll0 ps = true ∧ PyData.depthAll ps = dpL ds
  | [], _ => ⟨[], rfl, by simp [PyData.canLayAll0], by simp [PyData.depthAll, dpL]⟩
  | d :: r, h => by
    simp only [wfL, Bool.and_eq_true] at h
    obtain ⟨p, h1, h2, h3⟩ := wf_py d h.1
    obtain ⟨ps, g1, g2, g3⟩ := wfs_py r h.2
    exact ⟨p :: ps, by simp only [toPyAll, h1, g1], by simp only [PyData.canLayAll0, h2, g2, Bool.and_self], by simp only [PyData.depthAll, dpL, h3, g3]⟩
end
theorem eqP_v {x y : D} (hx : wfD x = true) (hy : wfD y = true) (dx : dpD x ≤ 64) (dy : dpD y ≤ 64) : eqP x y = some (eqvD x y) := by
  obtain ⟨p, h1, h2, h3⟩ := wf_py x hx
  obtain ⟨q, g1, g2, g3⟩ := wf_py y hy
  have s1 : SeqAt.shaped p = true := by simp only [SeqAt.shaped, h2, h3, dx, decide_true, Bool.and_self]
  have s2 : SeqAt.shaped q = true := by simp only [SeqAt.shaped, g2, g3, dy, decide_true, Bool.and_self]
  simp only [eqP, eqvD, h1, g1, s1, s2, Bool.and_self, if_true]
theorem v_str (a b : Str) : eqvD (.str a) (.str b) = decide (a = b) := by
  show PyData.eqv (.str a) (.str b) = _
  simp only [PyData.eqv]
  by_cases h : a = b
  · simp [h]
  · simp [h]
theorem eqD_v {x y : D} (hx : wfD x = true) (hy : wfD y = true) (dx : dpD x ≤ 64) (dy : dpD y ≤ 64) : eqD x y = some (eqvD x y) := by
  have e := eqP_v hx hy dx dy
  cases x <;> cases y <;> first | exact e | (rw [v_str]; rfl)
theorem op_eq {x y : D} (hx : wfD x = true) (hy : wfD y = true) (dx : dpD x ≤ 64) (dy : dpD y ≤ 64) : op2 .eq x y = some (.bl (eqvD x y)) := by
  have e : op2 .eq x y = (eqD x y).map .bl := by cases x <;> rfl
  rw [e, eqD_v hx hy dx dy]
  rfl
theorem op_ne {x y : D} (hx : wfD x = true) (hy : wfD y = true) (dx : dpD x ≤ 64) (dy : dpD y ≤ 64) : op2 .ne x y = some (.bl (!eqvD x y)) := by
  have e : op2 .ne x y = (eqD x y).map fun b => .bl (!b) := by cases x <;> rfl
  rw [e, eqD_v hx hy dx dy]
  rfl
theorem v_nil : eqvL [] [] = true := by
  show PyData.eqvAll [] [] = _
  simp only [PyData.eqvAll]
theorem v_cons (x y : D) (xs ys : List D) : eqvL (x :: xs) (y :: ys) = (eqvD x y && eqvL xs ys) := by
  simp only [eqvL, eqvD, toPyAll]
  cases toPy x <;> cases toPy y <;> cases toPyAll xs <;> cases toPyAll ys <;> simp [PyData.eqvAll]
theorem v_nc (y : D) (ys : List D) : eqvL [] (y :: ys) = false := by
  simp only [eqvL, toPyAll]
  cases toPy y <;> cases toPyAll ys <;> simp [PyData.eqvAll]
theorem v_cn (y : D) (ys : List D) : eqvL (y :: ys) [] = false := by
  simp only [eqvL, toPyAll]
  cases toPy y <;> cases toPyAll ys <;> simp [PyData.eqvAll]
theorem v_tup (xs ys : List D) : eqvD (.tup xs) (.tup ys) = eqvL xs ys := by
  simp only [eqvL, eqvD, toPy]
  cases toPyAll xs <;> cases toPyAll ys <;> simp [PyData.eqv]
theorem v_lst (xs ys : List D) : eqvD (.lst xs) (.lst ys) = eqvL xs ys := by
  simp only [eqvL, eqvD, toPy]
  cases toPyAll xs <;> cases toPyAll ys <;> simp [PyData.eqv]
theorem v_kl (xs ys : List D) : eqvD (.kst xs) (.lst ys) = eqvL xs ys := by
  simp only [eqvL, eqvD, toPy]
  cases toPyAll xs <;> cases toPyAll ys <;> simp [PyData.eqv]
theorem v_lt (xs ys : List D) : eqvD (.lst xs) (.tup ys) = false := by
  simp only [eqvD, toPy]
  cases toPyAll xs <;> cases toPyAll ys <;> simp [PyData.eqv]
theorem v_tl (xs ys : List D) : eqvD (.tup xs) (.lst ys) = false := by
  simp only [eqvD, toPy]
  cases toPyAll xs <;> cases toPyAll ys <;> simp [PyData.eqv]
theorem v_int (a b : Int) : eqvD (.int a) (.int b) = (a == b) := by
  show PyData.eqv (.int a) (.int b) = _
  simp only [PyData.eqv]
theorem v_bl (a b : Bool) : eqvD (.bl a) (.bl b) = (a == b) := by
  show PyData.eqv (.bool a) (.bool b) = _
  simp only [PyData.eqv]
theorem v_nn : eqvD .non .non = true := by
  show PyData.eqv .none .none = _
  simp only [PyData.eqv]
theorem v_nt (ys : List D) : eqvD .non (.tup ys) = false := by
  simp only [eqvD, toPy]
  cases toPyAll ys <;> simp [PyData.eqv]
theorem v_tn (ys : List D) : eqvD (.tup ys) .non = false := by
  simp only [eqvD, toPy]
  cases toPyAll ys <;> simp [PyData.eqv]
theorem v_ni (i : Int) : eqvD .non (.int i) = false := by
  show PyData.eqv .none (.int i) = _
  simp only [PyData.eqv]
theorem v_in (i : Int) : eqvD (.int i) .non = false := by
  show PyData.eqv (.int i) .none = _
  simp only [PyData.eqv]
theorem v_ints : ∀ xs ys : List Int, eqvL (xs.map D.int) (ys.map D.int) = decide (xs = ys)
  | [], [] => by simp [v_nil]
  | [], _ :: _ => by simp [v_nc]
  | _ :: _, [] => by simp [v_cn]
  | x :: xs, y :: ys => by
    rw [List.map_cons, List.map_cons, v_cons, v_int, v_ints xs ys]
    by_cases h : x = y <;> by_cases h' : xs = ys <;> simp [h, h']
theorem wf_ints : ∀ xs : List Int, wfL (xs.map D.int) = true
  | [] => rfl
  | x :: xs => by rw [List.map_cons, wfL, wf_ints xs]; rfl
theorem dp_ints : ∀ xs : List Int, dpL (xs.map D.int) = 0
  | [] => rfl
  | x :: xs => by rw [List.map_cons, dpL, dp_ints xs]; rfl
end PP
end
section
namespace PP
open PySem L2
abbrev smI (x : Int) : Prop := -57896044618658097711785492504343953926634992332820282019728792003956564819968 < x ∧ x < 57896044618658097711785492504343953926634992332820282019728792003956564819968
theorem smI.log {x : Int} (h : smI x) : x.natAbs.log2 < 300 := log2_b h.1 h.2
theorem len_app (a b : Str) : (a ++ b).length = a.length + b.length := by
  show (a.cps ++ b.cps).size = _
  rw [Array.size_append]
  rfl
theorem len_ofS (s : String) : (Str.ofString s).length = s.length := by
  rw [Str.ofString_eq_toList]
  show ((s.toList.map Char.toNat).toArray).size = _
  rw [List.size_toArray, List.length_map, String.length_toList]
theorem fmt_int {i : Int} (h : smI i) : fmtD (.int i) = some (Str.ofString (toString i)) := by
  have := h.log
  simp only [fmtD]
  rw [if_pos (by omega)]
theorem ok_ofS (s : String) : PyData.strOk (Str.ofString s) = true := by
  rw [Str.ofString_eq_toList]
  simp only [PyData.strOk, List.all_toArray, List.all_map, List.all_eq_true]
  intro c hc
  show decide (c.val.toNat < 1114112) = true
  have := c.valid
  rcases this with h | h
  · exact decide_eq_true (Nat.lt_trans (show c.val.toNat < 55296 from h) (by decide))
  · exact decide_eq_true (show c.val.toNat < 1114112 from h.2)
theorem ok_app (a b : Str) : PyData.strOk (a ++ b) = (PyData.strOk a && PyData.strOk b) := by
  show (a.cps ++ b.cps).all _ = _
  rw [Array.all_append]
  rfl
theorem ok_empty : PyData.strOk Str.empty = true := by simp [PyData.strOk, Str.empty]
end PP
end
section
local macro_rules | `(tactic| walk_at "pp") => `(tactic| simp -implicitDefEqProofs only [PP.ev_w0, PP.ev_w1, PP.ev_w2, PP.ev_w3, PP.ev_w4, PP.ev_w5, PP.ev_w6, PP.ev_w7, PP.ev_w8, PP.ev_w9, PP.ev_w10, PP.ev_w11, PP.ev_w12, PP.ev_w13, PP.ev_w14, PP.ev_w15, PP.ev_w16, PP.ev_w17, PP.ev_w18, PP.ev_w19, PP.ev_w20, PP.ev_w21, PP.ev_w22, PP.ev_w23, PP.ev_w24, PP.ev_w25, PP.ev_w26, PP.ev_w27, PP.ev_w28, PP.ev_w29, PP.ev_w30, PP.ev_w31, PP.ev_w32, PP.ev_w33, PP.ev_w34, PP.ev_w35, PP.ev_w36, PP.ev_w37, PP.ev_w38, PP.ev_w39, PP.ev_w40, PP.ev_w41, PP.ev_w42, PP.ev_w43, PP.ev_w44, PP.ev_w45, PP.ev_w46, PP.ev_w47, PP.ev_w48, PP.ev_w49, PP.ev_w50, PP.ev_w51, PP.ev_w52, PP.ev_w53, PP.ev_w54, PP.ev_w55, PP.ev_w56, PP.evF_w0, PP.evF_w1, PP.evF_w2, PP.evR_w0, PP.evR_w1, PP.evR_w2, PP.evC_w0, PP.evC_w1, PP.evC_w2, PP.evC_w3, PP.ex_w0, PP.ex_w1, PP.ex_w2, PP.ex_w3, PP.ex_w4, PP.ex_w5, PP.ex_w6, PP.ex_w7, PP.ex_w8, PP.ex_w9, PP.ex_w10, PP.ex_w11, PP.ex_w12, PP.ex_w13, PP.ex_w14, PP.ex_w15, PP.ex_w16, PP.ex_w17, PP.ex_w18, PP.ex_w19, PP.ex_w20, PP.ex_w21, PP.ex_w22, PP.ex_w23, PP.ex_w24, PP.ex_w25, PP.ex_w26, PP.ex_w27, PP.ex_w28, PP.exs_w0, PP.exs_w1, PP.itD_w0, PP.itD_w1, PP.itD_w2, PP.itD_w3, PP.itD_w4, PP.itD_w5, PP.itD_w6, PP.itD_w7, PP.itD_w8, PP.evT_w, PP.getS_0, PP.getS_s, PP.set_0, PP.set_s, PP.mul_1, PP.mul_m1, PP.fin_ok, PP.fin_exc, PP.finX_s, PP.finO_next, PP.finO_d, PP.finO_nw, PP.rdU_d, PP.rdU_nw, PP.rdU_sl, PP.rdS_fz, PP.rdS_ow, PP.rdS_io, PP.pend_d, PP.pend_nw, PP.pend_sl, PP.fzU_d, PP.fzU_nw, PP.fzU_sl, PP.asgU_d, PP.asgU_nw, PP.asgU_sl, PP.slOf_non, PP.slOf_bl, PP.slOf_int, PP.slOf_str, PP.slOf_tup, PP.slOf_lst, PP.slOf_dK, PP.isLs_ow, PP.isLs_io, PP.retU_d, PP.retU_nw, PP.retU_sl, PP.nrm_non, PP.nrm_bl, PP.nrm_int, PP.nrm_str, PP.nrm_tup, PP.nrm_lst, PP.nrm_dK, PP.setIO_ow, PP.setIO_io, PP.dupF_0, PP.dupF_1, PP.optP_f, PP.optP_t, PP.truD_bl, PP.truD_non, PP.truD_lst, PP.partD_eq, PP.ix_lst_0, PP.ix_lst_1, PP.ix_lst_2, PP.ix_lst_3, PP.ix_lst_4, PP.ix_lst_5, PP.ix_tup_0, PP.ix_tup_1, PP.ix_tup_2, PP.ix_tup_3, PP.ix_tup_4, PP.ix_tup_5, PP.ix_kst_0, PP.ix_kst_1, PP.ix_kst_2, PP.ix_kst_3, PP.ix_kst_4, PP.ix_kst_5, PP.set_l3_1, PP.set_l3_2, PP.bi_int_i, PP.bi_int_b, PP.bi_abs, PP.bi_len_l, PP.bi_len_t, PP.bi_isInt_non, PP.bi_isInt_bl, PP.bi_isInt_int, PP.bi_isInt_str, PP.bi_isInt_tup, PP.bi_isInt_lst, PP.bi_isInt_kst, PP.bi_isInt_dK, PP.bi_isBool_non, PP.bi_isBool_bl, PP.bi_isBool_int, PP.bi_isBool_str, PP.bi_isBool_tup, PP.bi_isBool_lst, PP.bi_isBool_kst, PP.bi_isBool_dK, PP.bi_isTuple_non, PP.bi_isTuple_bl, PP.bi_isTuple_int, PP.bi_isTuple_str, PP.bi_isTuple_tup, PP.bi_isTuple_lst, PP.bi_isTuple_kst, PP.bi_isTuple_dK, PP.bi_isList_non, PP.bi_isList_bl, PP.bi_isList_int, PP.bi_isList_str, PP.bi_isList_tup, PP.bi_isList_lst, PP.bi_isList_kst, PP.bi_isList_dK, PP.bi_isStr_non, PP.bi_isStr_bl, PP.bi_isStr_int, PP.bi_isStr_str, PP.bi_isStr_tup, PP.bi_isStr_lst, PP.bi_isStr_kst, PP.bi_isStr_dK, PP.le_lim, PP.lt_lim, PP.pw_10_18, PP.o_gt_i, PP.o_lt_i, PP.o_ge_i, PP.o_le_i, PP.o_add_i, PP.o_sub_i, PP.o_rev_l, PP.o_rev_t, PP.o_neg_i, PP.o_eq_i, PP.o_ne_i, PP.o_eq_s, PP.o_ne_s, PP.o_eq_b, PP.ne_nil, PP.fldOf_o, PP.fldOf_e, PP.fldD_c, PP.putD_c, PP.putD_n, PP.isObj_o, PP.isObj_e, PP.isObj_non, PP.isObj_bl, PP.isObj_int, PP.isObj_str, PP.isObj_lst, PP.isObj_tup, PP.isObj_kst, PP.isObj_dK, PP.isCls_o, PP.isCls_e, PP.isCls_non, PP.isCls_bl, PP.isCls_int, PP.isCls_str, PP.isCls_lst, PP.isCls_tup, PP.isCls_kst, PP.isCls_dK, PP.runC_eq, PP.makeO_eq, PP.spec_eq, PP.allFz_0, PP.allFz_c, PP.recv_f, PP.recv_t, PP.ownOp_o, PP.ownIn_o, PP.ownNe_o, PP.opc_add, PP.opc_sub, PP.opc_mul, PP.opc_shl, PP.opc_shr, PP.opc_band, PP.opc_bor, PP.opc_lt, PP.opc_le, PP.opc_gt, PP.opc_ge, PP.opc_eq, PP.opc_ne, PP.okR_o, PP.okR_int, PP.okR_bl, PP.okR_non, PP.okR_str, PP.okR_lst, PP.okR_kst, PP.okR_tup, PP.cmp_lt, PP.cmp_le, PP.cmp_gt, PP.cmp_ge, PP.cmp_eq, PP.cmp_ne, PP.cmp_add, PP.cmp_sub, PP.cmp_band, PP.cmp_bor, PP.cmp_shl, PP.cmp_shr, PP.cmp_mul, PP.slOf_obj, PP.nrm_obj, PP.slOf_err, PP.hear_eq, PP.frz_0, PP.frz_c, PP.mask_c, PP.mask_n, PP.maskS_fz, PP.maskS_ow, PP.maskS_io, PP.maskS_un, PP.item_t, PP.item_l, PP.item_k, PP.bi_max2, PP.bi_min2, PP.bi_bool_b, PP.o_shr_i, PP.o_is_n, PP.o_isnot_n, PP.o_is_b, PP.o_isnot_b, PP.o_add_l, PP.o_mul_l, PP.set_l4_0, PP.set_l4_1, PP.set_l4_2, PP.set_l4_3, PP.ask_o, PP.outD_t, PP.outD_e, PP.keep_d, PP.noL_non, PP.noL_int, PP.noL_bl, PP.noL_str, PP.noL_tup, PP.noL_0, PP.noL_c, PP.evJ_0, PP.rv_split, PP.rv_join, PP.rv_ix_l, PP.rv_ix_k, PP.clsN_eq, PP.runF, PP.startE, PP.rdAll, PP.argsOf, PP.ioSlots, PP.putIO, PP.permL, PP.outsOf, PP.storeAll, PP.setSE, PP.slSE, PP.R.bind_ok, PP.R.bind_exc, PP.R.bind_bad, PP.orBad_some, PP.orBad_none, Int.reduceLE, Int.reduceLT, Int.reduceToNat, Int.reducePow, Int.reduceNeg, Int.reduceAdd, Int.reduceSub, Int.reduceMul, Int.reduceBEq, Int.cast_ofNat_Int, Int.natCast_zero, Int.natCast_one, Int.reduceBNe, Int.reduceEq, Int.reduceDiv, Int.reduceMod, Nat.reduceAdd, Nat.reduceMul, Nat.reduceSub, Nat.reducePow, Nat.reduceLeDiff, Nat.reduceLT, Nat.reduceEqDiff, Nat.reduceBEq, List.cons_append, List.nil_append, List.append_nil, Nat.zero_le, List.head?_cons, List.tail_cons, Option.map_some, Option.map_none, Option.bind_some, Option.bind_none, Bool.not_true, Bool.not_false, Bool.and_self, Bool.and_true, Bool.true_and, Bool.false_and, Bool.and_false, Bool.or_true, Bool.true_or, Bool.or_false, Bool.false_or, Bool.not_not, List.contains_cons, List.contains_nil, BEq.rfl, reduceCtorEq,
  eq_self, and_self, if_true, if_false, ite_true, ite_false, Bool.false_eq_true, reduceIte, List.length_cons, List.length_nil, List.filterMap_cons, List.filterMap_nil, List.getElem?_cons_zero, List.getElem?_cons_succ, List.map_cons, List.map_nil, List.replicate_succ, List.replicate_zero, List.flatten_cons, List.flatten_nil, List.reverse_cons, List.reverse_nil, decide_true, decide_false, Bool.not_eq_true, Bool.not_eq_false, Bool.cond_true, Bool.cond_false])
local macro_rules | `(tactic| walk_at "pq") => `(tactic| simp -implicitDefEqProofs (disch := first | assumption | (with_reducible show (_ : Bool) = _; exact id rfl) | (with_reducible show (_ : Int) < _; omega) | (with_reducible show (_ : Int) ≤ _; omega) | (with_reducible show (_ : Nat) ≤ _; omega) | (with_reducible show (_ : Nat) < _; omega) | exact id (by simp only [PP.wfD, PP.wfL, PP.dpD, PP.dpL, PP.ok_ofS, PP.ok_app, PP.ok_empty, Nat.max_self, Nat.zero_max, Nat.max_zero, Nat.reduceAdd, Nat.reduceLeDiff, Bool.and_self, PP.wf_ints, PP.dp_ints, Bool.and_true, Bool.true_and, *] ; done) | fail) only [*, PP.le_lim, PP.lt_lim, PP.o_shr_i, PP.shl_p, PP.mul_w, PP.fdiv_w, PP.mod_p, PP.pow_p, PP.nrm_mut, PP.bi_len_s, PP.bi_split, PP.op_eq, PP.op_ne, PP.v_str, PP.v_nil, PP.v_cons, PP.v_nc, PP.v_cn, PP.v_tup, PP.v_lst, PP.v_kl, PP.v_lt, PP.v_tl, PP.v_int, PP.v_bl, PP.v_nn, PP.v_nt, PP.v_tn, PP.v_ni, PP.v_in, PP.v_ints, PP.ev_w0, PP.ev_w1, PP.ev_w2, PP.ev_w3, PP.ev_w4, PP.ev_w5, PP.ev_w6, PP.ev_w7, PP.ev_w8, PP.ev_w9, PP.ev_w10, PP.ev_w11, PP.ev_w12, PP.ev_w13, PP.ev_w14, PP.ev_w15, PP.ev_w16, PP.ev_w17, PP.ev_w18, PP.ev_w19, PP.ev_w20, PP.ev_w21, PP.ev_w22, PP.ev_w23, PP.ev_w24, PP.ev_w25, PP.ev_w26, PP.ev_w27, PP.ev_w28, PP.ev_w29, PP.ev_w30, PP.ev_w31, PP.ev_w32, PP.ev_w33, PP.ev_w34, PP.ev_w35, PP.ev_w36, PP.ev_w37, PP.ev_w38, PP.ev_w39, PP.ev_w40, PP.ev_w41, PP.ev_w42, PP.ev_w43, PP.ev_w44, PP.ev_w45, PP.ev_w46, PP.ev_w47, PP.ev_w48, PP.ev_w49, PP.ev_w50, PP.ev_w51, PP.ev_w52, PP.ev_w53, PP.ev_w54, PP.ev_w55, PP.ev_w56, PP.evF_w0, PP.evF_w1, PP.evF_w2, PP.evR_w0, PP.evR_w1, PP.evR_w2, PP.evC_w0, PP.evC_w1, PP.evC_w2, PP.evC_w3, PP.ex_w0, PP.ex_w1, PP.ex_w2, PP.ex_w3, PP.ex_w4, PP.ex_w5, PP.ex_w6, PP.ex_w7, PP.ex_w8, PP.ex_w9, PP.ex_w10, PP.ex_w11, PP.ex_w12, PP.ex_w13, PP.ex_w14, PP.ex_w15, PP.ex_w16, PP.ex_w17, PP.ex_w18, PP.ex_w19, PP.ex_w20, PP.ex_w21, PP.ex_w22, PP.ex_w23, PP.ex_w24, PP.ex_w25, PP.ex_w26, PP.ex_w27, PP.ex_w28, PP.exs_w0, PP.exs_w1, PP.itD_w0, PP.itD_w1, PP.itD_w2, PP.itD_w3, PP.itD_w4, PP.itD_w5, PP.itD_w6, PP.itD_w7, PP.itD_w8, PP.evT_w, PP.getS_0, PP.getS_s, PP.set_0, PP.set_s, PP.mul_1, PP.mul_m1, PP.fin_ok, PP.fin_exc, PP.finX_s, PP.finO_next, PP.finO_d, PP.finO_nw, PP.rdU_d, PP.rdU_nw, PP.rdU_sl, PP.rdS_fz, PP.rdS_ow, PP.rdS_io, PP.pend_d, PP.pend_nw, PP.pend_sl, PP.fzU_d, PP.fzU_nw, PP.fzU_sl, PP.asgU_d, PP.asgU_nw, PP.asgU_sl, PP.slOf_non, PP.slOf_bl, PP.slOf_int, PP.slOf_str, PP.slOf_tup, PP.slOf_lst, PP.slOf_dK, PP.isLs_ow, PP.isLs_io, PP.retU_d, PP.retU_nw, PP.retU_sl, PP.nrm_non, PP.nrm_bl, PP.nrm_int, PP.nrm_str, PP.nrm_tup, PP.nrm_lst, PP.nrm_dK, PP.setIO_ow, PP.setIO_io, PP.dupF_0, PP.dupF_1, PP.optP_f, PP.optP_t, PP.truD_bl, PP.truD_non, PP.truD_lst, PP.partD_eq, PP.ix_lst_0, PP.ix_lst_1, PP.ix_lst_2, PP.ix_lst_3, PP.ix_lst_4, PP.ix_lst_5, PP.ix_tup_0, PP.ix_tup_1, PP.ix_tup_2, PP.ix_tup_3, PP.ix_tup_4, PP.ix_tup_5, PP.ix_kst_0, PP.ix_kst_1, PP.ix_kst_2, PP.ix_kst_3, PP.ix_kst_4, PP.ix_kst_5, PP.set_l3_1, PP.set_l3_2, PP.bi_int_i, PP.bi_int_b, PP.bi_abs, PP.bi_len_l, PP.bi_len_t, PP.bi_isInt_non, PP.bi_isInt_bl, PP.bi_isInt_int, PP.bi_isInt_str, PP.bi_isInt_tup, PP.bi_isInt_lst, PP.bi_isInt_kst, PP.bi_isInt_dK, PP.bi_isBool_non, PP.bi_isBool_bl, PP.bi_isBool_int, PP.bi_isBool_str, PP.bi_isBool_tup, PP.bi_isBool_lst, PP.bi_isBool_kst, PP.bi_isBool_dK, PP.bi_isTuple_non, PP.bi_isTuple_bl, PP.bi_isTuple_int, PP.bi_isTuple_str, PP.bi_isTuple_tup, PP.bi_isTuple_lst, PP.bi_isTuple_kst, PP.bi_isTuple_dK, PP.bi_isList_non, PP.bi_isList_bl, PP.bi_isList_int, PP.bi_isList_str, PP.bi_isList_tup, PP.bi_isList_lst, PP.bi_isList_kst, PP.bi_isList_dK, PP.bi_isStr_non, PP.bi_isStr_bl, PP.bi_isStr_int, PP.bi_isStr_str, PP.bi_isStr_tup, PP.bi_isStr_lst, PP.bi_isStr_kst, PP.bi_isStr_dK, PP.le_lim, PP.lt_lim, PP.pw_10_18, PP.o_gt_i, PP.o_lt_i, PP.o_ge_i, PP.o_le_i, PP.o_add_i, PP.o_sub_i, PP.o_rev_l, PP.o_rev_t, PP.o_neg_i, PP.o_eq_i, PP.o_ne_i, PP.o_eq_s, PP.o_ne_s, PP.o_eq_b, PP.ne_nil, PP.fldOf_o, PP.fldOf_e, PP.fldD_c, PP.putD_c, PP.putD_n, PP.isObj_o, PP.isObj_e, PP.isObj_non, PP.isObj_bl, PP.isObj_int, PP.isObj_str, PP.isObj_lst, PP.isObj_tup, PP.isObj_kst, PP.isObj_dK, PP.isCls_o, PP.isCls_e, PP.isCls_non, PP.isCls_bl, PP.isCls_int, PP.isCls_str, PP.isCls_lst, PP.isCls_tup, PP.isCls_kst, PP.isCls_dK, PP.runC_eq, PP.makeO_eq, PP.spec_eq, PP.allFz_0, PP.allFz_c, PP.recv_f, PP.recv_t, PP.ownOp_o, PP.ownIn_o, PP.ownNe_o, PP.opc_add, PP.opc_sub, PP.opc_mul, PP.opc_shl, PP.opc_shr, PP.opc_band, PP.opc_bor, PP.opc_lt, PP.opc_le, PP.opc_gt, PP.opc_ge, PP.opc_eq, PP.opc_ne, PP.okR_o, PP.okR_int, PP.okR_bl, PP.okR_non, PP.okR_str, PP.okR_lst, PP.okR_kst, PP.okR_tup, PP.cmp_lt, PP.cmp_le, PP.cmp_gt, PP.cmp_ge, PP.cmp_eq, PP.cmp_ne, PP.cmp_add, PP.cmp_sub, PP.cmp_band, PP.cmp_bor, PP.cmp_shl, PP.cmp_shr, PP.cmp_mul, PP.slOf_obj, PP.nrm_obj, PP.slOf_err, PP.hear_eq, PP.frz_0, PP.frz_c, PP.mask_c, PP.mask_n, PP.maskS_fz, PP.maskS_ow, PP.maskS_io, PP.maskS_un, PP.item_t, PP.item_l, PP.item_k, PP.bi_max2, PP.bi_min2, PP.bi_bool_b, PP.o_shr_i, PP.o_is_n, PP.o_isnot_n, PP.o_is_b, PP.o_isnot_b, PP.o_add_l, PP.o_mul_l, PP.set_l4_0, PP.set_l4_1, PP.set_l4_2, PP.set_l4_3, PP.ask_o, PP.outD_t, PP.outD_e, PP.keep_d, PP.noL_non, PP.noL_int, PP.noL_bl, PP.noL_str, PP.noL_tup, PP.noL_0, PP.noL_c, PP.evJ_0, PP.rv_split, PP.rv_join, PP.rv_ix_l, PP.rv_ix_k, PP.clsN_eq, PP.runF, PP.startE, PP.rdAll, PP.argsOf, PP.ioSlots, PP.putIO, PP.permL, PP.outsOf, PP.storeAll, PP.setSE, PP.slSE, PP.R.bind_ok, PP.R.bind_exc, PP.R.bind_bad, PP.orBad_some, PP.orBad_none, Int.reduceLE, Int.reduceLT, Int.reduceToNat, Int.reducePow, Int.reduceNeg, Int.reduceAdd, Int.reduceSub, Int.reduceMul, Int.reduceBEq, Int.cast_ofNat_Int, Int.natCast_zero, Int.natCast_one, Int.reduceBNe, Int.reduceEq, Int.reduceDiv, Int.reduceMod, Nat.reduceAdd, Nat.reduceMul, Nat.reduceSub, Nat.reducePow, Nat.reduceLeDiff, Nat.reduceLT, Nat.reduceEqDiff, Nat.reduceBEq, List.cons_append, List.nil_append, List.append_nil, Nat.zero_le, List.head?_cons, List.tail_cons, Option.map_some, Option.map_none, Option.bind_some, Option.bind_none, Bool.not_true, Bool.not_false, Bool.and_self, Bool.and_true, Bool.true_and, Bool.false_and, Bool.and_false, Bool.or_true, Bool.true_or, Bool.or_false, Bool.false_or, Bool.not_not, List.contains_cons, List.contains_nil, BEq.rfl, reduceCtorEq,
  eq_self, and_self, if_true, if_false, ite_true, ite_false, Bool.false_eq_true, reduceIte, List.length_cons, List.length_nil, List.filterMap_cons, List.filterMap_nil, List.getElem?_cons_zero, List.getElem?_cons_succ, List.map_cons, List.map_nil, List.replicate_succ, List.replicate_zero, List.flatten_cons, List.flatten_nil, List.reverse_cons, List.reverse_nil, decide_true, decide_false, Bool.not_eq_true, Bool.not_eq_false, Bool.cond_true, Bool.cond_false])
local macro_rules | `(tactic| walk_at "px") => `(tactic| simp -implicitDefEqProofs (disch := first | assumption | (with_reducible show (_ : Bool) = _; exact id rfl) | (with_reducible show (_ : Int) < _; omega) | (with_reducible show (_ : Int) ≤ _; omega) | (with_reducible show (_ : Nat) ≤ _; omega) | (with_reducible show (_ : Nat) < _; omega) | fail) only [*, PP.le_lim, PP.lt_lim, PP.o_shr_i, PP.shl_p, PP.mul_w, PP.fdiv_w, PP.mod_p, PP.pow_p, PP.nrm_mut, PP.bi_len_s, PP.bi_split, PP.ev_w0, PP.ev_w1, PP.ev_w2, PP.ev_w3, PP.ev_w4, PP.ev_w5, PP.ev_w6, PP.ev_w7, PP.ev_w8, PP.ev_w9, PP.ev_w10, PP.ev_w11, PP.ev_w12, PP.ev_w13, PP.ev_w14, PP.ev_w15, PP.ev_w16, PP.ev_w17, PP.ev_w18, PP.ev_w19, PP.ev_w20, PP.ev_w21, PP.ev_w22, PP.ev_w23, PP.ev_w24, PP.ev_w25, PP.ev_w26, PP.ev_w27, PP.ev_w28, PP.ev_w29, PP.ev_w30, PP.ev_w31, PP.ev_w32, PP.ev_w33, PP.ev_w34, PP.ev_w35, PP.ev_w36, PP.ev_w37, PP.ev_w38, PP.ev_w39, PP.ev_w40, PP.ev_w41, PP.ev_w42, PP.ev_w43, PP.ev_w44, PP.ev_w45, PP.ev_w46, PP.ev_w47, PP.ev_w48, PP.ev_w49, PP.ev_w50, PP.ev_w51, PP.ev_w52, PP.ev_w53, PP.ev_w54, PP.ev_w55, PP.ev_w56, PP.evF_w0, PP.evF_w1, PP.evF_w2, PP.evR_w0, PP.evR_w1, PP.evR_w2, PP.evC_w0, PP.evC_w1, PP.evC_w2, PP.evC_w3, PP.ex_w0, PP.ex_w1, PP.ex_w2, PP.ex_w3, PP.ex_w4, PP.ex_w5, PP.ex_w6, PP.ex_w7, PP.ex_w8, PP.ex_w9, PP.ex_w10, PP.ex_w11, PP.ex_w12, PP.ex_w13, PP.ex_w14, PP.ex_w15, PP.ex_w16, PP.ex_w17, PP.ex_w18, PP.ex_w19, PP.ex_w20, PP.ex_w21, PP.ex_w22, PP.ex_w23, PP.ex_w24, PP.ex_w25, PP.ex_w26, PP.ex_w27, PP.ex_w28, PP.exs_w0, PP.exs_w1, PP.itD_w0, PP.itD_w1, PP.itD_w2, PP.itD_w3, PP.itD_w4, PP.itD_w5, PP.itD_w6, PP.itD_w7, PP.itD_w8, PP.evT_w, PP.getS_0, PP.getS_s, PP.set_0, PP.set_s, PP.mul_1, PP.mul_m1, PP.fin_ok, PP.fin_exc, PP.finX_s, PP.finO_next, PP.finO_d, PP.finO_nw, PP.rdU_d, PP.rdU_nw, PP.rdU_sl, PP.rdS_fz, PP.rdS_ow, PP.rdS_io, PP.pend_d, PP.pend_nw, PP.pend_sl, PP.fzU_d, PP.fzU_nw, PP.fzU_sl, PP.asgU_d, PP.asgU_nw, PP.asgU_sl, PP.slOf_non, PP.slOf_bl, PP.slOf_int, PP.slOf_str, PP.slOf_tup, PP.slOf_lst, PP.slOf_dK, PP.isLs_ow, PP.isLs_io, PP.retU_d, PP.retU_nw, PP.retU_sl, PP.nrm_non, PP.nrm_bl, PP.nrm_int, PP.nrm_str, PP.nrm_tup, PP.nrm_lst, PP.nrm_dK, PP.setIO_ow, PP.setIO_io, PP.dupF_0, PP.dupF_1, PP.optP_f, PP.optP_t, PP.truD_bl, PP.truD_non, PP.truD_lst, PP.partD_eq, PP.ix_lst_0, PP.ix_lst_1, PP.ix_lst_2, PP.ix_lst_3, PP.ix_lst_4, PP.ix_lst_5, PP.ix_tup_0, PP.ix_tup_1, PP.ix_tup_2, PP.ix_tup_3, PP.ix_tup_4, PP.ix_tup_5, PP.ix_kst_0, PP.ix_kst_1, PP.ix_kst_2, PP.ix_kst_3, PP.ix_kst_4, PP.ix_kst_5, PP.set_l3_1, PP.set_l3_2, PP.bi_int_i, PP.bi_int_b, PP.bi_abs, PP.bi_len_l, PP.bi_len_t, PP.bi_isInt_non, PP.bi_isInt_bl, PP.bi_isInt_int, PP.bi_isInt_str, PP.bi_isInt_tup, PP.bi_isInt_lst, PP.bi_isInt_kst, PP.bi_isInt_dK, PP.bi_isBool_non, PP.bi_isBool_bl, PP.bi_isBool_int, PP.bi_isBool_str, PP.bi_isBool_tup, PP.bi_isBool_lst, PP.bi_isBool_kst, PP.bi_isBool_dK, PP.bi_isTuple_non, PP.bi_isTuple_bl, PP.bi_isTuple_int, PP.bi_isTuple_str, PP.bi_isTuple_tup, PP.bi_isTuple_lst, PP.bi_isTuple_kst, PP.bi_isTuple_dK, PP.bi_isList_non, PP.bi_isList_bl, PP.bi_isList_int, PP.bi_isList_str, PP.bi_isList_tup, PP.bi_isList_lst, PP.bi_isList_kst, PP.bi_isList_dK, PP.bi_isStr_non, PP.bi_isStr_bl, PP.bi_isStr_int, PP.bi_isStr_str, PP.bi_isStr_tup, PP.bi_isStr_lst, PP.bi_isStr_kst, PP.bi_isStr_dK, PP.le_lim, PP.lt_lim, PP.pw_10_18, PP.o_gt_i, PP.o_lt_i, PP.o_ge_i, PP.o_le_i, PP.o_add_i, PP.o_sub_i, PP.o_rev_l, PP.o_rev_t, PP.o_neg_i, PP.o_eq_i, PP.o_ne_i, PP.o_eq_s, PP.o_ne_s, PP.o_eq_b, PP.ne_nil, PP.fldOf_o, PP.fldOf_e, PP.fldD_c, PP.putD_c, PP.putD_n, PP.isObj_o, PP.isObj_e, PP.isObj_non, PP.isObj_bl, PP.isObj_int, PP.isObj_str, PP.isObj_lst, PP.isObj_tup, PP.isObj_kst, PP.isObj_dK, PP.isCls_o, PP.isCls_e, PP.isCls_non, PP.isCls_bl, PP.isCls_int, PP.isCls_str, PP.isCls_lst, PP.isCls_tup, PP.isCls_kst, PP.isCls_dK, PP.runC_eq, PP.makeO_eq, PP.spec_eq, PP.allFz_0, PP.allFz_c, PP.recv_f, PP.recv_t, PP.ownOp_o, PP.ownIn_o, PP.ownNe_o, PP.opc_add, PP.opc_sub, PP.opc_mul, PP.opc_shl, PP.opc_shr, PP.opc_band, PP.opc_bor, PP.opc_lt, PP.opc_le, PP.opc_gt, PP.opc_ge, PP.opc_eq, PP.opc_ne, PP.okR_o, PP.okR_int, PP.okR_bl, PP.okR_non, PP.okR_str, PP.okR_lst, PP.okR_kst, PP.okR_tup, PP.cmp_lt, PP.cmp_le, PP.cmp_gt, PP.cmp_ge, PP.cmp_eq, PP.cmp_ne, PP.cmp_add, PP.cmp_sub, PP.cmp_band, PP.cmp_bor, PP.cmp_shl, PP.cmp_shr, PP.cmp_mul, PP.slOf_obj, PP.nrm_obj, PP.slOf_err, PP.hear_eq, PP.frz_0, PP.frz_c, PP.mask_c, PP.mask_n, PP.maskS_fz, PP.maskS_ow, PP.maskS_io, PP.maskS_un, PP.item_t, PP.item_l, PP.item_k, PP.bi_max2, PP.bi_min2, PP.bi_bool_b, PP.o_shr_i, PP.o_is_n, PP.o_isnot_n, PP.o_is_b, PP.o_isnot_b, PP.o_add_l, PP.o_mul_l, PP.set_l4_0, PP.set_l4_1, PP.set_l4_2, PP.set_l4_3, PP.ask_o, PP.outD_t, PP.outD_e, PP.keep_d, PP.noL_non, PP.noL_int, PP.noL_bl, PP.noL_str, PP.noL_tup, PP.noL_0, PP.noL_c, PP.evJ_0, PP.rv_split, PP.rv_join, PP.rv_ix_l, PP.rv_ix_k, PP.clsN_eq, PP.runF, PP.startE, PP.rdAll, PP.argsOf, PP.ioSlots, PP.putIO, PP.permL, PP.outsOf, PP.storeAll, PP.setSE, PP.slSE, PP.R.bind_ok, PP.R.bind_exc, PP.R.bind_bad, PP.orBad_some, PP.orBad_none, Int.reduceLE, Int.reduceLT, Int.reduceToNat, Int.reducePow, Int.reduceNeg, Int.reduceAdd, Int.reduceSub, Int.reduceMul, Int.reduceBEq, Int.cast_ofNat_Int, Int.natCast_zero, Int.natCast_one, Int.reduceBNe, Int.reduceEq, Int.reduceDiv, Int.reduceMod, Nat.reduceAdd, Nat.reduceMul, Nat.reduceSub, Nat.reducePow, Nat.reduceLeDiff, Nat.reduceLT, Nat.reduceEqDiff, Nat.reduceBEq, List.cons_append, List.nil_append, List.append_nil, Nat.zero_le, List.head?_cons, List.tail_cons, Option.map_some, Option.map_none, Option.bind_some, Option.bind_none, Bool.not_true, Bool.not_false, Bool.and_self, Bool.and_true, Bool.true_and, Bool.false_and, Bool.and_false, Bool.or_true, Bool.true_or, Bool.or_false, Bool.false_or, Bool.not_not, List.contains_cons, List.contains_nil, BEq.rfl, reduceCtorEq,
  eq_self, and_self, if_true, if_false, ite_true, ite_false, Bool.false_eq_true, reduceIte, List.length_cons, List.length_nil, List.filterMap_cons, List.filterMap_nil, List.getElem?_cons_zero, List.getElem?_cons_succ, List.map_cons, List.map_nil, List.replicate_succ, List.replicate_zero, List.flatten_cons, List.flatten_nil, List.reverse_cons, List.reverse_nil, decide_true, decide_false, Bool.not_eq_true, Bool.not_eq_false, Bool.cond_true, Bool.cond_false])
section
namespace PP
open PySem L2
/-- the state of the draws -/
def PenOk (n : Nat) (p : D) : Prop := ∃ (cs : List Int) (a g : Int), p = .lst [.lst (cs.map D.int), .int a, .int g] ∧ cs.length ≤ 63 ∧ 0 ≤ a ∧ a ≤ n
theorem PenOk.mono {n m : Nat} {p : D} (h : PenOk n p) (hm : n ≤ m) : PenOk m p := by
  obtain ⟨cs, a, g, h1, h2, h3, h4⟩ := h
  exact ⟨cs, a, g, h1, h2, h3, by omega⟩
/-- the laws' draw: 0 pen 1 many 2 digit 3 at 4 cell 5 great 6 mixed -/
def drawTail (m1 c3 c4 m2 c5 c6 c7 m3 : Int) : Ss := (.cons (.iff (.and (.op2 .lt (.var 3) (.bi .len (.cons (.ix (.var 0) (.cst (.int 0))) .nil))) (.op2 .ge (.bi .abs (.cons (.var 4) .nil)) (.op2 .pow (.cst (.int 10)) (.cst (.int 18))))) (.cons (.asg 5 (.op2 .add (.op2 .mul (.cst (.int 2)) (.op2 .sub (.bi .abs (.cons (.var 4) .nil)) (.op2 .pow (.cst (.int 10)) (.cst (.int 18))))) (.bi .int (.cons (.op2 .lt (.var 4) (.cst (.int 0))) .nil)))) (.cons (.setI 0 (.cst (.int 2)) (.op2 .fdiv (.bi .int (.cons (.var 5) .nil)) (.var 1))) (.cons (.ret (.op2 .mod (.bi .int (.cons (.var 5) .nil)) (.var 1))) .nil))) .nil) (.cons (.asg 6 (.op2 .mod (.bi .int (.cons (.op2 .pow (.op2 .add (.op2 .add (.op2 .mod (.bi .int (.cons (.var 4) .nil)) (.cst (.int m1))) (.op2 .mul (.cst (.int c3)) (.var 3))) (.cst (.int c4))) (.cst (.int 5))) .nil)) (.cst (.int m2)))) (.cons (.asg 6 (.op2 .mod (.bi .int (.cons (.op2 .pow (.op2 .add (.op2 .add (.op2 .mul (.var 6) (.op2 .add (.op2 .mul (.cst (.int 2)) (.var 3)) (.cst (.int c5)))) (.op2 .mul (.op2 .mul (.cst (.int c6)) (.var 3)) (.var 3))) (.cst (.int c7))) (.cst (.int 3))) .nil)) (.cst (.int m3)))) (.cons (.ret (.op2 .mod (.bi .int (.cons (.op2 .fdiv (.var 6) (.cst (.int 32))) .nil)) (.var 1))) .nil))))
def drawFn (c1 c2 m1 c3 c4 m2 c5 c6 c7 m3 : Int) : Fn := { n := 7, body := (.cons (.iff (.op2 .gt (.ix (.var 0) (.cst (.int 2))) (.cst (.int 0))) (.cons (.asg 2 (.op2 .mod (.bi .int (.cons (.ix (.var 0) (.cst (.int 2))) .nil)) (.var 1))) (.cons (.setI 0 (.cst (.int 2)) (.op2 .fdiv (.bi .int (.cons (.ix (.var 0) (.cst (.int 2))) .nil)) (.var 1))) (.cons (.ret (.var 2)) .nil))) .nil) (.cons (.asg 3 (.ix (.var 0) (.cst (.int 1)))) (.cons (.setI 0 (.cst (.int 1)) (.op2 .add (.var 3) (.cst (.int 1)))) (.cons (.asg 4 (.op2 .add (.op2 .mul (.cst (.int c1)) (.var 3)) (.cst (.int c2)))) (.cons (.iff (.op2 .ne (.ix (.var 0) (.cst (.int 0))) (.lst .nil)) (.cons (.asg 4 (.ix (.ix (.var 0) (.cst (.int 0))) (.op2 .mod (.bi .int (.cons (.var 3) .nil)) (.bi .len (.cons (.ix (.var 0) (.cst (.int 0))) .nil))))) .nil) .nil) (drawTail m1 c3 c4 m2 c5 c6 c7 m3)))))) }
theorem mulb {x y p q : Int} (hx : 0 ≤ x) (hxp : x ≤ p) (hy : 0 ≤ y) (hyq : y ≤ q) : 0 ≤ x * y ∧ x * y ≤ p * q := ⟨Int.mul_nonneg hx hy, Int.mul_le_mul hxp hyq hy (by omega)⟩
theorem tail_ok {cl : CallF} {m1 c3 c4 m2 c5 c6 c7 m3 : Int} (h2 : 0 < m1 ∧ m1 ≤ 2147483648) (h3 : 0 ≤ c3 ∧ c3 ≤ 1000000) (h4 : 0 ≤ c4 ∧ c4 ≤ 1000000) (h5 : 0 < m2 ∧ m2 ≤ 2147483648) (h6 : 0 ≤ c5 ∧ c5 ≤ 1000000) (h7 : 0 ≤ c6 ∧ c6 ≤ 1000000)
    (h8 : 0 ≤ c7 ∧ c7 ≤ 1000000) (h9 : 0 < m3) {cs : List D} {b g m a cell : Int} {x2 x5 x6 : Sl} (hm : 0 < m) (hm2 : m < 1766847064778384329583297500742918515827483896875618958121606201292619776) (ha : 0 ≤ a) (ha2 : a ≤ 1000000) :
    ∃ r g' s2 s3 s4 s5 s6, exs cl (drawTail m1 c3 c4 m2 c5 c6 c7 m3) [.io (.lst [.lst cs, .int b, .int g]), .fz (.int m), x2, .fz (.int a), .fz (.int cell), x5, x6] = .ok (.ret (.nw (.int r))) [.io (.lst [.lst cs, .int b, .int g']), .fz (.int m), s2, s3, s4, s5, s6] ∧ 0 ≤ r ∧ r < m := by
  by_cases hb : (a < (cs.length : Int)) ∧ 1000000000000000000 ≤ (if cell < 0 then -cell else cell)
  · refine ⟨?r, ?g, ?s2, ?s3, ?s4, ?s5, ?s6, ?e, ?h1, ?h2⟩
    case e =>
      simp only [drawTail]
      walk_at "pp"
      simp only [hb.1, hb.2, decide_true]
      walk_at "pp"
      try simp only [hb.2, decide_true]
      try walk_at "pp"
      simp only [mul_l (i := 2) (by decide) (by decide)]
      walk_at "pp"
      simp only [fdiv_w hm (by omega)]
      walk_at "pp"
      simp only [mod_p hm]
      walk_at "pp"
      rfl
    case h1 => exact Int.emod_nonneg _ (by omega)
    case h2 => exact Int.emod_lt_of_pos _ hm
  · have k1 := Int.emod_nonneg cell (show m1 ≠ 0 by omega)
    have k2 := Int.emod_lt_of_pos cell h2.1
    have k3 := mulb h3.1 h3.2 ha ha2
    have b1 : (cell % m1 + c3 * a + c4).natAbs < 18446744073709551616 := by omega
    have k4 := Int.emod_nonneg ((cell % m1 + c3 * a + c4) ^ 5) (show m2 ≠ 0 by omega)
    have k5 := Int.emod_lt_of_pos ((cell % m1 + c3 * a + c4) ^ 5) h5.1
    have k6 := mulb (y := 2 * a + c5) (q := 3000000) k4 (Int.le_of_lt k5) (by omega) (by omega)
    have k7 := mulb h7.1 h7.2 ha ha2
    have k8 := mulb k7.1 k7.2 ha ha2
    have b2 : ((cell % m1 + c3 * a + c4) ^ 5 % m2 * (2 * a + c5) + c6 * a * a + c7).natAbs < 18446744073709551616 := by
      have k6' : (cell % m1 + c3 * a + c4) ^ 5 % m2 * (2 * a + c5) ≤ 2147483648 * 3000000 := Int.le_trans k6.2 (Int.mul_le_mul_of_nonneg_right h5.2 (by decide))
      omega
    refine ⟨((cell % m1 + c3 * a + c4) ^ 5 % m2 * (2 * a + c5) + c6 * a * a + c7) ^ 3 % m3 / 32 % m, g, x2, .fz (.int a), .fz (.int cell), x5, .fz (.int (((cell % m1 + c3 * a + c4) ^ 5 % m2 * (2 * a + c5) + c6 * a * a + c7) ^ 3 % m3)), ?e, Int.emod_nonneg _ (by omega), Int.emod_lt_of_pos _ hm⟩
    case e =>
      simp only [drawTail]
      by_cases hc : a < (cs.length : Int)
      · have hd : ¬ 1000000000000000000 ≤ (if cell < 0 then -cell else cell) := fun z => hb ⟨hc, z⟩
        walk_at "pp"
        simp only [hc, decide_true]
        walk_at "pp"
        simp only [hd, decide_false]
        walk_at "pp"
        simp only [mod_p h2.1]
        walk_at "pp"
        simp only [mul_l (i := c3) (j := a) (by omega) (by omega)]
        walk_at "pp"
        simp only [pow_p (i := cell % m1 + c3 * a + c4) (j := 5) (by decide) (by decide) b1]
        walk_at "pp"
        simp only [mod_p h5.1]
        walk_at "pp"
        simp only [mul_l (i := 2) (j := a) (by decide) (by decide)]
        walk_at "pp"
        simp only [mul_l (i := (cell % m1 + c3 * a + c4) ^ 5 % m2) (j := 2 * a + c5) (by omega) (by omega)]
        walk_at "pp"
        simp only [mul_l (i := c6) (j := a) (by omega) (by omega)]
        walk_at "pp"
        simp only [mul_l (i := c6 * a) (j := a) (by omega) (by omega)]
        walk_at "pp"
        simp only [pow_p (j := 3) (by decide) (by decide) b2]
        walk_at "pp"
        simp only [mod_p h9]
        walk_at "pp"
        simp only [fdiv_p (j := 32) (by decide) (by decide)]
        walk_at "pp"
        simp only [mod_p hm]
        walk_at "pp"
      · walk_at "pp"
        simp only [hc, decide_false]
        walk_at "pp"
        simp only [mod_p h2.1]
        walk_at "pp"
        simp only [mul_l (i := c3) (j := a) (by omega) (by omega)]
        walk_at "pp"
        simp only [pow_p (i := cell % m1 + c3 * a + c4) (j := 5) (by decide) (by decide) b1]
        walk_at "pp"
        simp only [mod_p h5.1]
        walk_at "pp"
        simp only [mul_l (i := 2) (j := a) (by decide) (by decide)]
        walk_at "pp"
        simp only [mul_l (i := (cell % m1 + c3 * a + c4) ^ 5 % m2) (j := 2 * a + c5) (by omega) (by omega)]
        walk_at "pp"
        simp only [mul_l (i := c6) (j := a) (by omega) (by omega)]
        walk_at "pp"
        simp only [mul_l (i := c6 * a) (j := a) (by omega) (by omega)]
        walk_at "pp"
        simp only [pow_p (j := 3) (by decide) (by decide) b2]
        walk_at "pp"
        simp only [mod_p h9]
        walk_at "pp"
        simp only [fdiv_p (j := 32) (by decide) (by decide)]
        walk_at "pp"
        simp only [mod_p hm]
        walk_at "pp"
theorem atI_mod {xs : List D} {a : Int} (h : 0 < xs.length) : ∃ d ∈ xs, L2.atI xs (a % (xs.length : Int)) = some d := by
  have h1 := Int.emod_nonneg a (show (xs.length : Int) ≠ 0 by omega)
  have h2 := Int.emod_lt_of_pos a (show (0 : Int) < xs.length by omega)
  have h3 : (a % (xs.length : Int)).toNat < xs.length := by omega
  refine ⟨xs[(a % (xs.length : Int)).toNat], List.getElem_mem h3, ?_⟩
  unfold L2.atI L2.ixN
  rw [if_pos h1, if_pos h2]
  simp [h3]
theorem draw_ok {cl : CallF} {c1 c2 m1 c3 c4 m2 c5 c6 c7 m3 : Int} (h1 : 0 ≤ c1 ∧ c1 ≤ 1000000) (h2 : 0 < m1 ∧ m1 ≤ 2147483648) (h3 : 0 ≤ c3 ∧ c3 ≤ 1000000) (h4 : 0 ≤ c4 ∧ c4 ≤ 1000000) (h5 : 0 < m2 ∧ m2 ≤ 2147483648) (h6 : 0 ≤ c5 ∧ c5 ≤ 1000000) (h7 : 0 ≤ c6 ∧ c6 ≤ 1000000)
    (h8 : 0 ≤ c7 ∧ c7 ≤ 1000000) (h9 : 0 < m3) {n : Nat} {p : D} {m : Int} (hp : PenOk n p) (hn : n ≤ 1000000) (hm : 0 < m) (hm2 : m < 1766847064778384329583297500742918515827483896875618958121606201292619776) :
    ∃ r p', runF cl (drawFn c1 c2 m1 c3 c4 m2 c5 c6 c7 m3) [.io p, .fz (.int m)] = .ok (.d (.int r)) [p'] ∧ 0 ≤ r ∧ r < m ∧ PenOk (n + 1) p' := by
  obtain ⟨cs, a, g, rfl, hcs, ha, han⟩ := hp
  by_cases hg : 0 < g
  · refine ⟨g % m, .lst [.lst (cs.map D.int), .int a, .int (g / m)], ?_, Int.emod_nonneg _ (by omega), Int.emod_lt_of_pos _ hm, cs, a, _, rfl, hcs, ha, by omega⟩
    simp only [drawFn]
    walk_at "pp"
    simp only [hg, decide_true]
    simp only [mod_p hm]
    walk_at "pp"
    simp only [fdiv_w hm (by omega)]
    try walk_at "pp"
  · have key : ∀ cell : Int, ∃ r p', finR [Ar.io (.lst [.lst (cs.map D.int), .int a, .int g]), Ar.fz (.int m)] (exs cl (drawTail m1 c3 c4 m2 c5 c6 c7 m3) [.io (.lst [.lst (cs.map D.int), .int (a + 1), .int g]), .fz (.int m), .un, .fz (.int a), .fz (.int cell), .un, .un]) = .ok (.d (.int r)) [p'] ∧ 0 ≤ r ∧ r < m ∧ PenOk (n + 1) p' := by
      intro cell
      obtain ⟨r, g', s2, s3, s4, s5, s6, e, h1, h2⟩ := tail_ok (cl := cl) h2 h3 h4 h5 h6 h7 h8 h9 (cs := cs.map D.int) (b := a + 1) (g := g) (cell := cell) (x2 := .un) (x5 := .un) (x6 := .un) hm hm2 ha (by omega)
      refine ⟨r, .lst [.lst (cs.map D.int), .int (a + 1), .int g'], ?_, h1, h2, cs, a + 1, g', rfl, hcs, by omega, by omega⟩
      rw [e]
      rfl
    simp only [drawFn]
    walk_at "pp"
    simp only [hg, decide_false]
    walk_at "pp"
    simp only [mul_l (i := c1) (j := a) (by omega) (by omega)]
    walk_at "pp"
    cases cs with
    | nil =>
      simp only [List.isEmpty_nil]
      walk_at "pp"
      obtain ⟨r, p', e, h⟩ := key (c1 * a + c2)
      exact ⟨r, p', e, h⟩
    | cons c cs =>
      simp only [List.isEmpty_cons]
      walk_at "pp"
      have hl : (0 : Int) < ((((c :: cs).map D.int).length : Nat) : Int) := by simp <;> omega
      obtain ⟨d, hd, e1⟩ := atI_mod (xs := (c :: cs).map D.int) (a := a) (by simp)
      obtain ⟨v, _, rfl⟩ := List.mem_map.mp hd
      rw [show (List.map D.int cs).length + 1 = ((c :: cs).map D.int).length from rfl]
      simp only [mod_p hl]
      walk_at "pp"
      rw [show ixD (.lst (.int c :: cs.map D.int)) (.int (a % (((cs.map D.int).length + 1 : Nat) : Int))) = some (.int v) from e1]
      walk_at "pp"
      exact key v
theorem cut_all {xs : List D} {n : Nat} (h : xs.length ≤ n) : cutD xs none (some (n : Int)) = xs := by
  unfold cutD
  rw [HT.sIx_nat, HT.sIx_none, List.drop_zero, Nat.sub_zero, Nat.min_eq_right h, List.take_length]
/-- the laws' pen -/
def penFn : Fn := { n := 1, body := (.cons (.ret (.lst (.cons (.bi .list (.cons (.slice (.var 0) false true (.cst .non) (.cst (.int 63))) .nil)) (.cons (.cst (.int 0)) (.cons (.cst (.int 0)) .nil))))) .nil) }
theorem pen_ok {cl : CallF} {ns : List Int} (h : ns.length ≤ 63) : runF cl penFn [.fz (.kst (ns.map D.int))] = .ok (.nw (.lst [.lst (ns.map D.int), .int 0, .int 0])) [] ∧ PenOk 0 (.lst [.lst (ns.map D.int), .int 0, .int 0]) := by
  refine ⟨?_, ns, 0, 0, rfl, h, by omega, by omega⟩
  simp only [penFn]
  walk_at "pp"
  rw [show cutD (ns.map D.int) none (some 63) = ns.map D.int from cut_all (n := 63) (by simpa using h)]
  rw [show ∀ xs, biD .list [.lst xs] = some (.lst xs) from fun _ => rfl]
  walk_at "pp"
theorem ix_get {xs : List D} {r : Int} (h2 : 0 ≤ r) (h3 : r < (xs.length : Int)) : ∃ d ∈ xs, L2.atI xs r = some d := by
  have h5 : r.toNat < xs.length := by omega
  refine ⟨xs[r.toNat], List.getElem_mem h5, ?_⟩
  unfold L2.atI L2.ixN
  rw [if_pos h2, if_pos h3]
  simp [h5]
/-- the laws' pick, by the number of the draw -/
def pickFn (f : Nat) : Fn := { n := 2, body := (.cons (.ret (.ix (.var 1) (.call f [true, false] (.cons (.var 0) (.cons (.bi .len (.cons (.var 1) .nil)) .nil))))) .nil) }
def DrawOk (cl : CallF) (f : Nat) : Prop := ∀ (n : Nat) (p : D) (m : Int), PenOk n p → n ≤ 1000000 → 0 < m → m < 1766847064778384329583297500742918515827483896875618958121606201292619776 → ∃ r p', cl f [.io p, .fz (.int m)] = .ok (.d (.int r)) [p'] ∧ 0 ≤ r ∧ r < m ∧ PenOk (n + 1) p'
def PickOk (cl : CallF) (f : Nat) : Prop := ∀ (n : Nat) (p : D) (xs : List D), PenOk n p → n ≤ 1000000 → 0 < xs.length → xs.length < 1000 → ∃ d ∈ xs, ∃ p', cl f [.io p, .fz (.lst xs)] = .ok (.d d) [p'] ∧ PenOk (n + 1) p'
theorem pick_ok {cl : CallF} {f : Nat} (hd : DrawOk cl f) {n : Nat} {p : D} {xs : List D} (hp : PenOk n p) (hn : n ≤ 1000000) (h0 : 0 < xs.length) (h1 : xs.length < 1000) :
    ∃ d ∈ xs, ∃ p', runF cl (pickFn f) [.io p, .fz (.lst xs)] = .ok (.d d) [p'] ∧ PenOk (n + 1) p' := by
  obtain ⟨r, p', e1, h2, h3, h4⟩ := hd n p (xs.length : Int) hp hn (by omega) (by omega)
  obtain ⟨d, hd, e2⟩ := ix_get h2 h3
  refine ⟨d, hd, p', ?_, h4⟩
  simp only [pickFn]
  walk_at "pp"
  rw [e1]
  walk_at "pp"
  rw [show ixD (.lst xs) (.int r) = some d from e2]
  walk_at "pp"
theorem use_pick {cl : CallF} {f : Nat} (h : PickOk cl f) {n : Nat} {p : D} {xs : List D} {rc : RC} (hr : cl f [.io p, .fz (.lst xs)] = rc) (hp : PenOk n p) (hn : n ≤ 1000000) (h0 : 0 < xs.length) (h1 : xs.length < 1000) : ∃ d ∈ xs, ∃ p', rc = .ok (.d d) [p'] ∧ PenOk (n + 1) p' := by
  subst hr
  exact h n p xs hp hn h0 h1
theorem use_draw {cl : CallF} {f : Nat} (h : DrawOk cl f) {n : Nat} {p : D} {m : Int} {rc : RC} (hr : cl f [.io p, .fz (.int m)] = rc) (hp : PenOk n p) (hn : n ≤ 1000000) (h0 : 0 < m) (h1 : m < 1766847064778384329583297500742918515827483896875618958121606201292619776) : ∃ r p', rc = .ok (.d (.int r)) [p'] ∧ 0 ≤ r ∧ r < m ∧ PenOk (n + 1) p' := by
  subst hr
  exact h n p m hp hn h0 h1
theorem calls_eq (fs : Nat → Option Fn) (k f : Nat) {F : Fn} (h : fs f = some F) (as : List Ar) (hs : F.star = none := by rfl) (hl : F.lam = false := by rfl) : calls fs (k + 1) f as = runF (calls fs k) F as := by
  simp only [calls, h, hs, hl]
theorem calls_fn (fs : Nat → Option Fn) (k f : Nat) {F : Fn} (h : fs f = some F) (hs : F.star = none := by rfl) (hl : F.lam = false := by rfl) : calls fs (k + 1) f = runF (calls fs k) F := funext fun as => calls_eq fs k f h as hs hl
theorem forD_ix {body : Env → R Fl} {i : Nat} (I : Nat → Env → Prop) : ∀ (xs : List D) (j : Nat) (env : Env), I j env → (∀ (m : Nat) (d : D) (env : Env), xs[m]? = some d → I (j + m) env → ∃ env', body (env.set i (.fz d)) = .ok .next env' ∧ I (j + m + 1) env') → ∃ env', forD body i xs env = .ok .next env' ∧ I (j + xs.length) env'
  | [], j, env, h0, _ => ⟨env, rfl, h0⟩
  | d :: r, j, env, h0, hs => by
    obtain ⟨env1, e1, h1⟩ := hs 0 d env rfl h0
    obtain ⟨env2, e2, h2⟩ := forD_ix I r (j + 1) env1 h1 fun m d' env' hm hi => by
      have := hs (m + 1) d' env' hm (by rw [show j + (m + 1) = j + 1 + m by omega]; exact hi)
      rw [show j + (m + 1) + 1 = j + 1 + m + 1 by omega] at this
      exact this
    refine ⟨env2, ?_, ?_⟩
    · simp only [forD, e1, R.bind_ok]
      exact e2
    · rw [List.length_cons, show j + (r.length + 1) = j + 1 + r.length by omega]
      exact h2
theorem use_forI {body : Env → R Fl} {i : Nat} {xs : List D} {env : Env} {q : R Fl} (hq : forD body i xs env = q) (I : Nat → Env → Prop) (h0 : I 0 env) (hs : ∀ (j : Nat) (d : D) (env : Env), xs[j]? = some d → I j env → ∃ env', body (env.set i (.fz d)) = .ok .next env' ∧ I (j + 1) env') : ∃ env', q = .ok .next env' ∧ I xs.length env' := by
  subst hq
  have := forD_ix (body := body) (i := i) I xs 0 env h0 fun m d env' hm hi => by
    rw [Nat.zero_add] at hi ⊢
    exact hs m d env' hm hi
  rwa [Nat.zero_add] at this
end PP
end
section
set_option maxHeartbeats 400000
namespace PP
open PySem L2
def isI : D → Bool | .int _ => true | _ => false
def btw (d : D) (lo hi : Int) : Bool := match d with | .int i => decide (lo ≤ i) && decide (i ≤ hi) | _ => false
abbrev Gf := List Ar → RC
abbrev S_is_integer (g : Gf) : Prop := ∀ d, isClsD d = false → g [.fz d] = .ok (.d (.bl (isI d))) []
abbrev S_is_between (g : Gf) : Prop := ∀ d lo hi, isClsD d = false → g [.fz d, .fz (.int lo), .fz (.int hi)] = .ok (.d (.bl (btw d lo hi))) []
theorem is_integer_ok {cl : CallF} : S_is_integer (runF cl F_is_integer) := by
  intro d h
  cases d with
  | cls _ => cases h
  | dT _ _ => cases h
  | _ => rfl
theorem is_between_ok {cl : CallF} (h0 : S_is_integer (cl 0)) : S_is_between (runF cl F_is_between) := by
  intro d lo hi h
  simp only [F_is_between]
  walk_at "pp"
  rw [h0 d h]
  walk_at "pp"
  cases d with
  | cls _ => cases h
  | int i =>
    simp only [isI, btw]
    walk_at "pp"
    by_cases h1 : lo ≤ i
    · simp only [h1, decide_true]
      walk_at "pp"
    · simp only [h1, decide_false]
      walk_at "pp"
  | _ =>
    simp only [isI, btw]
    walk_at "pp"
/-- what a def may give that another one hands on as it is -/
def okRC : RC → Prop
  | .ok (.d _) [] => True
  | .ok (.nw x) [] => isMutD x = true
  | .exc _ [] => True
  | _ => False
theorem okRC.cases {r : RC} (h : okRC r) : (∃ d, r = .ok (.d d) []) ∨ (∃ d, isMutD d = true ∧ r = .ok (.nw d) []) ∨ ∃ x, r = .exc x [] := by
  match r, h with
  | .ok (.d d) [], _ => exact .inl ⟨d, rfl⟩
  | .ok (.nw d) [], h => exact .inr (.inl ⟨d, h, rfl⟩)
  | .exc x [], _ => exact .inr (.inr ⟨x, rfl⟩)
end PP
end
section
namespace CM
abbrev Tab := List (List (Nat × Nat))
def ordr (T : Tab) (s : Nat) : List Nat := (T.getD s []).map (·.1)
def nxt (T : Tab) (s : Nat) : List Nat := (T.getD s []).map (·.2)
structure Ok (T : Tab) : Prop where
  pos : 0 < T.length
  len : ∀ r ∈ T, r.length = 4
  st : ∀ r ∈ T, ∀ p ∈ r, p.2 < T.length
  qu : ∀ r ∈ T, ∀ p ∈ r, p.1 < 4
  all : ∀ r ∈ T, ∀ q, q < 4 → q ∈ r.map (·.1)
theorem Ok.get {T : Tab} {s : Nat} (h : s < T.length) : T.getD s [] = T[s] := by
  rw [List.getD_eq_getElem?_getD, List.getElem?_eq_getElem h]; rfl
theorem Ok.mem {T : Tab} {s : Nat} (h : s < T.length) : T.getD s [] ∈ T := by rw [Ok.get h]; exact List.getElem_mem h
theorem Ok.nlen {T : Tab} (o : Ok T) {s : Nat} (h : s < T.length) : (nxt T s).length = 4 := by unfold nxt; rw [List.length_map]; exact o.len _ (Ok.mem h)
theorem Ok.nmem {T : Tab} (o : Ok T) {s t : Nat} (h : s < T.length) (ht : t ∈ nxt T s) : t < T.length := by
  unfold nxt at ht
  obtain ⟨p, hp, rfl⟩ := List.mem_map.mp ht
  exact o.st _ (Ok.mem h) p hp
theorem Ok.nget {T : Tab} (o : Ok T) {s i : Nat} (h : s < T.length) (hi : i < 4) : (nxt T s).getD i 0 < T.length := by
  have hl := o.nlen h
  have h2 : i < (nxt T s).length := by omega
  rw [List.getD_eq_getElem?_getD, List.getElem?_eq_getElem h2]
  exact o.nmem h (List.getElem_mem h2)
section
variable {α : Type} [DecidableEq α]
def met : List α → List α → List α
  | m, [] => m
  | m, x :: r => met (if x ∈ m then m else m ++ [x]) r
def numd (xs : List α) : List Nat := xs.map fun x => (met [] xs).idxOf x
theorem met_old : ∀ (xs m : List α) {y : α}, y ∈ m → y ∈ met m xs
  | [], m, y, h => h
  | x :: r, m, y, h => by
    unfold met
    refine met_old r _ ?_
    split
    · exact h
    · exact List.mem_append_left _ h
theorem met_new : ∀ (xs m : List α) {y : α}, y ∈ xs → y ∈ met m xs
  | x :: r, m, y, h => by
    unfold met
    rcases List.mem_cons.mp h with rfl | h
    · refine met_old r _ ?_
      split
      · assumption
      · exact List.mem_append_right _ (List.mem_singleton.mpr rfl)
    · exact met_new r _ h
theorem met_len : ∀ (xs m : List α), (met m xs).length ≤ m.length + xs.length
  | [], m => Nat.le_refl _
  | x :: r, m => by
    unfold met
    refine Nat.le_trans (met_len r _) ?_
    split
    · rw [List.length_cons]; omega
    · rw [List.length_append, List.length_cons, List.length_cons, List.length_nil]; omega
theorem idx_inj {l : List α} {x y : α} (hx : x ∈ l) (h : l.idxOf x = l.idxOf y) : x = y := by
  have h1 := List.idxOf_lt_length_of_mem hx
  have h2 : l.idxOf y < l.length := h ▸ h1
  rw [← List.getElem_idxOf h1, ← List.getElem_idxOf h2]
  congr 1
theorem numd_len (xs : List α) : (numd xs).length = xs.length := List.length_map ..
theorem numd_lt {xs : List α} {v : Nat} (h : v ∈ numd xs) : v < xs.length := by
  obtain ⟨x, hx, rfl⟩ := List.mem_map.mp h
  have := List.idxOf_lt_length_of_mem (met_new xs [] hx)
  have := met_len xs []
  simp only [List.length_nil] at this
  omega
theorem numd_get {xs : List α} {i : Nat} (h : i < xs.length) : (numd xs).getD i 0 = (met [] xs).idxOf xs[i] := by
  rw [List.getD_eq_getElem?_getD, List.getElem?_eq_getElem (by rw [numd_len]; exact h)]
  simp only [numd, List.getElem_map, Option.getD_some]
theorem numd_eq {xs : List α} {i j : Nat} (hi : i < xs.length) (hj : j < xs.length) : (numd xs).getD i 0 = (numd xs).getD j 0 ↔ xs[i] = xs[j] := by
  rw [numd_get hi, numd_get hj]
  refine ⟨fun h => idx_inj (met_new xs [] (List.getElem_mem hi)) h, fun h => by rw [h]⟩
end
def keyOM (T : Tab) (f : List Nat) (a : Nat) : List Nat := f.getD a 0 :: (nxt T a).map fun s => f.getD s 0
def cls (T : Tab) : Nat → List Nat
  | 0 => numd ((List.range T.length).map (ordr T))
  | k + 1 => numd ((List.range T.length).map (keyOM T (cls T k)))
def classes (T : Tab) : List Nat := cls T T.length
def sim (T U : Tab) : Nat → Nat → Nat → Prop
  | 0, s, t => ordr T s = ordr U t
  | k + 1, s, t => ordr T s = ordr U t ∧ ∀ i, i < 4 → sim T U k ((nxt T s).getD i 0) ((nxt U t).getD i 0)
def bis (T U : Tab) (s t : Nat) : Prop := ∀ k, sim T U k s t
theorem sim_refl (T : Tab) : ∀ k s, sim T T k s s
  | 0, _ => rfl
  | k + 1, s => ⟨rfl, fun i _ => sim_refl T k _⟩
theorem sim_symm {T U : Tab} : ∀ {k s t}, sim T U k s t → sim U T k t s
  | 0, _, _, h => Eq.symm h
  | k + 1, s, t, h => ⟨h.1.symm, fun i hi => sim_symm (h.2 i hi)⟩
theorem sim_trans {T U V : Tab} : ∀ {k s t u}, sim T U k s t → sim U V k t u → sim T V k s u
  | 0, _, _, _, h, h' => Eq.trans h h'
  | k + 1, _, _, _, h, h' => ⟨h.1.trans h'.1, fun i hi => sim_trans (h.2 i hi) (h'.2 i hi)⟩
theorem sim_ord {T U : Tab} : ∀ {k s t}, sim T U k s t → ordr T s = ordr U t
  | 0, _, _, h => h
  | k + 1, _, _, h => h.1
theorem sim_down {T U : Tab} : ∀ {k s t}, sim T U (k + 1) s t → sim T U k s t
  | 0, _, _, h => h.1
  | k + 1, _, _, h => ⟨h.1, fun i hi => sim_down (h.2 i hi)⟩
theorem bis.refl (T : Tab) (s : Nat) : bis T T s s := fun k => sim_refl T k s
theorem bis.symm {T U : Tab} {s t : Nat} (h : bis T U s t) : bis U T t s := fun k => sim_symm (h k)
theorem bis.trans {T U V : Tab} {s t u : Nat} (h : bis T U s t) (h' : bis U V t u) : bis T V s u := fun k => sim_trans (h k) (h' k)
theorem bis.ord {T U : Tab} {s t : Nat} (h : bis T U s t) : ordr T s = ordr U t := h 0
theorem bis.nx {T U : Tab} {s t : Nat} (h : bis T U s t) {i : Nat} (hi : i < 4) : bis T U ((nxt T s).getD i 0) ((nxt U t).getD i 0) := fun k => (h (k + 1)).2 i hi
theorem bis_of {T U : Tab} (R : Nat → Nat → Prop) (h : ∀ s t, R s t → ordr T s = ordr U t ∧ ∀ i, i < 4 → R ((nxt T s).getD i 0) ((nxt U t).getD i 0)) {s t : Nat} (r : R s t) : bis T U s t := by
  intro k
  induction k generalizing s t with
  | zero => exact (h s t r).1
  | succ k ih => exact ⟨(h s t r).1, fun i hi => ih ((h s t r).2 i hi)⟩
theorem cls_len (T : Tab) : ∀ k, (cls T k).length = T.length
  | 0 => by unfold cls; rw [numd_len, List.length_map, List.length_range]
  | k + 1 => by unfold cls; rw [numd_len, List.length_map, List.length_range]
theorem cls_lt {T : Tab} {k v : Nat} (h : v ∈ cls T k) : v < T.length := by
  cases k with
  | zero => unfold cls at h; have := numd_lt h; rwa [List.length_map, List.length_range] at this
  | succ k => unfold cls at h; have := numd_lt h; rwa [List.length_map, List.length_range] at this
theorem map4 {xs ys : List Nat} (hx : xs.length = 4) (hy : ys.length = 4) (f : Nat → Nat) : xs.map f = ys.map f ↔ ∀ i, i < 4 → f (xs.getD i 0) = f (ys.getD i 0) := by
  match xs, ys, hx, hy with
  | [a, b, c, d], [a', b', c', d'], _, _ =>
    simp only [List.map_cons, List.map_nil, List.cons.injEq, and_true]
    refine ⟨fun h i hi => ?_, fun h => ⟨h 0 (by omega), h 1 (by omega), h 2 (by omega), h 3 (by omega)⟩⟩
    match i, hi with
    | 0, _ => exact h.1
    | 1, _ => exact h.2.1
    | 2, _ => exact h.2.2.1
    | 3, _ => exact h.2.2.2
theorem cls_sim {T : Tab} (o : Ok T) : ∀ (k : Nat) {s t : Nat}, s < T.length → t < T.length → ((cls T k).getD s 0 = (cls T k).getD t 0 ↔ sim T T k s t)
  | 0, s, t, hs, ht => by
    unfold cls
    rw [numd_eq (by rw [List.length_map, List.length_range]; exact hs) (by rw [List.length_map, List.length_range]; exact ht)]
    simp only [List.getElem_map, List.getElem_range]
    rfl
  | k + 1, s, t, hs, ht => by
    unfold cls
    rw [numd_eq (by rw [List.length_map, List.length_range]; exact hs) (by rw [List.length_map, List.length_range]; exact ht)]
    simp only [List.getElem_map, List.getElem_range, keyOM, List.cons.injEq]
    rw [cls_sim o k hs ht, map4 (o.nlen hs) (o.nlen ht)]
    refine ⟨fun ⟨h1, h2⟩ => ⟨sim_ord h1, fun i hi => (cls_sim o k (o.nget hs hi) (o.nget ht hi)).mp (h2 i hi)⟩, fun h => ⟨sim_down h, fun i hi => (cls_sim o k (o.nget hs hi) (o.nget ht hi)).mpr (h.2 i hi)⟩⟩
theorem least_of {P : Nat → Prop} (n : Nat) (h : P n) : ∃ m, m ≤ n ∧ P m ∧ ∀ k, k < m → ¬ P k := by
  induction n using Nat.strongRecOn with
  | _ n ih =>
    by_cases q : ∃ k, k < n ∧ P k
    · obtain ⟨k, hk, hp⟩ := q
      obtain ⟨m, h1, h2, h3⟩ := ih k hk hp
      exact ⟨m, by omega, h2, h3⟩
    · exact ⟨n, Nat.le_refl _, h, fun k hk hp => q ⟨k, hk, hp⟩⟩
open Classical in
noncomputable def isRep (T : Tab) (k s : Nat) : Bool := decide (∀ t, t < s → ¬ sim T T k t s)
theorem countP_lt {p q : Nat → Bool} : ∀ {l : List Nat}, (∀ x ∈ l, p x = true → q x = true) → (∃ x ∈ l, q x = true ∧ p x = false) → l.countP p < l.countP q
  | [], _, h => by obtain ⟨_, h, _⟩ := h; cases h
  | a :: r, h, hx => by
    rw [List.countP_cons, List.countP_cons]
    obtain ⟨x, hm, hq, hp⟩ := hx
    have hr : ∀ x ∈ r, p x = true → q x = true := fun x hx => h x (List.mem_cons_of_mem _ hx)
    rcases List.mem_cons.mp hm with rfl | hm
    · have := List.countP_mono_left (p := p) (q := q) hr
      rw [hq, hp]
      simp only [if_true, Bool.false_eq_true, if_false]
      omega
    · have ih := countP_lt hr ⟨x, hm, hq, hp⟩
      have ha := h a List.mem_cons_self
      cases hpa : p a with
      | false =>
        simp only [Bool.false_eq_true, if_false]
        split <;> omega
      | true =>
        rw [ha hpa]
        simp only [if_true]
        omega
noncomputable def reps (T : Tab) (k : Nat) : Nat := (List.range T.length).countP (isRep T k)
theorem reps_pos {T : Tab} (h : 0 < T.length) : 1 ≤ reps T 0 := by
  unfold reps
  rw [Nat.one_le_iff_ne_zero, ← Nat.pos_iff_ne_zero, List.countP_pos_iff]
  refine ⟨0, List.mem_range.mpr h, ?_⟩
  unfold isRep
  simp
open Classical in
theorem reps_up {T : Tab} {k u w : Nat} (hu : u < T.length) (hw : w < T.length) (h : sim T T k u w) (n : ¬ sim T T (k + 1) u w) : reps T k < reps T (k + 1) := by
  refine countP_lt (fun x _ hx => ?_) ?_
  · unfold isRep at hx ⊢
    rw [decide_eq_true_eq] at hx ⊢
    exact fun t ht hs => hx t ht (sim_down hs)
  · obtain ⟨r, r1, r2, r3⟩ := least_of (P := fun x => sim T T k x u) u (sim_refl T k u)
    have : ∃ v0, v0 < T.length ∧ sim T T k r v0 ∧ ¬ sim T T (k + 1) r v0 := by
      by_cases q : sim T T (k + 1) r u
      · exact ⟨w, hw, sim_trans r2 h, fun z => n (sim_trans (sim_symm q) z)⟩
      · exact ⟨u, hu, r2, q⟩
    obtain ⟨v0, a1, a2, a3⟩ := this
    obtain ⟨v, b1, b2, b3⟩ := least_of (P := fun x => sim T T (k + 1) x v0) v0 (sim_refl T (k + 1) v0)
    have c1 : sim T T k r v := sim_trans a2 (sim_symm (sim_down b2))
    have c2 : r ≠ v := fun z => a3 (z ▸ b2)
    have c3 : r ≤ v := by
      by_cases z : r ≤ v
      · exact z
      · exact absurd (sim_trans (sim_symm c1) r2) (r3 v (by omega))
    refine ⟨v, List.mem_range.mpr (by omega), ?_, ?_⟩
    · unfold isRep
      rw [decide_eq_true_eq]
      exact fun t ht hs => b3 t ht (sim_trans hs b2)
    · unfold isRep
      rw [decide_eq_false_iff_not]
      exact fun z => z r (by omega) c1
theorem still {T : Tab} (o : Ok T) {k : Nat} (h : ∀ s t, s < T.length → t < T.length → sim T T k s t → sim T T (k + 1) s t) : ∀ j s t, s < T.length → t < T.length → sim T T k s t → sim T T (k + j) s t
  | 0, _, _, _, _, z => z
  | j + 1, s, t, hs, ht, z => by
    have z1 := h s t hs ht z
    show sim T T (k + j + 1) s t
    exact ⟨z1.1, fun i hi => still o h j _ _ (o.nget hs hi) (o.nget ht hi) (z1.2 i hi)⟩
theorem still_at {T : Tab} (o : Ok T) {k : Nat} (h : ∀ j, j < k → ∃ s t, s < T.length ∧ t < T.length ∧ sim T T j s t ∧ ¬ sim T T (j + 1) s t) : k + 1 ≤ reps T k := by
  induction k with
  | zero => exact reps_pos o.pos
  | succ k ih =>
    have h1 := ih fun j hj => h j (by omega)
    obtain ⟨s, t, hs, ht, a, b⟩ := h k (by omega)
    have := reps_up hs ht a b
    omega
theorem sim_bis {T : Tab} (o : Ok T) {s t : Nat} (hs : s < T.length) (ht : t < T.length) (h : sim T T T.length s t) : bis T T s t := by
  have hex : ∃ k, k < T.length ∧ ∀ s t, s < T.length → t < T.length → sim T T k s t → sim T T (k + 1) s t := by
    refine Classical.byContradiction fun q => ?_
    have hall : ∀ j, j < T.length → ∃ s t, s < T.length ∧ t < T.length ∧ sim T T j s t ∧ ¬ sim T T (j + 1) s t := by
      intro j hj
      refine Classical.byContradiction fun q2 => q ⟨j, hj, fun s t hs ht z => ?_⟩
      exact Classical.byContradiction fun q3 => q2 ⟨s, t, hs, ht, z, q3⟩
    have h1 := still_at o hall
    have h2 : reps T T.length ≤ T.length := by
      unfold reps
      refine Nat.le_trans List.countP_le_length ?_
      rw [List.length_range]
      exact Nat.le_refl _
    omega
  obtain ⟨k, hk, hst⟩ := hex
  have down : ∀ j a, sim T T (a + j) s t → sim T T a s t := by
    intro j
    induction j with
    | zero => exact fun a z => z
    | succ j ih => exact fun a z => ih a (sim_down z)
  have z0 : sim T T k s t := down (T.length - k) k (by rw [show k + (T.length - k) = T.length by omega]; exact h)
  intro m
  have z1 := still o hst m s t hs ht z0
  exact down k m (by rw [Nat.add_comm]; exact z1)
def cl (T : Tab) (s : Nat) : Nat := (classes T).getD s 0
theorem cl_bis {T : Tab} (o : Ok T) {s t : Nat} (hs : s < T.length) (ht : t < T.length) : cl T s = cl T t ↔ bis T T s t := by
  unfold cl classes
  rw [cls_sim o _ hs ht]
  exact ⟨sim_bis o hs ht, fun h => h _⟩
theorem cl_lt {T : Tab} {s : Nat} (h : s < T.length) : cl T s < T.length := by
  unfold cl classes
  have hl : s < (cls T T.length).length := by rw [cls_len]; exact h
  rw [List.getD_eq_getElem?_getD, List.getElem?_eq_getElem hl]
  exact cls_lt (List.getElem_mem hl)
end CM
end
section
namespace CM
/-- new classes among some states come behind -/
def addS (f : Nat → Nat) : List Nat → List Nat → List Nat
  | m, [] => m
  | m, s :: r => addS f (if f s ∈ m.map f then m else m ++ [s]) r
def bfs (T : Tab) (f : Nat → Nat) : Nat → Nat → List Nat → List Nat
  | 0, _, m => m
  | k + 1, a, m => if a < m.length then bfs T f k (a + 1) (addS f m (nxt T (m.getD a 0))) else m
def leastM (T : Tab) : List Nat := bfs T (cl T) (T.length + 1) 0 [0]
def least (T : Tab) : Tab := (leastM T).map fun s => (T.getD s []).map fun p => (p.1, ((leastM T).map (cl T)).idxOf (cl T p.2))
theorem add_pre {f : Nat → Nat} : ∀ (r m : List Nat), ∃ t, addS f m r = m ++ t
  | [], m => ⟨[], by rw [List.append_nil]; rfl⟩
  | s :: r, m => by
    unfold addS
    split
    · exact add_pre r m
    · obtain ⟨t, h⟩ := add_pre r (m ++ [s])
      exact ⟨[s] ++ t, by rw [h, List.append_assoc]⟩
theorem add_mem {f : Nat → Nat} : ∀ (r m : List Nat) {x : Nat}, x ∈ addS f m r → x ∈ m ∨ x ∈ r
  | [], m, x, h => .inl h
  | s :: r, m, x, h => by
    unfold addS at h
    split at h
    · exact (add_mem r m h).imp id (List.mem_cons_of_mem _)
    · rcases add_mem r _ h with h | h
      · rcases List.mem_append.mp h with h | h
        · exact .inl h
        · rw [List.mem_singleton.mp h]; exact .inr List.mem_cons_self
      · exact .inr (List.mem_cons_of_mem _ h)
theorem add_has {f : Nat → Nat} : ∀ (r m : List Nat) {x : Nat}, x ∈ r → f x ∈ (addS f m r).map f
  | s :: r, m, x, h => by
    unfold addS
    rcases List.mem_cons.mp h with rfl | h
    · split
      · rename_i hm
        obtain ⟨t, e⟩ := add_pre (f := f) r m
        rw [e, List.map_append]
        exact List.mem_append_left _ hm
      · obtain ⟨t, e⟩ := add_pre (f := f) r (m ++ [x])
        rw [e, List.map_append, List.map_append]
        exact List.mem_append_left _ (List.mem_append_right _ (by simp))
    · exact add_has r _ h
theorem add_nd {f : Nat → Nat} : ∀ (r m : List Nat), (m.map f).Nodup → ((addS f m r).map f).Nodup
  | [], m, h => h
  | s :: r, m, h => by
    unfold addS
    split
    · exact add_nd r m h
    · rename_i hm
      refine add_nd r _ ?_
      rw [List.map_append, List.nodup_append]
      refine ⟨h, by simp, fun a ha b hb => ?_⟩
      simp only [List.map_cons, List.map_nil, List.mem_singleton] at hb
      subst hb
      exact fun e => hm (e ▸ ha)
theorem nd_len : ∀ (n : Nat) (l : List Nat), l.Nodup → (∀ x ∈ l, x < n) → l.length ≤ n
  | 0, l, _, h => by
    cases l with
    | nil => exact Nat.le_refl _
    | cons a r => exact absurd (h a List.mem_cons_self) (Nat.not_lt_zero _)
  | n + 1, l, hn, h => by
    by_cases q : n ∈ l
    · have h1 := nd_len n (l.erase n) (hn.erase n) fun x hx => by
        have := h x (List.mem_of_mem_erase hx)
        have hne : x ≠ n := fun e => by
          subst e
          exact absurd hx (by rw [hn.mem_erase_iff]; simp)
        omega
      rw [List.length_erase_of_mem q] at h1
      omega
    · have h1 := nd_len n l hn fun x hx => by
        have := h x hx
        have : x ≠ n := fun e => q (e ▸ hx)
        omega
      omega
structure Inv (T : Tab) (f : Nat → Nat) (a : Nat) (m : List Nat) : Prop where
  lt : ∀ x ∈ m, x < T.length
  nd : (m.map f).Nodup
  clo : ∀ j, j < a → j < m.length → ∀ s ∈ nxt T (m.getD j 0), f s ∈ m.map f
  zero : m.getD 0 0 = 0
  pos : 0 < m.length
theorem getD_app {m t : List Nat} {j : Nat} (h : j < m.length) : (m ++ t).getD j 0 = m.getD j 0 := by
  rw [List.getD_eq_getElem?_getD, List.getD_eq_getElem?_getD, List.getElem?_append_left h]
theorem getD_mem {m : List Nat} {j : Nat} (h : j < m.length) : m.getD j 0 ∈ m := by
  rw [List.getD_eq_getElem?_getD, List.getElem?_eq_getElem h]
  exact List.getElem_mem h
theorem Inv.len {T : Tab} {f : Nat → Nat} {a : Nat} {m : List Nat} (I : Inv T f a m) (hf : ∀ s, s < T.length → f s < T.length) : m.length ≤ T.length := by
  have := nd_len T.length (m.map f) I.nd fun x hx => by
    obtain ⟨s, hs, rfl⟩ := List.mem_map.mp hx
    exact hf s (I.lt s hs)
  rwa [List.length_map] at this
theorem Inv.step {T : Tab} (o : Ok T) {f : Nat → Nat} {a : Nat} {m : List Nat} (I : Inv T f a m) (h : a < m.length) : Inv T f (a + 1) (addS f m (nxt T (m.getD a 0))) := by
  obtain ⟨t, e⟩ := add_pre (f := f) (nxt T (m.getD a 0)) m
  refine ⟨fun x hx => ?_, add_nd _ _ I.nd, fun j hj hj2 s hs => ?_, ?_, ?_⟩
  · rcases add_mem _ _ hx with hx | hx
    · exact I.lt x hx
    · exact o.nmem (I.lt _ (getD_mem h)) hx
  · by_cases q : j = a
    · subst q
      rw [e, getD_app h] at hs
      exact add_has _ _ hs
    · have hj3 : j < a := by omega
      have hj4 : j < m.length := by omega
      rw [e, getD_app hj4] at hs
      have := I.clo j hj3 hj4 s hs
      rw [e, List.map_append]
      exact List.mem_append_left _ this
  · rw [e, getD_app I.pos]; exact I.zero
  · rw [e, List.length_append]; have := I.pos; omega
/-- what the search ends with -/
theorem bfs_end {T : Tab} (o : Ok T) {f : Nat → Nat} (hf : ∀ s, s < T.length → f s < T.length) : ∀ (k a : Nat) (m : List Nat), Inv T f a m → T.length + 1 ≤ a + k → ∃ a', Inv T f a' (bfs T f k a m) ∧ (bfs T f k a m).length ≤ a'
  | 0, a, m, I, h => ⟨a, I, by have := I.len hf; show m.length ≤ a; omega⟩
  | k + 1, a, m, I, h => by
    unfold bfs
    split
    · rename_i ha
      exact bfs_end o hf k (a + 1) _ (I.step o ha) (by omega)
    · exact ⟨a, I, by omega⟩
theorem inv0 {T : Tab} (o : Ok T) (f : Nat → Nat) : Inv T f 0 [0] := ⟨fun x hx => by rw [List.mem_singleton.mp hx]; exact o.pos, by simp, fun j hj => absurd hj (Nat.not_lt_zero _), rfl, by decide⟩
structure Full (T : Tab) (f : Nat → Nat) (m : List Nat) : Prop where
  lt : ∀ x ∈ m, x < T.length
  nd : (m.map f).Nodup
  clo : ∀ j, j < m.length → ∀ s ∈ nxt T (m.getD j 0), f s ∈ m.map f
  zero : m.getD 0 0 = 0
  pos : 0 < m.length
theorem leastM_full {T : Tab} (o : Ok T) : Full T (cl T) (leastM T) := by
  obtain ⟨a', I, h⟩ := bfs_end o (f := cl T) (fun s hs => cl_lt hs) (T.length + 1) 0 [0] (inv0 o _) (by omega)
  exact ⟨I.lt, I.nd, fun j hj => I.clo j (by show j < a'; exact Nat.lt_of_lt_of_le hj h) hj, I.zero, I.pos⟩
theorem leastM_len {T : Tab} (o : Ok T) : (leastM T).length ≤ T.length := by
  have F := leastM_full o
  have := nd_len T.length ((leastM T).map (cl T)) F.nd fun x hx => by
    obtain ⟨s, hs, rfl⟩ := List.mem_map.mp hx
    exact cl_lt (F.lt s hs)
  rwa [List.length_map] at this
theorem least_len (T : Tab) : (least T).length = (leastM T).length := List.length_map ..
theorem least_get {T : Tab} {j : Nat} (h : j < (leastM T).length) : (least T).getD j [] = (T.getD ((leastM T).getD j 0) []).map fun p => (p.1, ((leastM T).map (cl T)).idxOf (cl T p.2)) := by
  unfold least
  rw [List.getD_eq_getElem?_getD, List.getElem?_map, List.getElem?_eq_getElem h, List.getD_eq_getElem?_getD (l := leastM T), List.getElem?_eq_getElem h]
  rfl
theorem least_ordr {T : Tab} {j : Nat} (h : j < (leastM T).length) : ordr (least T) j = ordr T ((leastM T).getD j 0) := by
  unfold ordr
  rw [least_get h, List.map_map]
  rfl
theorem least_nxt {T : Tab} {j : Nat} (h : j < (leastM T).length) : nxt (least T) j = (nxt T ((leastM T).getD j 0)).map fun s => ((leastM T).map (cl T)).idxOf (cl T s) := by
  unfold nxt
  rw [least_get h, List.map_map, List.map_map]
  rfl
theorem idx_lt {T : Tab} {f : Nat → Nat} {m : List Nat} {s : Nat} (h : f s ∈ m.map f) : (m.map f).idxOf (f s) < m.length := by
  have := List.idxOf_lt_length_of_mem h
  rwa [List.length_map] at this
theorem idx_cl {f : Nat → Nat} {m : List Nat} {s : Nat} (h : f s ∈ m.map f) : f (m.getD ((m.map f).idxOf (f s)) 0) = f s := by
  have h1 := List.idxOf_lt_length_of_mem h
  have h2 := List.getElem_idxOf h1
  have h3 : (m.map f).idxOf (f s) < m.length := by rwa [List.length_map] at h1
  rw [List.getElem_map] at h2
  rw [List.getD_eq_getElem?_getD, List.getElem?_eq_getElem h3]
  exact h2
theorem getD_map4 {l : List Nat} {g : Nat → Nat} {i : Nat} (h : i < l.length) : (l.map g).getD i 0 = g (l.getD i 0) := by
  rw [List.getD_eq_getElem?_getD, List.getElem?_map, List.getElem?_eq_getElem h, List.getD_eq_getElem?_getD, List.getElem?_eq_getElem h]
  rfl
/-- the least form orders as the table -/
theorem least_bis' {T : Tab} (o : Ok T) {j s : Nat} (hj : j < (leastM T).length) (hs : s < T.length) (h : cl T s = cl T ((leastM T).getD j 0)) : bis (least T) T j s := by
  have F := leastM_full o
  refine bis_of (R := fun j s => j < (leastM T).length ∧ s < T.length ∧ cl T s = cl T ((leastM T).getD j 0)) (fun j s ⟨hj, hs, h⟩ => ?_) ⟨hj, hs, h⟩
  have hm := F.lt _ (getD_mem hj)
  have hb := (cl_bis o hs hm).mp h
  refine ⟨by rw [least_ordr hj]; exact hb.ord.symm, fun i hi => ?_⟩
  have hl : i < (nxt T ((leastM T).getD j 0)).length := by rw [o.nlen hm]; exact hi
  have hmem : (nxt T ((leastM T).getD j 0)).getD i 0 ∈ nxt T ((leastM T).getD j 0) := getD_mem hl
  have hin := F.clo j hj _ hmem
  rw [least_nxt hj, getD_map4 hl]
  refine ⟨idx_lt (T := T) hin, o.nget hs hi, ?_⟩
  rw [idx_cl hin]
  exact (cl_bis o (o.nget hs hi) (o.nget hm hi)).mpr (hb.nx hi)
theorem least_bis {T : Tab} (o : Ok T) {j : Nat} (hj : j < (leastM T).length) : bis (least T) T j ((leastM T).getD j 0) := least_bis' o hj ((leastM_full o).lt _ (getD_mem hj)) rfl
theorem least_bis0 {T : Tab} (o : Ok T) : bis (least T) T 0 0 := by
  have F := leastM_full o
  have := least_bis o F.pos
  rwa [F.zero] at this
theorem least_ok {T : Tab} (o : Ok T) : Ok (least T) := by
  have F := leastM_full o
  have row : ∀ r ∈ least T, ∃ j, j < (leastM T).length ∧ r = (least T).getD j [] := by
    intro r hr
    obtain ⟨j, hj, e⟩ := List.mem_iff_getElem.mp hr
    exact ⟨j, by rw [least_len] at hj; exact hj, by rw [List.getD_eq_getElem?_getD, List.getElem?_eq_getElem hj, ← e]; rfl⟩
  have src : ∀ j, j < (leastM T).length → T.getD ((leastM T).getD j 0) [] ∈ T := fun j hj => Ok.mem (F.lt _ (getD_mem hj))
  refine ⟨by rw [least_len]; exact F.pos, fun r hr => ?_, fun r hr p hp => ?_, fun r hr p hp => ?_, fun r hr q hq => ?_⟩
  · obtain ⟨j, hj, rfl⟩ := row r hr
    rw [least_get hj, List.length_map]
    exact o.len _ (src j hj)
  · obtain ⟨j, hj, rfl⟩ := row r hr
    rw [least_get hj] at hp
    obtain ⟨p', hp', rfl⟩ := List.mem_map.mp hp
    rw [least_len]
    refine idx_lt (T := T) (F.clo j hj p'.2 ?_)
    unfold nxt
    exact List.mem_map_of_mem hp'
  · obtain ⟨j, hj, rfl⟩ := row r hr
    rw [least_get hj] at hp
    obtain ⟨p', hp', rfl⟩ := List.mem_map.mp hp
    exact o.qu _ (src j hj) p' hp'
  · obtain ⟨j, hj, rfl⟩ := row r hr
    rw [least_get hj, List.map_map]
    exact o.all _ (src j hj) q hq
def Par (A B : Tab) (m n : List Nat) : Prop := m.length = n.length ∧ ∀ j, j < m.length → bis A B (m.getD j 0) (n.getD j 0)
theorem cl_two {A B : Tab} (oA : Ok A) (oB : Ok B) {s s' t t' : Nat} (hs : s < A.length) (hs' : s' < A.length) (ht : t < B.length) (ht' : t' < B.length) (h : bis A B s t) (h' : bis A B s' t') : cl A s = cl A s' ↔ cl B t = cl B t' := by
  rw [cl_bis oA hs hs', cl_bis oB ht ht']
  exact ⟨fun z => (h.symm.trans z).trans h', fun z => (h.trans z).trans h'.symm⟩
theorem mem_get {f : Nat → Nat} {m : List Nat} {x : Nat} : f x ∈ m.map f ↔ ∃ j, j < m.length ∧ f x = f (m.getD j 0) := by
  rw [List.mem_map]
  constructor
  · rintro ⟨a, ha, e⟩
    obtain ⟨j, hj, e2⟩ := List.mem_iff_getElem.mp ha
    refine ⟨j, hj, ?_⟩
    rw [List.getD_eq_getElem?_getD, List.getElem?_eq_getElem hj]
    exact e.symm.trans (by rw [← e2]; rfl)
  · rintro ⟨j, hj, e⟩
    exact ⟨_, getD_mem hj, e.symm⟩
theorem par_mem {A B : Tab} (oA : Ok A) (oB : Ok B) {m n : List Nat} (hm : ∀ x ∈ m, x < A.length) (hn : ∀ x ∈ n, x < B.length) (p : Par A B m n) {s t : Nat} (hs : s < A.length) (ht : t < B.length) (h : bis A B s t) : cl A s ∈ m.map (cl A) ↔ cl B t ∈ n.map (cl B) := by
  rw [mem_get, mem_get]
  constructor
  · rintro ⟨j, hj, e⟩
    have hj' : j < n.length := p.1 ▸ hj
    exact ⟨j, hj', (cl_two oA oB hs (hm _ (getD_mem hj)) ht (hn _ (getD_mem hj')) h (p.2 j hj)).mp e⟩
  · rintro ⟨j, hj', e⟩
    have hj : j < m.length := p.1 ▸ hj'
    exact ⟨j, hj, (cl_two oA oB hs (hm _ (getD_mem hj)) ht (hn _ (getD_mem hj')) h (p.2 j hj)).mpr e⟩
theorem getD_last {m : List Nat} {s : Nat} : (m ++ [s]).getD m.length 0 = s := by
  rw [List.getD_eq_getElem?_getD, List.getElem?_append_right (Nat.le_refl _), Nat.sub_self]; rfl
theorem par_add {A B : Tab} (oA : Ok A) (oB : Ok B) : ∀ (r q m n : List Nat), (∀ x ∈ m, x < A.length) → (∀ x ∈ n, x < B.length) → (∀ x ∈ r, x < A.length) → (∀ x ∈ q, x < B.length) → Par A B m n → Par A B r q → Par A B (addS (cl A) m r) (addS (cl B) n q)
  | [], [], m, n, _, _, _, _, p, _ => p
  | [], _ :: _, m, n, _, _, _, _, p, z => by cases z.1
  | _ :: _, [], m, n, _, _, _, _, p, z => by cases z.1
  | s :: r, t :: q, m, n, hm, hn, hr, hq, p, z => by
    unfold addS
    have hb : bis A B s t := z.2 0 (by simp)
    have hs := hr s List.mem_cons_self
    have ht := hq t List.mem_cons_self
    have z' : Par A B r q := ⟨Nat.succ.inj z.1, fun j hj => by simpa using z.2 (j + 1) (by simpa using hj)⟩
    have hr' : ∀ x ∈ r, x < A.length := fun x hx => hr x (List.mem_cons_of_mem _ hx)
    have hq' : ∀ x ∈ q, x < B.length := fun x hx => hq x (List.mem_cons_of_mem _ hx)
    have iff := par_mem oA oB hm hn p hs ht hb
    by_cases c : cl A s ∈ m.map (cl A)
    · rw [if_pos c, if_pos (iff.mp c)]
      exact par_add oA oB r q m n hm hn hr' hq' p z'
    · rw [if_neg c, if_neg fun y => c (iff.mpr y)]
      refine par_add oA oB r q _ _ (fun x hx => ?_) (fun x hx => ?_) hr' hq' ⟨by rw [List.length_append, List.length_append, p.1]; rfl, fun j hj => ?_⟩ z'
      · rcases List.mem_append.mp hx with hx | hx
        · exact hm x hx
        · rw [List.mem_singleton.mp hx]; exact hs
      · rcases List.mem_append.mp hx with hx | hx
        · exact hn x hx
        · rw [List.mem_singleton.mp hx]; exact ht
      · rw [List.length_append, List.length_cons, List.length_nil] at hj
        by_cases e : j < m.length
        · rw [getD_app e, getD_app (p.1 ▸ e)]
          exact p.2 j e
        · have : j = m.length := by omega
          subst this
          rw [getD_last, p.1, getD_last]
          exact hb
theorem par_bfs {A B : Tab} (oA : Ok A) (oB : Ok B) : ∀ (k l a : Nat) (m n : List Nat), Inv A (cl A) a m → Inv B (cl B) a n → Par A B m n → A.length + 1 ≤ a + k → B.length + 1 ≤ a + l → Par A B (bfs A (cl A) k a m) (bfs B (cl B) l a n)
  | 0, l, a, m, n, I, J, p, h, h' => by
    have h1 := I.len fun s hs => cl_lt hs
    have h2 : ¬ a < n.length := by rw [← p.1]; omega
    have : bfs B (cl B) l a n = n := by cases l with
      | zero => rfl
      | succ l => unfold bfs; rw [if_neg h2]
    rw [this]
    exact p
  | k + 1, l, a, m, n, I, J, p, h, h' => by
    by_cases c : a < m.length
    · have c' : a < n.length := p.1 ▸ c
      have h2 := J.len fun s hs => cl_lt hs
      obtain ⟨l, rfl⟩ : ∃ l', l = l' + 1 := ⟨l - 1, by omega⟩
      unfold bfs
      rw [if_pos c, if_pos c']
      have hb := p.2 a c
      have hma := I.lt _ (getD_mem c)
      have hna := J.lt _ (getD_mem c')
      refine par_bfs oA oB k l (a + 1) _ _ (I.step oA c) (J.step oB c') (par_add oA oB _ _ _ _ I.lt J.lt (fun x hx => oA.nmem hma hx) (fun x hx => oB.nmem hna hx) p ⟨by rw [oA.nlen hma, oB.nlen hna], fun j hj => ?_⟩) (by omega) (by omega)
      rw [oA.nlen hma] at hj
      exact hb.nx hj
    · have c' : ¬ a < n.length := by rw [← p.1]; exact c
      have : bfs B (cl B) l a n = n := by cases l with
        | zero => rfl
        | succ l => unfold bfs; rw [if_neg c']
      rw [this]
      unfold bfs
      rw [if_neg c]
      exact p
theorem idx_eq {f g : Nat → Nat} {s t : Nat} : ∀ {m n : List Nat}, m.length = n.length → (∀ j, j < m.length → (f (m.getD j 0) = f s ↔ g (n.getD j 0) = g t)) → (m.map f).idxOf (f s) = (n.map g).idxOf (g t)
  | [], [], _, _ => rfl
  | [], _ :: _, h, _ => by cases h
  | _ :: _, [], h, _ => by cases h
  | a :: m, b :: n, h, z => by
    have h0 := z 0 (by simp)
    simp only [List.getD_cons_zero] at h0
    rw [List.map_cons, List.map_cons, List.idxOf_cons, List.idxOf_cons]
    have ih := idx_eq (m := m) (n := n) (Nat.succ.inj h) fun j hj => by simpa using z (j + 1) (by simpa using hj)
    by_cases c : f a = f s
    · rw [c, h0.mp c]; simp
    · have c' : ¬ g b = g t := fun y => c (h0.mpr y)
      have e1 : (f a == f s) = false := by simpa using c
      have e2 : (g b == g t) = false := by simpa using c'
      rw [e1, e2, ih]
theorem least_eq {A B : Tab} (oA : Ok A) (oB : Ok B) (h : bis A B 0 0) : least A = least B := by
  have p : Par A B (leastM A) (leastM B) := par_bfs oA oB _ _ 0 [0] [0] (inv0 oA _) (inv0 oB _) ⟨rfl, fun j hj => by
    have : j = 0 := by simpa using hj
    subst this
    exact h⟩ (by omega) (by omega)
  have FA := leastM_full oA
  have FB := leastM_full oB
  refine List.ext_getElem (by rw [least_len, least_len, p.1]) fun j h1 h2 => ?_
  rw [least_len] at h1 h2
  have e1 : (least A)[j]'(by rw [least_len]; exact h1) = (least A).getD j [] := by rw [List.getD_eq_getElem?_getD, List.getElem?_eq_getElem (by rw [least_len]; exact h1)]; rfl
  have e2 : (least B)[j]'(by rw [least_len]; exact h2) = (least B).getD j [] := by rw [List.getD_eq_getElem?_getD, List.getElem?_eq_getElem (by rw [least_len]; exact h2)]; rfl
  rw [e1, e2, least_get h1, least_get h2]
  have hb := p.2 j h1
  have ha := FA.lt _ (getD_mem h1)
  have hbb := FB.lt _ (getD_mem h2)
  have ho := hb.ord
  have hn : ∀ i, i < 4 → bis A B ((nxt A ((leastM A).getD j 0)).getD i 0) ((nxt B ((leastM B).getD j 0)).getD i 0) := fun i hi => hb.nx hi
  have hcl : ∀ i, i < 4 → ((leastM A).map (cl A)).idxOf (cl A ((nxt A ((leastM A).getD j 0)).getD i 0)) = ((leastM B).map (cl B)).idxOf (cl B ((nxt B ((leastM B).getD j 0)).getD i 0)) := fun i hi => idx_eq p.1 fun j' hj' => cl_two oA oB (FA.lt _ (getD_mem hj')) (oA.nget ha hi) (FB.lt _ (getD_mem (p.1 ▸ hj'))) (oB.nget hbb hi) (p.2 j' hj') (hn i hi)
  unfold ordr at ho
  unfold nxt at hcl
  have la := oA.len _ (Ok.mem ha)
  have lb := oB.len _ (Ok.mem hbb)
  generalize A.getD ((leastM A).getD j 0) [] = ra at *
  generalize B.getD ((leastM B).getD j 0) [] = rb at *
  match ra, rb, la, lb, ho, hcl with
  | [a, b, c, d], [a', b', c', d'], _, _, ho, hcl =>
    simp only [List.map_cons, List.map_nil, List.cons.injEq, and_true] at ho
    have q0 := hcl 0 (by decide)
    have q1 := hcl 1 (by decide)
    have q2 := hcl 2 (by decide)
    have q3 := hcl 3 (by decide)
    simp only [List.map_cons, List.map_nil, List.getD_cons_zero, List.getD_cons_succ] at q0 q1 q2 q3
    simp only [List.map_cons, List.map_nil, q0, q1, q2, q3, ho]
theorem least_idem {A : Tab} (o : Ok A) : least (least A) = least A := least_eq (least_ok o) o (least_bis0 o)
end CM
end
section
namespace CM
def nx (T : Tab) (s d : Nat) : Nat := (nxt T s).getD d 0
/-- the place of a key and the state there -/
def SP (T : Tab) (s0 : Nat) : Nat → Nat → Nat × Nat × Nat
  | 0, _ => (0, 0, s0)
  | n + 1, k => let p := SP T s0 n (k / 4)
    (2 * p.1 + (ordr T p.2.2).getD (k % 4) 0 % 2, 2 * p.2.1 + (ordr T p.2.2).getD (k % 4) 0 / 2, nx T p.2.2 (k % 4))
end CM
end
section
set_option maxHeartbeats 400000
namespace PP
open PySem L2
abbrev boxD (x y w h : Int) : D := .obj 5 [2, 3, 4, 5] [.int x, .int y, .int w, .int h]
abbrev eBox (p : Str) : Exn := (3, [1], [.str p])
abbrev isBx (d : D) : Bool := isObjOf [5] d
def boxBad (x y w h : D) : Option Str := match btw x 0 1267650600228229401496703205375 with
  | false => some "x"
  | true => match btw y 0 1267650600228229401496703205375 with
    | false => some "y"
    | true => match btw w 1 1267650600228229401496703205376 with
      | false => some "width"
      | true => match btw h 1 1267650600228229401496703205376 with
        | false => some "height"
        | true => none
/-- what Box(..) gives -/
def mkBx (x y w h : D) : RC := match boxBad x y w h with
  | some p => .exc (eBox p) []
  | none => .ok (.nw (.obj 5 [2, 3, 4, 5] [x, y, w, h])) []
theorem ok_mkBx (x y w h : D) : okRC (mkBx x y w h) := by
  unfold mkBx
  cases boxBad x y w h with
  | none => exact rfl
  | some p => exact trivial
abbrev S_need_box (g : Gf) : Prop := (∀ x y w h, g [.fz (boxD x y w h)] = .ok (.d .non) []) ∧ ∀ d, isClsD d = false → isBx d = false → g [.fz d] = .exc (eBox "other") []
theorem need_box_ok {cl : CallF} : S_need_box (runF cl F_need_box) := by
  refine ⟨fun x y w h => ?_, fun d h1 h2 => ?_⟩
  · simp only [F_need_box]
    walk_at "pp"
  · simp only [F_need_box]
    walk_at "px"
abbrev S_box_init (g : Gf) : Prop := ∀ x y w h, isClsD x = false → isClsD y = false → isClsD w = false → isClsD h = false → g [.io (.obj 5 [] []), .fz x, .fz y, .fz w, .fz h] = match boxBad x y w h with
  | some p => .exc (eBox p) [.obj 5 [] []]
  | none => .ok (.d .non) [.obj 5 [2, 3, 4, 5] [x, y, w, h]]
theorem box_init_ok {cl : CallF} (h1 : S_is_between (cl 1)) : S_box_init (runF cl F_Box__init__) := by
  intro x y w h nx ny nw nh
  simp only [F_Box__init__]
  walk_at "px"
  unfold boxBad
  cases hx : btw x 0 1267650600228229401496703205375 with
  | false => walk_at "px"
  | true =>
    walk_at "px"
    cases hy : btw y 0 1267650600228229401496703205375 with
    | false => walk_at "px"
    | true =>
      walk_at "px"
      cases hw : btw w 1 1267650600228229401496703205376 with
      | false => walk_at "px"
      | true =>
        walk_at "px"
        cases hh : btw h 1 1267650600228229401496703205376 with
        | false => walk_at "px"
        | true => walk_at "px"
theorem mkBx_int (x y w h : Int) : mkBx (.int x) (.int y) (.int w) (.int h) = match boxBad (.int x) (.int y) (.int w) (.int h) with
  | some p => .exc (eBox p) []
  | none => .ok (.nw (boxD x y w h)) [] := rfl
def within (x y w h x' y' w' h' : Int) : Bool := decide (x' ≤ x) && decide (y' ≤ y) && decide (x + w ≤ x' + w') && decide (y + h ≤ y' + h')
abbrev S_is_within (g : Gf) : Prop := ∀ x y w h x' y' w' h', g [.fz (boxD x y w h), .fz (boxD x' y' w' h')] = .ok (.d (.bl (within x y w h x' y' w' h'))) []
theorem dec_nlt (a b : Int) : decide (a < b) = !decide (b ≤ a) := by
  by_cases h : b ≤ a
  · simp [h]
  · simp [h]; omega
theorem is_within_ok {cl : CallF} : S_is_within (runF cl F_is_within) := by
  intro x y w h x' y' w' h'
  simp only [F_is_within, within]
  walk_at "pp"
  simp only [dec_nlt]
  cases decide (x' ≤ x) <;> walk_at "pp"
  cases decide (y' ≤ y) <;> walk_at "pp"
  cases decide (x + w ≤ x' + w') <;> walk_at "pp"
def andBx (x y w h x' y' w' h' : Int) : RC := if max x x' < min (x + w) (x' + w') ∧ max y y' < min (y + h) (y' + h') then mkBx (.int (max x x')) (.int (max y y')) (.int (min (x + w) (x' + w') - max x x')) (.int (min (y + h) (y' + h') - max y y')) else .ok (.d .non) []
theorem ok_andBx (x y w h x' y' w' h' : Int) : okRC (andBx x y w h x' y' w' h') := by
  unfold andBx
  split
  · exact ok_mkBx _ _ _ _
  · exact trivial
abbrev S_common_box (g : Gf) : Prop := ∀ x y w h x' y' w' h', g [.fz (boxD x y w h), .fz (boxD x' y' w' h')] = andBx x y w h x' y' w' h'
theorem common_box_ok {cl : CallF} (hB : S_box_init (cl 6000)) : S_common_box (runF cl F_common_box) := by
  intro x y w h x' y' w' h'
  simp only [F_common_box, andBx]
  walk_at "px"
  by_cases h1 : max x x' < min (x + w) (x' + w')
  · by_cases h2 : max y y' < min (y + h) (y' + h')
    · rw [mkBx_int]
      walk_at "px"
      cases boxBad (.int (max x x')) (.int (max y y')) (.int (min (x + w) (x' + w') - max x x')) (.int (min (y + h) (y' + h') - max y y')) <;> walk_at "pp"
    · simp only [h1, h2, decide_true, decide_false, and_false, if_false]
      walk_at "pp"
  · simp only [h1, decide_false, false_and, if_false]
    walk_at "pp"
abbrev S_least_box (g : Gf) : Prop := ∀ x y w h x' y' w' h', g [.fz (boxD x y w h), .fz (boxD x' y' w' h')] =
  mkBx (.int (min x x')) (.int (min y y')) (.int (max (x + w) (x' + w') - min x x')) (.int (max (y + h) (y' + h') - min y y'))
theorem least_box_ok {cl : CallF} (hB : S_box_init (cl 6000)) : S_least_box (runF cl F_least_box) := by
  intro x y w h x' y' w' h'
  simp only [F_least_box]
  walk_at "px"
  rw [mkBx_int]
  cases boxBad (.int (min x x')) (.int (min y y')) (.int (max (x + w) (x' + w') - min x x')) (.int (max (y + h) (y' + h') - min y y')) <;> walk_at "pp"
/-- an own operator with a box on the right -/
abbrev S_and (g : Gf) : Prop := (∀ b d, isClsD d = false → isBx d = false → g [.fz b, .fz d] = .exc (eBox "other") []) ∧ ∀ x y w h x' y' w' h', g [.fz (boxD x y w h), .fz (boxD x' y' w' h')] = andBx x y w h x' y' w' h'
theorem and_ok {cl : CallF} (h4 : S_need_box (cl 4)) (h8 : S_common_box (cl 8)) : S_and (runF cl F_Box__and__) := by
  refine ⟨fun b d h1 h2 => ?_, fun x y w h x' y' w' h' => ?_⟩
  · simp only [F_Box__and__]
    walk_at "pp"
    rw [h4.2 d h1 h2]
    walk_at "pp"
  · simp only [F_Box__and__]
    walk_at "pp"
    rw [h4.1]
    walk_at "pp"
    rw [h8]
    generalize hr : andBx _ _ _ _ _ _ _ _ = r
    rcases (hr ▸ ok_andBx _ _ _ _ _ _ _ _ : okRC r).cases with ⟨d, rfl⟩ | ⟨d, hm, rfl⟩ | ⟨x, rfl⟩ <;> walk_at "px"
abbrev S_or (g : Gf) : Prop := (∀ b d, isClsD d = false → isBx d = false → g [.fz b, .fz d] = .exc (eBox "other") []) ∧ ∀ x y w h x' y' w' h', g [.fz (boxD x y w h), .fz (boxD x' y' w' h')] =
  mkBx (.int (min x x')) (.int (min y y')) (.int (max (x + w) (x' + w') - min x x')) (.int (max (y + h) (y' + h') - min y y'))
theorem or_ok {cl : CallF} (h4 : S_need_box (cl 4)) (h9 : S_least_box (cl 9)) : S_or (runF cl F_Box__or__) := by
  refine ⟨fun b d h1 h2 => ?_, fun x y w h x' y' w' h' => ?_⟩
  · simp only [F_Box__or__]
    walk_at "pp"
    rw [h4.2 d h1 h2]
    walk_at "pp"
  · simp only [F_Box__or__]
    walk_at "pp"
    rw [h4.1]
    walk_at "pp"
    rw [h9]
    generalize hr : mkBx _ _ _ _ = r
    rcases (hr ▸ ok_mkBx _ _ _ _ : okRC r).cases with ⟨d, rfl⟩ | ⟨d, hm, rfl⟩ | ⟨x, rfl⟩ <;> walk_at "px"
/-- comparisons -/
abbrev S_cmpB (f : Int → Int → Int → Int → Int → Int → Int → Int → Bool) (g : Gf) : Prop := (∀ b d, isClsD d = false → isBx d = false → g [.fz b, .fz d] = .exc (eBox "other") []) ∧
  ∀ x y w h x' y' w' h', g [.fz (boxD x y w h), .fz (boxD x' y' w' h')] = .ok (.d (.bl (f x y w h x' y' w' h'))) []
theorem le_ok {cl : CallF} (h4 : S_need_box (cl 4)) (h7 : S_is_within (cl 7)) : S_cmpB within (runF cl F_Box__le__) := by
  refine ⟨fun b d h1 h2 => ?_, fun x y w h x' y' w' h' => ?_⟩
  · simp only [F_Box__le__]
    walk_at "pp"
    rw [h4.2 d h1 h2]
    walk_at "pp"
  · simp only [F_Box__le__]
    walk_at "pp"
    rw [h4.1]
    walk_at "pp"
    rw [h7]
    walk_at "pp"
theorem ge_ok {cl : CallF} (h4 : S_need_box (cl 4)) (h7 : S_is_within (cl 7)) : S_cmpB (fun x y w h x' y' w' h' => within x' y' w' h' x y w h) (runF cl F_Box__ge__) := by
  refine ⟨fun b d h1 h2 => ?_, fun x y w h x' y' w' h' => ?_⟩
  · simp only [F_Box__ge__]
    walk_at "pp"
    rw [h4.2 d h1 h2]
    walk_at "pp"
  · simp only [F_Box__ge__]
    walk_at "pp"
    rw [h4.1]
    walk_at "pp"
    rw [h7]
    walk_at "pp"
theorem lt_ok {cl : CallF} (h4 : S_need_box (cl 4)) (h7 : S_is_within (cl 7)) : S_cmpB (fun x y w h x' y' w' h' => within x y w h x' y' w' h' && !within x' y' w' h' x y w h) (runF cl F_Box__lt__) := by
  refine ⟨fun b d h1 h2 => ?_, fun x y w h x' y' w' h' => ?_⟩
  · simp only [F_Box__lt__]
    walk_at "pp"
    rw [h4.2 d h1 h2]
    walk_at "pp"
  · simp only [F_Box__lt__]
    walk_at "pp"
    rw [h4.1]
    walk_at "pp"
    rw [h7]
    walk_at "pp"
    cases within x y w h x' y' w' h'
    · walk_at "pp"
    · walk_at "pp"
      rw [h7]
      walk_at "pp"
theorem gt_ok {cl : CallF} (h4 : S_need_box (cl 4)) (h7 : S_is_within (cl 7)) : S_cmpB (fun x y w h x' y' w' h' => within x' y' w' h' x y w h && !within x y w h x' y' w' h') (runF cl F_Box__gt__) := by
  refine ⟨fun b d h1 h2 => ?_, fun x y w h x' y' w' h' => ?_⟩
  · simp only [F_Box__gt__]
    walk_at "pp"
    rw [h4.2 d h1 h2]
    walk_at "pp"
  · simp only [F_Box__gt__]
    walk_at "pp"
    rw [h4.1]
    walk_at "pp"
    rw [h7]
    walk_at "pp"
    cases within x' y' w' h' x y w h
    · walk_at "pp"
    · walk_at "pp"
      rw [h7]
      walk_at "pp"
/-- the text of a box -/
def txB (x y w h : Int) : Str := Str.empty ++ Str.ofString (toString x) ++ Str.ofString " " ++ Str.ofString (toString y) ++ Str.ofString " " ++ Str.ofString (toString w) ++ Str.ofString " " ++ Str.ofString (toString h)
theorem len_sp : (Str.ofString " ").length = 1 := by rw [len_ofS]; rfl
end PP
end
section
set_option maxHeartbeats 400000
namespace PP
open PySem L2
abbrev T (i : Int) : Str := Str.ofString (toString i)
abbrev digZ : Str := "0123456789"
def isDig (c : Nat) : Bool := decide (c ∈ digZ.cps.toList)
theorem isDig_iff (c : Nat) : isDig c = true ↔ 48 ≤ c ∧ c ≤ 57 := by
  have : digZ.cps.toList = [48, 49, 50, 51, 52, 53, 54, 55, 56, 57] := by decide
  unfold isDig
  rw [this]
  simp only [decide_eq_true_eq, List.mem_cons, List.not_mem_nil, or_false]
  omega
def digS (z : Str) : Bool := z.cps.toList.all isDig
theorem digS_iff (z : Str) : digS z = true ↔ NumText.AllDigits z.cps.toList := by
  unfold digS NumText.AllDigits
  rw [List.all_eq_true]
  exact ⟨fun h c hc => (isDig_iff c).mp (h c hc), fun h c hc => (isDig_iff c).mpr (h c hc)⟩
theorem T_nat {i : Int} (h : 0 ≤ i) : (T i).cps.toList = TL.numL i.toNat := by
  obtain ⟨n, rfl⟩ := Int.eq_ofNat_of_zero_le h
  exact TL.tl_num n
theorem len_tl (z : Str) : z.length = z.cps.toList.length := by rw [Array.length_toList]; rfl
theorem numL_head : ∀ (n : Nat) (r : List Nat), TL.numL n = 48 :: r → n = 0
  | n, r, h => by
    by_cases hn : n < 10
    · rw [TL.numL_lt hn] at h
      have := (List.cons.inj h).1
      omega
    · have e := TL.numL_step (n := n) (by omega)
      cases z : TL.numL (n / 10) with
      | nil => exact absurd z (TL.numL_ne _)
      | cons c r' =>
        rw [e, z] at h
        obtain ⟨h1, _⟩ := List.cons.inj h
        subst h1
        have := numL_head (n / 10) r' z
        omega
theorem val_lt : ∀ (n : Nat) (cs : List Nat), cs.length = n → NumText.AllDigits cs → NumText.digitsVal cs < 10 ^ n
  | 0, cs, h, _ => by
    have : cs = [] := List.length_eq_zero_iff.mp h
    subst this
    decide
  | n + 1, cs, h, hd => by
    have hne : cs ≠ [] := by intro e; subst e; simp at h
    have e := (List.dropLast_concat_getLast hne).symm
    generalize cs.dropLast = a at e
    generalize cs.getLast hne = c at e
    subst e
    rw [NumText.digitsVal_snoc]
    have h1 : a.length = n := by simpa using h
    have h2 := val_lt n a h1 fun d hd' => hd d (List.mem_append_left _ hd')
    have h3 := hd c (List.mem_append_right _ List.mem_cons_self)
    rw [Nat.pow_succ]
    omega
theorem numL_up {n : Nat} : n < 10 ^ (TL.numL n).length := by
  have := val_lt _ (TL.numL n) rfl (TL.numL_digits n)
  rwa [TL.numL_val] at this
theorem numL_mono {m n : Nat} (h : m ≤ n) : (TL.numL m).length ≤ (TL.numL n).length := by
  have h1 : 0 < (TL.numL n).length := List.length_pos_iff.mpr (TL.numL_ne n)
  exact TL.numL_len h1 (Nat.lt_of_le_of_lt h numL_up)
theorem canon {cs : List Nat} (h : NumText.AllDigits cs) (hne : cs ≠ []) (h0 : ∀ r, cs = 48 :: r → r = []) : TL.numL (NumText.digitsVal cs) = cs := by
  match cs, hne with
  | c :: r, _ =>
    have hc := h c List.mem_cons_self
    have key : r.length = 0 ∨ ∃ c' r', c :: r = c' :: r' ∧ 49 ≤ c' := by
      by_cases e : c = 48
      · subst e; rw [h0 r rfl]; exact .inl rfl
      · exact .inr ⟨c, r, rfl, by omega⟩
    unfold TL.numL
    rw [NumText.toDigits_digitsVal r.length (c :: r) rfl h key, List.map_map]
    conv => rhs; rw [← List.map_id (c :: r)]
    refine List.map_congr_left fun d hd => ?_
    have := h d hd
    show (Char.ofNat d).toNat = d
    exact (by decide : ∀ d : Nat, d < 58 → (Char.ofNat d).toNat = d) d (by omega)
/-- the number between two bounds that a text writes -/
def numOf (z : Str) (lo hi : Int) : Option Int := (intText? z).bind fun v => if lo ≤ v ∧ v ≤ hi ∧ T v = z then some v else none
theorem T_len {v hi : Int} (h0 : 0 ≤ v) (h : v ≤ hi) : (T v).length ≤ (T hi).length := by
  rw [len_tl, len_tl, T_nat h0, T_nat (by omega)]
  exact numL_mono (by omega)
theorem T_len40 {v : Int} (h0 : 0 ≤ v) (h : v < 10000000000000000000000000000000000000000) : (T v).length ≤ 40 := by
  rw [len_tl, T_nat h0]
  exact TL.numL_len (by decide) (by omega)
theorem int_T {v : Int} (h0 : 0 ≤ v) (h : v < 10000000000000000000000000000000000000000) : intText? (T v) = some v := by
  obtain ⟨n, rfl⟩ := Int.eq_ofNat_of_zero_le h0
  refine TL.int_num ?_
  have := TL.numL_len (n := n) (k := 40) (by decide) (by omega)
  omega
theorem num_some {z : Str} {lo hi v : Int} (h : numOf z lo hi = some v) : lo ≤ v ∧ v ≤ hi ∧ z = T v := by
  unfold numOf at h
  cases e : intText? z with
  | none => rw [e] at h; cases h
  | some w =>
    rw [e] at h
    simp only [Option.bind_some] at h
    split at h
    · cases h
      rename_i q
      exact ⟨q.1, q.2.1, q.2.2.symm⟩
    · cases h
theorem num_T {lo hi v : Int} (h0 : 0 ≤ v) (h : v < 10000000000000000000000000000000000000000) (h1 : lo ≤ v) (h2 : v ≤ hi) : numOf (T v) lo hi = some v := by
  unfold numOf
  rw [int_T h0 h]
  simp only [Option.bind_some]
  rw [if_pos ⟨h1, h2, trivial⟩]
theorem num_none {z : Str} {lo hi : Int} (h : ∀ v, lo ≤ v → v ≤ hi → z ≠ T v) : numOf z lo hi = none := by
  cases e : numOf z lo hi with
  | none => rfl
  | some v =>
    obtain ⟨a, b, c⟩ := num_some e
    exact absurd c (h v a b)
theorem T_dig {v : Int} (h : 0 ≤ v) : digS (T v) = true := by
  rw [digS_iff, T_nat h]
  exact TL.numL_digits _
theorem num_digs {z : Str} {lo hi : Int} (h0 : 0 ≤ lo) (h : digS z = false) : numOf z lo hi = none := num_none fun v a b e => by
  rw [e, T_dig (by omega)] at h
  cases h
theorem num_empty {lo hi : Int} (h0 : 0 ≤ lo) : numOf "" lo hi = none := num_none fun v a b e => by
  have := T_nat (i := v) (by omega)
  rw [← e] at this
  exact absurd this.symm (TL.numL_ne _)
theorem num_long {z : Str} {lo hi : Int} (h0 : 0 ≤ lo) (h : (T hi).length < z.length) : numOf z lo hi = none := num_none fun v a b e => by
  have := T_len (v := v) (by omega) b
  rw [← e] at this
  omega
theorem num_zero {z : Str} {lo hi : Int} {r : List Nat} (h0 : 0 ≤ lo) (h : z.cps.toList = 48 :: r) (hz : z ≠ "0") : numOf z lo hi = none := num_none fun v a b e => by
  have h1 := T_nat (i := v) (by omega)
  rw [← e, h] at h1
  have := numL_head _ _ h1.symm
  have hv : v = 0 := by omega
  subst hv
  exact hz e
/-- a text of digits without zeros ahead is the text of its number -/
theorem num_dig {z : Str} (hd : digS z = true) (hne : z ≠ "") (h0 : ∀ r, z.cps.toList = 48 :: r → z = "0") (hl : z.length ≤ 4300) : ∃ v, 0 ≤ v ∧ intText? z = some v ∧ z = T v := by
  rw [digS_iff] at hd
  have hne' : z.cps.toList ≠ [] := fun e => hne (TL.ext_tl e)
  refine ⟨((NumText.digitsVal z.cps.toList : Nat) : Int), by omega, PySem.intText_digits hd hne' hl, TL.ext_tl ?_⟩
  show z.cps.toList = (T _).cps.toList
  rw [T_nat (by omega)]
  exact (canon hd hne' fun r e => by
    have := h0 r e
    subst this
    exact (List.cons.inj (show (48 :: []) = 48 :: r from e)).2.symm).symm
theorem num_val {z : Str} {v lo hi : Int} (h : intText? z = some v) : numOf z lo hi = if lo ≤ v ∧ v ≤ hi ∧ T v = z then some v else none := by
  unfold numOf
  rw [h]
  rfl
end PP
end
section
set_option maxHeartbeats 400000
namespace PP
open PySem L2
/-- what a turn gives once its item stands at the target -/
def eltT (hc : Bool) (tst elt : Env → R U) (env1 : Env) : R (Option D) := match hc with
  | true => (tst env1).bind fun u env2 => orBad (rdU env2 u) fun x => orBad (truD x) fun t => match t with
    | true => (elt env2).bind fun u env3 => orBad (fzU env3 u) fun p => .ok (some p.1) p.2
    | false => .ok none env2
  | false => (elt env1).bind fun u env3 => orBad (fzU env3 u) fun p => .ok (some p.1) p.2
theorem turn_eq (vs : List Nat) (tg : Tg) (hc : Bool) (tst elt : Env → R U) (d : D) (env : Env) : lcTurn vs tg hc tst elt d env = orBad (storeG tg d (wipeE env vs)) (eltT hc tst elt) := rfl
theorem wipe_len : ∀ (vs : List Nat) (env : Env), (wipeE env vs).length = env.length
  | [], _ => rfl
  | v :: vs, env => by rw [wipeE, wipe_len vs, List.length_set]
theorem wipe_out : ∀ (vs : List Nat) (env : Env) (j : Nat), j ∉ vs → (wipeE env vs)[j]? = env[j]?
  | [], _, _, _ => rfl
  | v :: vs, env, j, h => by
    rw [wipeE, wipe_out vs _ j (fun x => h (List.mem_cons_of_mem _ x)), List.getElem?_set_ne (fun e : v = j => h (List.mem_cons.mpr (.inl e.symm)))]
theorem back_len (e0 : Env) : ∀ (vs : List Nat) (env : Env), (backE e0 env vs).length = env.length
  | [], _ => rfl
  | v :: vs, env => by rw [backE, back_len e0 vs, List.length_set]
theorem back_out (e0 : Env) : ∀ (vs : List Nat) (env : Env) (j : Nat), j ∉ vs → (backE e0 env vs)[j]? = env[j]?
  | [], _, _, _ => rfl
  | v :: vs, env, j, h => by
    rw [backE, back_out e0 vs _ j (fun x => h (List.mem_cons_of_mem _ x)), List.getElem?_set_ne (fun e : v = j => h (List.mem_cons.mpr (.inl e.symm)))]
theorem back_in (e0 : Env) : ∀ (vs : List Nat) (env : Env) (j : Nat), j ∈ vs → j < env.length → (backE e0 env vs)[j]? = some (getS e0 j)
  | v :: vs, env, j, h, hl => by
    rw [backE]
    by_cases hj : j ∈ vs
    · exact back_in e0 vs _ j hj (by rw [List.length_set]; exact hl)
    · rw [back_out e0 vs _ j hj]
      rcases List.mem_cons.mp h with rfl | h
      · rw [List.getElem?_set_self hl]
      · exact absurd h hj
theorem back_wipe (e0 : Env) (vs : List Nat) (env : Env) : backE e0 env vs = backE e0 (wipeE env vs) vs := by
  refine List.ext_getElem? fun j => ?_
  by_cases hj : j ∈ vs
  · by_cases hl : j < env.length
    · rw [back_in e0 vs env j hj hl, back_in e0 vs _ j hj (by rw [wipe_len]; exact hl)]
    · rw [List.getElem?_eq_none (by rw [back_len]; omega), List.getElem?_eq_none (by rw [back_len, wipe_len]; omega)]
  · rw [back_out e0 vs _ j hj, back_out e0 vs _ j hj, wipe_out vs _ j hj]
theorem back_self (vs : List Nat) (env : Env) : backE env env vs = env := by
  refine List.ext_getElem? fun j => ?_
  by_cases hj : j ∈ vs
  · by_cases hl : j < env.length
    · rw [back_in env vs env j hj hl]
      simp [getS, hl]
    · rw [List.getElem?_eq_none (by rw [back_len]; omega), List.getElem?_eq_none (by omega)]
  · rw [back_out env vs _ j hj]
/-- the turns, one after another -/
theorem lc_run {vs : List Nat} {tg : Tg} {hc : Bool} {tst elt : Env → R U} (I : Nat → Env → List D → Prop) : ∀ (ds : List D) (n : Nat) (env : Env) (acc : List D), I n (wipeE env vs) acc →
    (∀ (m : Nat) (d : D) (e : Env) (acc : List D), ds[m]? = some d → I (n + m) e acc → ∃ o e2, orBad (storeG tg d e) (eltT hc tst elt) = .ok o e2 ∧ acc.length < LIM ∧ I (n + m + 1) (wipeE e2 vs) (acc ++ o.toList)) →
    ∃ env' acc', lcD (lcTurn vs tg hc tst elt) ds env acc = .ok acc' env' ∧ I (n + ds.length) (wipeE env' vs) acc'
  | [], n, env, acc, h0, _ => ⟨env, acc, rfl, h0⟩
  | d :: r, n, env, acc, h0, hs => by
    obtain ⟨o, e2, h1, h2, h3⟩ := hs 0 d _ acc rfl h0
    have step : lcD (lcTurn vs tg hc tst elt) (d :: r) env acc = lcD (lcTurn vs tg hc tst elt) r e2 (acc ++ o.toList) := by
      simp only [lcD, turn_eq, h1]
      cases o with
      | none => simp
      | some x => simp [h2]
    obtain ⟨env', acc', h4, h5⟩ := lc_run I r (n + 1) e2 (acc ++ o.toList) (by simpa using h3) fun m d' e' acc'' hm hi => by
      have := hs (m + 1) d' e' acc'' hm (by rw [show n + (m + 1) = n + 1 + m by omega]; exact hi)
      rw [show n + (m + 1) + 1 = n + 1 + m + 1 by omega] at this
      exact this
    exact ⟨env', acc', step.trans h4, by rw [List.length_cons, show n + (r.length + 1) = n + 1 + r.length by omega]; exact h5⟩
theorem lc_use {vs : List Nat} {tg : Tg} {hc : Bool} {tst elt : Env → R U} {ds : List D} {env : Env} {q : R U} (hq : lcAll vs env (lcD (lcTurn vs tg hc tst elt) ds env []) = q) (I : Nat → Env → List D → Prop) (hcalm : (vs.all fun i => calmS (getS env i)) = true) (h0 : I 0 (wipeE env vs) [])
    (hs : ∀ (m : Nat) (d : D) (e : Env) (acc : List D), ds[m]? = some d → I m e acc → ∃ o e2, orBad (storeG tg d e) (eltT hc tst elt) = .ok o e2 ∧ acc.length < LIM ∧ I (m + 1) (wipeE e2 vs) (acc ++ o.toList)) :
    ∃ e acc, q = .ok (.nw (.lst acc)) (backE env e vs) ∧ I ds.length e acc := by
  subst hq
  obtain ⟨env', acc', h1, h2⟩ := lc_run I ds 0 env [] h0 (by simpa only [Nat.zero_add] using hs)
  refine ⟨wipeE env' vs, acc', ?_, by simpa using h2⟩
  rw [← back_wipe]
  unfold lcAll
  rw [hcalm, h1]
  rfl
/-- without draws: the items' values, the environment as before -/
theorem lc_map {vs : List Nat} {tg : Tg} {hc : Bool} {tst elt : Env → R U} {ds : List D} {env : Env} (q : D → Option D) (hcalm : (vs.all fun i => calmS (getS env i)) = true) (hl : ds.length ≤ LIM)
    (hs : ∀ d ∈ ds, ∃ e2, orBad (storeG tg d (wipeE env vs)) (eltT hc tst elt) = .ok (q d) e2 ∧ wipeE e2 vs = wipeE env vs) :
    lcAll vs env (lcD (lcTurn vs tg hc tst elt) ds env []) = .ok (.nw (.lst (ds.filterMap q))) env := by
  obtain ⟨e, acc, h1, h2, h3⟩ := lc_use (q := lcAll vs env (lcD (lcTurn vs tg hc tst elt) ds env [])) rfl (fun m e acc => e = wipeE env vs ∧ acc = (ds.take m).filterMap q) hcalm ⟨rfl, rfl⟩ fun m d e acc hm ⟨he, ha⟩ => by
    subst he
    obtain ⟨hml, hmd⟩ := List.getElem?_eq_some_iff.mp hm
    obtain ⟨e2, h1, h2⟩ := hs d (hmd ▸ List.getElem_mem hml)
    refine ⟨q d, e2, h1, ?_, h2, ?_⟩
    · subst ha
      have := List.length_filterMap_le q (ds.take m)
      rw [List.length_take] at this
      omega
    · subst ha
      rw [List.take_add_one, hm, List.filterMap_append]
      congr 1
  rw [h1]
  subst h2
  rw [h3, List.take_length, ← back_wipe, back_self]
/-- one turn gives o, and the rest of the names stay -/
def lcOk (r : R (Option D)) (o : Option D) (vs : List Nat) (env : Env) : Prop := ∃ e2, r = .ok o e2 ∧ wipeE e2 vs = wipeE env vs
end PP
end
section
set_option maxHeartbeats 400000
namespace PP
open PySem L2
def optI : Option Int → D | none => .non | some v => .int v
abbrev lim40 : Int := 10000000000000000000000000000000000000000
theorem small40 {i : Int} (h0 : 0 ≤ i) (h : i < lim40) : smI i := ⟨by omega, by unfold lim40 at h; omega⟩
abbrev charsD (z : Str) : List D := z.cps.toList.map fun c => .str ⟨#[c]⟩
theorem chars_len (z : Str) : (charsD z).length = z.length := by rw [List.length_map, len_tl]
def dqA : D → Option D
  | .str w => match w.cps.toList with
    | [c] => some (.bl (isDig c))
    | _ => none
  | _ => none
theorem dqA_map (cs : List Nat) : (cs.map fun c => D.str ⟨#[c]⟩).filterMap dqA = (cs.map isDig).map .bl := by
  induction cs with
  | nil => rfl
  | cons c r ih => rw [List.map_cons, List.filterMap_cons, show dqA (.str ⟨#[c]⟩) = some (.bl (isDig c)) from rfl]; simp only [ih]; rfl
theorem bls_map : ∀ bs : List Bool, blsD (bs.map .bl) = some bs
  | [] => rfl
  | b :: r => by simp only [List.map_cons, blsD, bls_map r, Option.map_some]
theorem bi_all (bs : List Bool) : biD .all [.lst (bs.map .bl)] = some (.bl (bs.all id)) := by
  show (blsD _).map _ = _
  rw [bls_map]
  rfl
theorem in_dig (c : Nat) : op2 .isin (.str ⟨#[c]⟩) (.str "0123456789") = some (.bl (isDig c)) := rfl
theorem all_dig (z : Str) : (z.cps.toList.map isDig).all id = digS z := by
  unfold digS
  rw [List.all_map]
  rfl
abbrev S_number_in (g : Gf) : Prop := ∀ z lo hi, z.length ≤ 100000 → 0 ≤ lo → 0 ≤ hi → hi < 10000000000000000000000000000000000000000 → g [.fz (.str z), .fz (.int lo), .fz (.int hi)] = .ok (.d (optI (numOf z lo hi))) []
theorem one_ne {c : Nat} (h : c ≠ 48) : ¬ ((⟨#[c]⟩ : Str) = "0") := fun e => h (by
  have := congrArg (fun x : Str => x.cps.toList) e
  exact (List.cons.inj this).1)
theorem emp_app (y : Str) : Str.empty ++ y = y := TL.ext_tl (by rw [TL.tl_append]; rfl)
theorem number_in_ok {cl : CallF} : S_number_in (runF cl F_number_in) := by
  intro z lo hi hz h0 hh hl
  simp only [F_number_in]
  by_cases he : z = ""
  · subst he
    rw [num_empty h0]
    walk_at "px"
    rfl
  have hs := small40 hh hl
  have f2 := fmt_int hs
  have e0 : Str.empty.length = 0 := rfl
  have hT40 : (Str.ofString (toString hi)).length ≤ 40 := T_len40 hh hl
  walk_at "px"
  rw [evJ_s rfl rfl f2 (by simp only [len_app, e0]; omega), emp_app]
  have hT : (Str.ofString (toString hi)).length ≤ 100000 := by omega
  walk_at "px"
  by_cases hL : (Str.ofString (toString hi)).length < z.length
  · rw [num_long h0 hL]
    have hL' : ((Str.ofString (toString hi)).length : Int) < (z.length : Int) := by omega
    walk_at "px"
    rfl
  have hL' : ¬ ((Str.ofString (toString hi)).length : Int) < (z.length : Int) := by omega
  walk_at "px"
  rw [lc_map dqA rfl (by rw [chars_len]; exact hz) (fun d hd => by
    obtain ⟨c, _, rfl⟩ := List.mem_map.mp hd
    refine ⟨[.fz (.str z), .fz (.int lo), .fz (.int hi), .fz (.str ⟨#[c]⟩)], ?_, rfl⟩
    simp only [storeG, wipeE]
    walk_at "px"
    simp only [eltT]
    walk_at "px"
    rw [in_dig]
    walk_at "px"
    rfl), dqA_map]
  walk_at "px"
  rw [bi_all, all_dig]
  cases hd : digS z with
  | false =>
    rw [num_digs h0 hd]
    walk_at "px"
    rfl
  | true =>
    walk_at "px"
    cases hc : z.cps.toList with
    | nil => exact absurd (TL.ext_tl hc) he
    | cons c r =>
      rw [ix_str hz hc]
      have hz640 : z.length ≤ 640 := by omega
      by_cases h48 : c = 48
      · subst h48
        have h1 : ((⟨#[48]⟩ : Str) = "0") := rfl
        by_cases hq : z = "0"
        · obtain ⟨v, hv0, hv, hvT⟩ := num_dig hd he (fun _ _ => hq) (by omega)
          have hi1 := bi_int_s hz640 hv
          have hn := num_val (lo := lo) (hi := hi) hv
          simp only [← hvT, and_true] at hn
          rw [hn]
          clear hvT
          rw [hq] at hi1
          walk_at "px"
          by_cases hlo : lo ≤ v
          · by_cases hhi : v ≤ hi
            · walk_at "px"
              rfl
            · walk_at "px"
              rfl
          · walk_at "px"
            rfl
        · rw [num_zero h0 hc hq]
          walk_at "px"
          rfl
      · have h1 := one_ne h48
        obtain ⟨v, hv0, hv, hvT⟩ := num_dig hd he (fun r' e => absurd (List.cons.inj (hc.symm.trans e)).1 h48) (by omega)
        have hi1 := bi_int_s hz640 hv
        have hn := num_val (lo := lo) (hi := hi) hv
        simp only [← hvT, and_true] at hn
        rw [hn]
        clear hvT
        walk_at "px"
        by_cases hlo : lo ≤ v
        · by_cases hhi : v ≤ hi
          · walk_at "px"
            rfl
          · walk_at "px"
            rfl
        · walk_at "px"
          rfl
abbrev eTxt (l w : Int) : Exn := (6, [7, 6], [.int w, .int l])
def wordAt (ws : List Str) (n : Nat) : Str := (ws[n]?).getD ""
def nA (ws : List Str) (n : Nat) : Option Int := numOf (wordAt ws n) (if n < 2 then 0 else 1) (if n < 2 then 1267650600228229401496703205375 else 1267650600228229401496703205376)
theorem nA_out {ws : List Str} {n : Nat} (h : ¬ n < ws.length) : nA ws n = none := by
  unfold nA wordAt
  rw [List.getElem?_eq_none (by omega), Option.getD_none]
  exact num_empty (by split <;> decide)
theorem nA_0 {ws : List Str} {w : Str} (h : ws[0]? = some w) : nA ws 0 = numOf w 0 1267650600228229401496703205375 := by unfold nA wordAt; rw [h]; rfl
theorem nA_1 {ws : List Str} {w : Str} (h : ws[1]? = some w) : nA ws 1 = numOf w 0 1267650600228229401496703205375 := by unfold nA wordAt; rw [h]; rfl
theorem nA_2 {ws : List Str} {w : Str} (h : ws[2]? = some w) : nA ws 2 = numOf w 1 1267650600228229401496703205376 := by unfold nA wordAt; rw [h]; rfl
theorem nA_3 {ws : List Str} {w : Str} (h : ws[3]? = some w) : nA ws 3 = numOf w 1 1267650600228229401496703205376 := by unfold nA wordAt; rw [h]; rfl
theorem ix_ws {ws : List Str} {n : Nat} {w : Str} (h : ws[n]? = some w) : ixD (.lst (ws.map D.str)) (.int (n : Int)) = some (.str w) := atI_c _ n _ (by rw [List.getElem?_map, h]; rfl)
def rdB (ws : List Str) : Nat ⊕ (Int × Int × Int × Int) := match nA ws 0 with
  | none => .inl 0
  | some x => match nA ws 1 with
    | none => .inl 1
    | some y => match nA ws 2 with
      | none => .inl 2
      | some w => match nA ws 3 with
        | none => .inl 3
        | some h => .inr (x, y, w, h)
abbrev S_box_numbers (g : Gf) : Prop := ∀ ws : List Str, (∀ w ∈ ws, w.length ≤ 100000) → g [.fz (.lst (ws.map D.str)), .fz (.int 0), .fz (.int 0)] = match rdB ws with
  | .inl n => .exc (eTxt 0 n) []
  | .inr (x, y, w, h) => .ok (.nw (.lst [.int x, .int y, .int w, .int h])) []
theorem forD_c {body : Env → R Fl} {i : Nat} {d : D} {r : List D} {env : Env} : forD body i (d :: r) env = (body (env.set i (.fz d))).bind fun fl env1 => match fl with
  | .next => forD body i r env1
  | .cont => forD body i r env1
  | .brk => .ok .next env1
  | .ret u => .ok (.ret u) env1 := rfl
theorem forD_n {body : Env → R Fl} {i : Nat} {env : Env} : forD body i [] env = .ok .next env := rfl
theorem optI_n : optI none = .non := rfl
theorem optI_s (v : Int) : optI (some v) = .int v := rfl
theorem get_lt {ws : List Str} {n : Nat} (h : n < ws.length) (hw : ∀ w ∈ ws, w.length ≤ 100000) : ∃ w, ws[n]? = some w ∧ w.length ≤ 100000 := ⟨ws[n], List.getElem?_eq_getElem h, hw _ (List.getElem_mem h)⟩
theorem box_numbers_ok {cl : CallF} (h10 : S_number_in (cl 10)) : S_box_numbers (runF cl F_box_numbers) := by
  intro ws hw
  simp only [F_box_numbers]
  walk_at "px"
  rw [show ((List.range 4).map fun k => D.int ((k : Nat) : Int)) = [.int 0, .int 1, .int 2, .int 3] from rfl]
  have hlen : ((ws.map D.str).length : Int) = ws.length := by rw [List.length_map]
  unfold rdB
  rw [forD_c]
  by_cases h0 : 0 < ws.length
  rotate_left
  · rw [nA_out h0]
    have h0' : ¬ (0 : Int) < (ws.length : Int) := by omega
    have hn := h10 "" 0 1267650600228229401496703205375 (by decide) (by decide) (by decide) (by decide)
    rw [num_empty (by decide), optI_n] at hn
    walk_at "px"
    try simp only [optI_n]
    try walk_at "px"
    try rfl
  obtain ⟨w0, e0, l0⟩ := get_lt h0 hw
  rw [nA_0 e0]
  have i0 : ixD (.lst (ws.map D.str)) (.int 0) = some (.str w0) := ix_ws e0
  have h0' : (0 : Int) < (ws.length : Int) := by omega
  have c0 := h10 w0 0 1267650600228229401496703205375 l0 (by decide) (by decide) (by decide)
  cases q0 : numOf w0 0 1267650600228229401496703205375 with
  | none =>
    rw [q0, optI_n] at c0
    walk_at "px"
    try simp only [optI_n]
    try walk_at "px"
    try rfl
  | some v0 =>
  rw [q0, optI_s] at c0
  walk_at "px"
  simp only [optI_s]
  walk_at "px"
  rw [forD_c]
  by_cases h1 : 1 < ws.length
  rotate_left
  · rw [nA_out h1]
    have h1' : ¬ (1 : Int) < (ws.length : Int) := by omega
    have hn := h10 "" 0 1267650600228229401496703205375 (by decide) (by decide) (by decide) (by decide)
    rw [num_empty (by decide), optI_n] at hn
    walk_at "px"
    try simp only [optI_n]
    try walk_at "px"
    try rfl
  obtain ⟨w1, e1, l1⟩ := get_lt h1 hw
  rw [nA_1 e1]
  have i1 : ixD (.lst (ws.map D.str)) (.int 1) = some (.str w1) := ix_ws e1
  have h1' : (1 : Int) < (ws.length : Int) := by omega
  have c1 := h10 w1 0 1267650600228229401496703205375 l1 (by decide) (by decide) (by decide)
  cases q1 : numOf w1 0 1267650600228229401496703205375 with
  | none =>
    rw [q1, optI_n] at c1
    walk_at "px"
    try simp only [optI_n]
    try walk_at "px"
    try rfl
  | some v1 =>
  rw [q1, optI_s] at c1
  walk_at "px"
  simp only [optI_s]
  walk_at "px"
  rw [forD_c]
  by_cases h2 : 2 < ws.length
  rotate_left
  · rw [nA_out h2]
    have h2' : ¬ (2 : Int) < (ws.length : Int) := by omega
    have hn := h10 "" 1 1267650600228229401496703205376 (by decide) (by decide) (by decide) (by decide)
    rw [num_empty (by decide), optI_n] at hn
    walk_at "px"
    try simp only [optI_n]
    try walk_at "px"
    try rfl
  obtain ⟨w2, e2, l2⟩ := get_lt h2 hw
  rw [nA_2 e2]
  have i2 : ixD (.lst (ws.map D.str)) (.int 2) = some (.str w2) := ix_ws e2
  have h2' : (2 : Int) < (ws.length : Int) := by omega
  have c2 := h10 w2 1 1267650600228229401496703205376 l2 (by decide) (by decide) (by decide)
  cases q2 : numOf w2 1 1267650600228229401496703205376 with
  | none =>
    rw [q2, optI_n] at c2
    walk_at "px"
    try simp only [optI_n]
    try walk_at "px"
    try rfl
  | some v2 =>
  rw [q2, optI_s] at c2
  walk_at "px"
  simp only [optI_s]
  walk_at "px"
  rw [forD_c]
  by_cases h3 : 3 < ws.length
  rotate_left
  · rw [nA_out h3]
    have h3' : ¬ (3 : Int) < (ws.length : Int) := by omega
    have hn := h10 "" 1 1267650600228229401496703205376 (by decide) (by decide) (by decide) (by decide)
    rw [num_empty (by decide), optI_n] at hn
    walk_at "px"
    try simp only [optI_n]
    try walk_at "px"
    try rfl
  obtain ⟨w3, e3, l3⟩ := get_lt h3 hw
  rw [nA_3 e3]
  have i3 : ixD (.lst (ws.map D.str)) (.int 3) = some (.str w3) := ix_ws e3
  have h3' : (3 : Int) < (ws.length : Int) := by omega
  have c3 := h10 w3 1 1267650600228229401496703205376 l3 (by decide) (by decide) (by decide)
  cases q3 : numOf w3 1 1267650600228229401496703205376 with
  | none =>
    rw [q3, optI_n] at c3
    walk_at "px"
    try simp only [optI_n]
    try walk_at "px"
    try rfl
  | some v3 =>
  rw [q3, optI_s] at c3
  walk_at "px"
  simp only [optI_s]
  walk_at "px"
  rw [forD_n]
  walk_at "px"
  try rfl
abbrev spW (z : Str) : List Str := Txt.split z " "
def rdX (z : Str) : RC := match rdB (spW z) with
  | .inl n => .exc (eTxt 0 n) []
  | .inr (x, y, w, h) => if 4 < (spW z).length then .exc (eTxt 0 4) [] else .ok (.nw (boxD x y w h)) []
theorem spl_le (S : List Nat) : ∀ (cs : List Nat) (k : Nat) (acc : List Nat), ∀ p ∈ TL.spl S k acc cs, p.length ≤ acc.length + cs.length
  | [], k, acc, p, h => by
    have h : p ∈ [acc] := by cases k <;> exact h
    rw [List.mem_singleton.mp h]
    omega
  | c :: r, 0, acc, p, h => by
    simp only [TL.spl] at h
    split at h
    · rcases List.mem_cons.mp h with rfl | h
      · omega
      · have := spl_le S r _ [] p h
        simp only [List.length_cons, List.length_nil] at this ⊢
        omega
    · have := spl_le S r 0 (acc ++ [c]) p h
      simp only [List.length_append, List.length_cons, List.length_nil] at this ⊢
      omega
  | c :: r, k + 1, acc, p, h => by
    have := spl_le S r k acc p h
    simp only [List.length_cons]
    omega
theorem sp_eq (z : Str) : spW z = (TL.spl [32] 0 [] z.cps.toList).map SX.S := by
  have := SX.split_S (a := z.cps.toList) (b := [32]) (by simp) (by decide)
  rw [SX.S_tl] at this
  exact this
theorem split_le (z : Str) : ∀ w ∈ spW z, w.length ≤ z.length := by
  intro w hw
  rw [sp_eq] at hw
  obtain ⟨p, hp, rfl⟩ := List.mem_map.mp hw
  have := spl_le _ _ _ _ p hp
  rw [SX.S_len, len_tl]
  simpa using this
theorem rdB_bad {ws : List Str} {x y w h : Int} (e : rdB ws = .inr (x, y, w, h)) : boxBad (.int x) (.int y) (.int w) (.int h) = none := by
  unfold rdB nA at e
  cases h0 : numOf (wordAt ws 0) (if 0 < 2 then 0 else 1) (if 0 < 2 then 1267650600228229401496703205375 else 1267650600228229401496703205376) with
  | none => rw [h0] at e; cases e
  | some x' =>
  rw [h0] at e
  cases h1 : numOf (wordAt ws 1) (if 1 < 2 then 0 else 1) (if 1 < 2 then 1267650600228229401496703205375 else 1267650600228229401496703205376) with
  | none => rw [h1] at e; cases e
  | some y' =>
  rw [h1] at e
  cases h2 : numOf (wordAt ws 2) (if 2 < 2 then 0 else 1) (if 2 < 2 then 1267650600228229401496703205375 else 1267650600228229401496703205376) with
  | none => rw [h2] at e; cases e
  | some w' =>
  rw [h2] at e
  cases h3 : numOf (wordAt ws 3) (if 3 < 2 then 0 else 1) (if 3 < 2 then 1267650600228229401496703205375 else 1267650600228229401496703205376) with
  | none => rw [h3] at e; cases e
  | some h' =>
  rw [h3] at e
  cases e
  obtain ⟨a0, b0, _⟩ := num_some h0
  obtain ⟨a1, b1, _⟩ := num_some h1
  obtain ⟨a2, b2, _⟩ := num_some h2
  obtain ⟨a3, b3, _⟩ := num_some h3
  simp only [Nat.reduceLT, if_true, if_false] at a0 b0 a1 b1 a2 b2 a3 b3
  simp only [boxBad, btw, a0, b0, a1, b1, a2, b2, a3, b3, decide_true, Bool.and_self]
abbrev S_read (g : Gf) : Prop := (∀ d, isClsD d = false → (∀ z, d ≠ .str z) → g [.fz (.cls 5), .fz d] = .exc (eTxt 0 0) []) ∧ ∀ z : Str, z.length ≤ 100000 → g [.fz (.cls 5), .fz (.str z)] = rdX z
theorem read_ok {cl : CallF} (h11 : S_box_numbers (cl 11)) (hB : S_box_init (cl 6000)) : S_read (runF cl F_Box_read) := by
  refine ⟨fun d h1 h2 => ?_, fun z hz => ?_⟩
  · simp only [F_Box_read]
    cases d with
    | str z => exact absurd rfl (h2 z)
    | cls _ => cases h1
    | dT _ _ => cases h1
    | _ => walk_at "px"; try rfl
  · simp only [F_Box_read]
    walk_at "px"
    unfold rdX
    have h := h11 (spW z) fun w hw => Nat.le_trans (split_le z w hw) hz
    cases e : rdB (spW z) with
    | inl n =>
      rw [e] at h
      simp only at h
      walk_at "px"
      try rfl
    | inr q =>
      obtain ⟨x, y, w, hh⟩ := q
      rw [e] at h
      simp only at h
      have hb := rdB_bad e
      have hlen : (((spW z).map D.str).length : Int) = (spW z).length := by rw [List.length_map]
      walk_at "px"
      by_cases hl : 4 < (spW z).length
      · have hl' : (4 : Int) < ((spW z).length : Int) := by omega
        walk_at "px"
        try rfl
      · have hl' : ¬ (4 : Int) < ((spW z).length : Int) := by omega
        walk_at "px"
        try rfl
end PP
end
section
set_option maxHeartbeats 400000
namespace PP
open PySem L2
abbrev spc : Str := Str.ofString " "
theorem tl_spc : TL.tl spc = [32] := by rw [TL.tl_ofString]; rfl
theorem nosp_T {v : Int} (h : 0 ≤ v) : 32 ∉ TL.tl (T v) := by
  intro hm
  have := T_dig h
  unfold digS at this
  rw [List.all_eq_true] at this
  have := this 32 hm
  rw [isDig_iff] at this
  omega
theorem join4 (a b c d : Str) : Txt.join spc [a, b, c, d] = Str.empty ++ a ++ spc ++ b ++ spc ++ c ++ spc ++ d := by
  rw [TL.join_eq]
  refine TL.ext_tl ?_
  rw [TL.tl_join]
  simp only [List.map_cons, List.map_nil, TL.joinL, TL.tl_append, List.append_assoc]
  rfl
theorem join_tx (x y w h : Int) : Txt.join spc [T x, T y, T w, T h] = txB x y w h := join4 _ _ _ _
theorem split4 {a b c d : Str} (ha : 32 ∉ TL.tl a) (hb : 32 ∉ TL.tl b) (hc : 32 ∉ TL.tl c) (hd : 32 ∉ TL.tl d) : spW (Str.empty ++ a ++ spc ++ b ++ spc ++ c ++ spc ++ d) = [a, b, c, d] := by
  rw [← join4]
  refine TL.split_join (s := 32) (S := []) tl_spc (by decide +kernel) (by simp) fun p hp => ?_
  simp only [List.mem_cons, List.not_mem_nil, or_false] at hp
  rcases hp with rfl | rfl | rfl | rfl <;> assumption
theorem spW_tx {x y w h : Int} (hx : 0 ≤ x) (hy : 0 ≤ y) (hw : 0 ≤ w) (hh : 0 ≤ h) : spW (txB x y w h) = [T x, T y, T w, T h] := split4 (nosp_T hx) (nosp_T hy) (nosp_T hw) (nosp_T hh)
def okN (x y w h : Int) : Prop := (0 ≤ x ∧ x ≤ 1267650600228229401496703205375) ∧ (0 ≤ y ∧ y ≤ 1267650600228229401496703205375) ∧ (1 ≤ w ∧ w ≤ 1267650600228229401496703205376) ∧ (1 ≤ h ∧ h ≤ 1267650600228229401496703205376)
theorem okN.bad {x y w h : Int} (k : okN x y w h) : boxBad (.int x) (.int y) (.int w) (.int h) = none := by
  obtain ⟨⟨a, b⟩, ⟨c, d⟩, ⟨e, f⟩, ⟨g, i⟩⟩ := k
  simp only [boxBad, btw, a, b, c, d, e, f, g, i, decide_true, Bool.and_self]
theorem rdB_tx {x y w h : Int} (k : okN x y w h) : rdB [T x, T y, T w, T h] = .inr (x, y, w, h) := by
  obtain ⟨⟨a, b⟩, ⟨c, d⟩, ⟨e, f⟩, ⟨g, i⟩⟩ := k
  unfold rdB
  rw [nA_0 rfl, nA_1 rfl, nA_2 rfl, nA_3 rfl, num_T a (by omega) a b, num_T c (by omega) c d, num_T (by omega) (by omega) e f, num_T (by omega) (by omega) g i]
theorem rdX_tx {x y w h : Int} (k : okN x y w h) : rdX (txB x y w h) = .ok (.nw (boxD x y w h)) [] := by
  have k' := k
  obtain ⟨⟨a, b⟩, ⟨c, d⟩, ⟨e, f⟩, ⟨g, i⟩⟩ := k'
  unfold rdX
  rw [spW_tx a c (by omega) (by omega), rdB_tx k]
  rfl
theorem tx_len {x y w h : Int} (k : okN x y w h) : (txB x y w h).length ≤ 163 := by
  obtain ⟨⟨a, b⟩, ⟨c, d⟩, ⟨e, f⟩, ⟨g, i⟩⟩ := k
  have l1 : (Str.ofString (toString x)).length ≤ 40 := T_len40 a (by omega)
  have l2 : (Str.ofString (toString y)).length ≤ 40 := T_len40 c (by omega)
  have l3 : (Str.ofString (toString w)).length ≤ 40 := T_len40 (v := w) (by omega) (by omega)
  have l4 : (Str.ofString (toString h)).length ≤ 40 := T_len40 (v := h) (by omega) (by omega)
  unfold txB
  simp only [len_app, len_sp]
  have e0 : Str.empty.length = 0 := rfl
  omega
/-- a text of at most so many signs -/
def gS (z : Str) (n : Nat) : Prop := z.length ≤ n ∧ PyData.strOk z = true
theorem gS.mono {a : Str} {m n : Nat} (h : gS a m) (hm : m ≤ n) : gS a n := ⟨Nat.le_trans h.1 hm, h.2⟩
end PP
end
section
set_option maxHeartbeats 400000
namespace PP
open PySem L2
structure Enc (α : Type) (e : α → D) (n : Nat) : Prop where
  wf : ∀ a, wfD (e a) = true
  dp : ∀ a, dpD (e a) ≤ n
  eq : ∀ a b, eqvD (e a) (e b) = true ↔ a = b
variable {α : Type} {e : α → D} {n : Nat}
theorem Enc.wfs (E : Enc α e n) : ∀ xs : List α, wfL (xs.map e) = true
  | [] => rfl
  | a :: r => by rw [List.map_cons, wfL, E.wf, E.wfs r]; rfl
theorem Enc.dps (E : Enc α e n) : ∀ xs : List α, dpL (xs.map e) ≤ n
  | [] => Nat.zero_le _
  | a :: r => by rw [List.map_cons, dpL]; exact Nat.max_le.mpr ⟨E.dp a, E.dps r⟩
theorem Enc.eqs (E : Enc α e n) : ∀ xs ys : List α, eqvL (xs.map e) (ys.map e) = true ↔ xs = ys
  | [], [] => by simp [v_nil]
  | [], b :: s => by simp [v_nc]
  | a :: r, [] => by simp [v_cn]
  | a :: r, b :: s => by
    rw [List.map_cons, List.map_cons, v_cons, Bool.and_eq_true, E.eq, E.eqs r s, List.cons.injEq]
theorem Enc.mono {m : Nat} (E : Enc α e n) (h : n ≤ m) : Enc α e m := ⟨E.wf, fun a => Nat.le_trans (E.dp a) h, E.eq⟩
theorem Enc.lst (E : Enc α e n) : Enc (List α) (fun l => .lst (l.map e)) (n + 1) :=
  ⟨fun a => by rw [wfD]; exact E.wfs a, fun a => by rw [dpD]; exact Nat.succ_le_succ (E.dps a), fun a b => by rw [v_lst]; exact E.eqs a b⟩
theorem Enc.tup (E : Enc α e n) : Enc (List α) (fun l => .tup (l.map e)) (n + 1) :=
  ⟨fun a => by rw [wfD]; exact E.wfs a, fun a => by rw [dpD]; exact Nat.succ_le_succ (E.dps a), fun a b => by rw [v_tup]; exact E.eqs a b⟩
theorem Enc.two {β : Type} {f : β → D} (E : Enc α e n) (F : Enc β f n) : Enc (α × β) (fun p => .tup [e p.1, f p.2]) (n + 1) :=
  ⟨fun a => by rw [wfD, wfL, wfL, wfL, E.wf, F.wf]; rfl, fun a => by rw [dpD, dpL, dpL, dpL]; have := E.dp a.1; have := F.dp a.2; omega, fun a b => by
    rw [v_tup, v_cons, v_cons, v_nil, Bool.and_true, Bool.and_eq_true, E.eq, F.eq, Prod.ext_iff]⟩
/-- a number -/
abbrev nD (k : Nat) : D := .int (k : Int)
section
variable [DecidableEq α]
theorem Enc.b (E : Enc α e n) (a b : α) : eqvD (e a) (e b) = decide (a = b) := by
  rw [Bool.eq_iff_iff, E.eq, decide_eq_true_eq]
theorem pyAll_any {x : D} {p : PyData} (hx : toPy x = some p) : ∀ {ys : List D} {ps : List PyData}, toPyAll ys = some ps → (ps.any fun z => PyData.eqv z p) = ys.any fun y => eqvD y x
  | [], ps, h => by cases h; rfl
  | y :: r, ps, h => by
    unfold toPyAll at h
    cases h1 : toPy y with
    | none => rw [h1] at h; cases h
    | some q =>
      cases h2 : toPyAll r with
      | none => rw [h1, h2] at h; cases h
      | some qs =>
        rw [h1, h2] at h
        cases h
        rw [List.any_cons, List.any_cons, pyAll_any hx h2]
        congr 1
        unfold eqvD
        rw [h1, hx]
theorem inD_v {x : D} {ys : List D} (hx : wfD x = true) (hy : wfL ys = true) (dx : dpD x ≤ 60) (dy : dpL ys ≤ 60) : inD x ys = some (.bl (ys.any fun y => eqvD y x)) := by
  obtain ⟨p, h1, h2, h3⟩ := wf_py x hx
  obtain ⟨ps, g1, g2, g3⟩ := wfs_py ys hy
  have s1 : SeqAt.shaped p = true := by
    simp only [SeqAt.shaped, h2, h3, Bool.true_and, decide_eq_true_eq]; omega
  have s2 : SeqAt.shaped (.list ps) = true := by
    simp only [SeqAt.shaped, PyData.canLay0, PyData.depth, g2, g3, Bool.true_and, decide_eq_true_eq]; omega
  unfold inD
  rw [h1, g1]
  simp only [s1, s2, Bool.and_self, if_true]
  rw [pyAll_any h1 g1]
theorem any_mem (E : Enc α e n) (a : α) (xs : List α) : ((xs.map e).any fun y => eqvD y (e a)) = decide (a ∈ xs) := by
  rw [Bool.eq_iff_iff, List.any_eq_true, decide_eq_true_eq]
  constructor
  · rintro ⟨y, hy, h⟩
    obtain ⟨b, hb, rfl⟩ := List.mem_map.mp hy
    rw [E.eq] at h
    exact h ▸ hb
  · exact fun h => ⟨e a, List.mem_map_of_mem h, (E.eq a a).mpr rfl⟩
theorem Enc.isin (E : Enc α e n) (h : n ≤ 60) (a : α) (xs : List α) : op2 .isin (e a) (.lst (xs.map e)) = some (.bl (decide (a ∈ xs))) := by
  have q : op2 .isin (e a) (.lst (xs.map e)) = inD (e a) (xs.map e) := by
    have w := E.wf a
    generalize e a = x at *
    cases x <;> rfl
  have := E.dp a; have := E.dps xs
  rw [q, inD_v (E.wf a) (E.wfs xs) (by omega) (by omega), any_mem E]
theorem Enc.notin (E : Enc α e n) (h : n ≤ 60) (a : α) (xs : List α) : op2 .notin (e a) (.lst (xs.map e)) = some (.bl (!decide (a ∈ xs))) := by
  have q : op2 .notin (e a) (.lst (xs.map e)) = (inD (e a) (xs.map e)).map fun d => match d with | .bl b => .bl (!b) | d => d := by
    have w := E.wf a
    generalize e a = x at *
    cases x <;> rfl
  have := E.dp a; have := E.dps xs
  rw [q, inD_v (E.wf a) (E.wfs xs) (by omega) (by omega), any_mem E]
  rfl
theorem indexP_v (E : Enc α e n) {a : α} {p : PyData} (hp : toPy (e a) = some p) : ∀ {xs : List α} {ps : List PyData} (j : Nat), toPyAll (xs.map e) = some ps → a ∈ xs → indexP p ps j = some (j + xs.idxOf a)
  | [], _, _, _, h => by cases h
  | b :: r, ps, j, h, ha => by
    rw [List.map_cons, toPyAll] at h
    cases h1 : toPy (e b) with
    | none => rw [h1] at h; cases h
    | some q =>
      cases h2 : toPyAll (r.map e) with
      | none => rw [h1, h2] at h; cases h
      | some qs =>
        rw [h1, h2] at h
        cases h
        have hq : PyData.eqv q p = eqvD (e b) (e a) := by unfold eqvD; rw [h1, hp]
        unfold indexP
        rw [hq, E.b, List.idxOf_cons]
        by_cases c : b = a
        · subst c
          simp
        · have ha' : a ∈ r := by
            rcases List.mem_cons.mp ha with z | z
            · exact absurd z.symm c
            · exact z
          have c' : (b == a) = false := by simpa using c
          simp only [c, decide_false, Bool.false_eq_true, if_false, c', cond_false]
          rw [indexP_v E hp (j + 1) h2 ha']
          congr 1
          omega
theorem Enc.index (E : Enc α e n) (h : n ≤ 60) {a : α} {xs : List α} (ha : a ∈ xs) : biD .index [.lst (xs.map e), e a] = some (nD (xs.idxOf a)) := by
  show indexD (e a) (xs.map e) = _
  obtain ⟨p, h1, h2, h3⟩ := wf_py _ (E.wf a)
  obtain ⟨ps, g1, g2, g3⟩ := wfs_py _ (E.wfs xs)
  have := E.dp a; have := E.dps xs
  have s1 : SeqAt.shaped p = true := by
    simp only [SeqAt.shaped, h2, h3, Bool.true_and, decide_eq_true_eq]; omega
  have s2 : SeqAt.shaped (.list ps) = true := by
    simp only [SeqAt.shaped, PyData.canLay0, PyData.depth, g2, g3, Bool.true_and, decide_eq_true_eq]; omega
  unfold indexD
  rw [h1, g1]
  simp only [s1, s2, Bool.and_self, if_true]
  rw [indexP_v E h1 0 g1 ha, Nat.zero_add]
  rfl
end
end PP
end
section
set_option maxHeartbeats 1000000
namespace PP
open PySem L2 CM
theorem lc_encR {α : Type} {vs : List Nat} {tg : Tg} {hc : Bool} {tst elt : Env → R U} {env : Env} (e : α → D) (o : α → Option D) : ∀ (xs : List α) (env1 : Env) (acc : List D), wipeE env1 vs = wipeE env vs → acc.length + xs.length ≤ LIM →
    (∀ a ∈ xs, lcOk (orBad (storeG tg (e a) (wipeE env vs)) (eltT hc tst elt)) (o a) vs env) →
    ∃ env2, lcD (lcTurn vs tg hc tst elt) (xs.map e) env1 acc = .ok (acc ++ xs.filterMap o) env2 ∧ wipeE env2 vs = wipeE env vs
  | [], env1, acc, h, _, _ => ⟨env1, by rw [List.filterMap_nil, List.append_nil]; rfl, h⟩
  | a :: r, env1, acc, h, hl, hs => by
    obtain ⟨e2, h1, h2⟩ := hs a List.mem_cons_self
    rw [List.length_cons] at hl
    have hr : ∀ a ∈ r, lcOk (orBad (storeG tg (e a) (wipeE env vs)) (eltT hc tst elt)) (o a) vs env := fun a ha => hs a (List.mem_cons_of_mem _ ha)
    rw [List.map_cons, List.filterMap_cons]
    simp only [lcD, turn_eq, h, h1]
    cases o a with
    | none => exact lc_encR e o r e2 acc h2 (by omega) hr
    | some x =>
      have q : acc.length < LIM := by omega
      simp only [q, if_true]
      obtain ⟨env2, g1, g2⟩ := lc_encR e o r e2 (acc ++ [x]) h2 (by rw [List.length_append, List.length_cons, List.length_nil]; omega) hr
      exact ⟨env2, by rw [g1, List.append_assoc]; rfl, g2⟩
theorem lc_encF {α : Type} {vs : List Nat} {tg : Tg} {hc : Bool} {tst elt : Env → R U} {env : Env} {ds : List D} (e : α → D) (xs : List α) (o : α → Option D) (hds : ds = xs.map e) (hcalm : (vs.all fun i => calmS (getS env i)) = true) (hl : xs.length ≤ LIM)
    (hs : ∀ a ∈ xs, lcOk (orBad (storeG tg (e a) (wipeE env vs)) (eltT hc tst elt)) (o a) vs env) :
    lcAll vs env (lcD (lcTurn vs tg hc tst elt) ds env []) = .ok (.nw (.lst (xs.filterMap o))) env := by
  subst hds
  obtain ⟨env2, h1, h2⟩ := lc_encR e o xs env [] rfl (by simpa using hl) hs
  rw [h1]
  unfold lcAll
  rw [hcalm]
  show R.ok _ (backE env env2 vs) = _
  rw [List.nil_append, back_wipe, h2, ← back_wipe, back_self]
theorem lc_enc {α : Type} {vs : List Nat} {tg : Tg} {hc : Bool} {tst elt : Env → R U} {env : Env} {ds : List D} (e : α → D) (xs : List α) (g : α → D) (hds : ds = xs.map e) (hcalm : (vs.all fun i => calmS (getS env i)) = true) (hl : xs.length ≤ LIM)
    (hs : ∀ a ∈ xs, lcOk (orBad (storeG tg (e a) (wipeE env vs)) (eltT hc tst elt)) (some (g a)) vs env) :
    lcAll vs env (lcD (lcTurn vs tg hc tst elt) ds env []) = .ok (.nw (.lst (xs.map g))) env := by
  rw [lc_encF e xs (fun a => some (g a)) hds hcalm hl hs]
  have : ∀ xs : List α, xs.filterMap (fun a => some (g a)) = xs.map g := fun xs => by
    induction xs with
    | nil => rfl
    | cons a r ih => rw [List.filterMap_cons, List.map_cons, ih]
  rw [this]
end PP
end
section
set_option maxHeartbeats 1000000
namespace PP
open PySem L2 CM
end PP
end
section
set_option maxHeartbeats 1000000
namespace PP
open PySem L2 CM
end PP
end
section
set_option maxHeartbeats 1000000
namespace PP
open PySem L2 CM
end PP
end
section
set_option maxHeartbeats 1000000
namespace PP
open PySem L2 CM
end PP
end
section
set_option maxHeartbeats 1000000
namespace PP
open PySem L2 CM
/-- a drawn row -/
structure DrRow (M : Nat) (r : List (Nat × Nat)) : Prop where
  qs : (r.map (·.1)).Perm [0, 1, 2, 3]
  st : ∀ p ∈ r, p.2 < M
theorem DrRow.ok {M : Nat} {T : Tab} (h0 : 0 < M) (hl : T.length = M) (h : ∀ r ∈ T, DrRow M r) : Ok T := by
  subst hl
  refine ⟨h0, fun r hr => ?_, fun r hr => (h r hr).st, fun r hr p hp => ?_, fun r hr q hq => ?_⟩
  · have := (h r hr).qs.length_eq
    simpa using this
  · have := (h r hr).qs.mem_iff.mp (List.mem_map.mpr ⟨p, hp, rfl⟩)
    simp at this
    omega
  · refine (h r hr).qs.mem_iff.mpr ?_
    simp
    omega
end PP
end
section
set_option maxHeartbeats 1000000
namespace PP
open PySem L2 CM
structure Sm (T : Tab) : Prop where
  n : T.length ≤ 20
  r : ∀ r ∈ T, r.length ≤ 5 ∧ ∀ p ∈ r, p.1 ≤ 100 ∧ p.2 ≤ 100
theorem Sm.of {T : Tab} (o : Ok T) (h : T.length ≤ 20) : Sm T := ⟨h, fun r hr => ⟨by rw [o.len r hr]; omega, fun p hp => ⟨by have := o.qu r hr p hp; omega, by have := o.st r hr p hp; omega⟩⟩⟩
end PP
end
section
set_option maxHeartbeats 1000000
namespace PP
open PySem L2 CM
end PP
end
section
set_option maxHeartbeats 1000000
namespace PP
open PySem L2 CM
end PP
end
section
set_option maxHeartbeats 1000000
namespace PP
open PySem L2 CM
/-- a row that words can tell -/
structure RdRow (r : List (Nat × Nat)) : Prop where
  len : r.length = 4
  nd : (r.map (·.1)).Nodup
  qu : ∀ p ∈ r, p.1 < 4
  st : ∀ p ∈ r, p.2 < 16
theorem nodup4 {l : List Nat} (h4 : l.length = 4) (h : ∀ q, q < 4 → q ∈ l) : l.Nodup := by
  match l, h4 with
  | [a, b, c, d], _ =>
    have h0 := h 0 (by decide)
    have h1 := h 1 (by decide)
    have h2 := h 2 (by decide)
    have h3 := h 3 (by decide)
    simp only [List.mem_cons, List.not_mem_nil, or_false] at h0 h1 h2 h3
    simp only [List.nodup_cons, List.mem_cons, List.not_mem_nil, or_false, not_or, not_false_eq_true, and_true, List.nodup_nil]
    refine ⟨⟨?_, ?_, ?_⟩, ⟨?_, ?_⟩, ?_⟩ <;> omega
theorem RdRow.of {T : Tab} (o : Ok T) (h : T.length ≤ 16) : ∀ r ∈ T, RdRow r := fun r hr =>
  ⟨o.len r hr, nodup4 (by rw [List.length_map]; exact o.len r hr) (o.all r hr), o.qu r hr, fun p hp => Nat.lt_of_lt_of_le (o.st r hr p hp) h⟩
end PP
end
section
namespace PP
open PySem L2
theorem ownUn_o (cl : CallF) (m : Nat) (cs : List Nat) (c : Nat) (ks : List Nat) (vs : List D) (env : Env) : ownUn cl m cs (.obj c ks vs) env = if !cs.contains c then .bad else match cl (spec c m) [.fz (.obj c ks vs)] with
    | .ok r _ => .ok r env
    | .exc x _ => .exc x env
    | .bad => .bad := rfl
theorem ownGet_o (cl : CallF) (cs : List Nat) (c : Nat) (ks : List Nat) (vs : List D) (y : D) (env : Env) : ownGet cl cs (.obj c ks vs) y env = if !cs.contains c then .bad else match cl (spec c 18) [.fz (.obj c ks vs), .fz y] with
    | .ok r _ => .ok r env
    | .exc x _ => .exc x env
    | .bad => .bad := rfl
theorem ownCal_o (cl : CallF) (cs : List Nat) (c : Nat) (ks : List Nat) (vs ds : List D) (env : Env) : ownCal cl cs (.obj c ks vs) ds env = if !cs.contains c then .bad else match cl (spec c 20) ((.obj c ks vs :: ds).map .fz) with
    | .ok r _ => .ok r env
    | .exc x _ => .exc x env
    | .bad => .bad := rfl
theorem isObD_o (c : Nat) (ks : List Nat) (vs : List D) : isObD (.obj c ks vs) = true := rfl
end PP
end
section
set_option maxHeartbeats 1000000
namespace PP
open PySem L2 CM
end PP
end
section
set_option maxHeartbeats 1000000
namespace PP
open PySem L2 CM
end PP
end
section
set_option maxHeartbeats 1000000
namespace PP
open PySem L2 CM
end PP
end
end
section
local macro_rules | `(tactic| walk_at "pp") => `(tactic| simp -implicitDefEqProofs only [PP.ownUn_o, PP.ownGet_o, PP.ownCal_o, PP.isObD_o, PP.ev_w0, PP.ev_w1, PP.ev_w2, PP.ev_w3, PP.ev_w4, PP.ev_w5, PP.ev_w6, PP.ev_w7, PP.ev_w8, PP.ev_w9, PP.ev_w10, PP.ev_w11, PP.ev_w12, PP.ev_w13, PP.ev_w14, PP.ev_w15, PP.ev_w16, PP.ev_w17, PP.ev_w18, PP.ev_w19, PP.ev_w20, PP.ev_w21, PP.ev_w22, PP.ev_w23, PP.ev_w24, PP.ev_w25, PP.ev_w26, PP.ev_w27, PP.ev_w28, PP.ev_w29, PP.ev_w30, PP.ev_w31, PP.ev_w32, PP.ev_w33, PP.ev_w34, PP.ev_w35, PP.ev_w36, PP.ev_w37, PP.ev_w38, PP.ev_w39, PP.ev_w40, PP.ev_w41, PP.ev_w42, PP.ev_w43, PP.ev_w44, PP.ev_w45, PP.ev_w46, PP.ev_w47, PP.ev_w48, PP.ev_w49, PP.ev_w50, PP.ev_w51, PP.ev_w52, PP.ev_w53, PP.ev_w54, PP.ev_w55, PP.ev_w56, PP.evF_w0, PP.evF_w1, PP.evF_w2, PP.evR_w0, PP.evR_w1, PP.evR_w2, PP.evC_w0, PP.evC_w1, PP.evC_w2, PP.evC_w3, PP.ex_w0, PP.ex_w1, PP.ex_w2, PP.ex_w3, PP.ex_w4, PP.ex_w5, PP.ex_w6, PP.ex_w7, PP.ex_w8, PP.ex_w9, PP.ex_w10, PP.ex_w11, PP.ex_w12, PP.ex_w13, PP.ex_w14, PP.ex_w15, PP.ex_w16, PP.ex_w17, PP.ex_w18, PP.ex_w19, PP.ex_w20, PP.ex_w21, PP.ex_w22, PP.ex_w23, PP.ex_w24, PP.ex_w25, PP.ex_w26, PP.ex_w27, PP.ex_w28, PP.exs_w0, PP.exs_w1, PP.itD_w0, PP.itD_w1, PP.itD_w2, PP.itD_w3, PP.itD_w4, PP.itD_w5, PP.itD_w6, PP.itD_w7, PP.itD_w8, PP.evT_w, PP.getS_0, PP.getS_s, PP.set_0, PP.set_s, PP.mul_1, PP.mul_m1, PP.fin_ok, PP.fin_exc, PP.finX_s, PP.finO_next, PP.finO_d, PP.finO_nw, PP.rdU_d, PP.rdU_nw, PP.rdU_sl, PP.rdS_fz, PP.rdS_ow, PP.rdS_io, PP.pend_d, PP.pend_nw, PP.pend_sl, PP.fzU_d, PP.fzU_nw, PP.fzU_sl, PP.asgU_d, PP.asgU_nw, PP.asgU_sl, PP.slOf_non, PP.slOf_bl, PP.slOf_int, PP.slOf_str, PP.slOf_tup, PP.slOf_lst, PP.slOf_dK, PP.isLs_ow, PP.isLs_io, PP.retU_d, PP.retU_nw, PP.retU_sl, PP.nrm_non, PP.nrm_bl, PP.nrm_int, PP.nrm_str, PP.nrm_tup, PP.nrm_lst, PP.nrm_dK, PP.setIO_ow, PP.setIO_io, PP.dupF_0, PP.dupF_1, PP.optP_f, PP.optP_t, PP.truD_bl, PP.truD_non, PP.truD_lst, PP.partD_eq, PP.ix_lst_0, PP.ix_lst_1, PP.ix_lst_2, PP.ix_lst_3, PP.ix_lst_4, PP.ix_lst_5, PP.ix_tup_0, PP.ix_tup_1, PP.ix_tup_2, PP.ix_tup_3, PP.ix_tup_4, PP.ix_tup_5, PP.ix_kst_0, PP.ix_kst_1, PP.ix_kst_2, PP.ix_kst_3, PP.ix_kst_4, PP.ix_kst_5, PP.set_l3_1, PP.set_l3_2, PP.bi_int_i, PP.bi_int_b, PP.bi_abs, PP.bi_len_l, PP.bi_len_t, PP.bi_isInt_non, PP.bi_isInt_bl, PP.bi_isInt_int, PP.bi_isInt_str, PP.bi_isInt_tup, PP.bi_isInt_lst, PP.bi_isInt_kst, PP.bi_isInt_dK, PP.bi_isBool_non, PP.bi_isBool_bl, PP.bi_isBool_int, PP.bi_isBool_str, PP.bi_isBool_tup, PP.bi_isBool_lst, PP.bi_isBool_kst, PP.bi_isBool_dK, PP.bi_isTuple_non, PP.bi_isTuple_bl, PP.bi_isTuple_int, PP.bi_isTuple_str, PP.bi_isTuple_tup, PP.bi_isTuple_lst, PP.bi_isTuple_kst, PP.bi_isTuple_dK, PP.bi_isList_non, PP.bi_isList_bl, PP.bi_isList_int, PP.bi_isList_str, PP.bi_isList_tup, PP.bi_isList_lst, PP.bi_isList_kst, PP.bi_isList_dK, PP.bi_isStr_non, PP.bi_isStr_bl, PP.bi_isStr_int, PP.bi_isStr_str, PP.bi_isStr_tup, PP.bi_isStr_lst, PP.bi_isStr_kst, PP.bi_isStr_dK, PP.le_lim, PP.lt_lim, PP.pw_10_18, PP.o_gt_i, PP.o_lt_i, PP.o_ge_i, PP.o_le_i, PP.o_add_i, PP.o_sub_i, PP.o_rev_l, PP.o_rev_t, PP.o_neg_i, PP.o_eq_i, PP.o_ne_i, PP.o_eq_s, PP.o_ne_s, PP.o_eq_b, PP.ne_nil, PP.fldOf_o, PP.fldOf_e, PP.fldD_c, PP.putD_c, PP.putD_n, PP.isObj_o, PP.isObj_e, PP.isObj_non, PP.isObj_bl, PP.isObj_int, PP.isObj_str, PP.isObj_lst, PP.isObj_tup, PP.isObj_kst, PP.isObj_dK, PP.isCls_o, PP.isCls_e, PP.isCls_non, PP.isCls_bl, PP.isCls_int, PP.isCls_str, PP.isCls_lst, PP.isCls_tup, PP.isCls_kst, PP.isCls_dK, PP.runC_eq, PP.makeO_eq, PP.spec_eq, PP.allFz_0, PP.allFz_c, PP.recv_f, PP.recv_t, PP.ownOp_o, PP.ownIn_o, PP.ownNe_o, PP.opc_add, PP.opc_sub, PP.opc_mul, PP.opc_shl, PP.opc_shr, PP.opc_band, PP.opc_bor, PP.opc_lt, PP.opc_le, PP.opc_gt, PP.opc_ge, PP.opc_eq, PP.opc_ne, PP.okR_o, PP.okR_int, PP.okR_bl, PP.okR_non, PP.okR_str, PP.okR_lst, PP.okR_kst, PP.okR_tup, PP.cmp_lt, PP.cmp_le, PP.cmp_gt, PP.cmp_ge, PP.cmp_eq, PP.cmp_ne, PP.cmp_add, PP.cmp_sub, PP.cmp_band, PP.cmp_bor, PP.cmp_shl, PP.cmp_shr, PP.cmp_mul, PP.slOf_obj, PP.nrm_obj, PP.slOf_err, PP.hear_eq, PP.frz_0, PP.frz_c, PP.mask_c, PP.mask_n, PP.maskS_fz, PP.maskS_ow, PP.maskS_io, PP.maskS_un, PP.item_t, PP.item_l, PP.item_k, PP.bi_max2, PP.bi_min2, PP.bi_bool_b, PP.o_shr_i, PP.o_is_n, PP.o_isnot_n, PP.o_is_b, PP.o_isnot_b, PP.o_add_l, PP.o_mul_l, PP.set_l4_0, PP.set_l4_1, PP.set_l4_2, PP.set_l4_3, PP.ask_o, PP.outD_t, PP.outD_e, PP.keep_d, PP.noL_non, PP.noL_int, PP.noL_bl, PP.noL_str, PP.noL_tup, PP.noL_0, PP.noL_c, PP.evJ_0, PP.rv_split, PP.rv_join, PP.rv_ix_l, PP.rv_ix_k, PP.clsN_eq, PP.runF, PP.startE, PP.rdAll, PP.argsOf, PP.ioSlots, PP.putIO, PP.permL, PP.outsOf, PP.storeAll, PP.setSE, PP.slSE, PP.R.bind_ok, PP.R.bind_exc, PP.R.bind_bad, PP.orBad_some, PP.orBad_none, Int.reduceLE, Int.reduceLT, Int.reduceToNat, Int.reducePow, Int.reduceNeg, Int.reduceAdd, Int.reduceSub, Int.reduceMul, Int.reduceBEq, Int.cast_ofNat_Int, Int.natCast_zero, Int.natCast_one, Int.reduceBNe, Int.reduceEq, Int.reduceDiv, Int.reduceMod, Nat.reduceAdd, Nat.reduceMul, Nat.reduceSub, Nat.reducePow, Nat.reduceLeDiff, Nat.reduceLT, Nat.reduceEqDiff, Nat.reduceBEq, List.cons_append, List.nil_append, List.append_nil, Nat.zero_le, List.head?_cons, List.tail_cons, Option.map_some, Option.map_none, Option.bind_some, Option.bind_none, Bool.not_true, Bool.not_false, Bool.and_self, Bool.and_true, Bool.true_and, Bool.false_and, Bool.and_false, Bool.or_true, Bool.true_or, Bool.or_false, Bool.false_or, Bool.not_not, List.contains_cons, List.contains_nil, BEq.rfl, reduceCtorEq,
  eq_self, and_self, if_true, if_false, ite_true, ite_false, Bool.false_eq_true, reduceIte, List.length_cons, List.length_nil, List.filterMap_cons, List.filterMap_nil, List.getElem?_cons_zero, List.getElem?_cons_succ, List.map_cons, List.map_nil, List.replicate_succ, List.replicate_zero, List.flatten_cons, List.flatten_nil, List.reverse_cons, List.reverse_nil, decide_true, decide_false, Bool.not_eq_true, Bool.not_eq_false, Bool.cond_true, Bool.cond_false])
local macro_rules | `(tactic| walk_at "pq") => `(tactic| simp -implicitDefEqProofs (disch := first | assumption | (with_reducible show (_ : Bool) = _; exact id rfl) | (with_reducible show (_ : Int) < _; omega) | (with_reducible show (_ : Int) ≤ _; omega) | (with_reducible show (_ : Nat) ≤ _; omega) | (with_reducible show (_ : Nat) < _; omega) | exact id (by simp only [PP.wfD, PP.wfL, PP.dpD, PP.dpL, PP.ok_ofS, PP.ok_app, PP.ok_empty, Nat.max_self, Nat.zero_max, Nat.max_zero, Nat.reduceAdd, Nat.reduceLeDiff, Bool.and_self, PP.wf_ints, PP.dp_ints, Bool.and_true, Bool.true_and, *] ; done) | fail) only [*, PP.le_lim, PP.lt_lim, PP.o_shr_i, PP.shl_p, PP.mul_w, PP.fdiv_w, PP.mod_p, PP.pow_p, PP.nrm_mut, PP.bi_len_s, PP.bi_split, PP.op_eq, PP.op_ne, PP.v_str, PP.v_nil, PP.v_cons, PP.v_nc, PP.v_cn, PP.v_tup, PP.v_lst, PP.v_kl, PP.v_lt, PP.v_tl, PP.v_int, PP.v_bl, PP.v_nn, PP.v_nt, PP.v_tn, PP.v_ni, PP.v_in, PP.v_ints, PP.ownUn_o, PP.ownGet_o, PP.ownCal_o, PP.isObD_o, PP.ev_w0, PP.ev_w1, PP.ev_w2, PP.ev_w3, PP.ev_w4, PP.ev_w5, PP.ev_w6, PP.ev_w7, PP.ev_w8, PP.ev_w9, PP.ev_w10, PP.ev_w11, PP.ev_w12, PP.ev_w13, PP.ev_w14, PP.ev_w15, PP.ev_w16, PP.ev_w17, PP.ev_w18, PP.ev_w19, PP.ev_w20, PP.ev_w21, PP.ev_w22, PP.ev_w23, PP.ev_w24, PP.ev_w25, PP.ev_w26, PP.ev_w27, PP.ev_w28, PP.ev_w29, PP.ev_w30, PP.ev_w31, PP.ev_w32, PP.ev_w33, PP.ev_w34, PP.ev_w35, PP.ev_w36, PP.ev_w37, PP.ev_w38, PP.ev_w39, PP.ev_w40, PP.ev_w41, PP.ev_w42, PP.ev_w43, PP.ev_w44, PP.ev_w45, PP.ev_w46, PP.ev_w47, PP.ev_w48, PP.ev_w49, PP.ev_w50, PP.ev_w51, PP.ev_w52, PP.ev_w53, PP.ev_w54, PP.ev_w55, PP.ev_w56, PP.evF_w0, PP.evF_w1, PP.evF_w2, PP.evR_w0, PP.evR_w1, PP.evR_w2, PP.evC_w0, PP.evC_w1, PP.evC_w2, PP.evC_w3, PP.ex_w0, PP.ex_w1, PP.ex_w2, PP.ex_w3, PP.ex_w4, PP.ex_w5, PP.ex_w6, PP.ex_w7, PP.ex_w8, PP.ex_w9, PP.ex_w10, PP.ex_w11, PP.ex_w12, PP.ex_w13, PP.ex_w14, PP.ex_w15, PP.ex_w16, PP.ex_w17, PP.ex_w18, PP.ex_w19, PP.ex_w20, PP.ex_w21, PP.ex_w22, PP.ex_w23, PP.ex_w24, PP.ex_w25, PP.ex_w26, PP.ex_w27, PP.ex_w28, PP.exs_w0, PP.exs_w1, PP.itD_w0, PP.itD_w1, PP.itD_w2, PP.itD_w3, PP.itD_w4, PP.itD_w5, PP.itD_w6, PP.itD_w7, PP.itD_w8, PP.evT_w, PP.getS_0, PP.getS_s, PP.set_0, PP.set_s, PP.mul_1, PP.mul_m1, PP.fin_ok, PP.fin_exc, PP.finX_s, PP.finO_next, PP.finO_d, PP.finO_nw, PP.rdU_d, PP.rdU_nw, PP.rdU_sl, PP.rdS_fz, PP.rdS_ow, PP.rdS_io, PP.pend_d, PP.pend_nw, PP.pend_sl, PP.fzU_d, PP.fzU_nw, PP.fzU_sl, PP.asgU_d, PP.asgU_nw, PP.asgU_sl, PP.slOf_non, PP.slOf_bl, PP.slOf_int, PP.slOf_str, PP.slOf_tup, PP.slOf_lst, PP.slOf_dK, PP.isLs_ow, PP.isLs_io, PP.retU_d, PP.retU_nw, PP.retU_sl, PP.nrm_non, PP.nrm_bl, PP.nrm_int, PP.nrm_str, PP.nrm_tup, PP.nrm_lst, PP.nrm_dK, PP.setIO_ow, PP.setIO_io, PP.dupF_0, PP.dupF_1, PP.optP_f, PP.optP_t, PP.truD_bl, PP.truD_non, PP.truD_lst, PP.partD_eq, PP.ix_lst_0, PP.ix_lst_1, PP.ix_lst_2, PP.ix_lst_3, PP.ix_lst_4, PP.ix_lst_5, PP.ix_tup_0, PP.ix_tup_1, PP.ix_tup_2, PP.ix_tup_3, PP.ix_tup_4, PP.ix_tup_5, PP.ix_kst_0, PP.ix_kst_1, PP.ix_kst_2, PP.ix_kst_3, PP.ix_kst_4, PP.ix_kst_5, PP.set_l3_1, PP.set_l3_2, PP.bi_int_i, PP.bi_int_b, PP.bi_abs, PP.bi_len_l, PP.bi_len_t, PP.bi_isInt_non, PP.bi_isInt_bl, PP.bi_isInt_int, PP.bi_isInt_str, PP.bi_isInt_tup, PP.bi_isInt_lst, PP.bi_isInt_kst, PP.bi_isInt_dK, PP.bi_isBool_non, PP.bi_isBool_bl, PP.bi_isBool_int, PP.bi_isBool_str, PP.bi_isBool_tup, PP.bi_isBool_lst, PP.bi_isBool_kst, PP.bi_isBool_dK, PP.bi_isTuple_non, PP.bi_isTuple_bl, PP.bi_isTuple_int, PP.bi_isTuple_str, PP.bi_isTuple_tup, PP.bi_isTuple_lst, PP.bi_isTuple_kst, PP.bi_isTuple_dK, PP.bi_isList_non, PP.bi_isList_bl, PP.bi_isList_int, PP.bi_isList_str, PP.bi_isList_tup, PP.bi_isList_lst, PP.bi_isList_kst, PP.bi_isList_dK, PP.bi_isStr_non, PP.bi_isStr_bl, PP.bi_isStr_int, PP.bi_isStr_str, PP.bi_isStr_tup, PP.bi_isStr_lst, PP.bi_isStr_kst, PP.bi_isStr_dK, PP.le_lim, PP.lt_lim, PP.pw_10_18, PP.o_gt_i, PP.o_lt_i, PP.o_ge_i, PP.o_le_i, PP.o_add_i, PP.o_sub_i, PP.o_rev_l, PP.o_rev_t, PP.o_neg_i, PP.o_eq_i, PP.o_ne_i, PP.o_eq_s, PP.o_ne_s, PP.o_eq_b, PP.ne_nil, PP.fldOf_o, PP.fldOf_e, PP.fldD_c, PP.putD_c, PP.putD_n, PP.isObj_o, PP.isObj_e, PP.isObj_non, PP.isObj_bl, PP.isObj_int, PP.isObj_str, PP.isObj_lst, PP.isObj_tup, PP.isObj_kst, PP.isObj_dK, PP.isCls_o, PP.isCls_e, PP.isCls_non, PP.isCls_bl, PP.isCls_int, PP.isCls_str, PP.isCls_lst, PP.isCls_tup, PP.isCls_kst, PP.isCls_dK, PP.runC_eq, PP.makeO_eq, PP.spec_eq, PP.allFz_0, PP.allFz_c, PP.recv_f, PP.recv_t, PP.ownOp_o, PP.ownIn_o, PP.ownNe_o, PP.opc_add, PP.opc_sub, PP.opc_mul, PP.opc_shl, PP.opc_shr, PP.opc_band, PP.opc_bor, PP.opc_lt, PP.opc_le, PP.opc_gt, PP.opc_ge, PP.opc_eq, PP.opc_ne, PP.okR_o, PP.okR_int, PP.okR_bl, PP.okR_non, PP.okR_str, PP.okR_lst, PP.okR_kst, PP.okR_tup, PP.cmp_lt, PP.cmp_le, PP.cmp_gt, PP.cmp_ge, PP.cmp_eq, PP.cmp_ne, PP.cmp_add, PP.cmp_sub, PP.cmp_band, PP.cmp_bor, PP.cmp_shl, PP.cmp_shr, PP.cmp_mul, PP.slOf_obj, PP.nrm_obj, PP.slOf_err, PP.hear_eq, PP.frz_0, PP.frz_c, PP.mask_c, PP.mask_n, PP.maskS_fz, PP.maskS_ow, PP.maskS_io, PP.maskS_un, PP.item_t, PP.item_l, PP.item_k, PP.bi_max2, PP.bi_min2, PP.bi_bool_b, PP.o_shr_i, PP.o_is_n, PP.o_isnot_n, PP.o_is_b, PP.o_isnot_b, PP.o_add_l, PP.o_mul_l, PP.set_l4_0, PP.set_l4_1, PP.set_l4_2, PP.set_l4_3, PP.ask_o, PP.outD_t, PP.outD_e, PP.keep_d, PP.noL_non, PP.noL_int, PP.noL_bl, PP.noL_str, PP.noL_tup, PP.noL_0, PP.noL_c, PP.evJ_0, PP.rv_split, PP.rv_join, PP.rv_ix_l, PP.rv_ix_k, PP.clsN_eq, PP.runF, PP.startE, PP.rdAll, PP.argsOf, PP.ioSlots, PP.putIO, PP.permL, PP.outsOf, PP.storeAll, PP.setSE, PP.slSE, PP.R.bind_ok, PP.R.bind_exc, PP.R.bind_bad, PP.orBad_some, PP.orBad_none, Int.reduceLE, Int.reduceLT, Int.reduceToNat, Int.reducePow, Int.reduceNeg, Int.reduceAdd, Int.reduceSub, Int.reduceMul, Int.reduceBEq, Int.cast_ofNat_Int, Int.natCast_zero, Int.natCast_one, Int.reduceBNe, Int.reduceEq, Int.reduceDiv, Int.reduceMod, Nat.reduceAdd, Nat.reduceMul, Nat.reduceSub, Nat.reducePow, Nat.reduceLeDiff, Nat.reduceLT, Nat.reduceEqDiff, Nat.reduceBEq, List.cons_append, List.nil_append, List.append_nil, Nat.zero_le, List.head?_cons, List.tail_cons, Option.map_some, Option.map_none, Option.bind_some, Option.bind_none, Bool.not_true, Bool.not_false, Bool.and_self, Bool.and_true, Bool.true_and, Bool.false_and, Bool.and_false, Bool.or_true, Bool.true_or, Bool.or_false, Bool.false_or, Bool.not_not, List.contains_cons, List.contains_nil, BEq.rfl, reduceCtorEq,
  eq_self, and_self, if_true, if_false, ite_true, ite_false, Bool.false_eq_true, reduceIte, List.length_cons, List.length_nil, List.filterMap_cons, List.filterMap_nil, List.getElem?_cons_zero, List.getElem?_cons_succ, List.map_cons, List.map_nil, List.replicate_succ, List.replicate_zero, List.flatten_cons, List.flatten_nil, List.reverse_cons, List.reverse_nil, decide_true, decide_false, Bool.not_eq_true, Bool.not_eq_false, Bool.cond_true, Bool.cond_false])
local macro_rules | `(tactic| walk_at "px") => `(tactic| simp -implicitDefEqProofs (disch := first | assumption | (with_reducible show (_ : Bool) = _; exact id rfl) | (with_reducible show (_ : Int) < _; omega) | (with_reducible show (_ : Int) ≤ _; omega) | (with_reducible show (_ : Nat) ≤ _; omega) | (with_reducible show (_ : Nat) < _; omega) | fail) only [*, PP.le_lim, PP.lt_lim, PP.o_shr_i, PP.shl_p, PP.mul_w, PP.fdiv_w, PP.mod_p, PP.pow_p, PP.nrm_mut, PP.bi_len_s, PP.bi_split, PP.ownUn_o, PP.ownGet_o, PP.ownCal_o, PP.isObD_o, PP.ev_w0, PP.ev_w1, PP.ev_w2, PP.ev_w3, PP.ev_w4, PP.ev_w5, PP.ev_w6, PP.ev_w7, PP.ev_w8, PP.ev_w9, PP.ev_w10, PP.ev_w11, PP.ev_w12, PP.ev_w13, PP.ev_w14, PP.ev_w15, PP.ev_w16, PP.ev_w17, PP.ev_w18, PP.ev_w19, PP.ev_w20, PP.ev_w21, PP.ev_w22, PP.ev_w23, PP.ev_w24, PP.ev_w25, PP.ev_w26, PP.ev_w27, PP.ev_w28, PP.ev_w29, PP.ev_w30, PP.ev_w31, PP.ev_w32, PP.ev_w33, PP.ev_w34, PP.ev_w35, PP.ev_w36, PP.ev_w37, PP.ev_w38, PP.ev_w39, PP.ev_w40, PP.ev_w41, PP.ev_w42, PP.ev_w43, PP.ev_w44, PP.ev_w45, PP.ev_w46, PP.ev_w47, PP.ev_w48, PP.ev_w49, PP.ev_w50, PP.ev_w51, PP.ev_w52, PP.ev_w53, PP.ev_w54, PP.ev_w55, PP.ev_w56, PP.evF_w0, PP.evF_w1, PP.evF_w2, PP.evR_w0, PP.evR_w1, PP.evR_w2, PP.evC_w0, PP.evC_w1, PP.evC_w2, PP.evC_w3, PP.ex_w0, PP.ex_w1, PP.ex_w2, PP.ex_w3, PP.ex_w4, PP.ex_w5, PP.ex_w6, PP.ex_w7, PP.ex_w8, PP.ex_w9, PP.ex_w10, PP.ex_w11, PP.ex_w12, PP.ex_w13, PP.ex_w14, PP.ex_w15, PP.ex_w16, PP.ex_w17, PP.ex_w18, PP.ex_w19, PP.ex_w20, PP.ex_w21, PP.ex_w22, PP.ex_w23, PP.ex_w24, PP.ex_w25, PP.ex_w26, PP.ex_w27, PP.ex_w28, PP.exs_w0, PP.exs_w1, PP.itD_w0, PP.itD_w1, PP.itD_w2, PP.itD_w3, PP.itD_w4, PP.itD_w5, PP.itD_w6, PP.itD_w7, PP.itD_w8, PP.evT_w, PP.getS_0, PP.getS_s, PP.set_0, PP.set_s, PP.mul_1, PP.mul_m1, PP.fin_ok, PP.fin_exc, PP.finX_s, PP.finO_next, PP.finO_d, PP.finO_nw, PP.rdU_d, PP.rdU_nw, PP.rdU_sl, PP.rdS_fz, PP.rdS_ow, PP.rdS_io, PP.pend_d, PP.pend_nw, PP.pend_sl, PP.fzU_d, PP.fzU_nw, PP.fzU_sl, PP.asgU_d, PP.asgU_nw, PP.asgU_sl, PP.slOf_non, PP.slOf_bl, PP.slOf_int, PP.slOf_str, PP.slOf_tup, PP.slOf_lst, PP.slOf_dK, PP.isLs_ow, PP.isLs_io, PP.retU_d, PP.retU_nw, PP.retU_sl, PP.nrm_non, PP.nrm_bl, PP.nrm_int, PP.nrm_str, PP.nrm_tup, PP.nrm_lst, PP.nrm_dK, PP.setIO_ow, PP.setIO_io, PP.dupF_0, PP.dupF_1, PP.optP_f, PP.optP_t, PP.truD_bl, PP.truD_non, PP.truD_lst, PP.partD_eq, PP.ix_lst_0, PP.ix_lst_1, PP.ix_lst_2, PP.ix_lst_3, PP.ix_lst_4, PP.ix_lst_5, PP.ix_tup_0, PP.ix_tup_1, PP.ix_tup_2, PP.ix_tup_3, PP.ix_tup_4, PP.ix_tup_5, PP.ix_kst_0, PP.ix_kst_1, PP.ix_kst_2, PP.ix_kst_3, PP.ix_kst_4, PP.ix_kst_5, PP.set_l3_1, PP.set_l3_2, PP.bi_int_i, PP.bi_int_b, PP.bi_abs, PP.bi_len_l, PP.bi_len_t, PP.bi_isInt_non, PP.bi_isInt_bl, PP.bi_isInt_int, PP.bi_isInt_str, PP.bi_isInt_tup, PP.bi_isInt_lst, PP.bi_isInt_kst, PP.bi_isInt_dK, PP.bi_isBool_non, PP.bi_isBool_bl, PP.bi_isBool_int, PP.bi_isBool_str, PP.bi_isBool_tup, PP.bi_isBool_lst, PP.bi_isBool_kst, PP.bi_isBool_dK, PP.bi_isTuple_non, PP.bi_isTuple_bl, PP.bi_isTuple_int, PP.bi_isTuple_str, PP.bi_isTuple_tup, PP.bi_isTuple_lst, PP.bi_isTuple_kst, PP.bi_isTuple_dK, PP.bi_isList_non, PP.bi_isList_bl, PP.bi_isList_int, PP.bi_isList_str, PP.bi_isList_tup, PP.bi_isList_lst, PP.bi_isList_kst, PP.bi_isList_dK, PP.bi_isStr_non, PP.bi_isStr_bl, PP.bi_isStr_int, PP.bi_isStr_str, PP.bi_isStr_tup, PP.bi_isStr_lst, PP.bi_isStr_kst, PP.bi_isStr_dK, PP.le_lim, PP.lt_lim, PP.pw_10_18, PP.o_gt_i, PP.o_lt_i, PP.o_ge_i, PP.o_le_i, PP.o_add_i, PP.o_sub_i, PP.o_rev_l, PP.o_rev_t, PP.o_neg_i, PP.o_eq_i, PP.o_ne_i, PP.o_eq_s, PP.o_ne_s, PP.o_eq_b, PP.ne_nil, PP.fldOf_o, PP.fldOf_e, PP.fldD_c, PP.putD_c, PP.putD_n, PP.isObj_o, PP.isObj_e, PP.isObj_non, PP.isObj_bl, PP.isObj_int, PP.isObj_str, PP.isObj_lst, PP.isObj_tup, PP.isObj_kst, PP.isObj_dK, PP.isCls_o, PP.isCls_e, PP.isCls_non, PP.isCls_bl, PP.isCls_int, PP.isCls_str, PP.isCls_lst, PP.isCls_tup, PP.isCls_kst, PP.isCls_dK, PP.runC_eq, PP.makeO_eq, PP.spec_eq, PP.allFz_0, PP.allFz_c, PP.recv_f, PP.recv_t, PP.ownOp_o, PP.ownIn_o, PP.ownNe_o, PP.opc_add, PP.opc_sub, PP.opc_mul, PP.opc_shl, PP.opc_shr, PP.opc_band, PP.opc_bor, PP.opc_lt, PP.opc_le, PP.opc_gt, PP.opc_ge, PP.opc_eq, PP.opc_ne, PP.okR_o, PP.okR_int, PP.okR_bl, PP.okR_non, PP.okR_str, PP.okR_lst, PP.okR_kst, PP.okR_tup, PP.cmp_lt, PP.cmp_le, PP.cmp_gt, PP.cmp_ge, PP.cmp_eq, PP.cmp_ne, PP.cmp_add, PP.cmp_sub, PP.cmp_band, PP.cmp_bor, PP.cmp_shl, PP.cmp_shr, PP.cmp_mul, PP.slOf_obj, PP.nrm_obj, PP.slOf_err, PP.hear_eq, PP.frz_0, PP.frz_c, PP.mask_c, PP.mask_n, PP.maskS_fz, PP.maskS_ow, PP.maskS_io, PP.maskS_un, PP.item_t, PP.item_l, PP.item_k, PP.bi_max2, PP.bi_min2, PP.bi_bool_b, PP.o_shr_i, PP.o_is_n, PP.o_isnot_n, PP.o_is_b, PP.o_isnot_b, PP.o_add_l, PP.o_mul_l, PP.set_l4_0, PP.set_l4_1, PP.set_l4_2, PP.set_l4_3, PP.ask_o, PP.outD_t, PP.outD_e, PP.keep_d, PP.noL_non, PP.noL_int, PP.noL_bl, PP.noL_str, PP.noL_tup, PP.noL_0, PP.noL_c, PP.evJ_0, PP.rv_split, PP.rv_join, PP.rv_ix_l, PP.rv_ix_k, PP.clsN_eq, PP.runF, PP.startE, PP.rdAll, PP.argsOf, PP.ioSlots, PP.putIO, PP.permL, PP.outsOf, PP.storeAll, PP.setSE, PP.slSE, PP.R.bind_ok, PP.R.bind_exc, PP.R.bind_bad, PP.orBad_some, PP.orBad_none, Int.reduceLE, Int.reduceLT, Int.reduceToNat, Int.reducePow, Int.reduceNeg, Int.reduceAdd, Int.reduceSub, Int.reduceMul, Int.reduceBEq, Int.cast_ofNat_Int, Int.natCast_zero, Int.natCast_one, Int.reduceBNe, Int.reduceEq, Int.reduceDiv, Int.reduceMod, Nat.reduceAdd, Nat.reduceMul, Nat.reduceSub, Nat.reducePow, Nat.reduceLeDiff, Nat.reduceLT, Nat.reduceEqDiff, Nat.reduceBEq, List.cons_append, List.nil_append, List.append_nil, Nat.zero_le, List.head?_cons, List.tail_cons, Option.map_some, Option.map_none, Option.bind_some, Option.bind_none, Bool.not_true, Bool.not_false, Bool.and_self, Bool.and_true, Bool.true_and, Bool.false_and, Bool.and_false, Bool.or_true, Bool.true_or, Bool.or_false, Bool.false_or, Bool.not_not, List.contains_cons, List.contains_nil, BEq.rfl, reduceCtorEq,
  eq_self, and_self, if_true, if_false, ite_true, ite_false, Bool.false_eq_true, reduceIte, List.length_cons, List.length_nil, List.filterMap_cons, List.filterMap_nil, List.getElem?_cons_zero, List.getElem?_cons_succ, List.map_cons, List.map_nil, List.replicate_succ, List.replicate_zero, List.flatten_cons, List.flatten_nil, List.reverse_cons, List.reverse_nil, decide_true, decide_false, Bool.not_eq_true, Bool.not_eq_false, Bool.cond_true, Bool.cond_false])
section
set_option maxHeartbeats 1000000
namespace PP
open PySem L2 CM
def dgt (x n i : Nat) : Nat := x / 4 ^ (n - 1 - i) % 4
end PP
end
section
set_option maxHeartbeats 1000000
namespace PP
open PySem L2 CM
/-- a curve in its least form -/
structure Lst (L : Tab) : Prop where
  ok : Ok L
  len : L.length ≤ 16
  idem : least L = L
theorem Lst.of {T : Tab} (o : Ok T) (h : T.length ≤ 16) : Lst (least T) := ⟨least_ok o, by rw [least_len]; exact Nat.le_trans (leastM_len o) h, least_idem o⟩
/-- hidden from simp for a while -/
def Hid (p : Prop) : Prop := p
theorem Hid.mk {p : Prop} (h : p) : Hid p := h
theorem Hid.out {p : Prop} (h : Hid p) : p := h
end PP
end
section
namespace PP
open PySem PySem.Spec PyProof.Rows L2
theorem obP_eq {α : Type} {n : Nat} {F : PySem.W.Frag → α} {val : World → α} (s : PySem.W.SharedT) : obP n F s = (hookP n F val).obs s.abs := by
  have e : HandSHeadRun.getT s = s.abs.heap.get? := funext (HandSHeadRun.getT_eq s)
  show F _ = F _
  rw [e] <;> rfl
/-- THE END of a law over such a head -/
theorem law_walkE {l : PySem.W.OpenLaw} {n k : Nat} {q : Program} {loose : List Str} {XP : (Str → Option Value) → Heap → Prop} {α : Type} {F : PySem.W.Frag → α} {val : World → α} {m : Nat} {d : DefRec} {sp : PySem.W.Frag → Sp} {x : Str} (names : List Str)
    (hn : l.most = some n) (hn2 : n ≤ sizeLine) (hdf : d.params.defaults = []) (hr : Room k callerA)
    (hq : (names.all fun x => ((recsOf q).find? fun e => e.name == x).isSome) = true)
    (hl : ∀ (w : World) (K : PySem.W.Frag), F K = val w → ((csOf names K).all fun p => (K.lookup p.2).isNone) = true)
    (hF : ∀ (w : World) (mg : Str → Option Value) (fa : Addr) (h : Heap) (K : PySem.W.Frag), K.In h → F K = val w → h.Ns mainGlobals mg → mg d.name = some (.ref fa) →
      ∃ fd : FuncData, (∀ (s : Shared) (u : Value), BindsTo s fd ⟨[u], []⟩ [(x, u)]) ∧
        ∀ base : Heap, K.In base → base.Ns mainGlobals mg → (∀ x ∈ names, ∀ c P, PySem.W.tabIn K x = some (c, P) → LamX.TabB base mg c P) → FnG l.prog w K mg base k fa fd [x] (sp K))
    (hsp : ∀ (K : PySem.W.Frag) (H : Hp) (a : Addr) (ns : List Int), ns.length ≤ n → (∀ p ∈ csOf names K, H p.2 = some (.tbl #[])) → SqL K H a (ns.map V.int) → sp K [.ref a] H (fun v _ => v = .bl true) fun _ _ _ => False) :
    PySem.W.WalkO q loose XP (hookP m F val).says l.row.toRowW d [] (fun f vs => PySem.call f vs) := by
  refine Att.attach_call hn hdf fun w s₀ s₁ mg mb fa o pm cd doc a vs ns G Y ho hd hcd hmg hobj hints hlen hg => ?_
  obtain ⟨K, hKX, hv⟩ := Y
  obtain ⟨fd, hb, hf⟩ := hF w mg fa _ K hKX hv G.T.g hmg
  have hT : ∀ p ∈ csOf names K, _ ∧ K.lookup p.2 = none ∧ PySem.W.CodeHd _ p.1 p.2 := fun p hp => by
    have hnone := List.all_eq_true.mp (hl w K hv) p hp
    obtain ⟨x, hx, e⟩ := List.mem_filterMap.mp hp
    obtain ⟨dd, hd⟩ := Option.isSome_iff_exists.mp (List.all_eq_true.mp hq x hx)
    obtain ⟨z1, z2⟩ := PySem.W.tab_of G.T hKX hd e
    exact ⟨z2, Option.isNone_iff_eq_none.mp hnone, z1⟩
  exact law_run hKX G.T.g G.T.b G.T.builtins G.T.nolimit hg (fun p hp => (hT p hp).1) (fun p hp => (hT p hp).2.1) (fun p hp => (hT p hp).2.2) G.T.bmain hobj hints (Nat.le_trans hlen hn2) hr (fun base h1 h2 h3 => hf base h1 h2 fun x hx c P ht => h3 (c, P) (List.mem_filterMap.mpr ⟨x, hx, ht⟩)) hb fun H hH hS => hsp _ H a ns hlen hH hS
theorem fnA_ok {K : PySem.W.Frag} {a : Addr} {x q : Str} {st : Stmt} (e : fnA K a = some (x, q, defArgs st, .stmts (defBody st), defScope st, mainGlobals, [], builtinsNs)) (c : fnC K a q = true) :
    ∃ (oc : Value) (od : Option Addr) (kV dc pm : Value) (an : Option Addr) (cd ct : Value) (sl : Array (Option Value)), K.lookup a = some ⟨oc, od, .func (PySem.W.fnOf x q (defArgs st) (defBody st) (defScope st) .none kV dc pm an cd ct), sl⟩ ∧ PySem.W.codeIn K cd q = true := by
  unfold fnA at e
  unfold fnC at c
  cases hk : K.lookup a with
  | none =>
    rw [hk] at c
    cases c
  | some o =>
    obtain ⟨oc, od, dt, osl⟩ := o
    rw [hk] at c e
    cases dt with
    | func fd =>
      obtain ⟨n1, n2, n3, n4, n5, n6, n7, n8, n9, n10, n11, n12, n13, n14, n15⟩ := fd
      have e2 : (some (n1, n2, n3, n4, n5, n6, n7, n15) : He.FnW) = some (x, q, defArgs st, .stmts (defBody st), defScope st, mainGlobals, [], builtinsNs) := e
      simp only [Option.some.injEq, Prod.mk.injEq] at e2
      obtain ⟨h1, h2, h3, h4, h5, h6, h7, h8⟩ := e2
      subst h1 h2 h3 h4 h5 h6 h7 h8
      have c3 : (decide (n8 = .none) && PySem.W.codeIn K n13 n2) = true := c
      obtain ⟨k1, k2⟩ := Bool.and_eq_true_iff.mp c3
      obtain rfl := of_decide_eq_true k1
      exact ⟨oc, od, n9, n10, n11, n12, n13, n14, osl, rfl, k2⟩
    | _ => cases c
theorem intT_ok {K : PySem.W.Frag} {x : Str} {i : Int} (h : intT K x i = true) : ∃ t, PySem.W.nsIn K mainGlobals x = some (some (.int i t)) := by
  unfold intT at h
  split at h
  · rename_i j t e
    exact ⟨t, by rw [e, of_decide_eq_true h]⟩
  · cases h
theorem strT_ok {K : PySem.W.Frag} {x z : Str} (h : strT K x z = true) : ∃ t, PySem.W.nsIn K mainGlobals x = some (some (.str z t)) := by
  unfold strT at h
  split at h
  · rename_i j t e
    exact ⟨t, by rw [e, of_decide_eq_true h]⟩
  · cases h
theorem rec_ok {K : PySem.W.Frag} {p : Addr} {c : String} (h : recB K p c = true) : ∃ rs, PySem.W.recIn K p c = some (.ref (recA K p c) :: rs) := by
  unfold recB at h
  unfold recA
  split at h
  · rename_i f rs e
    exact ⟨rs, by rw [e]⟩
  · cases h
theorem exl_ok {K : PySem.W.Frag} {C : Addr} (h : exlB K C = true) : ∃ (nm q : Str) (N : Addr) (bs bm : List Value) (sn : List Str) (sub : List Value) (ab : Bool) (col : Option Bool) (dd : Option Addr) (k0 k1 k2 k3 k5 : Option Value),
    K.lookup C = some (excClassObj nm q C N bs bm true sn sub ab col dd k0 k1 k2 k3 k5 "ValueError.__new__") ∧ PySem.HandSPX.refsVE bm = true := by
  unfold exlB at h
  split at h
  · rename_i dd cd sl ho
    split at h
    · rename_i C' bm k0 k1 k2 k3 n k5 hm hs
      simp only [Bool.and_eq_true, beq_iff_eq, Bool.not_eq_true'] at h
      obtain ⟨⟨⟨⟨rfl, rfl⟩, hdel⟩, hd⟩, ht⟩ := h
      obtain ⟨nm, bs, mro, ns, qn, hd', sn, sub, ab, col, del⟩ := cd
      dsimp only at hm hdel hd
      subst hm hdel hd
      have hsl : sl = #[k0, k1, k2, k3, some (.builtin "ValueError.__new__"), k5] := by
        obtain ⟨l⟩ := sl
        simp only at hs
        rw [hs]
      subst hsl
      exact ⟨nm, qn, ns, bs, bm, sn, sub, ab, col, dd, k0, k1, k2, k3, k5, ho, ht⟩
    · cases h
  · cases h
theorem get_ok {K : PySem.W.Frag} {C : Addr} {m : Str} {b : String} (h : getB K C m b = true) : PySem.W.findCls K (.ref C) (.type "type") m = some (.get (.builtin b) (.ref (getA K C m)) .none (.ref C)) := by
  unfold getB at h
  unfold getA
  split at h
  · rename_i b' p C' e
    obtain ⟨h1, h2⟩ := Bool.and_eq_true_iff.mp h
    rw [e]
    rw [of_decide_eq_true h1, of_decide_eq_true h2]
  · cases h
end PP
end
section
namespace PP
open PySem PySem.Spec PyProof.Rows L2
theorem and1 {a b : Bool} (h : (a && b) = true) : a = true := by cases a <;> simp_all
theorem and2 {a b : Bool} (h : (a && b) = true) : b = true := by cases a <;> simp_all
theorem fnAD_ok {K : PySem.W.Frag} {a T : Addr} {x q : Str} {st : Stmt} (e : fnA K a = some (x, q, defArgs st, .stmts (defBody st), defScope st, mainGlobals, [], builtinsNs)) (c : fnCD K a T q = true) :
    ∃ (oc : Value) (od : Option Addr) (kV dc pm : Value) (an : Option Addr) (cd ct : Value) (sl : Array (Option Value)), K.lookup a = some ⟨oc, od, .func (PySem.W.fnOf x q (defArgs st) (defBody st) (defScope st) (.ref T) kV dc pm an cd ct), sl⟩ ∧ PySem.W.codeIn K cd q = true := by
  unfold fnA at e
  unfold fnCD at c
  cases hk : K.lookup a with
  | none =>
    rw [hk] at c
    cases c
  | some o =>
    obtain ⟨oc, od, dt, osl⟩ := o
    rw [hk] at c e
    cases dt with
    | func fd =>
      obtain ⟨n1, n2, n3, n4, n5, n6, n7, n8, n9, n10, n11, n12, n13, n14, n15⟩ := fd
      have e2 : (some (n1, n2, n3, n4, n5, n6, n7, n15) : He.FnW) = some (x, q, defArgs st, .stmts (defBody st), defScope st, mainGlobals, [], builtinsNs) := e
      simp only [Option.some.injEq, Prod.mk.injEq] at e2
      obtain ⟨h1, h2, h3, h4, h5, h6, h7, h8⟩ := e2
      subst h1 h2 h3 h4 h5 h6 h7 h8
      have c3 : (decide (n8 = .ref T) && PySem.W.codeIn K n13 n2) = true := c
      obtain ⟨k1, k2⟩ := Bool.and_eq_true_iff.mp c3
      obtain rfl := of_decide_eq_true k1
      exact ⟨oc, od, n9, n10, n11, n12, n13, n14, osl, rfl, k2⟩
    | _ => cases c
theorem fnAC_ok {K : PySem.W.Frag} {a C : Addr} {x q : Str} {st : Stmt} (e : fnA K a = some (x, q, defArgs st, .stmts (defBody st), defScope st, mainGlobals, [], builtinsNs)) (c : fnCC K a C q = true) :
    ∃ (oc : Value) (od : Option Addr) (kV dc pm : Value) (an : Option Addr) (ct : Value) (sl : Array (Option Value)), K.lookup a = some ⟨oc, od, .func (PySem.W.fnOf x q (defArgs st) (defBody st) (defScope st) .none kV dc pm an (.ref C) ct), sl⟩ ∧ PySem.W.codeIn K (.ref C) q = true := by
  unfold fnA at e
  unfold fnCC at c
  cases hk : K.lookup a with
  | none =>
    rw [hk] at c
    cases c
  | some o =>
    obtain ⟨oc, od, dt, osl⟩ := o
    rw [hk] at c e
    cases dt with
    | func fd =>
      obtain ⟨n1, n2, n3, n4, n5, n6, n7, n8, n9, n10, n11, n12, n13, n14, n15⟩ := fd
      have e2 : (some (n1, n2, n3, n4, n5, n6, n7, n15) : He.FnW) = some (x, q, defArgs st, .stmts (defBody st), defScope st, mainGlobals, [], builtinsNs) := e
      simp only [Option.some.injEq, Prod.mk.injEq] at e2
      obtain ⟨h1, h2, h3, h4, h5, h6, h7, h8⟩ := e2
      subst h1 h2 h3 h4 h5 h6 h7 h8
      have c3 : (decide (n8 = .none) && (decide (n13 = .ref C) && PySem.W.codeIn K (.ref C) n2)) = true := c
      obtain ⟨k1, k2⟩ := Bool.and_eq_true_iff.mp c3
      obtain ⟨k3, k4⟩ := Bool.and_eq_true_iff.mp k2
      obtain rfl := of_decide_eq_true k1
      obtain rfl := of_decide_eq_true k3
      exact ⟨oc, od, n9, n10, n11, n12, n14, osl, rfl, k4⟩
    | _ => cases c
theorem lc_ok {K : PySem.W.Frag} {c t : Addr} (h : lcB K c t = true) : ∃ (oX : Value) (dX : Option Addr) (vX : Array Value) (sX : Array (Option Value)), K.lookup c = some ⟨oX, dX, .fields vX, sX⟩ ∧ (vX[11]? : Option Value) = some (.ref t) := by
  unfold lcB at h
  split at h
  · rename_i oX dX vX sX e
    exact ⟨_, _, _, _, e, of_decide_eq_true h⟩
  · cases h
/-- the ints and tokens, one by one -/
def IsI : List Value → List Int → Prop
  | [], [] => True
  | v :: vs, i :: is => (∃ t, v = .int i t) ∧ IsI vs is
  | _, _ => False
theorem intsV_ok : ∀ (vs : List Value) (is : List Int), intsV vs = some is → IsI vs is := by
  intro vs
  induction vs with
  | nil =>
    intro is h
    cases h
    trivial
  | cons v r ih =>
    intro is h
    cases v <;> try (cases h; done)
    rename_i j t
    unfold intsV at h
    cases hr : intsV r with
    | none => rw [hr] at h; cases h
    | some js =>
      rw [hr] at h
      cases h
      exact ⟨⟨t, rfl⟩, ih js hr⟩
theorem isI_nil {vs : List Value} (h : IsI vs []) : vs = [] := by
  cases vs with
  | nil => rfl
  | cons v r => exact False.elim h
theorem isI_cons {vs : List Value} {i : Int} {is : List Int} (h : IsI vs (i :: is)) : ∃ t r, vs = .int i t :: r ∧ IsI r is := by
  cases vs with
  | nil => exact False.elim h
  | cons v r =>
    obtain ⟨⟨t, rfl⟩, k⟩ := h
    exact ⟨t, r, rfl, k⟩
theorem df_ok {K : PySem.W.Frag} {T : Addr} {is : List Int} (h : dfB K T is = true) : ∃ (oD : Value) (dD : Option Addr) (vs : List Value) (nD : Nat) (sD : Array (Option Value)), K.lookup T = some ⟨oD, dD, .seq vs.toArray nD, sD⟩ ∧ IsI vs is := by
  unfold dfB at h
  split at h
  · rename_i oD dD vs nD sD e
    refine ⟨oD, dD, vs.toList, nD, sD, ?_, intsV_ok _ _ (of_decide_eq_true h)⟩
    rw [e, Array.toArray_toList]
  · cases h
end PP
end
section
set_option maxHeartbeats 1000000
namespace PP
open PySem L2 CM
abbrev S_beq (g : Gf) : Prop := (∀ x y w h x' y' w' h', g [.fz (boxD x y w h), .fz (boxD x' y' w' h')] = .ok (.d (.bl (decide (x = x') && decide (y = y') && decide (w = w') && decide (h = h')))) []) ∧ ∀ x y w h d, isClsD d = false → isObjOf [5] d = false → g [.fz (boxD x y w h), .fz d] = .ok (.d (.bl false)) []
theorem beq_ok {cl : CallF} : S_beq (runF cl F_Box__eq__) := by
  refine ⟨fun x y w h x' y' w' h' => ?_, fun x y w h d hd ho => ?_⟩
  · have ne : ∀ a b : Int, op2 .ne (.int a) (.int b) = some (.bl (!decide (a = b))) := fun a b => rfl
    have eq : ∀ a b : Int, op2 .eq (.int a) (.int b) = some (.bl (decide (a = b))) := fun a b => rfl
    simp only [F_Box__eq__]
    walk_at "px"
    clear ne
    generalize decide (x = x') = c1
    generalize decide (y = y') = c2
    cases c1
    · walk_at "px"
    · cases c2
      · walk_at "px"
      · walk_at "px"
        clear eq
        generalize decide (w = w') = c3
        generalize decide (h = h') = c4
        cases c3
        · walk_at "px"
        · walk_at "px"
  · simp only [F_Box__eq__]
    walk_at "px"
end PP
end
section
set_option maxHeartbeats 400000
namespace PP
open PySem L2
mutual
def smlD : D → Bool
  | .non => true | .bl _ => true | .int i => decide (i.natAbs < 2 ^ 64) | .lst xs => smlL xs | .tup xs => smlL xs | .kst xs => smlL xs | _ => false
def smlL : List D → Bool
  | [] => true | d :: r => smlD d && smlL r
end
mutual
def szD : D → Nat
  | .lst xs => szL xs + 3 | .tup xs => szL xs + 3 | .kst xs => szL xs + 3 | _ => 70
def szL : List D → Nat
  | [] => 0 | d :: r => szD d + 2 + szL r
end
theorem textFrom_le : ∀ (ts : List Str) (k : Nat) (acc : Str), (textFrom k acc ts).length ≤ acc.length + (ts.map fun t => t.length + 2).sum
  | [], k, acc => by show acc.length ≤ _; omega
  | t :: r, k, acc => by
    have ih := textFrom_le r (k + 1) (acc ++ (if k > 0 then ", " else "" : String) ++ t)
    have e : textFrom k acc (t :: r) = textFrom (k + 1) (acc ++ (if k > 0 then ", " else "" : String) ++ t) r := rfl
    rw [e]
    refine Nat.le_trans ih ?_
    rw [len_app, len_app, len_ofS, List.map_cons, List.sum_cons]
    have : (if k > 0 then ", " else "" : String).length ≤ 2 := by split <;> decide
    omega
theorem join_le : ∀ ts : List Str, (Str.join ", " ts).length ≤ (ts.map fun t => t.length + 2).sum
  | [] => by show (0 : Nat) ≤ _; omega
  | [x] => by show x.length ≤ _; simp
  | x :: y :: r => by
    have ih := join_le (y :: r)
    have e : Str.join ", " (x :: y :: r) = x ++ ", " ++ Str.join ", " (y :: r) := rfl
    rw [e, len_app, len_app, List.map_cons, List.sum_cons]
    have : (Str.ofString ", ").length = 2 := by rw [len_ofS]; rfl
    omega
theorem log64 {i : Int} (h : i.natAbs < 2 ^ 64) : i.natAbs.log2 < 64 := by
  by_cases c : i.natAbs = 0
  · rw [c]; decide
  · exact (Nat.log2_lt c).mpr h
open PyData in
mutual
theorem rp_sm : ∀ d : D, smlD d = true → ∃ p, toPy d = some p ∧ p.showable = true ∧ p.hasDict = false ∧ p.shown.length ≤ szD d ∧ p.depth = dpD d
  | .non, _ => ⟨.none, rfl, by simp only [showable], by simp only [hasDict], by simp only [shown]; decide, by simp [PyData.depth, dpD]⟩
  | .bl b, _ => ⟨.bool b, rfl, by simp only [showable], by simp only [hasDict], by simp only [shown]; cases b <;> decide, by simp [PyData.depth, dpD]⟩
  | .int i, h => by
    simp only [smlD, decide_eq_true_eq] at h
    have hl := log64 h
    refine ⟨.int i, rfl, ?_, by simp only [hasDict], ?_, by simp [PyData.depth, dpD]⟩
    · simp only [showable, decide_eq_true_eq]; omega
    · simp only [shown, szD]
      rw [len_ofS]
      exact Nat.le_trans (int_text_length_le (by decide : 0 < 64) hl) (by decide)
  | .lst xs, h => by
    obtain ⟨ps, h1, h2, h3, h4, h5⟩ := rps_sm xs (by simpa only [smlD] using h)
    refine ⟨.list ps, by simp only [toPy, h1, Option.map_some], by simp only [showable, h2], by simp only [hasDict, h3], ?_, by simp only [PyData.depth, dpD, h5]⟩
    simp only [shown, szD, listText]
    rw [len_app, len_ofS]
    have := textFrom_le (shownAll ps) 0 (Str.ofString "[")
    rw [len_ofS] at this
    have e1 : "[".length = 1 := rfl
    have e2 : "]".length = 1 := rfl
    omega
  | .kst xs, h => by
    obtain ⟨ps, h1, h2, h3, h4, h5⟩ := rps_sm xs (by simpa only [smlD] using h)
    refine ⟨.list ps, by simp only [toPy, h1, Option.map_some], by simp only [showable, h2], by simp only [hasDict, h3], ?_, by simp only [PyData.depth, dpD, h5]⟩
    simp only [shown, szD, listText]
    rw [len_app, len_ofS]
    have := textFrom_le (shownAll ps) 0 (Str.ofString "[")
    rw [len_ofS] at this
    have e1 : "[".length = 1 := rfl
    have e2 : "]".length = 1 := rfl
    omega
  | .tup xs, h => by
    obtain ⟨ps, h1, h2, h3, h4, h5⟩ := rps_sm xs (by simpa only [smlD] using h)
    refine ⟨.tuple ps, by simp only [toPy, h1, Option.map_some], by simp only [showable, h2], by simp only [hasDict, h3], ?_, by simp only [PyData.depth, dpD, h5]⟩
    simp only [shown, szD, tupleText]
    rw [len_app, len_app, len_ofS, len_ofS]
    have := join_le (shownAll ps)
    have e1 : "(".length = 1 := rfl
    have e2 : (if (shownAll ps).length == 1 then ",)" else ")" : String).length ≤ 2 := by split <;> decide
    omega
  | .str _, h => by simp [smlD] at h
  | .dK _ _, h => by simp [smlD] at h
  | .dT _ _, h => by simp [smlD] at h
  | .obj _ _ _, h => by simp [smlD] at h
  | .cls _, h => by simp [smlD] at h
  | .err _ _ _, h => by simp [smlD] at h
theorem rps_sm : ∀ ds : List D, smlL ds = true → ∃ ps, toPyAll ds = some ps ∧ showableAll ps = true ∧ hasDictAll ps = false ∧ ((shownAll ps).map fun t => t.length + 2).sum ≤ szL ds ∧ depthAll ps = dpL ds
  | [], _ => ⟨[], rfl, by simp only [showableAll], by simp only [hasDictAll], by simp [shownAll, szL], by simp [PyData.depthAll, dpL]⟩
  | d :: r, h => by
    simp only [smlL, Bool.and_eq_true] at h
    obtain ⟨p, h1, h2, h3, h4, h5⟩ := rp_sm d h.1
    obtain ⟨ps, g1, g2, g3, g4, g5⟩ := rps_sm r h.2
    refine ⟨p :: ps, by simp only [toPyAll, h1, g1], by simp only [showableAll, h2, g2, Bool.and_self], by simp only [hasDictAll, h3, g3, Bool.or_self], ?_, by simp only [PyData.depthAll, dpL, h5, g5]⟩
    simp only [shownAll, szL, List.map_cons, List.sum_cons]
    omega
end
theorem repr_sm {d : D} (h : smlD d = true) (hs : szD d ≤ 100000) (hd : dpD d ≤ 64) : ∃ z, biD .repr [d] = some (.str z) := by
  obtain ⟨p, h1, h2, h3, h4, h5⟩ := rp_sm d h
  refine ⟨p.shown, ?_⟩
  have e : biD .repr [d] = (match toPy d with
      | some p => if p.showable && !p.hasDict && decide (p.shown.length ≤ LIM) && decide (p.depth ≤ 64) then some (.str p.shown) else none
      | none => none) := by
    cases d <;> first | rfl | (simp [smlD] at h)
  rw [e, h1]
  simp only
  rw [if_pos (by
    simp only [h2, h3, Bool.not_false, Bool.true_and, Bool.and_eq_true, decide_eq_true_eq]
    exact ⟨Nat.le_trans h4 hs, by omega⟩)]
end PP
end
section
set_option maxHeartbeats 4000000
namespace LW
open PySem PySem.Spec PyProof.Rows L2 PP
def fn19 : Fn := { n := 0, body := (.cons (.ret (.op2 .mul (.op2 .pow (.cst (.int 2)) (.cst (.int 50))) (.op2 .pow (.cst (.int 2)) (.cst (.int 50))))) .nil) }
def fn20 : Fn := { n := 1, body := (.cons (.ret (.lst (.cons (.bi .list (.cons (.slice (.var 0) false true (.cst .non) (.cst (.int 63))) .nil)) (.cons (.cst (.int 0)) (.cons (.cst (.int 0)) .nil))))) .nil) }
def fn21 : Fn := { n := 7, body := (.cons (.iff (.op2 .gt (.ix (.var 0) (.cst (.int 2))) (.cst (.int 0))) (.cons (.asg 2 (.op2 .mod (.bi .int (.cons (.ix (.var 0) (.cst (.int 2))) .nil)) (.var 1))) (.cons (.setI 0 (.cst (.int 2)) (.op2 .fdiv (.bi .int (.cons (.ix (.var 0) (.cst (.int 2))) .nil)) (.var 1))) (.cons (.ret (.var 2)) .nil))) .nil) (.cons (.asg 3 (.ix (.var 0) (.cst (.int 1)))) (.cons (.setI 0 (.cst (.int 1)) (.op2 .add (.var 3) (.cst (.int 1)))) (.cons (.asg 4 (.op2 .add (.op2 .mul (.cst (.int 34019)) (.var 3)) (.cst (.int 3673)))) (.cons (.iff (.op2 .ne (.ix (.var 0) (.cst (.int 0))) (.lst .nil)) (.cons (.asg 4 (.ix (.ix (.var 0) (.cst (.int 0))) (.op2 .mod (.bi .int (.cons (.var 3) .nil)) (.bi .len (.cons (.ix (.var 0) (.cst (.int 0))) .nil))))) .nil) .nil) (.cons (.iff (.and (.op2 .lt (.var 3) (.bi .len (.cons (.ix (.var 0) (.cst (.int 0))) .nil))) (.op2 .ge (.bi .abs (.cons (.var 4) .nil)) (.op2 .pow (.cst (.int 10)) (.cst (.int 18))))) (.cons (.asg 5 (.op2 .add (.op2 .mul (.cst (.int 2)) (.op2 .sub (.bi .abs (.cons (.var 4) .nil)) (.op2 .pow (.cst (.int 10)) (.cst (.int 18))))) (.bi .int (.cons (.op2 .lt (.var 4) (.cst (.int 0))) .nil)))) (.cons (.setI 0 (.cst (.int 2)) (.op2 .fdiv (.bi .int (.cons (.var 5) .nil)) (.var 1))) (.cons (.ret (.op2 .mod (.bi .int (.cons (.var 5) .nil)) (.var 1))) .nil))) .nil) (.cons (.asg 6 (.op2 .mod (.bi .int (.cons (.op2 .pow (.op2 .add (.op2 .add (.op2 .mod (.bi .int (.cons (.var 4) .nil)) (.cst (.int 2147483549))) (.op2 .mul (.cst (.int 47189)) (.var 3))) (.cst (.int 827))) (.cst (.int 5))) .nil)) (.cst (.int 2147483629)))) (.cons (.asg 6 (.op2 .mod (.bi .int (.cons (.op2 .pow (.op2 .add (.op2 .add (.op2 .mul (.var 6) (.op2 .add (.op2 .mul (.cst (.int 2)) (.var 3)) (.cst (.int 397)))) (.op2 .mul (.op2 .mul (.cst (.int 53813)) (.var 3)) (.var 3))) (.cst (.int 97))) (.cst (.int 3))) .nil)) (.cst (.int 2147483587)))) (.cons (.ret (.op2 .mod (.bi .int (.cons (.op2 .fdiv (.var 6) (.cst (.int 32))) .nil)) (.var 1))) .nil))))))))) }
def fn22 : Fn := { n := 2, body := (.cons (.ret (.ix (.var 1) (.call 502 [true, false] (.cons (.var 0) (.cons (.bi .len (.cons (.var 1) .nil)) .nil))))) .nil) }
def fn23 : Fn := { n := 1, body := (.cons (.ret (.call 503 [true, false] (.cons (.var 0) (.cons (.lst (.cons (.cst (.int 0)) (.cons (.cst (.int 1)) (.cons (.cst (.int 2)) (.cons (.cst (.int 3)) (.cons (.cst (.int 5)) (.cons (.cst (.int 8)) (.cons (.call 502 [true, false] (.cons (.var 0) (.cons (.cst (.int 20)) .nil))) (.cons (.op2 .sub (.op2 .fdiv (.call 500 [] .nil) (.cst (.int 2))) (.call 502 [true, false] (.cons (.var 0) (.cons (.cst (.int 3)) .nil)))) .nil))))))))) .nil)))) .nil) }
def fn24 : Fn := { n := 1, body := (.cons (.ret (.call 503 [true, false] (.cons (.var 0) (.cons (.lst (.cons (.cst (.int 1)) (.cons (.cst (.int 1)) (.cons (.cst (.int 2)) (.cons (.cst (.int 3)) (.cons (.cst (.int 4)) (.cons (.op2 .add (.cst (.int 1)) (.call 502 [true, false] (.cons (.var 0) (.cons (.cst (.int 9)) .nil)))) (.cons (.op2 .add (.op2 .fdiv (.call 500 [] .nil) (.cst (.int 2))) (.call 502 [true, false] (.cons (.var 0) (.cons (.cst (.int 3)) .nil)))) .nil)))))))) .nil)))) .nil) }
def fn25 : Fn := { n := 1, body := (.cons (.ret (.tup (.cons (.call 504 [true] (.cons (.var 0) .nil)) (.cons (.call 504 [true] (.cons (.var 0) .nil)) (.cons (.call 505 [true] (.cons (.var 0) .nil)) (.cons (.call 505 [true] (.cons (.var 0) .nil)) .nil)))))) .nil) }
def fn26 : Fn := { n := 2, body := (.cons (.ret (.cmt 5 51 1 (.cons (.bm .join (.cst (.str " ")) (.lc [1] (.nm 1) (.seq (.var 0)) false (.cst .non) (.bi .str (.cons (.var 1) .nil)))) .nil))) .nil) }
def fn27 : Fn := { n := 1, body := (.cons (.ret (.tup (.cons (.fld (.var 0) 2) (.cons (.fld (.var 0) 3) (.cons (.fld (.var 0) 4) (.cons (.fld (.var 0) 5) .nil)))))) .nil) }
def fn28 : Fn := { n := 9, body := (.cons (.unp [2, 3, 4, 5] (.var 1)) (.cons (.par [6, 7] (.cons (.bi .min2 (.cons (.bi .int (.cons (.op2 .add (.var 2) (.var 4)) .nil)) (.cons (.op2 .sub (.call 500 [] .nil) (.cst (.int 1))) .nil))) (.cons (.bi .min2 (.cons (.bi .int (.cons (.op2 .add (.var 3) (.var 5)) .nil)) (.cons (.op2 .sub (.call 500 [] .nil) (.cst (.int 3))) .nil))) .nil))) (.cons (.asg 8 (.call 502 [true, false] (.cons (.var 0) (.cons (.cst (.int 6)) .nil)))) (.cons (.iff (.op2 .eq (.var 8) (.cst (.int 0))) (.cons (.ret (.var 1)) .nil) .nil) (.cons (.iff (.op2 .eq (.var 8) (.cst (.int 1))) (.cons (.ret (.tup (.cons (.var 2) (.cons (.var 3) (.cons (.op2 .add (.cst (.int 1)) (.call 502 [true, false] (.cons (.var 0) (.cons (.bi .min2 (.cons (.bi .int (.cons (.var 4) .nil)) (.cons (.cst (.int 40)) .nil))) .nil)))) (.cons (.op2 .add (.cst (.int 1)) (.call 502 [true, false] (.cons (.var 0) (.cons (.bi .min2 (.cons (.bi .int (.cons (.var 5) .nil)) (.cons (.cst (.int 40)) .nil))) .nil)))) .nil)))))) .nil) .nil) (.cons (.iff (.op2 .eq (.var 8) (.cst (.int 2))) (.cons (.ret (.tup (.cons (.var 6) (.cons (.var 3) (.cons (.call 505 [true] (.cons (.var 0) .nil)) (.cons (.call 505 [true] (.cons (.var 0) .nil)) .nil)))))) .nil) .nil) (.cons (.iff (.op2 .eq (.var 8) (.cst (.int 3))) (.cons (.ret (.tup (.cons (.op2 .sub (.var 6) (.cst (.int 1))) (.cons (.op2 .sub (.var 7) (.cst (.int 1))) (.cons (.call 505 [true] (.cons (.var 0) .nil)) (.cons (.var 5) .nil)))))) .nil) .nil) (.cons (.iff (.op2 .eq (.var 8) (.cst (.int 4))) (.cons (.ret (.tup (.cons (.var 2) (.cons (.op2 .add (.var 7) (.call 502 [true, false] (.cons (.var 0) (.cons (.cst (.int 3)) .nil)))) (.cons (.var 4) (.cons (.op2 .add (.cst (.int 1)) (.call 502 [true, false] (.cons (.var 0) (.cons (.cst (.int 4)) .nil)))) .nil)))))) .nil) .nil) (.cons (.ret (.call 506 [true] (.cons (.var 0) .nil))) .nil))))))))) }
def fn29 : Fn := { n := 5, body := (.cons (.asg 2 (.lc [3] (.nm 3) (.rng (.cst (.int 0)) (.cst (.int 2))) false (.cst .non) (.bi .max2 (.cons (.bi .int (.cons (.ix (.var 0) (.var 3)) .nil)) (.cons (.bi .int (.cons (.ix (.var 1) (.var 3)) .nil)) .nil))))) (.cons (.asg 4 (.lc [3] (.nm 3) (.rng (.cst (.int 0)) (.cst (.int 2))) false (.cst .non) (.bi .min2 (.cons (.bi .int (.cons (.op2 .add (.ix (.var 0) (.var 3)) (.ix (.var 0) (.op2 .add (.var 3) (.cst (.int 2))))) .nil)) (.cons (.bi .int (.cons (.op2 .add (.ix (.var 1) (.var 3)) (.ix (.var 1) (.op2 .add (.var 3) (.cst (.int 2))))) .nil)) .nil))))) (.cons (.iff (.or (.op2 .ge (.ix (.var 2) (.cst (.int 0))) (.ix (.var 4) (.cst (.int 0)))) (.op2 .ge (.ix (.var 2) (.cst (.int 1))) (.ix (.var 4) (.cst (.int 1))))) (.cons (.ret (.cst .non)) .nil) .nil) (.cons (.ret (.tup (.cons (.ix (.var 2) (.cst (.int 0))) (.cons (.ix (.var 2) (.cst (.int 1))) (.cons (.op2 .sub (.ix (.var 4) (.cst (.int 0))) (.ix (.var 2) (.cst (.int 0)))) (.cons (.op2 .sub (.ix (.var 4) (.cst (.int 1))) (.ix (.var 2) (.cst (.int 1)))) .nil)))))) .nil)))) }
def fn30 : Fn := { n := 5, body := (.cons (.asg 2 (.lc [3] (.nm 3) (.rng (.cst (.int 0)) (.cst (.int 2))) false (.cst .non) (.bi .min2 (.cons (.bi .int (.cons (.ix (.var 0) (.var 3)) .nil)) (.cons (.bi .int (.cons (.ix (.var 1) (.var 3)) .nil)) .nil))))) (.cons (.asg 4 (.lc [3] (.nm 3) (.rng (.cst (.int 0)) (.cst (.int 2))) false (.cst .non) (.bi .max2 (.cons (.bi .int (.cons (.op2 .add (.ix (.var 0) (.var 3)) (.ix (.var 0) (.op2 .add (.var 3) (.cst (.int 2))))) .nil)) (.cons (.bi .int (.cons (.op2 .add (.ix (.var 1) (.var 3)) (.ix (.var 1) (.op2 .add (.var 3) (.cst (.int 2))))) .nil)) .nil))))) (.cons (.ret (.tup (.cons (.ix (.var 2) (.cst (.int 0))) (.cons (.ix (.var 2) (.cst (.int 1))) (.cons (.op2 .sub (.ix (.var 4) (.cst (.int 0))) (.ix (.var 2) (.cst (.int 0)))) (.cons (.op2 .sub (.ix (.var 4) (.cst (.int 1))) (.ix (.var 2) (.cst (.int 1)))) .nil)))))) .nil))) }
def fn31 : Fn := { n := 5, body := (.cons (.par [3, 4] (.cons (.var 1) (.cons (.var 1) .nil))) (.cons (.iff (.op2 .eq (.var 0) (.cst (.int 0))) (.cons (.asg 3 (.opo .band [5] [0, 1, 2, 3, 4, 5, 6] (.var 3) (.var 2))) .nil) (.cons (.asg 3 (.opo .bor [5] [0, 1, 2, 3, 4, 5, 6] (.var 3) (.var 2))) .nil)) (.cons (.ret (.lst (.cons (.var 3) (.cons (.var 4) .nil)))) .nil))) }
def fn32 : Fn := { n := 4, body := (.cons (.unp [1, 2] (.tup (.cons (.cst .non) (.cons (.cst .non) .nil)))) (.cons (.tryC (.cons (.asg 2 (.ask 0)) .nil) [0, 1, 3, 6] 3 1) (.cons (.iff (.op2 .is (.var 1) (.cst .non)) (.cons (.ret (.call 508 [false] (.cons (.var 2) .nil))) .nil) .nil) (.cons (.ret (.ife (.isObj [3] (.var 1)) (.fld (.var 1) 1) (.cst (.str "odd")))) .nil)))), lam := true }
def fn33 : Fn := { n := 1, body := (.cons (.iff (.op2 .gt (.ix (.var 0) (.cst (.int 2))) (.call 500 [] .nil)) (.cons (.ret (.cst (.str "width"))) .nil) .nil) (.cons (.ret (.ife (.op2 .gt (.ix (.var 0) (.cst (.int 3))) (.call 500 [] .nil)) (.cst (.str "height")) (.var 0))) .nil)) }
def fn34 : Fn := { n := 12, body := (.cons (.unp [2, 3] (.tup (.cons (.call 507 [false] (.cons (.var 0) .nil)) (.cons (.call 507 [false] (.cons (.var 1) .nil)) .nil)))) (.cons (.par [4, 5] (.cons (.call 510 [false, false] (.cons (.var 0) (.cons (.var 1) .nil))) (.cons (.call 511 [false, false] (.cons (.var 0) (.cons (.var 1) .nil))) .nil))) (.cons (.asg 6 (.opo .band [5] [0, 1, 2, 3, 4, 5, 6] (.var 2) (.var 3))) (.cons (.iff (.or (.op2 .ne (.op2 .is (.var 6) (.cst .non)) (.op2 .is (.var 4) (.cst .non))) (.and (.op2 .isnot (.var 6) (.cst .non)) (.op2 .ne (.call 508 [false] (.cons (.var 6) .nil)) (.var 4)))) (.cons (.ret (.cst (.bl false))) .nil) .nil) (.cons (.iff (.op2 .ne (.heard 513 [2, 3] (.opo .bor [5] [0, 1, 2, 3, 4, 5, 6] (.var 2) (.var 3))) (.call 514 [false] (.cons (.var 5) .nil))) (.cons (.ret (.cst (.bl false))) .nil) .nil) (.cons (.par [7, 8] (.cons (.op2 .eq (.var 4) (.var 0)) (.cons (.op2 .eq (.var 4) (.var 1)) .nil))) (.cons (.asg 6 (.lst (.cons (.opo .le [5] [0, 1, 2, 3, 4, 5, 6] (.var 2) (.var 3)) (.cons (.opo .lt [5] [0, 1, 2, 3, 4, 5, 6] (.var 2) (.var 3)) (.cons (.opo .ge [5] [0, 1, 2, 3, 4, 5, 6] (.var 2) (.var 3)) (.cons (.opo .gt [5] [0, 1, 2, 3, 4, 5, 6] (.var 2) (.var 3)) .nil)))))) (.cons (.iff (.op2 .ne (.bi .repr (.cons (.var 6) .nil)) (.bi .repr (.cons (.lst (.cons (.var 7) (.cons (.and (.var 7) (.op2 .ne (.var 0) (.var 1))) (.cons (.var 8) (.cons (.and (.var 8) (.op2 .ne (.var 0) (.var 1))) .nil))))) .nil))) (.cons (.ret (.cst (.bl false))) .nil) .nil) (.cons (.iff (.op2 .gt (.bi .max2 (.cons (.bi .int (.cons (.ix (.var 5) (.cst (.int 2))) .nil)) (.cons (.bi .int (.cons (.ix (.var 5) (.cst (.int 3))) .nil)) .nil))) (.call 500 [] .nil)) (.cons (.ret (.cst (.bl true))) .nil) .nil) (.cons (.asg 9 (.lst (.cons (.opo .band [5] [0, 1, 2, 3, 4, 5, 6] (.var 2) (.var 3)) (.cons (.opo .bor [5] [0, 1, 2, 3, 4, 5, 6] (.var 2) (.var 3)) .nil)))) (.cons (.iff (.neL [5] (.lc [10] (.nm 10) (.rng (.cst (.int 0)) (.cst (.int 2))) false (.cst .non) (.call 512 [false, false, false] (.cons (.var 10) (.cons (.var 2) (.cons (.var 3) .nil))))) (.lc [11] (.nm 11) (.seq (.var 9)) false (.cst .non) (.lst (.cons (.var 11) (.cons (.var 2) .nil))))) (.cons (.ret (.cst (.bl false))) .nil) .nil) (.cons (.ret (.and (.op2 .eq (.call 508 [false] (.cons (.var 2) .nil)) (.var 0)) (.op2 .eq (.call 508 [false] (.cons (.var 3) .nil)) (.var 1)))) .nil)))))))))))) }
def fn35 : Fn := { n := 10, body := (.cons (.asg 1 (.call 501 [false] (.cons (.var 0) .nil))) (.cons (.forr 2 (.cst (.int 9)) (.cons (.asg 3 (.call 506 [true] (.cons (.var 1) .nil))) (.cons (.asg 4 (.call 509 [true, false] (.cons (.var 1) (.cons (.var 3) .nil)))) (.cons (.iff (.or (.not (.call 515 [false, false] (.cons (.var 3) (.cons (.var 4) .nil)))) (.or (.not (.call 515 [false, false] (.cons (.var 4) (.cons (.var 3) .nil)))) (.not (.call 515 [false, false] (.cons (.var 3) (.cons (.var 3) .nil)))))) (.cons (.ret (.cst (.bl false))) .nil) .nil) .nil)))) (.cons (.par [5, 6] (.cons (.mk 5 [false, false, false, false] (.cons (.cst (.int 0)) (.cons (.cst (.int 0)) (.cons (.call 500 [] .nil) (.cons (.cst (.int 1)) .nil)))) []) (.cons (.mk 5 [false, false] (.cons (.op2 .sub (.call 500 [] .nil) (.cst (.int 1))) (.cons (.cst (.int 0)) .nil)) [(.int 1), (.int 1)]) .nil))) (.cons (.iff (.or (.neo [5] (.opo .band [5] [0, 1, 2, 3, 4, 5, 6] (.var 5) (.var 6)) (.var 6)) (.or (.neo [5] (.opo .bor [5] [0, 1, 2, 3, 4, 5, 6] (.var 5) (.var 6)) (.var 5)) (.op2 .isnot (.opo .band [5] [0, 1, 2, 3, 4, 5, 6] (.mk 5 [false, false] (.cons (.cst (.int 0)) (.cons (.cst (.int 0)) .nil)) [(.int 1), (.int 1)]) (.mk 5 [false, false] (.cons (.cst (.int 1)) (.cons (.cst (.int 0)) .nil)) [(.int 1), (.int 1)])) (.cst .non)))) (.cons (.ret (.cst (.bl false))) .nil) .nil) (.cons (.unp [7, 8] (.tup (.cons (.mk 5 [false, false, false] (.cons (.op2 .sub (.call 500 [] .nil) (.cst (.int 1))) (.cons (.cst (.int 0)) (.cons (.call 500 [] .nil) .nil))) [(.int 1)]) (.cons (.mk 5 [false, false, false, false] (.cons (.cst (.int 0)) (.cons (.op2 .sub (.call 500 [] .nil) (.cst (.int 1))) (.cons (.cst (.int 1)) (.cons (.call 500 [] .nil) .nil)))) []) .nil)))) (.cons (.asg 9 (.lst (.cons (.heard 513 [7] (.opo .bor [5] [0, 1, 2, 3, 4, 5, 6] (.mk 5 [false, false] (.cons (.cst (.int 0)) (.cons (.cst (.int 0)) .nil)) [(.int 1), (.int 1)]) (.var 7))) .nil))) (.cons (.app 9 (.heard 513 [8] (.opo .bor [5] [0, 1, 2, 3, 4, 5, 6] (.mk 5 [false, false] (.cons (.cst (.int 0)) (.cons (.cst (.int 0)) .nil)) [(.int 1), (.int 1)]) (.var 8)))) (.cons (.app 9 (.heard 513 [7, 8] (.opo .bor [5] [0, 1, 2, 3, 4, 5, 6] (.var 8) (.var 7)))) (.cons (.iff (.op2 .ne (.var 9) (.lst (.cons (.cst (.str "width")) (.cons (.cst (.str "height")) (.cons (.cst (.str "width")) .nil))))) (.cons (.ret (.cst (.bl false))) .nil) .nil) (.cons (.ret (.opo .eq [5] [0, 1, 2, 3, 4, 5, 6] (.opo .bor [5] [0, 1, 2, 3, 4, 5, 6] (.mk 5 [false, false] (.cons (.cst (.int 0)) (.cons (.cst (.int 0)) .nil)) [(.int 1), (.int 1)]) (.mk 5 [false, false] (.cons (.cst (.int 1)) (.cons (.cst (.int 1)) .nil)) [(.int 1), (.int 1)])) (.mk 5 [false, false, false, false] (.cons (.cst (.int 0)) (.cons (.cst (.int 0)) (.cons (.cst (.int 2)) (.cons (.cst (.int 2)) .nil)))) []))) .nil)))))))))) }
def fs : Nat → Option Fn
  | 0 => some F_is_integer
  | 1 => some F_is_between
  | 10 => some F_number_in
  | 4 => some F_need_box
  | 7 => some F_is_within
  | 8 => some F_common_box
  | 9 => some F_least_box
  | 6000 => some F_Box__init__
  | 6051 => some F_Box_read
  | 6009 => some F_Box__and__
  | 6010 => some F_Box__or__
  | 6013 => some F_Box__le__
  | 6012 => some F_Box__lt__
  | 6015 => some F_Box__ge__
  | 6014 => some F_Box__gt__
  | 6016 => some F_Box__eq__
  | 11 => some F_box_numbers
  | 500 => some fn19
  | 501 => some fn20
  | 502 => some fn21
  | 503 => some fn22
  | 504 => some fn23
  | 505 => some fn24
  | 506 => some fn25
  | 507 => some fn26
  | 508 => some fn27
  | 509 => some fn28
  | 510 => some fn29
  | 511 => some fn30
  | 512 => some fn31
  | 514 => some fn33
  | 515 => some fn34
  | 516 => some fn35
  | 513 => some fn32
  | _ => none
def fnm : Nat → Str
  | 1 => "part"
  | 2 => "x"
  | 3 => "y"
  | 4 => "width"
  | 5 => "height"
  | 6 => "line"
  | 7 => "word"
  | _ => ""
def cnm (K : PySem.W.Frag) : Nat → Option Addr
  | 0 => adr K "CurveError"
  | 1 => adr K "BadInput"
  | 3 => adr K "BadBox"
  | 6 => adr K "BadText"
  | 5 => adr K "Box"
  | _ => none
def foL : List (Nat × Nat) := [(3, 1), (6, 6), (6, 7), (5, 2), (5, 3), (5, 4), (5, 5)]
def ecL : Nat → Bool
  | 0 => true
  | 1 => true
  | 3 => true
  | 6 => true
  | 5 => false
  | _ => false
def tb (K : PySem.W.Frag) : Tbl := ⟨K, cnm K, fnm, fun c k => foL.contains (c, k), ttOf K lamN, ecL⟩
structure Tx (K : PySem.W.Frag) (mg : Str → Option Value) (fa ca pa cc ta : Nat → Addr) (fd : Nat → FuncData) : Prop where
  mC0 : mg "CurveError" = some (.ref (ca 0))
  cn0 : cnm K 0 = some (ca 0)
  mC1 : mg "BadInput" = some (.ref (ca 1))
  cn1 : cnm K 1 = some (ca 1)
  mC3 : mg "BadBox" = some (.ref (ca 3))
  cn3 : cnm K 3 = some (ca 3)
  mC6 : mg "BadText" = some (.ref (ca 6))
  cn6 : cnm K 6 = some (ca 6)
  mC5 : mg "Box" = some (.ref (ca 5))
  cn5 : cnm K 5 = some (ca 5)
  xr0 : XfC K (ca 0)
  xe0 : ExcC K (ca 0)
  na0 : ∀ f ∈ ([] : List Str), NoAttr K (ca 0) f
  xr1 : XfC K (ca 1)
  xe1 : ExcC K (ca 1)
  na1 : ∀ f ∈ ([] : List Str), NoAttr K (ca 1) f
  xr3 : XfC K (ca 3)
  xe3 : ExcC K (ca 3)
  na3 : ∀ f ∈ (["part"] : List Str), NoAttr K (ca 3) f
  ox3 : OexC K (ca 3)
  xi3 : PySem.W.findIn K (.ref (ca 3)) "__init__" = some (some (.ref (fa 3)))
  xt3 : PySem.W.typeIn K (.ref (fa 3)) = some (.type "function")
  cx3 : (tb K).cx 3 [1] = some (ca 3)
  xr6 : XfC K (ca 6)
  xe6 : ExcC K (ca 6)
  na6 : ∀ f ∈ (["line", "word"] : List Str), NoAttr K (ca 6) f
  ox6 : OexC K (ca 6)
  xi6 : PySem.W.findIn K (.ref (ca 6)) "__init__" = some (some (.ref (fa 4)))
  xt6 : PySem.W.typeIn K (.ref (fa 4)) = some (.type "function")
  cx6 : (tb K).cx 6 [7, 6] = some (ca 6)
  cl5 : Cls K (ca 5)
  cg5 : cgB K (ca 5) = true
  na5 : ∀ f ∈ (["x", "y", "width", "height"] : List Str), NoAttr K (ca 5) f
  ck5 : (tb K).ck 5 [] = some (ca 5)
  mk5 : Mk K (ca 5) (fa 9)
  m0 : mg "is_integer" = some (.ref (fa 0))
  f0 : FunV K "is_integer" "is_integer" st0 (fa 0) (fd 0)
  b0 : Binds K (fd 0) ["value"] []
  m1 : mg "is_between" = some (.ref (fa 1))
  f1 : FunV K "is_between" "is_between" st1 (fa 1) (fd 1)
  b1 : Binds K (fd 1) ["value", "least", "most"] []
  m2 : mg "number_in" = some (.ref (fa 2))
  f2 : FunV K "number_in" "number_in" st2 (fa 2) (fd 2)
  b2 : Binds K (fd 2) ["word", "least", "most"] []
  f3 : FunV K "__init__" "BadBox.__init__" st3 (fa 3) (fd 3)
  b3 : Binds K (fd 3) ["self", "part"] []
  f4 : FunV K "__init__" "BadText.__init__" st4 (fa 4) (fd 4)
  b4 : Binds K (fd 4) ["self", "line", "word"] []
  m5 : mg "need_box" = some (.ref (fa 5))
  f5 : FunV K "need_box" "need_box" st5 (fa 5) (fd 5)
  b5 : Binds K (fd 5) ["other"] []
  m6 : mg "is_within" = some (.ref (fa 6))
  f6 : FunV K "is_within" "is_within" st6 (fa 6) (fd 6)
  b6 : Binds K (fd 6) ["one", "other"] []
  m7 : mg "common_box" = some (.ref (fa 7))
  f7 : FunV K "common_box" "common_box" st7 (fa 7) (fd 7)
  b7 : Binds K (fd 7) ["one", "other"] []
  m8 : mg "least_box" = some (.ref (fa 8))
  f8 : FunV K "least_box" "least_box" st8 (fa 8) (fd 8)
  b8 : Binds K (fd 8) ["one", "other"] []
  f9 : FunV K "__init__" "Box.__init__" st9 (fa 9) (fd 9)
  bd9_0 : ∃ dus, Vals ([.int 1, .int 1] : List V) dus ∧ Binds K (fd 9) ["self", "x", "y", "width", "height"] dus
  bd9_1 : ∃ dus, Vals ([.int 1] : List V) dus ∧ Binds K (fd 9) ["self", "x", "y", "width", "height"] dus
  bd9_2 : ∃ dus, Vals ([] : List V) dus ∧ Binds K (fd 9) ["self", "x", "y", "width", "height"] dus
  b0d9 : Binds K (fd 9) ["self", "x", "y", "width", "height"] []
  cr10 : ClX.CRead K (ca 5) (.type "type")
  cm10 : ClX.CMet K (ca 5) (.type "type") "read" (pa 10) (fa 10)
  f10 : FunV K "read" "Box.read" st10 (fa 10) (fd 10)
  b10 : Binds K (fd 10) ["cls", "text"] []
  me5_11 : Meth K (ca 5) "__and__" (fa 11)
  f11 : FunV K "__and__" "Box.__and__" st11 (fa 11) (fd 11)
  b11 : Binds K (fd 11) ["self", "other"] []
  me5_12 : Meth K (ca 5) "__or__" (fa 12)
  f12 : FunV K "__or__" "Box.__or__" st12 (fa 12) (fd 12)
  b12 : Binds K (fd 12) ["self", "other"] []
  me5_13 : Meth K (ca 5) "__le__" (fa 13)
  f13 : FunV K "__le__" "Box.__le__" st13 (fa 13) (fd 13)
  b13 : Binds K (fd 13) ["self", "other"] []
  me5_14 : Meth K (ca 5) "__lt__" (fa 14)
  f14 : FunV K "__lt__" "Box.__lt__" st14 (fa 14) (fd 14)
  b14 : Binds K (fd 14) ["self", "other"] []
  me5_15 : Meth K (ca 5) "__ge__" (fa 15)
  f15 : FunV K "__ge__" "Box.__ge__" st15 (fa 15) (fd 15)
  b15 : Binds K (fd 15) ["self", "other"] []
  me5_16 : Meth K (ca 5) "__gt__" (fa 16)
  f16 : FunV K "__gt__" "Box.__gt__" st16 (fa 16) (fd 16)
  b16 : Binds K (fd 16) ["self", "other"] []
  me5_17 : Meth K (ca 5) "__eq__" (fa 17)
  f17 : FunV K "__eq__" "Box.__eq__" st17 (fa 17) (fd 17)
  b17 : Binds K (fd 17) ["self", "other"] []
  m18 : mg "box_numbers" = some (.ref (fa 18))
  f18 : FunV K "box_numbers" "box_numbers" st18 (fa 18) (fd 18)
  bd18_0 : ∃ dus, Vals ([.int 0, .int 0] : List V) dus ∧ Binds K (fd 18) ["words", "begin", "line"] dus
  m19 : mg "_law_top" = some (.ref (fa 19))
  f19 : FunV K "_law_top" "_law_top" st19 (fa 19) (fd 19)
  b19 : Binds K (fd 19) [] []
  m20 : mg "_law_pen" = some (.ref (fa 20))
  f20 : FunV K "_law_pen" "_law_pen" st20 (fa 20) (fd 20)
  b20 : Binds K (fd 20) ["_law_script"] []
  m21 : mg "_law_draw" = some (.ref (fa 21))
  f21 : FunV K "_law_draw" "_law_draw" st21 (fa 21) (fd 21)
  b21 : Binds K (fd 21) ["_law_pen_here", "_law_many"] []
  m22 : mg "_law_pick" = some (.ref (fa 22))
  f22 : FunV K "_law_pick" "_law_pick" st22 (fa 22) (fd 22)
  b22 : Binds K (fd 22) ["_law_pen_here", "_law_some"] []
  m23 : mg "_law_number" = some (.ref (fa 23))
  f23 : FunV K "_law_number" "_law_number" st23 (fa 23) (fd 23)
  b23 : Binds K (fd 23) ["_law_pen_here"] []
  m24 : mg "_law_side" = some (.ref (fa 24))
  f24 : FunV K "_law_side" "_law_side" st24 (fa 24) (fd 24)
  b24 : Binds K (fd 24) ["_law_pen_here"] []
  m25 : mg "_law_four" = some (.ref (fa 25))
  f25 : FunV K "_law_four" "_law_four" st25 (fa 25) (fd 25)
  b25 : Binds K (fd 25) ["_law_pen_here"] []
  m26 : mg "_law_made" = some (.ref (fa 26))
  f26 : FunV K "_law_made" "_law_made" st26 (fa 26) (fd 26)
  b26 : Binds K (fd 26) ["_law_four_here"] []
  m27 : mg "_law_told" = some (.ref (fa 27))
  f27 : FunV K "_law_told" "_law_told" st27 (fa 27) (fd 27)
  b27 : Binds K (fd 27) ["_law_box"] []
  m28 : mg "_law_near" = some (.ref (fa 28))
  f28 : FunV K "_law_near" "_law_near" st28 (fa 28) (fd 28)
  b28 : Binds K (fd 28) ["_law_pen_here", "_law_four_here"] []
  m29 : mg "_law_common" = some (.ref (fa 29))
  f29 : FunV K "_law_common" "_law_common" st29 (fa 29) (fd 29)
  b29 : Binds K (fd 29) ["_law_one", "_law_two"] []
  m30 : mg "_law_least" = some (.ref (fa 30))
  f30 : FunV K "_law_least" "_law_least" st30 (fa 30) (fd 30)
  b30 : Binds K (fd 30) ["_law_one", "_law_two"] []
  m31 : mg "_law_bound" = some (.ref (fa 31))
  f31 : FunV K "_law_bound" "_law_bound" st31 (fa 31) (fd 31)
  b31 : Binds K (fd 31) ["_law_way", "_law_made_here", "_law_more"] []
  m32 : mg "_law_heard" = some (.ref (fa 32))
  f32 : FunV K "_law_heard" "_law_heard" st32 (fa 32) (fd 32)
  h32 : Fun K "_law_heard" "_law_heard" st32 (fa 32) (fd 32)
  b32 : Binds K (fd 32) ["_law_ask"] []
  m33 : mg "_law_due" = some (.ref (fa 33))
  f33 : FunV K "_law_due" "_law_due" st33 (fa 33) (fd 33)
  b33 : Binds K (fd 33) ["_law_four_here"] []
  m34 : mg "_law_two_right" = some (.ref (fa 34))
  f34 : FunV K "_law_two_right" "_law_two_right" st34 (fa 34) (fd 34)
  b34 : Binds K (fd 34) ["_law_one", "_law_two"] []
  q34 : (fd 34).code = .ref (cc 34)
  ti34 : PySem.W.tabIn K "_law_two_right" = some (cc 34, ta 34)
  tt34 : (ta 34, ("_law_two_right" : Str) ++ ".<locals>." ++ "<lambda>") ∈ ttOf K lamN
  tu34 : ∀ q ∈ ttOf K lamN, q.1 = ta 34 → q.2 = ("_law_two_right" : Str) ++ ".<locals>." ++ "<lambda>"
  m35 : mg "law" = some (.ref (fa 35))
  f35 : FunV K "law" "law" st35 (fa 35) (fd 35)
  b35 : Binds K (fd 35) ["_law_script"] []
  q35 : (fd 35).code = .ref (cc 35)
  ti35 : PySem.W.tabIn K "law" = some (cc 35, ta 35)
  tt35 : (ta 35, ("law" : Str) ++ ".<locals>." ++ "<lambda>") ∈ ttOf K lamN
  tu35 : ∀ q ∈ ttOf K lamN, q.1 = ta 35 → q.2 = ("law" : Str) ++ ".<locals>." ++ "<lambda>"
  is3 : isoB K (ca 3) [(ca 0, false), (ca 1, false), (ca 3, true), (ca 6, false), (ca 5, false)] = true
  is5 : isoB K (ca 5) [(ca 0, false), (ca 1, false), (ca 3, false), (ca 6, false), (ca 5, true)] = true
  ib : isbB K [ca 0, ca 1, ca 3, ca 6, ca 5] = true
  em0 : exmB K (ca 0) [ca 0, ca 1, ca 3, ca 6] = true
  nO5 : nfB K (ca 5) [ca 0, ca 1, ca 3, ca 6, ca 5] = true
  nE5 : neB K (ca 5) = true
  bc5__and__ : bcB K (ca 5) .BitAnd = true
  bc5__or__ : bcB K (ca 5) .BitOr = true
  ip5__and__ : ipB K (ca 5) (PySem.Operator.BitAnd).info.2 = true
  ip5__or__ : ipB K (ca 5) (PySem.Operator.BitOr).info.2 = true
  n_abs : mg "abs" = none
  n_all : mg "all" = none
  n_bool : mg "bool" = none
  n_int : mg "int" = none
  n_isinstance : mg "isinstance" = none
  n_len : mg "len" = none
  n_list : mg "list" = none
  n_max : mg "max" = none
  n_min : mg "min" = none
  n_range : mg "range" = none
  n_repr : mg "repr" = none
  n_str : mg "str" = none
  g_FIGURES : ∃ t, mg "FIGURES" = some (.str "0123456789" t)
  g_MOST_SIDE : ∃ t, mg "MOST_SIDE" = some (.int 1267650600228229401496703205376 t)
structure Al (P : Program) (w : World) (K : PySem.W.Frag) (mg : Str → Option Value) (base : Heap) (fa cc ta : Nat → Addr) (fd : Nat → FuncData) (k : Nat) : Prop where
  o0 : FnG P w K mg base (5 * k) (fa 0) (fd 0) ["value"] (spF (tb K) (calls fs k) 0 1)
  o1 : FnG P w K mg base (5 * k) (fa 1) (fd 1) ["value", "least", "most"] (spF (tb K) (calls fs k) 1 3)
  o2 : FnG P w K mg base (5 * k) (fa 2) (fd 2) ["word", "least", "most"] (spF (tb K) (calls fs k) 10 3)
  o5 : FnG P w K mg base (5 * k) (fa 5) (fd 5) ["other"] (spF (tb K) (calls fs k) 4 1)
  o6 : FnG P w K mg base (5 * k) (fa 6) (fd 6) ["one", "other"] (spF (tb K) (calls fs k) 7 2)
  o7 : FnG P w K mg base (5 * k) (fa 7) (fd 7) ["one", "other"] (spF (tb K) (calls fs k) 8 2)
  o8 : FnG P w K mg base (5 * k) (fa 8) (fd 8) ["one", "other"] (spF (tb K) (calls fs k) 9 2)
  o9 : FnG P w K mg base (5 * k) (fa 9) (fd 9) ["self", "x", "y", "width", "height"] (spF (tb K) (calls fs k) 6000 5)
  o10 : FnG P w K mg base (5 * k) (fa 10) (fd 10) ["cls", "text"] (spF (tb K) (calls fs k) 6051 2)
  o11 : FnG P w K mg base (5 * k) (fa 11) (fd 11) ["self", "other"] (spF (tb K) (calls fs k) 6009 2)
  o12 : FnG P w K mg base (5 * k) (fa 12) (fd 12) ["self", "other"] (spF (tb K) (calls fs k) 6010 2)
  o13 : FnG P w K mg base (5 * k) (fa 13) (fd 13) ["self", "other"] (spF (tb K) (calls fs k) 6013 2)
  o14 : FnG P w K mg base (5 * k) (fa 14) (fd 14) ["self", "other"] (spF (tb K) (calls fs k) 6012 2)
  o15 : FnG P w K mg base (5 * k) (fa 15) (fd 15) ["self", "other"] (spF (tb K) (calls fs k) 6015 2)
  o16 : FnG P w K mg base (5 * k) (fa 16) (fd 16) ["self", "other"] (spF (tb K) (calls fs k) 6014 2)
  o17 : FnG P w K mg base (5 * k) (fa 17) (fd 17) ["self", "other"] (spF (tb K) (calls fs k) 6016 2)
  o18 : FnG P w K mg base (5 * k) (fa 18) (fd 18) ["words", "begin", "line"] (spF (tb K) (calls fs k) 11 3)
  o19 : FnG P w K mg base (5 * k) (fa 19) (fd 19) [] (spF (tb K) (calls fs k) 500 0)
  o20 : FnG P w K mg base (5 * k) (fa 20) (fd 20) ["_law_script"] (spF (tb K) (calls fs k) 501 1)
  o21 : FnG P w K mg base (5 * k) (fa 21) (fd 21) ["_law_pen_here", "_law_many"] (spF (tb K) (calls fs k) 502 2)
  o22 : FnG P w K mg base (5 * k) (fa 22) (fd 22) ["_law_pen_here", "_law_some"] (spF (tb K) (calls fs k) 503 2)
  o23 : FnG P w K mg base (5 * k) (fa 23) (fd 23) ["_law_pen_here"] (spF (tb K) (calls fs k) 504 1)
  o24 : FnG P w K mg base (5 * k) (fa 24) (fd 24) ["_law_pen_here"] (spF (tb K) (calls fs k) 505 1)
  o25 : FnG P w K mg base (5 * k) (fa 25) (fd 25) ["_law_pen_here"] (spF (tb K) (calls fs k) 506 1)
  o26 : FnG P w K mg base (5 * k) (fa 26) (fd 26) ["_law_four_here"] (spF (tb K) (calls fs k) 507 1)
  o27 : FnG P w K mg base (5 * k) (fa 27) (fd 27) ["_law_box"] (spF (tb K) (calls fs k) 508 1)
  o28 : FnG P w K mg base (5 * k) (fa 28) (fd 28) ["_law_pen_here", "_law_four_here"] (spF (tb K) (calls fs k) 509 2)
  o29 : FnG P w K mg base (5 * k) (fa 29) (fd 29) ["_law_one", "_law_two"] (spF (tb K) (calls fs k) 510 2)
  o30 : FnG P w K mg base (5 * k) (fa 30) (fd 30) ["_law_one", "_law_two"] (spF (tb K) (calls fs k) 511 2)
  o31 : FnG P w K mg base (5 * k) (fa 31) (fd 31) ["_law_way", "_law_made_here", "_law_more"] (spF (tb K) (calls fs k) 512 3)
  o33 : FnG P w K mg base (5 * k) (fa 33) (fd 33) ["_law_four_here"] (spF (tb K) (calls fs k) 514 1)
  o34 : FnG P w K mg base (5 * k) (fa 34) (fd 34) ["_law_one", "_law_two"] (spF (tb K) (calls fs k) 515 2)
  o35 : FnG P w K mg base (5 * k) (fa 35) (fd 35) ["_law_script"] (spF (tb K) (calls fs k) 516 1)
  t34 : LamX.TabB base mg (cc 34) (ta 34)
  t35 : LamX.TabB base mg (cc 35) (ta 35)
section
variable {P : Program} {w : World} {K : PySem.W.Frag} {mg : Str → Option Value} {base : Heap} {fa ca pa cc ta : Nat → Addr} {fd : Nat → FuncData} {k : Nat}
theorem cnc (T : Tx K mg fa ca pa cc ta fd) {c : Nat} {C : Addr} (h : (tb K).cn c = some C) : (c = 0 ∧ C = ca 0) ∨ (c = 1 ∧ C = ca 1) ∨ (c = 3 ∧ C = ca 3) ∨ (c = 6 ∧ C = ca 6) ∨ (c = 5 ∧ C = ca 5) := by
  have h0 : cnm K c = some C := h
  unfold cnm at h0
  split at h0
  · exact .inl (⟨rfl, Option.some.inj (h.symm.trans T.cn0)⟩)
  · exact .inr (.inl (⟨rfl, Option.some.inj (h.symm.trans T.cn1)⟩))
  · exact .inr (.inr (.inl (⟨rfl, Option.some.inj (h.symm.trans T.cn3)⟩)))
  · exact .inr (.inr (.inr (.inl (⟨rfl, Option.some.inj (h.symm.trans T.cn6)⟩))))
  · exact .inr (.inr (.inr (.inr (⟨rfl, Option.some.inj (h.symm.trans T.cn5)⟩))))
  · cases h0
theorem fld_1 (T : Tx K mg fa ca pa cc ta fd) : FldOk K (tb K) 1 "part" where
  nm := rfl
  inj := fun c j _ _ h => by
    have h0 : fnm j = "part" := h
    unfold fnm at h0
    split at h0 <;> first | rfl | exact absurd h0 (by decide)
  ok := fun c C h hf he => by
    rcases cnc T h with ⟨rfl, rfl⟩ | ⟨rfl, rfl⟩ | ⟨rfl, rfl⟩ | ⟨rfl, rfl⟩ | ⟨rfl, rfl⟩
    · cases (show false = true from hf)
    · cases (show false = true from hf)
    · cases (show true = false from he)
    · cases (show false = true from hf)
    · cases (show false = true from hf)
  ex := fun c C h hf he => by
    rcases cnc T h with ⟨rfl, rfl⟩ | ⟨rfl, rfl⟩ | ⟨rfl, rfl⟩ | ⟨rfl, rfl⟩ | ⟨rfl, rfl⟩
    · cases (show false = true from hf)
    · cases (show false = true from hf)
    · exact ⟨T.xr3, T.na3 _ (by decide)⟩
    · cases (show false = true from hf)
    · cases (show false = true from hf)
theorem fld_2 (T : Tx K mg fa ca pa cc ta fd) : FldOk K (tb K) 2 "x" where
  nm := rfl
  inj := fun c j _ _ h => by
    have h0 : fnm j = "x" := h
    unfold fnm at h0
    split at h0 <;> first | rfl | exact absurd h0 (by decide)
  ok := fun c C h hf he => by
    rcases cnc T h with ⟨rfl, rfl⟩ | ⟨rfl, rfl⟩ | ⟨rfl, rfl⟩ | ⟨rfl, rfl⟩ | ⟨rfl, rfl⟩
    · cases (show false = true from hf)
    · cases (show false = true from hf)
    · cases (show false = true from hf)
    · cases (show false = true from hf)
    · exact ⟨T.cl5, T.na5 _ (by decide)⟩
  ex := fun c C h hf he => by
    rcases cnc T h with ⟨rfl, rfl⟩ | ⟨rfl, rfl⟩ | ⟨rfl, rfl⟩ | ⟨rfl, rfl⟩ | ⟨rfl, rfl⟩
    · cases (show false = true from hf)
    · cases (show false = true from hf)
    · cases (show false = true from hf)
    · cases (show false = true from hf)
    · cases (show false = true from he)
theorem fld_3 (T : Tx K mg fa ca pa cc ta fd) : FldOk K (tb K) 3 "y" where
  nm := rfl
  inj := fun c j _ _ h => by
    have h0 : fnm j = "y" := h
    unfold fnm at h0
    split at h0 <;> first | rfl | exact absurd h0 (by decide)
  ok := fun c C h hf he => by
    rcases cnc T h with ⟨rfl, rfl⟩ | ⟨rfl, rfl⟩ | ⟨rfl, rfl⟩ | ⟨rfl, rfl⟩ | ⟨rfl, rfl⟩
    · cases (show false = true from hf)
    · cases (show false = true from hf)
    · cases (show false = true from hf)
    · cases (show false = true from hf)
    · exact ⟨T.cl5, T.na5 _ (by decide)⟩
  ex := fun c C h hf he => by
    rcases cnc T h with ⟨rfl, rfl⟩ | ⟨rfl, rfl⟩ | ⟨rfl, rfl⟩ | ⟨rfl, rfl⟩ | ⟨rfl, rfl⟩
    · cases (show false = true from hf)
    · cases (show false = true from hf)
    · cases (show false = true from hf)
    · cases (show false = true from hf)
    · cases (show false = true from he)
theorem fld_4 (T : Tx K mg fa ca pa cc ta fd) : FldOk K (tb K) 4 "width" where
  nm := rfl
  inj := fun c j _ _ h => by
    have h0 : fnm j = "width" := h
    unfold fnm at h0
    split at h0 <;> first | rfl | exact absurd h0 (by decide)
  ok := fun c C h hf he => by
    rcases cnc T h with ⟨rfl, rfl⟩ | ⟨rfl, rfl⟩ | ⟨rfl, rfl⟩ | ⟨rfl, rfl⟩ | ⟨rfl, rfl⟩
    · cases (show false = true from hf)
    · cases (show false = true from hf)
    · cases (show false = true from hf)
    · cases (show false = true from hf)
    · exact ⟨T.cl5, T.na5 _ (by decide)⟩
  ex := fun c C h hf he => by
    rcases cnc T h with ⟨rfl, rfl⟩ | ⟨rfl, rfl⟩ | ⟨rfl, rfl⟩ | ⟨rfl, rfl⟩ | ⟨rfl, rfl⟩
    · cases (show false = true from hf)
    · cases (show false = true from hf)
    · cases (show false = true from hf)
    · cases (show false = true from hf)
    · cases (show false = true from he)
theorem fld_5 (T : Tx K mg fa ca pa cc ta fd) : FldOk K (tb K) 5 "height" where
  nm := rfl
  inj := fun c j _ _ h => by
    have h0 : fnm j = "height" := h
    unfold fnm at h0
    split at h0 <;> first | rfl | exact absurd h0 (by decide)
  ok := fun c C h hf he => by
    rcases cnc T h with ⟨rfl, rfl⟩ | ⟨rfl, rfl⟩ | ⟨rfl, rfl⟩ | ⟨rfl, rfl⟩ | ⟨rfl, rfl⟩
    · cases (show false = true from hf)
    · cases (show false = true from hf)
    · cases (show false = true from hf)
    · cases (show false = true from hf)
    · exact ⟨T.cl5, T.na5 _ (by decide)⟩
  ex := fun c C h hf he => by
    rcases cnc T h with ⟨rfl, rfl⟩ | ⟨rfl, rfl⟩ | ⟨rfl, rfl⟩ | ⟨rfl, rfl⟩ | ⟨rfl, rfl⟩
    · cases (show false = true from hf)
    · cases (show false = true from hf)
    · cases (show false = true from hf)
    · cases (show false = true from hf)
    · cases (show false = true from he)
theorem iso_3 (T : Tx K mg fa ca pa cc ta fd) {X : Cx} (e : X.K = K) : IsO X (tb K) [3] (.ref (ca 3)) := by
  subst e
  refine iso_of T.is3 fun c C h => ?_
  rcases cnc T h with ⟨rfl, rfl⟩ | ⟨rfl, rfl⟩ | ⟨rfl, rfl⟩ | ⟨rfl, rfl⟩ | ⟨rfl, rfl⟩
  · exact ⟨by simp, fun _ => T.xe0, fun z => (by cases (show true = false from z))⟩
  · exact ⟨by simp, fun _ => T.xe1, fun z => (by cases (show true = false from z))⟩
  · exact ⟨by simp, fun _ => T.xe3, fun z => (by cases (show true = false from z))⟩
  · exact ⟨by simp, fun _ => T.xe6, fun z => (by cases (show true = false from z))⟩
  · exact ⟨by simp, fun z => (by cases (show false = true from z)), fun _ => ⟨T.cl5, T.cg5⟩⟩
theorem iso_5 (T : Tx K mg fa ca pa cc ta fd) {X : Cx} (e : X.K = K) : IsO X (tb K) [5] (.ref (ca 5)) := by
  subst e
  refine iso_of T.is5 fun c C h => ?_
  rcases cnc T h with ⟨rfl, rfl⟩ | ⟨rfl, rfl⟩ | ⟨rfl, rfl⟩ | ⟨rfl, rfl⟩ | ⟨rfl, rfl⟩
  · exact ⟨by simp, fun _ => T.xe0, fun z => (by cases (show true = false from z))⟩
  · exact ⟨by simp, fun _ => T.xe1, fun z => (by cases (show true = false from z))⟩
  · exact ⟨by simp, fun _ => T.xe3, fun z => (by cases (show true = false from z))⟩
  · exact ⟨by simp, fun _ => T.xe6, fun z => (by cases (show true = false from z))⟩
  · exact ⟨by simp, fun z => (by cases (show false = true from z)), fun _ => ⟨T.cl5, T.cg5⟩⟩
theorem isb (T : Tx K mg fa ca pa cc ta fd) {X : Cx} (e : X.K = K) {t : String} (ht : t ∈ tys) : IsB X (tb K) (.type t) := by
  subst e
  refine isb_of T.ib ht fun c C h => ?_
  rcases cnc T h with ⟨rfl, rfl⟩ | ⟨rfl, rfl⟩ | ⟨rfl, rfl⟩ | ⟨rfl, rfl⟩ | ⟨rfl, rfl⟩
  · exact ⟨by simp, fun _ => T.xe0, fun z => (by cases (show true = false from z))⟩
  · exact ⟨by simp, fun _ => T.xe1, fun z => (by cases (show true = false from z))⟩
  · exact ⟨by simp, fun _ => T.xe3, fun z => (by cases (show true = false from z))⟩
  · exact ⟨by simp, fun _ => T.xe6, fun z => (by cases (show true = false from z))⟩
  · exact ⟨by simp, fun z => (by cases (show false = true from z)), fun _ => ⟨T.cl5, T.cg5⟩⟩
theorem exm_0 (T : Tx K mg fa ca pa cc ta fd) {X : Cx} (e : X.K = K) : ∀ c ∈ ([0, 1, 3, 6] : List Nat), ∀ Ca, (tb K).cn c = some Ca → PySem.W.exmOne X.K (.ref Ca) (.ref (ca 0)) = some true := by
  subst e
  intro c hc C h
  rcases cnc T h with ⟨rfl, rfl⟩ | ⟨rfl, rfl⟩ | ⟨rfl, rfl⟩ | ⟨rfl, rfl⟩ | ⟨rfl, rfl⟩
  · exact exm_of T.em0 (by simp)
  · exact exm_of T.em0 (by simp)
  · exact exm_of T.em0 (by simp)
  · exact exm_of T.em0 (by simp)
  · exact absurd hc (by decide)
theorem nofl___and__ : ∀ j, fnm j ≠ "__and__" := by
  intro j
  unfold fnm
  split <;> decide
theorem nofl___eq__ : ∀ j, fnm j ≠ "__eq__" := by
  intro j
  unfold fnm
  split <;> decide
theorem nofl___ge__ : ∀ j, fnm j ≠ "__ge__" := by
  intro j
  unfold fnm
  split <;> decide
theorem nofl___gt__ : ∀ j, fnm j ≠ "__gt__" := by
  intro j
  unfold fnm
  split <;> decide
theorem nofl___le__ : ∀ j, fnm j ≠ "__le__" := by
  intro j
  unfold fnm
  split <;> decide
theorem nofl___lt__ : ∀ j, fnm j ≠ "__lt__" := by
  intro j
  unfold fnm
  split <;> decide
theorem nofl___or__ : ∀ j, fnm j ≠ "__or__" := by
  intro j
  unfold fnm
  split <;> decide
theorem bc___and___5_BitAnd (T : Tx K mg fa ca pa cc ta fd) {X : Cx} (e : X.K = K) : ∀ c ∈ ([5] : List Nat), ∀ Ca, (tb K).cn c = some Ca → BinC X.K Ca .BitAnd [0, 1, 2, 3, 4, 5, 6] := by
  subst e
  intro c hc C h
  rcases cnc T h with ⟨rfl, rfl⟩ | ⟨rfl, rfl⟩ | ⟨rfl, rfl⟩ | ⟨rfl, rfl⟩ | ⟨rfl, rfl⟩
  · exact absurd hc (by decide)
  · exact absurd hc (by decide)
  · exact absurd hc (by decide)
  · exact absurd hc (by decide)
  · exact bc_of T.bc5__and__
theorem bc___or___5_BitOr (T : Tx K mg fa ca pa cc ta fd) {X : Cx} (e : X.K = K) : ∀ c ∈ ([5] : List Nat), ∀ Ca, (tb K).cn c = some Ca → BinC X.K Ca .BitOr [0, 1, 2, 3, 4, 5, 6] := by
  subst e
  intro c hc C h
  rcases cnc T h with ⟨rfl, rfl⟩ | ⟨rfl, rfl⟩ | ⟨rfl, rfl⟩ | ⟨rfl, rfl⟩ | ⟨rfl, rfl⟩
  · exact absurd hc (by decide)
  · exact absurd hc (by decide)
  · exact absurd hc (by decide)
  · exact absurd hc (by decide)
  · exact bc_of T.bc5__or__
theorem sp_eqE__eq___5 (T : Tx K mg fa ca pa cc ta fd) (A : Al P w K mg base fa cc ta fd k) {X : Cx} (e1 : X.prog = P) (e2 : X.w = w) (e3 : X.K = K) (e4 : X.mg = mg) (e5 : X.base = base) : SpE X (tb K) (calls fs k) [5] (5 * k) := by
  subst e1 e2 e3 e4 e5
  intro c hc C h
  rcases cnc T h with ⟨rfl, rfl⟩ | ⟨rfl, rfl⟩ | ⟨rfl, rfl⟩ | ⟨rfl, rfl⟩ | ⟨rfl, rfl⟩
  · exact absurd hc (by decide)
  · exact absurd hc (by decide)
  · exact absurd hc (by decide)
  · exact absurd hc (by decide)
  · exact ⟨T.cl5, nf_of T.nO5 (fun c' C' h' => (by rcases cnc T h' with ⟨rfl, rfl⟩ | ⟨rfl, rfl⟩ | ⟨rfl, rfl⟩ | ⟨rfl, rfl⟩ | ⟨rfl, rfl⟩ <;> simp)), fa 17, fd 17, _, T.me5_17, A.o17, T.b17⟩
theorem ip___and___5_BitAnd (T : Tx K mg fa ca pa cc ta fd) {X : Cx} (e : X.K = K) : ∀ c ∈ ([5] : List Nat), ∀ Ca, (tb K).cn c = some Ca → ipB X.K Ca (PySem.Operator.BitAnd).info.2 = true := by
  subst e
  intro c hc C h
  rcases cnc T h with ⟨rfl, rfl⟩ | ⟨rfl, rfl⟩ | ⟨rfl, rfl⟩ | ⟨rfl, rfl⟩ | ⟨rfl, rfl⟩
  · exact absurd hc (by decide)
  · exact absurd hc (by decide)
  · exact absurd hc (by decide)
  · exact absurd hc (by decide)
  · exact T.ip5__and__
theorem ip___or___5_BitOr (T : Tx K mg fa ca pa cc ta fd) {X : Cx} (e : X.K = K) : ∀ c ∈ ([5] : List Nat), ∀ Ca, (tb K).cn c = some Ca → ipB X.K Ca (PySem.Operator.BitOr).info.2 = true := by
  subst e
  intro c hc C h
  rcases cnc T h with ⟨rfl, rfl⟩ | ⟨rfl, rfl⟩ | ⟨rfl, rfl⟩ | ⟨rfl, rfl⟩ | ⟨rfl, rfl⟩
  · exact absurd hc (by decide)
  · exact absurd hc (by decide)
  · exact absurd hc (by decide)
  · exact absurd hc (by decide)
  · exact T.ip5__or__
theorem sp_ne__eq___5 (T : Tx K mg fa ca pa cc ta fd) (A : Al P w K mg base fa cc ta fd k) {X : Cx} (e1 : X.prog = P) (e2 : X.w = w) (e3 : X.K = K) (e4 : X.mg = mg) (e5 : X.base = base) (hr : Room (5 * k + 1) X.A) : SpQ X (tb K) (calls fs k) [5] := by
  subst e1 e2 e3 e4 e5
  intro c hc C h
  rcases cnc T h with ⟨rfl, rfl⟩ | ⟨rfl, rfl⟩ | ⟨rfl, rfl⟩ | ⟨rfl, rfl⟩ | ⟨rfl, rfl⟩
  · exact absurd hc (by decide)
  · exact absurd hc (by decide)
  · exact absurd hc (by decide)
  · exact absurd hc (by decide)
  · exact ⟨T.cl5, ne_of' T.nE5, nf_of T.nO5 (fun c' C' h' => (by rcases cnc T h' with ⟨rfl, rfl⟩ | ⟨rfl, rfl⟩ | ⟨rfl, rfl⟩ | ⟨rfl, rfl⟩ | ⟨rfl, rfl⟩ <;> simp)), 5 * k, fa 17, fd 17, _, [], T.me5_17, A.o17, hr, T.b17, .nil⟩
theorem nf___eq___5 (T : Tx K mg fa ca pa cc ta fd) {X : Cx} (e : X.K = K) : ∀ c ∈ ([5] : List Nat), ∀ Ca, (tb K).cn c = some Ca → NFs X.K (tb K) Ca := by
  subst e
  intro c hc C h
  rcases cnc T h with ⟨rfl, rfl⟩ | ⟨rfl, rfl⟩ | ⟨rfl, rfl⟩ | ⟨rfl, rfl⟩ | ⟨rfl, rfl⟩
  · exact absurd hc (by decide)
  · exact absurd hc (by decide)
  · exact absurd hc (by decide)
  · exact absurd hc (by decide)
  · exact nf_of T.nO5 fun c' C' h' => (by rcases cnc T h' with ⟨rfl, rfl⟩ | ⟨rfl, rfl⟩ | ⟨rfl, rfl⟩ | ⟨rfl, rfl⟩ | ⟨rfl, rfl⟩ <;> simp)
theorem nf___ge___5 (T : Tx K mg fa ca pa cc ta fd) {X : Cx} (e : X.K = K) : ∀ c ∈ ([5] : List Nat), ∀ Ca, (tb K).cn c = some Ca → NFs X.K (tb K) Ca := by
  subst e
  intro c hc C h
  rcases cnc T h with ⟨rfl, rfl⟩ | ⟨rfl, rfl⟩ | ⟨rfl, rfl⟩ | ⟨rfl, rfl⟩ | ⟨rfl, rfl⟩
  · exact absurd hc (by decide)
  · exact absurd hc (by decide)
  · exact absurd hc (by decide)
  · exact absurd hc (by decide)
  · exact nf_of T.nO5 fun c' C' h' => (by rcases cnc T h' with ⟨rfl, rfl⟩ | ⟨rfl, rfl⟩ | ⟨rfl, rfl⟩ | ⟨rfl, rfl⟩ | ⟨rfl, rfl⟩ <;> simp)
theorem nf___gt___5 (T : Tx K mg fa ca pa cc ta fd) {X : Cx} (e : X.K = K) : ∀ c ∈ ([5] : List Nat), ∀ Ca, (tb K).cn c = some Ca → NFs X.K (tb K) Ca := by
  subst e
  intro c hc C h
  rcases cnc T h with ⟨rfl, rfl⟩ | ⟨rfl, rfl⟩ | ⟨rfl, rfl⟩ | ⟨rfl, rfl⟩ | ⟨rfl, rfl⟩
  · exact absurd hc (by decide)
  · exact absurd hc (by decide)
  · exact absurd hc (by decide)
  · exact absurd hc (by decide)
  · exact nf_of T.nO5 fun c' C' h' => (by rcases cnc T h' with ⟨rfl, rfl⟩ | ⟨rfl, rfl⟩ | ⟨rfl, rfl⟩ | ⟨rfl, rfl⟩ | ⟨rfl, rfl⟩ <;> simp)
theorem nf___le___5 (T : Tx K mg fa ca pa cc ta fd) {X : Cx} (e : X.K = K) : ∀ c ∈ ([5] : List Nat), ∀ Ca, (tb K).cn c = some Ca → NFs X.K (tb K) Ca := by
  subst e
  intro c hc C h
  rcases cnc T h with ⟨rfl, rfl⟩ | ⟨rfl, rfl⟩ | ⟨rfl, rfl⟩ | ⟨rfl, rfl⟩ | ⟨rfl, rfl⟩
  · exact absurd hc (by decide)
  · exact absurd hc (by decide)
  · exact absurd hc (by decide)
  · exact absurd hc (by decide)
  · exact nf_of T.nO5 fun c' C' h' => (by rcases cnc T h' with ⟨rfl, rfl⟩ | ⟨rfl, rfl⟩ | ⟨rfl, rfl⟩ | ⟨rfl, rfl⟩ | ⟨rfl, rfl⟩ <;> simp)
theorem nf___lt___5 (T : Tx K mg fa ca pa cc ta fd) {X : Cx} (e : X.K = K) : ∀ c ∈ ([5] : List Nat), ∀ Ca, (tb K).cn c = some Ca → NFs X.K (tb K) Ca := by
  subst e
  intro c hc C h
  rcases cnc T h with ⟨rfl, rfl⟩ | ⟨rfl, rfl⟩ | ⟨rfl, rfl⟩ | ⟨rfl, rfl⟩ | ⟨rfl, rfl⟩
  · exact absurd hc (by decide)
  · exact absurd hc (by decide)
  · exact absurd hc (by decide)
  · exact absurd hc (by decide)
  · exact nf_of T.nO5 fun c' C' h' => (by rcases cnc T h' with ⟨rfl, rfl⟩ | ⟨rfl, rfl⟩ | ⟨rfl, rfl⟩ | ⟨rfl, rfl⟩ | ⟨rfl, rfl⟩ <;> simp)
theorem sp_ok2__and___5 (T : Tx K mg fa ca pa cc ta fd) (A : Al P w K mg base fa cc ta fd k) {X : Cx} (e1 : X.prog = P) (e2 : X.w = w) (e3 : X.K = K) (e4 : X.mg = mg) (e5 : X.base = base) (hr : Room (5 * k) X.A) : SpOk X (tb K) (calls fs k) 9 "__and__" [5] 2 [] := by
  subst e1 e2 e3 e4 e5
  intro c hc C h
  rcases cnc T h with ⟨rfl, rfl⟩ | ⟨rfl, rfl⟩ | ⟨rfl, rfl⟩ | ⟨rfl, rfl⟩ | ⟨rfl, rfl⟩
  · exact absurd hc (by decide)
  · exact absurd hc (by decide)
  · exact absurd hc (by decide)
  · exact absurd hc (by decide)
  · exact ⟨T.cl5, fun j _ => nofl___and__ j, 5 * k, fa 11, fd 11, _, [], T.me5_11, A.o11, hr, T.b11, .nil⟩
theorem sp_ok2__eq___5 (T : Tx K mg fa ca pa cc ta fd) (A : Al P w K mg base fa cc ta fd k) {X : Cx} (e1 : X.prog = P) (e2 : X.w = w) (e3 : X.K = K) (e4 : X.mg = mg) (e5 : X.base = base) (hr : Room (5 * k) X.A) : SpOk X (tb K) (calls fs k) 16 "__eq__" [5] 2 [] := by
  subst e1 e2 e3 e4 e5
  intro c hc C h
  rcases cnc T h with ⟨rfl, rfl⟩ | ⟨rfl, rfl⟩ | ⟨rfl, rfl⟩ | ⟨rfl, rfl⟩ | ⟨rfl, rfl⟩
  · exact absurd hc (by decide)
  · exact absurd hc (by decide)
  · exact absurd hc (by decide)
  · exact absurd hc (by decide)
  · exact ⟨T.cl5, fun j _ => nofl___eq__ j, 5 * k, fa 17, fd 17, _, [], T.me5_17, A.o17, hr, T.b17, .nil⟩
theorem sp_ok2__ge___5 (T : Tx K mg fa ca pa cc ta fd) (A : Al P w K mg base fa cc ta fd k) {X : Cx} (e1 : X.prog = P) (e2 : X.w = w) (e3 : X.K = K) (e4 : X.mg = mg) (e5 : X.base = base) (hr : Room (5 * k) X.A) : SpOk X (tb K) (calls fs k) 15 "__ge__" [5] 2 [] := by
  subst e1 e2 e3 e4 e5
  intro c hc C h
  rcases cnc T h with ⟨rfl, rfl⟩ | ⟨rfl, rfl⟩ | ⟨rfl, rfl⟩ | ⟨rfl, rfl⟩ | ⟨rfl, rfl⟩
  · exact absurd hc (by decide)
  · exact absurd hc (by decide)
  · exact absurd hc (by decide)
  · exact absurd hc (by decide)
  · exact ⟨T.cl5, fun j _ => nofl___ge__ j, 5 * k, fa 15, fd 15, _, [], T.me5_15, A.o15, hr, T.b15, .nil⟩
theorem sp_ok2__gt___5 (T : Tx K mg fa ca pa cc ta fd) (A : Al P w K mg base fa cc ta fd k) {X : Cx} (e1 : X.prog = P) (e2 : X.w = w) (e3 : X.K = K) (e4 : X.mg = mg) (e5 : X.base = base) (hr : Room (5 * k) X.A) : SpOk X (tb K) (calls fs k) 14 "__gt__" [5] 2 [] := by
  subst e1 e2 e3 e4 e5
  intro c hc C h
  rcases cnc T h with ⟨rfl, rfl⟩ | ⟨rfl, rfl⟩ | ⟨rfl, rfl⟩ | ⟨rfl, rfl⟩ | ⟨rfl, rfl⟩
  · exact absurd hc (by decide)
  · exact absurd hc (by decide)
  · exact absurd hc (by decide)
  · exact absurd hc (by decide)
  · exact ⟨T.cl5, fun j _ => nofl___gt__ j, 5 * k, fa 16, fd 16, _, [], T.me5_16, A.o16, hr, T.b16, .nil⟩
theorem sp_ok2__le___5 (T : Tx K mg fa ca pa cc ta fd) (A : Al P w K mg base fa cc ta fd k) {X : Cx} (e1 : X.prog = P) (e2 : X.w = w) (e3 : X.K = K) (e4 : X.mg = mg) (e5 : X.base = base) (hr : Room (5 * k) X.A) : SpOk X (tb K) (calls fs k) 13 "__le__" [5] 2 [] := by
  subst e1 e2 e3 e4 e5
  intro c hc C h
  rcases cnc T h with ⟨rfl, rfl⟩ | ⟨rfl, rfl⟩ | ⟨rfl, rfl⟩ | ⟨rfl, rfl⟩ | ⟨rfl, rfl⟩
  · exact absurd hc (by decide)
  · exact absurd hc (by decide)
  · exact absurd hc (by decide)
  · exact absurd hc (by decide)
  · exact ⟨T.cl5, fun j _ => nofl___le__ j, 5 * k, fa 13, fd 13, _, [], T.me5_13, A.o13, hr, T.b13, .nil⟩
theorem sp_ok2__lt___5 (T : Tx K mg fa ca pa cc ta fd) (A : Al P w K mg base fa cc ta fd k) {X : Cx} (e1 : X.prog = P) (e2 : X.w = w) (e3 : X.K = K) (e4 : X.mg = mg) (e5 : X.base = base) (hr : Room (5 * k) X.A) : SpOk X (tb K) (calls fs k) 12 "__lt__" [5] 2 [] := by
  subst e1 e2 e3 e4 e5
  intro c hc C h
  rcases cnc T h with ⟨rfl, rfl⟩ | ⟨rfl, rfl⟩ | ⟨rfl, rfl⟩ | ⟨rfl, rfl⟩ | ⟨rfl, rfl⟩
  · exact absurd hc (by decide)
  · exact absurd hc (by decide)
  · exact absurd hc (by decide)
  · exact absurd hc (by decide)
  · exact ⟨T.cl5, fun j _ => nofl___lt__ j, 5 * k, fa 14, fd 14, _, [], T.me5_14, A.o14, hr, T.b14, .nil⟩
theorem sp_ok2__or___5 (T : Tx K mg fa ca pa cc ta fd) (A : Al P w K mg base fa cc ta fd k) {X : Cx} (e1 : X.prog = P) (e2 : X.w = w) (e3 : X.K = K) (e4 : X.mg = mg) (e5 : X.base = base) (hr : Room (5 * k) X.A) : SpOk X (tb K) (calls fs k) 10 "__or__" [5] 2 [] := by
  subst e1 e2 e3 e4 e5
  intro c hc C h
  rcases cnc T h with ⟨rfl, rfl⟩ | ⟨rfl, rfl⟩ | ⟨rfl, rfl⟩ | ⟨rfl, rfl⟩ | ⟨rfl, rfl⟩
  · exact absurd hc (by decide)
  · exact absurd hc (by decide)
  · exact absurd hc (by decide)
  · exact absurd hc (by decide)
  · exact ⟨T.cl5, fun j _ => nofl___or__ j, 5 * k, fa 12, fd 12, _, [], T.me5_12, A.o12, hr, T.b12, .nil⟩
theorem sc0 : FnScope ["value"] ["value"] (defScope st0) := ⟨rfl, rfl, rfl, by decide +kernel, rfl, by decide +kernel, by decide +kernel⟩
theorem sc1 : FnScope ["value", "least", "most"] ["value", "least", "most"] (defScope st1) := ⟨rfl, rfl, rfl, by decide +kernel, rfl, by decide +kernel, by decide +kernel⟩
theorem sc2 : FnScope ["word", "least", "most", "sign"] ["word", "least", "most"] (defScope st2) := ⟨rfl, rfl, rfl, by decide +kernel, rfl, by decide +kernel, by decide +kernel⟩
theorem sc3 : FnScope ["self", "part"] ["self", "part"] (defScope st3) := ⟨rfl, rfl, rfl, by decide +kernel, rfl, by decide +kernel, by decide +kernel⟩
theorem sc4 : FnScope ["self", "line", "word"] ["self", "line", "word"] (defScope st4) := ⟨rfl, rfl, rfl, by decide +kernel, rfl, by decide +kernel, by decide +kernel⟩
theorem sc5 : FnScope ["other"] ["other"] (defScope st5) := ⟨rfl, rfl, rfl, by decide +kernel, rfl, by decide +kernel, by decide +kernel⟩
theorem sc6 : FnScope ["one", "other"] ["one", "other"] (defScope st6) := ⟨rfl, rfl, rfl, by decide +kernel, rfl, by decide +kernel, by decide +kernel⟩
theorem sc7 : FnScope ["one", "other", "left", "low", "right", "top"] ["one", "other"] (defScope st7) := ⟨rfl, rfl, rfl, by decide +kernel, rfl, by decide +kernel, by decide +kernel⟩
theorem sc8 : FnScope ["one", "other", "left", "low", "right", "top"] ["one", "other"] (defScope st8) := ⟨rfl, rfl, rfl, by decide +kernel, rfl, by decide +kernel, by decide +kernel⟩
theorem sc9 : FnScope ["self", "x", "y", "width", "height"] ["self", "x", "y", "width", "height"] (defScope st9) := ⟨rfl, rfl, rfl, by decide +kernel, rfl, by decide +kernel, by decide +kernel⟩
theorem sc10 : FnScope ["cls", "text", "words", "x", "y", "width", "height"] ["cls", "text"] (defScope st10) := ⟨rfl, rfl, rfl, by decide +kernel, rfl, by decide +kernel, by decide +kernel⟩
theorem sc11 : FnScope ["self", "other"] ["self", "other"] (defScope st11) := ⟨rfl, rfl, rfl, by decide +kernel, rfl, by decide +kernel, by decide +kernel⟩
theorem sc12 : FnScope ["self", "other"] ["self", "other"] (defScope st12) := ⟨rfl, rfl, rfl, by decide +kernel, rfl, by decide +kernel, by decide +kernel⟩
theorem sc13 : FnScope ["self", "other"] ["self", "other"] (defScope st13) := ⟨rfl, rfl, rfl, by decide +kernel, rfl, by decide +kernel, by decide +kernel⟩
theorem sc14 : FnScope ["self", "other"] ["self", "other"] (defScope st14) := ⟨rfl, rfl, rfl, by decide +kernel, rfl, by decide +kernel, by decide +kernel⟩
theorem sc15 : FnScope ["self", "other"] ["self", "other"] (defScope st15) := ⟨rfl, rfl, rfl, by decide +kernel, rfl, by decide +kernel, by decide +kernel⟩
theorem sc16 : FnScope ["self", "other"] ["self", "other"] (defScope st16) := ⟨rfl, rfl, rfl, by decide +kernel, rfl, by decide +kernel, by decide +kernel⟩
theorem sc17 : FnScope ["self", "other"] ["self", "other"] (defScope st17) := ⟨rfl, rfl, rfl, by decide +kernel, rfl, by decide +kernel, by decide +kernel⟩
theorem sc18 : FnScope ["words", "begin", "line", "found", "at", "word", "told"] ["words", "begin", "line"] (defScope st18) := ⟨rfl, rfl, rfl, by decide +kernel, rfl, by decide +kernel, by decide +kernel⟩
theorem sc19 : FnScope [] [] (defScope st19) := ⟨rfl, rfl, rfl, by decide +kernel, rfl, by decide +kernel, by decide +kernel⟩
theorem sc20 : FnScope ["_law_script"] ["_law_script"] (defScope st20) := ⟨rfl, rfl, rfl, by decide +kernel, rfl, by decide +kernel, by decide +kernel⟩
theorem sc21 : FnScope ["_law_pen_here", "_law_many", "_law_digit", "_law_at", "_law_cell", "_law_great", "_law_mixed"] ["_law_pen_here", "_law_many"] (defScope st21) := ⟨rfl, rfl, rfl, by decide +kernel, rfl, by decide +kernel, by decide +kernel⟩
theorem sc22 : FnScope ["_law_pen_here", "_law_some"] ["_law_pen_here", "_law_some"] (defScope st22) := ⟨rfl, rfl, rfl, by decide +kernel, rfl, by decide +kernel, by decide +kernel⟩
theorem sc23 : FnScope ["_law_pen_here"] ["_law_pen_here"] (defScope st23) := ⟨rfl, rfl, rfl, by decide +kernel, rfl, by decide +kernel, by decide +kernel⟩
theorem sc24 : FnScope ["_law_pen_here"] ["_law_pen_here"] (defScope st24) := ⟨rfl, rfl, rfl, by decide +kernel, rfl, by decide +kernel, by decide +kernel⟩
theorem sc25 : FnScope ["_law_pen_here"] ["_law_pen_here"] (defScope st25) := ⟨rfl, rfl, rfl, by decide +kernel, rfl, by decide +kernel, by decide +kernel⟩
theorem sc26 : FnScope ["_law_four_here", "_law_one"] ["_law_four_here"] (defScope st26) := ⟨rfl, rfl, rfl, by decide +kernel, rfl, by decide +kernel, by decide +kernel⟩
theorem sc27 : FnScope ["_law_box"] ["_law_box"] (defScope st27) := ⟨rfl, rfl, rfl, by decide +kernel, rfl, by decide +kernel, by decide +kernel⟩
theorem sc28 : FnScope ["_law_pen_here", "_law_four_here", "_law_x", "_law_y", "_law_width", "_law_height", "_law_beside", "_law_above", "_law_way"] ["_law_pen_here", "_law_four_here"] (defScope st28) := ⟨rfl, rfl, rfl, by decide +kernel, rfl, by decide +kernel, by decide +kernel⟩
theorem sc29 : FnScope ["_law_one", "_law_two", "_law_low", "_law_at", "_law_high"] ["_law_one", "_law_two"] (defScope st29) := ⟨rfl, rfl, rfl, by decide +kernel, rfl, by decide +kernel, by decide +kernel⟩
theorem sc30 : FnScope ["_law_one", "_law_two", "_law_low", "_law_at", "_law_high"] ["_law_one", "_law_two"] (defScope st30) := ⟨rfl, rfl, rfl, by decide +kernel, rfl, by decide +kernel, by decide +kernel⟩
theorem sc31 : FnScope ["_law_way", "_law_made_here", "_law_more", "_law_found", "_law_kept"] ["_law_way", "_law_made_here", "_law_more"] (defScope st31) := ⟨rfl, rfl, rfl, by decide +kernel, rfl, by decide +kernel, by decide +kernel⟩
theorem sc32 : FnScope ["_law_ask", "_law_caught", "_law_found", "error"] ["_law_ask"] (defScope st32) := ⟨rfl, rfl, rfl, by decide +kernel, rfl, by decide +kernel, by decide +kernel⟩
theorem sc33 : FnScope ["_law_four_here"] ["_law_four_here"] (defScope st33) := ⟨rfl, rfl, rfl, by decide +kernel, rfl, by decide +kernel, by decide +kernel⟩
theorem sc34 : FnScope ["_law_one", "_law_two", "_law_first", "_law_second", "_law_common_here", "_law_least_here", "_law_told_here", "_law_inner", "_law_outer", "_law_due_here", "_law_way", "_law_thing"] ["_law_one", "_law_two"] (defScope st34) := ⟨rfl, rfl, rfl, by decide +kernel, rfl, by decide +kernel, by decide +kernel⟩
theorem sc35 : FnScope ["_law_script", "_law_pen_here", "_law_turn", "_law_one", "_law_two", "_law_low", "_law_high", "_law_wide", "_law_tall", "_law_heard_here"] ["_law_script"] (defScope st35) := ⟨rfl, rfl, rfl, by decide +kernel, rfl, by decide +kernel, by decide +kernel⟩
theorem xf3 (T : Tx K mg fa ca pa cc ta fd) : FnG P w K mg base 1 (fa 3) (fd 3) ["self", "part"] (spI (ca 3) ["part"]) := exc_fn1 (k := 0) T.f3 sc3 rfl T.ox3 (T.na3 _ (by decide)) (fun {X} hX => by
    have sc := sc3
    obtain ⟨cdv, A0, outer, s0, H0, E0, rfl⟩ := hX
    exact (pss_cons (ps_ost (pv 0) (pv 1)) pss_nil))
theorem xf6 (T : Tx K mg fa ca pa cc ta fd) : FnG P w K mg base 1 (fa 4) (fd 4) ["self", "line", "word"] (spI (ca 6) ["line", "word"]) := exc_fn2 (k := 0) T.f4 sc4 rfl T.ox6 (T.na6 _ (by decide)) (T.na6 _ (by decide)) (fun {X} hX => by
    have sc := sc4
    obtain ⟨cdv, A0, outer, s0, H0, E0, rfl⟩ := hX
    exact (pss_cons (ps_ost (pv 0) (pv 1)) (pss_cons (ps_ost (pv 0) (pv 2)) pss_nil)))
theorem hg32 (T : Tx K mg fa ca pa cc ta fd) (A : Al P w K mg base fa cc ta fd (k - 1)) : HearG P w K mg base ["_law_ask", "_law_caught", "_law_found", "error"] "_law_heard" "_law_ask" st32 (fa 32) (tb K) (calls fs (k - 1)) fn32 (5 * k + 3) := by
  intro Z CZ WZ o hK hu hu2 hgd hr tk hp hX hask
  obtain ⟨cdv, A0_, outer_, s0_, H0_, E0_, rfl, hC⟩ := hX
  obtain ⟨CT, h0_, he_, io_, fa_⟩ := CZ
  have hC : CT = tb K := hC
  subst hC
  have sc := sc32
  have hcalm : (cxOf (L2.CX P w) P w K mg base ["_law_ask", "_law_caught", "_law_found", "error"] "_law_heard" (defScope st32) (fa 32) cdv A0_ outer_ s0_ H0_ E0_).calm = true := rfl
  have hu65 : (cxOf (L2.CX P w) P w K mg base ["_law_ask", "_law_caught", "_law_found", "error"] "_law_heard" (defScope st32) (fa 32) cdv A0_ outer_ s0_ H0_ E0_).A.units + 65 < cLine := by omega
  have hr0 : Room (5 * (k - 1)) _ := hr.mono (by omega)
  have hr1 : Room (5 * (k - 1) + 1) _ := hr.mono (by omega)
  have hr2 : Room (5 * (k - 1) + 2) _ := hr.mono (by omega)
  exact (ss_cons (s_unp (is := [1, 2]) rfl hK (ps_asg (c_tup (f_cons (c_cst pe_non (fun H => r_non _ H)) (f_cons (c_cst pe_non (fun H => r_non _ H)) f_nil))) (pg_un rfl (pgs_cons (pg_name (i := 1) sc.nd rfl (Or.inl rfl)) (pgs_cons (pg_name (i := 2) sc.nd rfl (Or.inl rfl)) pgs_nil)))))
      (ss_cons (s_try (i := 3) (j := 1) rfl rfl rfl sc.nd rfl rfl ⟨by rfl, by decide, .inl T.mC0⟩ tk (exm_0 T rfl) (by decide) (fun W' pn xe tk hp => (ss_cons (s_asg (ps_set (i := 2) sc.nd rfl (Or.inl rfl) (hask W' pn xe _ _ tk)))
      ss_nil)) (fun a oe pn => pss_cons (ps_set (i := 1) sc.nd rfl (Or.inl rfl) (pv 3)) pss_nil))
      (ss_cons (s_iff (t_cmp o_is (c_var (pv 1)) (c_cst pe_non (fun H => r_non _ H)) (nomark _)) (ss_cons (s_ret (c_call A.o27 hgd hr0 tk (by rfl) T.m27 T.f27.kp T.b27 (k_cons (m := false) (c_var (pv 2)) k_nil)))
      ss_nil) ss_nil)
      (ss_cons (s_ret (c_ife (t_tru hK (c_isO hK (iso_3 T rfl) (by rfl) T.n_isinstance (c_var (pv 1)) (pe_glob (v := .ref (ca 3)) (by rfl) T.mC3 rfl))) (c_fld hK (c_var (pv 1)) (fld_1 T)) (c_cst pe_str (fun H => r_str _ H _))))
      ss_nil))))
theorem ok0 (T : Tx K mg fa ca pa cc ta fd) (A : Al P w K mg base fa cc ta fd k) (A' : Al P w K mg base fa cc ta fd (k - 1)) : FnG P w K mg base (5 * (k + 1)) (fa 0) (fd 0) ["value"] (spF (tb K) (calls fs (k + 1)) 0 1) := def_ok (F := F_is_integer) T.f0 sc0 rfl (by decide) rfl (fun _ => rfl) (fun {X} {C} {W} hK hu hu2 hgd hr tk hp hX => by
    have sc := sc0
    obtain ⟨qu, cdv, A0_, outer_, s0_, H0_, E0_, rfl, hC, rfl, hcd⟩ := hX
    obtain ⟨CT, h0_, he_, io_, fa_⟩ := C
    have hC : CT = tb K := hC
    subst hC
    have hcalm : (cxOf (L2.CX P w) P w K mg base ["value"] "is_integer" (defScope st0) (fa 0) cdv A0_ outer_ s0_ H0_ E0_).calm = true := rfl
    have hu65 : (cxOf (L2.CX P w) P w K mg base ["value"] "is_integer" (defScope st0) (fa 0) cdv A0_ outer_ s0_ H0_ E0_).A.units + 65 < cLine := by omega
    have hr0 : Room (5 * k) _ := hr.mono (by omega)
    have hr1 : Room (5 * k + 1) _ := hr.mono (by omega)
    have hr2 : Room (5 * k + 2) _ := hr.mono (by omega)
    have hr3 : Room (5 * k + 3) _ := hr.mono (by omega)
    exact (ss_cons (s_ret (c_and hK (c_isi hK isi_int (isb T rfl (by decide)) (by rfl) T.n_isinstance (c_var (pv 0)) (pe_bltn (by rfl) T.n_int (by decide +kernel) rfl)) (c_one (c_not hK (c_isi hK isi_bool (isb T rfl (by decide)) (by rfl) T.n_isinstance (c_var (pv 0)) (pe_bltn (by rfl) T.n_bool (by decide +kernel) rfl))))))
      ss_nil)) rfl
theorem ok1 (T : Tx K mg fa ca pa cc ta fd) (A : Al P w K mg base fa cc ta fd k) (A' : Al P w K mg base fa cc ta fd (k - 1)) : FnG P w K mg base (5 * (k + 1)) (fa 1) (fd 1) ["value", "least", "most"] (spF (tb K) (calls fs (k + 1)) 1 3) := def_ok (F := F_is_between) T.f1 sc1 rfl (by decide) rfl (fun _ => rfl) (fun {X} {C} {W} hK hu hu2 hgd hr tk hp hX => by
    have sc := sc1
    obtain ⟨qu, cdv, A0_, outer_, s0_, H0_, E0_, rfl, hC, rfl, hcd⟩ := hX
    obtain ⟨CT, h0_, he_, io_, fa_⟩ := C
    have hC : CT = tb K := hC
    subst hC
    have hcalm : (cxOf (L2.CX P w) P w K mg base ["value", "least", "most"] "is_between" (defScope st1) (fa 1) cdv A0_ outer_ s0_ H0_ E0_).calm = true := rfl
    have hu65 : (cxOf (L2.CX P w) P w K mg base ["value", "least", "most"] "is_between" (defScope st1) (fa 1) cdv A0_ outer_ s0_ H0_ E0_).A.units + 65 < cLine := by omega
    have hr0 : Room (5 * k) _ := hr.mono (by omega)
    have hr1 : Room (5 * k + 1) _ := hr.mono (by omega)
    have hr2 : Room (5 * k + 2) _ := hr.mono (by omega)
    have hr3 : Room (5 * k + 3) _ := hr.mono (by omega)
    exact (ss_cons (s_ret (c_and hK (c_call A.o0 hgd hr0 tk (by rfl) T.m0 T.f0.kp T.b0 (k_cons (m := false) (c_var (pv 0)) k_nil)) (c_one (c_chain o_le o_le (c_var (pv 1)) (c_var (pv 0)) (c_var (pv 2))))))
      ss_nil)) rfl
theorem ok2 (T : Tx K mg fa ca pa cc ta fd) (A : Al P w K mg base fa cc ta fd k) (A' : Al P w K mg base fa cc ta fd (k - 1)) : FnG P w K mg base (5 * (k + 1)) (fa 2) (fd 2) ["word", "least", "most"] (spF (tb K) (calls fs (k + 1)) 10 3) := def_ok (F := F_number_in) T.f2 sc2 rfl (by decide) rfl (fun _ => rfl) (fun {X} {C} {W} hK hu hu2 hgd hr tk hp hX => by
    have sc := sc2
    obtain ⟨qu, cdv, A0_, outer_, s0_, H0_, E0_, rfl, hC, rfl, hcd⟩ := hX
    obtain ⟨CT, h0_, he_, io_, fa_⟩ := C
    have hC : CT = tb K := hC
    subst hC
    have hcalm : (cxOf (L2.CX P w) P w K mg base ["word", "least", "most", "sign"] "number_in" (defScope st2) (fa 2) cdv A0_ outer_ s0_ H0_ E0_).calm = true := rfl
    have hu65 : (cxOf (L2.CX P w) P w K mg base ["word", "least", "most", "sign"] "number_in" (defScope st2) (fa 2) cdv A0_ outer_ s0_ H0_ E0_).A.units + 65 < cLine := by omega
    have hr0 : Room (5 * k) _ := hr.mono (by omega)
    have hr1 : Room (5 * k + 1) _ := hr.mono (by omega)
    have hr2 : Room (5 * k + 2) _ := hr.mono (by omega)
    have hr3 : Room (5 * k + 3) _ := hr.mono (by omega)
    exact (ss_cons (s_iff (PW.pt (w_or (t_cmp (o_eq hK hu) (c_var (pv 0)) (c_cst pe_str (fun H => r_str _ H _)) (nomark _)) (w_or (t_cmp o_gt (c_biB (B := .len) (b_len hK) (by rfl) T.n_len (by decide +kernel) (r_cons (c_var (pv 0)) r_nil)) (c_biB (B := .len) (b_len hK) (by rfl) T.n_len (by decide +kernel) (r_cons (c_fstr1 (pe_fmt (c_var (pv 2)))) r_nil)) (nomark _)) (w_or1 (t_not (t_tru hK (c_biB (B := .all) (b_all hcalm) (by rfl) T.n_all (by decide +kernel) (r_cons (c_lc (vs := [3]) hK hcalm sc.nd (i_str (c_var (pv 0))) (blkOk_by (own := [("sign", 3)]) (by kernel_rfl)) (fun _ _ _ _ _ => (pg_name (i := 3) sc.nd rfl (Or.inl rfl))) (fun _ _ _ _ _ => pt_tst0) (fun _ _ _ _ _ => pe_elt fun _ _ _ _ => (c_cmp (o_in hK hu65) (c_var (pv 3)) (c_cst (pe_glob (v := .str "0123456789") (by rfl) (T.g_FIGURES).choose_spec ⟨_, rfl⟩) (fun H => r_str _ H _)) (by rfl)))) r_nil)))))))) (ss_cons (s_ret (c_cst pe_non (fun H => r_non _ H)))
      ss_nil) ss_nil)
      (ss_cons (s_iff (PW.pt (w_or (PW.pt (w_and (t_cmp (o_eq hK hu) (c_ix hK hu (c_var (pv 0)) (c_cst pe_int (fun H => r_int _ H _))) (c_cst pe_str (fun H => r_str _ H _)) (nomark _)) (w_and1 (op := .And) (t_cmp (o_ne hK hu) (c_var (pv 0)) (c_cst pe_str (fun H => r_str _ H _)) (nomark _))))) (w_or1 (t_not (t_chain o_le o_le (c_var (pv 1)) (c_biT (B := .int) b_int (by rfl) T.n_int (by decide +kernel) (r_cons (c_var (pv 0)) r_nil)) (c_var (pv 2))))))) (ss_cons (s_ret (c_cst pe_non (fun H => r_non _ H)))
      ss_nil) ss_nil)
      (ss_cons (s_ret (c_biT (B := .int) b_int (by rfl) T.n_int (by decide +kernel) (r_cons (c_var (pv 0)) r_nil)))
      ss_nil)))) rfl
theorem ok5 (T : Tx K mg fa ca pa cc ta fd) (A : Al P w K mg base fa cc ta fd k) (A' : Al P w K mg base fa cc ta fd (k - 1)) : FnG P w K mg base (5 * (k + 1)) (fa 5) (fd 5) ["other"] (spF (tb K) (calls fs (k + 1)) 4 1) := def_ok (F := F_need_box) T.f5 sc5 rfl (by decide) rfl (fun _ => rfl) (fun {X} {C} {W} hK hu hu2 hgd hr tk hp hX => by
    have sc := sc5
    obtain ⟨qu, cdv, A0_, outer_, s0_, H0_, E0_, rfl, hC, rfl, hcd⟩ := hX
    obtain ⟨CT, h0_, he_, io_, fa_⟩ := C
    have hC : CT = tb K := hC
    subst hC
    have hcalm : (cxOf (L2.CX P w) P w K mg base ["other"] "need_box" (defScope st5) (fa 5) cdv A0_ outer_ s0_ H0_ E0_).calm = true := rfl
    have hu65 : (cxOf (L2.CX P w) P w K mg base ["other"] "need_box" (defScope st5) (fa 5) cdv A0_ outer_ s0_ H0_ E0_).A.units + 65 < cLine := by omega
    have hr0 : Room (5 * k) _ := hr.mono (by omega)
    have hr1 : Room (5 * k + 1) _ := hr.mono (by omega)
    have hr2 : Room (5 * k + 2) _ := hr.mono (by omega)
    have hr3 : Room (5 * k + 3) _ := hr.mono (by omega)
    exact (ss_cons (s_iff (t_not (t_tru hK (c_isO hK (iso_5 T rfl) (by rfl) T.n_isinstance (c_var (pv 0)) (pe_glob (v := .ref (ca 5)) (by rfl) T.mC5 rfl)))) (ss_cons (s_raise (T.cx3) rfl hcalm tk (pmk_X T.ox3 T.xi3 T.xt3 ((xf3 T).up (by omega)) hgd hr2 T.b3 tk (by decide) (by rfl) T.mC3 (f_cons (c_cst pe_str (fun H => r_str _ H _)) f_nil)))
      ss_nil) ss_nil)
      ss_nil)) rfl
theorem ok6 (T : Tx K mg fa ca pa cc ta fd) (A : Al P w K mg base fa cc ta fd k) (A' : Al P w K mg base fa cc ta fd (k - 1)) : FnG P w K mg base (5 * (k + 1)) (fa 6) (fd 6) ["one", "other"] (spF (tb K) (calls fs (k + 1)) 7 2) := def_ok (F := F_is_within) T.f6 sc6 rfl (by decide) rfl (fun _ => rfl) (fun {X} {C} {W} hK hu hu2 hgd hr tk hp hX => by
    have sc := sc6
    obtain ⟨qu, cdv, A0_, outer_, s0_, H0_, E0_, rfl, hC, rfl, hcd⟩ := hX
    obtain ⟨CT, h0_, he_, io_, fa_⟩ := C
    have hC : CT = tb K := hC
    subst hC
    have hcalm : (cxOf (L2.CX P w) P w K mg base ["one", "other"] "is_within" (defScope st6) (fa 6) cdv A0_ outer_ s0_ H0_ E0_).calm = true := rfl
    have hu65 : (cxOf (L2.CX P w) P w K mg base ["one", "other"] "is_within" (defScope st6) (fa 6) cdv A0_ outer_ s0_ H0_ E0_).A.units + 65 < cLine := by omega
    have hr0 : Room (5 * k) _ := hr.mono (by omega)
    have hr1 : Room (5 * k + 1) _ := hr.mono (by omega)
    have hr2 : Room (5 * k + 2) _ := hr.mono (by omega)
    have hr3 : Room (5 * k + 3) _ := hr.mono (by omega)
    exact (ss_cons (s_iff (PW.pt (w_or (t_cmp o_lt (c_fld hK (c_var (pv 0)) (fld_2 T)) (c_fld hK (c_var (pv 1)) (fld_2 T)) (nomark _)) (w_or1 (t_cmp o_lt (c_fld hK (c_var (pv 0)) (fld_3 T)) (c_fld hK (c_var (pv 1)) (fld_3 T)) (nomark _))))) (ss_cons (s_ret (c_cst pe_bl (fun H => r_bl _ H _)))
      ss_nil) ss_nil)
      (ss_cons (s_ret (c_and hK (c_cmp o_le (c_bin o_add (c_fld hK (c_var (pv 0)) (fld_2 T)) (c_fld hK (c_var (pv 0)) (fld_4 T))) (c_bin o_add (c_fld hK (c_var (pv 1)) (fld_2 T)) (c_fld hK (c_var (pv 1)) (fld_4 T))) (nomark _)) (c_one (c_cmp o_le (c_bin o_add (c_fld hK (c_var (pv 0)) (fld_3 T)) (c_fld hK (c_var (pv 0)) (fld_5 T))) (c_bin o_add (c_fld hK (c_var (pv 1)) (fld_3 T)) (c_fld hK (c_var (pv 1)) (fld_5 T))) (nomark _)))))
      ss_nil))) rfl
theorem ok7 (T : Tx K mg fa ca pa cc ta fd) (A : Al P w K mg base fa cc ta fd k) (A' : Al P w K mg base fa cc ta fd (k - 1)) : FnG P w K mg base (5 * (k + 1)) (fa 7) (fd 7) ["one", "other"] (spF (tb K) (calls fs (k + 1)) 8 2) := def_ok (F := F_common_box) T.f7 sc7 rfl (by decide) rfl (fun _ => rfl) (fun {X} {C} {W} hK hu hu2 hgd hr tk hp hX => by
    have sc := sc7
    obtain ⟨qu, cdv, A0_, outer_, s0_, H0_, E0_, rfl, hC, rfl, hcd⟩ := hX
    obtain ⟨CT, h0_, he_, io_, fa_⟩ := C
    have hC : CT = tb K := hC
    subst hC
    have hcalm : (cxOf (L2.CX P w) P w K mg base ["one", "other", "left", "low", "right", "top"] "common_box" (defScope st7) (fa 7) cdv A0_ outer_ s0_ H0_ E0_).calm = true := rfl
    have hu65 : (cxOf (L2.CX P w) P w K mg base ["one", "other", "left", "low", "right", "top"] "common_box" (defScope st7) (fa 7) cdv A0_ outer_ s0_ H0_ E0_).A.units + 65 < cLine := by omega
    have hr0 : Room (5 * k) _ := hr.mono (by omega)
    have hr1 : Room (5 * k + 1) _ := hr.mono (by omega)
    have hr2 : Room (5 * k + 2) _ := hr.mono (by omega)
    have hr3 : Room (5 * k + 3) _ := hr.mono (by omega)
    exact (ss_cons (s_par2 (ps_par (i := 2) (j := 3) rfl sc.nd rfl rfl (by decide) rfl rfl (f_cons (c_biB (B := .max2) (b_max rfl) (by rfl) T.n_max (by decide +kernel) (r_cons (c_biT (B := .int) b_int (by rfl) T.n_int (by decide +kernel) (r_cons (c_fld hK (c_var (pv 0)) (fld_2 T)) r_nil)) (r_cons (c_biT (B := .int) b_int (by rfl) T.n_int (by decide +kernel) (r_cons (c_fld hK (c_var (pv 1)) (fld_2 T)) r_nil)) r_nil))) (f_cons (c_biB (B := .max2) (b_max rfl) (by rfl) T.n_max (by decide +kernel) (r_cons (c_biT (B := .int) b_int (by rfl) T.n_int (by decide +kernel) (r_cons (c_fld hK (c_var (pv 0)) (fld_3 T)) r_nil)) (r_cons (c_biT (B := .int) b_int (by rfl) T.n_int (by decide +kernel) (r_cons (c_fld hK (c_var (pv 1)) (fld_3 T)) r_nil)) r_nil))) f_nil)) (by rfl)))
      (ss_cons (s_asg (ps_set (i := 4) sc.nd rfl (Or.inl rfl) (c_biB (B := .min2) (b_min rfl) (by rfl) T.n_min (by decide +kernel) (r_cons (c_biT (B := .int) b_int (by rfl) T.n_int (by decide +kernel) (r_cons (c_bin o_add (c_fld hK (c_var (pv 0)) (fld_2 T)) (c_fld hK (c_var (pv 0)) (fld_4 T))) r_nil)) (r_cons (c_biT (B := .int) b_int (by rfl) T.n_int (by decide +kernel) (r_cons (c_bin o_add (c_fld hK (c_var (pv 1)) (fld_2 T)) (c_fld hK (c_var (pv 1)) (fld_4 T))) r_nil)) r_nil)))))
      (ss_cons (s_asg (ps_set (i := 5) sc.nd rfl (Or.inl rfl) (c_biB (B := .min2) (b_min rfl) (by rfl) T.n_min (by decide +kernel) (r_cons (c_biT (B := .int) b_int (by rfl) T.n_int (by decide +kernel) (r_cons (c_bin o_add (c_fld hK (c_var (pv 0)) (fld_3 T)) (c_fld hK (c_var (pv 0)) (fld_5 T))) r_nil)) (r_cons (c_biT (B := .int) b_int (by rfl) T.n_int (by decide +kernel) (r_cons (c_bin o_add (c_fld hK (c_var (pv 1)) (fld_3 T)) (c_fld hK (c_var (pv 1)) (fld_5 T))) r_nil)) r_nil)))))
      (ss_cons (s_ret (c_ife (PW.pt (w_and (t_cmp o_lt (c_var (pv 2)) (c_var (pv 4)) (nomark _)) (w_and1 (op := .And) (t_cmp o_lt (c_var (pv 3)) (c_var (pv 5)) (nomark _))))) (c_mk (ds := []) T.mk5 A.o9 hgd hr1 tk (by rfl) T.mC5 T.ck5 T.bd9_2.choose_spec.2 T.bd9_2.choose_spec.1 (fun H => by simp only [RepAll, Rep]) (k_cons (m := false) (c_var (pv 2)) (k_cons (m := false) (c_var (pv 3)) (k_cons (m := false) (c_bin o_sub (c_var (pv 4)) (c_var (pv 2))) (k_cons (m := false) (c_bin o_sub (c_var (pv 5)) (c_var (pv 3))) k_nil))))) (c_cst pe_non (fun H => r_non _ H))))
      ss_nil))))) rfl
theorem ok8 (T : Tx K mg fa ca pa cc ta fd) (A : Al P w K mg base fa cc ta fd k) (A' : Al P w K mg base fa cc ta fd (k - 1)) : FnG P w K mg base (5 * (k + 1)) (fa 8) (fd 8) ["one", "other"] (spF (tb K) (calls fs (k + 1)) 9 2) := def_ok (F := F_least_box) T.f8 sc8 rfl (by decide) rfl (fun _ => rfl) (fun {X} {C} {W} hK hu hu2 hgd hr tk hp hX => by
    have sc := sc8
    obtain ⟨qu, cdv, A0_, outer_, s0_, H0_, E0_, rfl, hC, rfl, hcd⟩ := hX
    obtain ⟨CT, h0_, he_, io_, fa_⟩ := C
    have hC : CT = tb K := hC
    subst hC
    have hcalm : (cxOf (L2.CX P w) P w K mg base ["one", "other", "left", "low", "right", "top"] "least_box" (defScope st8) (fa 8) cdv A0_ outer_ s0_ H0_ E0_).calm = true := rfl
    have hu65 : (cxOf (L2.CX P w) P w K mg base ["one", "other", "left", "low", "right", "top"] "least_box" (defScope st8) (fa 8) cdv A0_ outer_ s0_ H0_ E0_).A.units + 65 < cLine := by omega
    have hr0 : Room (5 * k) _ := hr.mono (by omega)
    have hr1 : Room (5 * k + 1) _ := hr.mono (by omega)
    have hr2 : Room (5 * k + 2) _ := hr.mono (by omega)
    have hr3 : Room (5 * k + 3) _ := hr.mono (by omega)
    exact (ss_cons (s_par2 (ps_par (i := 2) (j := 3) rfl sc.nd rfl rfl (by decide) rfl rfl (f_cons (c_biB (B := .min2) (b_min rfl) (by rfl) T.n_min (by decide +kernel) (r_cons (c_biT (B := .int) b_int (by rfl) T.n_int (by decide +kernel) (r_cons (c_fld hK (c_var (pv 0)) (fld_2 T)) r_nil)) (r_cons (c_biT (B := .int) b_int (by rfl) T.n_int (by decide +kernel) (r_cons (c_fld hK (c_var (pv 1)) (fld_2 T)) r_nil)) r_nil))) (f_cons (c_biB (B := .min2) (b_min rfl) (by rfl) T.n_min (by decide +kernel) (r_cons (c_biT (B := .int) b_int (by rfl) T.n_int (by decide +kernel) (r_cons (c_fld hK (c_var (pv 0)) (fld_3 T)) r_nil)) (r_cons (c_biT (B := .int) b_int (by rfl) T.n_int (by decide +kernel) (r_cons (c_fld hK (c_var (pv 1)) (fld_3 T)) r_nil)) r_nil))) f_nil)) (by rfl)))
      (ss_cons (s_asg (ps_set (i := 4) sc.nd rfl (Or.inl rfl) (c_biB (B := .max2) (b_max rfl) (by rfl) T.n_max (by decide +kernel) (r_cons (c_biT (B := .int) b_int (by rfl) T.n_int (by decide +kernel) (r_cons (c_bin o_add (c_fld hK (c_var (pv 0)) (fld_2 T)) (c_fld hK (c_var (pv 0)) (fld_4 T))) r_nil)) (r_cons (c_biT (B := .int) b_int (by rfl) T.n_int (by decide +kernel) (r_cons (c_bin o_add (c_fld hK (c_var (pv 1)) (fld_2 T)) (c_fld hK (c_var (pv 1)) (fld_4 T))) r_nil)) r_nil)))))
      (ss_cons (s_asg (ps_set (i := 5) sc.nd rfl (Or.inl rfl) (c_biB (B := .max2) (b_max rfl) (by rfl) T.n_max (by decide +kernel) (r_cons (c_biT (B := .int) b_int (by rfl) T.n_int (by decide +kernel) (r_cons (c_bin o_add (c_fld hK (c_var (pv 0)) (fld_3 T)) (c_fld hK (c_var (pv 0)) (fld_5 T))) r_nil)) (r_cons (c_biT (B := .int) b_int (by rfl) T.n_int (by decide +kernel) (r_cons (c_bin o_add (c_fld hK (c_var (pv 1)) (fld_3 T)) (c_fld hK (c_var (pv 1)) (fld_5 T))) r_nil)) r_nil)))))
      (ss_cons (s_ret (c_mk (ds := []) T.mk5 A.o9 hgd hr1 tk (by rfl) T.mC5 T.ck5 T.bd9_2.choose_spec.2 T.bd9_2.choose_spec.1 (fun H => by simp only [RepAll, Rep]) (k_cons (m := false) (c_var (pv 2)) (k_cons (m := false) (c_var (pv 3)) (k_cons (m := false) (c_bin o_sub (c_var (pv 4)) (c_var (pv 2))) (k_cons (m := false) (c_bin o_sub (c_var (pv 5)) (c_var (pv 3))) k_nil))))))
      ss_nil))))) rfl
theorem ok9 (T : Tx K mg fa ca pa cc ta fd) (A : Al P w K mg base fa cc ta fd k) (A' : Al P w K mg base fa cc ta fd (k - 1)) : FnG P w K mg base (5 * (k + 1)) (fa 9) (fd 9) ["self", "x", "y", "width", "height"] (spF (tb K) (calls fs (k + 1)) 6000 5) := def_ok (F := F_Box__init__) T.f9 sc9 rfl (by decide) rfl (fun _ => rfl) (fun {X} {C} {W} hK hu hu2 hgd hr tk hp hX => by
    have sc := sc9
    obtain ⟨qu, cdv, A0_, outer_, s0_, H0_, E0_, rfl, hC, rfl, hcd⟩ := hX
    obtain ⟨CT, h0_, he_, io_, fa_⟩ := C
    have hC : CT = tb K := hC
    subst hC
    have hcalm : (cxOf (L2.CX P w) P w K mg base ["self", "x", "y", "width", "height"] "Box.__init__" (defScope st9) (fa 9) cdv A0_ outer_ s0_ H0_ E0_).calm = true := rfl
    have hu65 : (cxOf (L2.CX P w) P w K mg base ["self", "x", "y", "width", "height"] "Box.__init__" (defScope st9) (fa 9) cdv A0_ outer_ s0_ H0_ E0_).A.units + 65 < cLine := by omega
    have hr0 : Room (5 * k) _ := hr.mono (by omega)
    have hr1 : Room (5 * k + 1) _ := hr.mono (by omega)
    have hr2 : Room (5 * k + 2) _ := hr.mono (by omega)
    have hr3 : Room (5 * k + 3) _ := hr.mono (by omega)
    exact (ss_cons (s_iff (t_not (t_tru hK (c_call A.o1 hgd hr0 tk (by rfl) T.m1 T.f1.kp T.b1 (k_cons (m := false) (c_var (pv 1)) (k_cons (m := false) (c_cst pe_int (fun H => r_int _ H _)) (k_cons (m := false) (c_bin o_sub (c_cst (pe_glob (v := .int 1267650600228229401496703205376) (by rfl) (T.g_MOST_SIDE).choose_spec ⟨_, rfl⟩) (fun H => r_int _ H _)) (c_cst pe_int (fun H => r_int _ H _))) k_nil)))))) (ss_cons (s_raise (T.cx3) rfl hcalm tk (pmk_X T.ox3 T.xi3 T.xt3 ((xf3 T).up (by omega)) hgd hr2 T.b3 tk (by decide) (by rfl) T.mC3 (f_cons (c_cst pe_str (fun H => r_str _ H _)) f_nil)))
      ss_nil) ss_nil)
      (ss_cons (s_iff (t_not (t_tru hK (c_call A.o1 hgd hr0 tk (by rfl) T.m1 T.f1.kp T.b1 (k_cons (m := false) (c_var (pv 2)) (k_cons (m := false) (c_cst pe_int (fun H => r_int _ H _)) (k_cons (m := false) (c_bin o_sub (c_cst (pe_glob (v := .int 1267650600228229401496703205376) (by rfl) (T.g_MOST_SIDE).choose_spec ⟨_, rfl⟩) (fun H => r_int _ H _)) (c_cst pe_int (fun H => r_int _ H _))) k_nil)))))) (ss_cons (s_raise (T.cx3) rfl hcalm tk (pmk_X T.ox3 T.xi3 T.xt3 ((xf3 T).up (by omega)) hgd hr2 T.b3 tk (by decide) (by rfl) T.mC3 (f_cons (c_cst pe_str (fun H => r_str _ H _)) f_nil)))
      ss_nil) ss_nil)
      (ss_cons (s_iff (t_not (t_tru hK (c_call A.o1 hgd hr0 tk (by rfl) T.m1 T.f1.kp T.b1 (k_cons (m := false) (c_var (pv 3)) (k_cons (m := false) (c_cst pe_int (fun H => r_int _ H _)) (k_cons (m := false) (c_cst (pe_glob (v := .int 1267650600228229401496703205376) (by rfl) (T.g_MOST_SIDE).choose_spec ⟨_, rfl⟩) (fun H => r_int _ H _)) k_nil)))))) (ss_cons (s_raise (T.cx3) rfl hcalm tk (pmk_X T.ox3 T.xi3 T.xt3 ((xf3 T).up (by omega)) hgd hr2 T.b3 tk (by decide) (by rfl) T.mC3 (f_cons (c_cst pe_str (fun H => r_str _ H _)) f_nil)))
      ss_nil) ss_nil)
      (ss_cons (s_iff (t_not (t_tru hK (c_call A.o1 hgd hr0 tk (by rfl) T.m1 T.f1.kp T.b1 (k_cons (m := false) (c_var (pv 4)) (k_cons (m := false) (c_cst pe_int (fun H => r_int _ H _)) (k_cons (m := false) (c_cst (pe_glob (v := .int 1267650600228229401496703205376) (by rfl) (T.g_MOST_SIDE).choose_spec ⟨_, rfl⟩) (fun H => r_int _ H _)) k_nil)))))) (ss_cons (s_raise (T.cx3) rfl hcalm tk (pmk_X T.ox3 T.xi3 T.xt3 ((xf3 T).up (by omega)) hgd hr2 T.b3 tk (by decide) (by rfl) T.mC3 (f_cons (c_cst pe_str (fun H => r_str _ H _)) f_nil)))
      ss_nil) ss_nil)
      (ss_cons (s_setF (σ := []) (cs := [5]) hK (fld_2 T) (by intro c hc; (repeat (rcases List.mem_cons.mp hc with rfl | hc; rfl)); cases hc) (ps_fld (pv 0) (c_var (pv 1)) (by rfl)))
      (ss_cons (s_setF (σ := []) (cs := [5]) hK (fld_3 T) (by intro c hc; (repeat (rcases List.mem_cons.mp hc with rfl | hc; rfl)); cases hc) (ps_fld (pv 0) (c_var (pv 2)) (by rfl)))
      (ss_cons (s_setF (σ := []) (cs := [5]) hK (fld_4 T) (by intro c hc; (repeat (rcases List.mem_cons.mp hc with rfl | hc; rfl)); cases hc) (ps_fld (pv 0) (c_var (pv 3)) (by rfl)))
      (ss_cons (s_setF (σ := []) (cs := [5]) hK (fld_5 T) (by intro c hc; (repeat (rcases List.mem_cons.mp hc with rfl | hc; rfl)); cases hc) (ps_fld (pv 0) (c_var (pv 4)) (by rfl)))
      ss_nil))))))))) rfl
theorem ok10 (T : Tx K mg fa ca pa cc ta fd) (A : Al P w K mg base fa cc ta fd k) (A' : Al P w K mg base fa cc ta fd (k - 1)) : FnG P w K mg base (5 * (k + 1)) (fa 10) (fd 10) ["cls", "text"] (spF (tb K) (calls fs (k + 1)) 6051 2) := def_ok (F := F_Box_read) T.f10 sc10 rfl (by decide) rfl (fun _ => rfl) (fun {X} {C} {W} hK hu hu2 hgd hr tk hp hX => by
    have sc := sc10
    obtain ⟨qu, cdv, A0_, outer_, s0_, H0_, E0_, rfl, hC, rfl, hcd⟩ := hX
    obtain ⟨CT, h0_, he_, io_, fa_⟩ := C
    have hC : CT = tb K := hC
    subst hC
    have hcalm : (cxOf (L2.CX P w) P w K mg base ["cls", "text", "words", "x", "y", "width", "height"] "Box.read" (defScope st10) (fa 10) cdv A0_ outer_ s0_ H0_ E0_).calm = true := rfl
    have hu65 : (cxOf (L2.CX P w) P w K mg base ["cls", "text", "words", "x", "y", "width", "height"] "Box.read" (defScope st10) (fa 10) cdv A0_ outer_ s0_ H0_ E0_).A.units + 65 < cLine := by omega
    have hr0 : Room (5 * k) _ := hr.mono (by omega)
    have hr1 : Room (5 * k + 1) _ := hr.mono (by omega)
    have hr2 : Room (5 * k + 2) _ := hr.mono (by omega)
    have hr3 : Room (5 * k + 3) _ := hr.mono (by omega)
    exact (ss_cons (s_iff (t_not (t_tru hK (c_isi hK isi_str (isb T rfl (by decide)) (by rfl) T.n_isinstance (c_var (pv 1)) (pe_bltn (by rfl) T.n_str (by decide +kernel) rfl)))) (ss_cons (s_raise (T.cx6) rfl hcalm tk (pmk_X T.ox6 T.xi6 T.xt6 ((xf6 T).up (by omega)) hgd hr2 T.b4 tk (by decide) (by rfl) T.mC6 (f_cons (c_cst pe_int (fun H => r_int _ H _)) (f_cons (c_cst pe_int (fun H => r_int _ H _)) f_nil))))
      ss_nil) ss_nil)
      (ss_cons (s_asg (ps_set (i := 2) sc.nd rfl (Or.inl rfl) (c_bm hK PySem.F.plainAttrs_str PySem.F.slot_str_split PySem.F.type_str_split m_split rfl (c_var (pv 1)) (c_cst pe_str (fun H => r_str _ H _)))))
      (ss_cons (s_unp (is := [3, 4, 5, 6]) rfl hK (ps_asg (c_callD (ds := [(.int 0), (.int 0)]) A.o18 hgd hr0 tk (by rfl) T.m18 T.f18.kp T.bd18_0.choose_spec.2 T.bd18_0.choose_spec.1 (fun H => by simp only [RepAll, Rep]; exact ⟨_, _, rfl, rfl, _, _, rfl, rfl, rfl⟩) (k_cons (m := false) (c_var (pv 2)) k_nil)) (pg_un rfl (pgs_cons (pg_name (i := 3) sc.nd rfl (Or.inl rfl)) (pgs_cons (pg_name (i := 4) sc.nd rfl (Or.inl rfl)) (pgs_cons (pg_name (i := 5) sc.nd rfl (Or.inl rfl)) (pgs_cons (pg_name (i := 6) sc.nd rfl (Or.inl rfl)) pgs_nil)))))))
      (ss_cons (s_iff (t_cmp o_gt (c_biB (B := .len) (b_len hK) (by rfl) T.n_len (by decide +kernel) (r_cons (c_var (pv 2)) r_nil)) (c_cst pe_int (fun H => r_int _ H _)) (nomark _)) (ss_cons (s_raise (T.cx6) rfl hcalm tk (pmk_X T.ox6 T.xi6 T.xt6 ((xf6 T).up (by omega)) hgd hr2 T.b4 tk (by decide) (by rfl) T.mC6 (f_cons (c_cst pe_int (fun H => r_int _ H _)) (f_cons (c_cst pe_int (fun H => r_int _ H _)) f_nil))))
      ss_nil) ss_nil)
      (ss_cons (s_ret (c_mkL T.mk5 A.o9 hgd hr1 tk rfl (Or.inl rfl) T.ck5 T.b0d9 (f_cons (c_var (pv 3)) (f_cons (c_var (pv 4)) (f_cons (c_var (pv 5)) (f_cons (c_var (pv 6)) f_nil))))))
      ss_nil)))))) rfl
theorem ok11 (T : Tx K mg fa ca pa cc ta fd) (A : Al P w K mg base fa cc ta fd k) (A' : Al P w K mg base fa cc ta fd (k - 1)) : FnG P w K mg base (5 * (k + 1)) (fa 11) (fd 11) ["self", "other"] (spF (tb K) (calls fs (k + 1)) 6009 2) := def_ok (F := F_Box__and__) T.f11 sc11 rfl (by decide) rfl (fun _ => rfl) (fun {X} {C} {W} hK hu hu2 hgd hr tk hp hX => by
    have sc := sc11
    obtain ⟨qu, cdv, A0_, outer_, s0_, H0_, E0_, rfl, hC, rfl, hcd⟩ := hX
    obtain ⟨CT, h0_, he_, io_, fa_⟩ := C
    have hC : CT = tb K := hC
    subst hC
    have hcalm : (cxOf (L2.CX P w) P w K mg base ["self", "other"] "Box.__and__" (defScope st11) (fa 11) cdv A0_ outer_ s0_ H0_ E0_).calm = true := rfl
    have hu65 : (cxOf (L2.CX P w) P w K mg base ["self", "other"] "Box.__and__" (defScope st11) (fa 11) cdv A0_ outer_ s0_ H0_ E0_).A.units + 65 < cLine := by omega
    have hr0 : Room (5 * k) _ := hr.mono (by omega)
    have hr1 : Room (5 * k + 1) _ := hr.mono (by omega)
    have hr2 : Room (5 * k + 2) _ := hr.mono (by omega)
    have hr3 : Room (5 * k + 3) _ := hr.mono (by omega)
    exact (ss_cons (s_ex (c_call A.o5 hgd hr0 tk (by rfl) T.m5 T.f5.kp T.b5 (k_cons (m := false) (c_var (pv 1)) k_nil)))
      (ss_cons (s_ret (c_call A.o7 hgd hr0 tk (by rfl) T.m7 T.f7.kp T.b7 (k_cons (m := false) (c_var (pv 0)) (k_cons (m := false) (c_var (pv 1)) k_nil))))
      ss_nil))) rfl
theorem ok12 (T : Tx K mg fa ca pa cc ta fd) (A : Al P w K mg base fa cc ta fd k) (A' : Al P w K mg base fa cc ta fd (k - 1)) : FnG P w K mg base (5 * (k + 1)) (fa 12) (fd 12) ["self", "other"] (spF (tb K) (calls fs (k + 1)) 6010 2) := def_ok (F := F_Box__or__) T.f12 sc12 rfl (by decide) rfl (fun _ => rfl) (fun {X} {C} {W} hK hu hu2 hgd hr tk hp hX => by
    have sc := sc12
    obtain ⟨qu, cdv, A0_, outer_, s0_, H0_, E0_, rfl, hC, rfl, hcd⟩ := hX
    obtain ⟨CT, h0_, he_, io_, fa_⟩ := C
    have hC : CT = tb K := hC
    subst hC
    have hcalm : (cxOf (L2.CX P w) P w K mg base ["self", "other"] "Box.__or__" (defScope st12) (fa 12) cdv A0_ outer_ s0_ H0_ E0_).calm = true := rfl
    have hu65 : (cxOf (L2.CX P w) P w K mg base ["self", "other"] "Box.__or__" (defScope st12) (fa 12) cdv A0_ outer_ s0_ H0_ E0_).A.units + 65 < cLine := by omega
    have hr0 : Room (5 * k) _ := hr.mono (by omega)
    have hr1 : Room (5 * k + 1) _ := hr.mono (by omega)
    have hr2 : Room (5 * k + 2) _ := hr.mono (by omega)
    have hr3 : Room (5 * k + 3) _ := hr.mono (by omega)
    exact (ss_cons (s_ex (c_call A.o5 hgd hr0 tk (by rfl) T.m5 T.f5.kp T.b5 (k_cons (m := false) (c_var (pv 1)) k_nil)))
      (ss_cons (s_ret (c_call A.o8 hgd hr0 tk (by rfl) T.m8 T.f8.kp T.b8 (k_cons (m := false) (c_var (pv 0)) (k_cons (m := false) (c_var (pv 1)) k_nil))))
      ss_nil))) rfl
theorem ok13 (T : Tx K mg fa ca pa cc ta fd) (A : Al P w K mg base fa cc ta fd k) (A' : Al P w K mg base fa cc ta fd (k - 1)) : FnG P w K mg base (5 * (k + 1)) (fa 13) (fd 13) ["self", "other"] (spF (tb K) (calls fs (k + 1)) 6013 2) := def_ok (F := F_Box__le__) T.f13 sc13 rfl (by decide) rfl (fun _ => rfl) (fun {X} {C} {W} hK hu hu2 hgd hr tk hp hX => by
    have sc := sc13
    obtain ⟨qu, cdv, A0_, outer_, s0_, H0_, E0_, rfl, hC, rfl, hcd⟩ := hX
    obtain ⟨CT, h0_, he_, io_, fa_⟩ := C
    have hC : CT = tb K := hC
    subst hC
    have hcalm : (cxOf (L2.CX P w) P w K mg base ["self", "other"] "Box.__le__" (defScope st13) (fa 13) cdv A0_ outer_ s0_ H0_ E0_).calm = true := rfl
    have hu65 : (cxOf (L2.CX P w) P w K mg base ["self", "other"] "Box.__le__" (defScope st13) (fa 13) cdv A0_ outer_ s0_ H0_ E0_).A.units + 65 < cLine := by omega
    have hr0 : Room (5 * k) _ := hr.mono (by omega)
    have hr1 : Room (5 * k + 1) _ := hr.mono (by omega)
    have hr2 : Room (5 * k + 2) _ := hr.mono (by omega)
    have hr3 : Room (5 * k + 3) _ := hr.mono (by omega)
    exact (ss_cons (s_ex (c_call A.o5 hgd hr0 tk (by rfl) T.m5 T.f5.kp T.b5 (k_cons (m := false) (c_var (pv 1)) k_nil)))
      (ss_cons (s_ret (c_call A.o6 hgd hr0 tk (by rfl) T.m6 T.f6.kp T.b6 (k_cons (m := false) (c_var (pv 0)) (k_cons (m := false) (c_var (pv 1)) k_nil))))
      ss_nil))) rfl
theorem ok14 (T : Tx K mg fa ca pa cc ta fd) (A : Al P w K mg base fa cc ta fd k) (A' : Al P w K mg base fa cc ta fd (k - 1)) : FnG P w K mg base (5 * (k + 1)) (fa 14) (fd 14) ["self", "other"] (spF (tb K) (calls fs (k + 1)) 6012 2) := def_ok (F := F_Box__lt__) T.f14 sc14 rfl (by decide) rfl (fun _ => rfl) (fun {X} {C} {W} hK hu hu2 hgd hr tk hp hX => by
    have sc := sc14
    obtain ⟨qu, cdv, A0_, outer_, s0_, H0_, E0_, rfl, hC, rfl, hcd⟩ := hX
    obtain ⟨CT, h0_, he_, io_, fa_⟩ := C
    have hC : CT = tb K := hC
    subst hC
    have hcalm : (cxOf (L2.CX P w) P w K mg base ["self", "other"] "Box.__lt__" (defScope st14) (fa 14) cdv A0_ outer_ s0_ H0_ E0_).calm = true := rfl
    have hu65 : (cxOf (L2.CX P w) P w K mg base ["self", "other"] "Box.__lt__" (defScope st14) (fa 14) cdv A0_ outer_ s0_ H0_ E0_).A.units + 65 < cLine := by omega
    have hr0 : Room (5 * k) _ := hr.mono (by omega)
    have hr1 : Room (5 * k + 1) _ := hr.mono (by omega)
    have hr2 : Room (5 * k + 2) _ := hr.mono (by omega)
    have hr3 : Room (5 * k + 3) _ := hr.mono (by omega)
    exact (ss_cons (s_ex (c_call A.o5 hgd hr0 tk (by rfl) T.m5 T.f5.kp T.b5 (k_cons (m := false) (c_var (pv 1)) k_nil)))
      (ss_cons (s_ret (c_and hK (c_call A.o6 hgd hr0 tk (by rfl) T.m6 T.f6.kp T.b6 (k_cons (m := false) (c_var (pv 0)) (k_cons (m := false) (c_var (pv 1)) k_nil))) (c_one (c_not hK (c_call A.o6 hgd hr0 tk (by rfl) T.m6 T.f6.kp T.b6 (k_cons (m := false) (c_var (pv 1)) (k_cons (m := false) (c_var (pv 0)) k_nil)))))))
      ss_nil))) rfl
theorem ok15 (T : Tx K mg fa ca pa cc ta fd) (A : Al P w K mg base fa cc ta fd k) (A' : Al P w K mg base fa cc ta fd (k - 1)) : FnG P w K mg base (5 * (k + 1)) (fa 15) (fd 15) ["self", "other"] (spF (tb K) (calls fs (k + 1)) 6015 2) := def_ok (F := F_Box__ge__) T.f15 sc15 rfl (by decide) rfl (fun _ => rfl) (fun {X} {C} {W} hK hu hu2 hgd hr tk hp hX => by
    have sc := sc15
    obtain ⟨qu, cdv, A0_, outer_, s0_, H0_, E0_, rfl, hC, rfl, hcd⟩ := hX
    obtain ⟨CT, h0_, he_, io_, fa_⟩ := C
    have hC : CT = tb K := hC
    subst hC
    have hcalm : (cxOf (L2.CX P w) P w K mg base ["self", "other"] "Box.__ge__" (defScope st15) (fa 15) cdv A0_ outer_ s0_ H0_ E0_).calm = true := rfl
    have hu65 : (cxOf (L2.CX P w) P w K mg base ["self", "other"] "Box.__ge__" (defScope st15) (fa 15) cdv A0_ outer_ s0_ H0_ E0_).A.units + 65 < cLine := by omega
    have hr0 : Room (5 * k) _ := hr.mono (by omega)
    have hr1 : Room (5 * k + 1) _ := hr.mono (by omega)
    have hr2 : Room (5 * k + 2) _ := hr.mono (by omega)
    have hr3 : Room (5 * k + 3) _ := hr.mono (by omega)
    exact (ss_cons (s_ex (c_call A.o5 hgd hr0 tk (by rfl) T.m5 T.f5.kp T.b5 (k_cons (m := false) (c_var (pv 1)) k_nil)))
      (ss_cons (s_ret (c_call A.o6 hgd hr0 tk (by rfl) T.m6 T.f6.kp T.b6 (k_cons (m := false) (c_var (pv 1)) (k_cons (m := false) (c_var (pv 0)) k_nil))))
      ss_nil))) rfl
theorem ok16 (T : Tx K mg fa ca pa cc ta fd) (A : Al P w K mg base fa cc ta fd k) (A' : Al P w K mg base fa cc ta fd (k - 1)) : FnG P w K mg base (5 * (k + 1)) (fa 16) (fd 16) ["self", "other"] (spF (tb K) (calls fs (k + 1)) 6014 2) := def_ok (F := F_Box__gt__) T.f16 sc16 rfl (by decide) rfl (fun _ => rfl) (fun {X} {C} {W} hK hu hu2 hgd hr tk hp hX => by
    have sc := sc16
    obtain ⟨qu, cdv, A0_, outer_, s0_, H0_, E0_, rfl, hC, rfl, hcd⟩ := hX
    obtain ⟨CT, h0_, he_, io_, fa_⟩ := C
    have hC : CT = tb K := hC
    subst hC
    have hcalm : (cxOf (L2.CX P w) P w K mg base ["self", "other"] "Box.__gt__" (defScope st16) (fa 16) cdv A0_ outer_ s0_ H0_ E0_).calm = true := rfl
    have hu65 : (cxOf (L2.CX P w) P w K mg base ["self", "other"] "Box.__gt__" (defScope st16) (fa 16) cdv A0_ outer_ s0_ H0_ E0_).A.units + 65 < cLine := by omega
    have hr0 : Room (5 * k) _ := hr.mono (by omega)
    have hr1 : Room (5 * k + 1) _ := hr.mono (by omega)
    have hr2 : Room (5 * k + 2) _ := hr.mono (by omega)
    have hr3 : Room (5 * k + 3) _ := hr.mono (by omega)
    exact (ss_cons (s_ex (c_call A.o5 hgd hr0 tk (by rfl) T.m5 T.f5.kp T.b5 (k_cons (m := false) (c_var (pv 1)) k_nil)))
      (ss_cons (s_ret (c_and hK (c_call A.o6 hgd hr0 tk (by rfl) T.m6 T.f6.kp T.b6 (k_cons (m := false) (c_var (pv 1)) (k_cons (m := false) (c_var (pv 0)) k_nil))) (c_one (c_not hK (c_call A.o6 hgd hr0 tk (by rfl) T.m6 T.f6.kp T.b6 (k_cons (m := false) (c_var (pv 0)) (k_cons (m := false) (c_var (pv 1)) k_nil)))))))
      ss_nil))) rfl
theorem ok17 (T : Tx K mg fa ca pa cc ta fd) (A : Al P w K mg base fa cc ta fd k) (A' : Al P w K mg base fa cc ta fd (k - 1)) : FnG P w K mg base (5 * (k + 1)) (fa 17) (fd 17) ["self", "other"] (spF (tb K) (calls fs (k + 1)) 6016 2) := def_ok (F := F_Box__eq__) T.f17 sc17 rfl (by decide) rfl (fun _ => rfl) (fun {X} {C} {W} hK hu hu2 hgd hr tk hp hX => by
    have sc := sc17
    obtain ⟨qu, cdv, A0_, outer_, s0_, H0_, E0_, rfl, hC, rfl, hcd⟩ := hX
    obtain ⟨CT, h0_, he_, io_, fa_⟩ := C
    have hC : CT = tb K := hC
    subst hC
    have hcalm : (cxOf (L2.CX P w) P w K mg base ["self", "other"] "Box.__eq__" (defScope st17) (fa 17) cdv A0_ outer_ s0_ H0_ E0_).calm = true := rfl
    have hu65 : (cxOf (L2.CX P w) P w K mg base ["self", "other"] "Box.__eq__" (defScope st17) (fa 17) cdv A0_ outer_ s0_ H0_ E0_).A.units + 65 < cLine := by omega
    have hr0 : Room (5 * k) _ := hr.mono (by omega)
    have hr1 : Room (5 * k + 1) _ := hr.mono (by omega)
    have hr2 : Room (5 * k + 2) _ := hr.mono (by omega)
    have hr3 : Room (5 * k + 3) _ := hr.mono (by omega)
    exact (ss_cons (s_iff (PW.pt (w_or (t_not (t_tru hK (c_isO hK (iso_5 T rfl) (by rfl) T.n_isinstance (c_var (pv 1)) (pe_glob (v := .ref (ca 5)) (by rfl) T.mC5 rfl)))) (w_or (t_cmp (o_ne hK hu) (c_fld hK (c_var (pv 0)) (fld_2 T)) (c_fld hK (c_var (pv 1)) (fld_2 T)) (nomark _)) (w_or1 (t_cmp (o_ne hK hu) (c_fld hK (c_var (pv 0)) (fld_3 T)) (c_fld hK (c_var (pv 1)) (fld_3 T)) (nomark _)))))) (ss_cons (s_ret (c_cst pe_bl (fun H => r_bl _ H _)))
      ss_nil) ss_nil)
      (ss_cons (s_ret (c_and hK (c_cmp (o_eq hK hu) (c_fld hK (c_var (pv 0)) (fld_4 T)) (c_fld hK (c_var (pv 1)) (fld_4 T)) (nomark _)) (c_one (c_cmp (o_eq hK hu) (c_fld hK (c_var (pv 0)) (fld_5 T)) (c_fld hK (c_var (pv 1)) (fld_5 T)) (nomark _)))))
      ss_nil))) rfl
theorem ok18 (T : Tx K mg fa ca pa cc ta fd) (A : Al P w K mg base fa cc ta fd k) (A' : Al P w K mg base fa cc ta fd (k - 1)) : FnG P w K mg base (5 * (k + 1)) (fa 18) (fd 18) ["words", "begin", "line"] (spF (tb K) (calls fs (k + 1)) 11 3) := def_ok (F := F_box_numbers) T.f18 sc18 rfl (by decide) rfl (fun _ => rfl) (fun {X} {C} {W} hK hu hu2 hgd hr tk hp hX => by
    have sc := sc18
    obtain ⟨qu, cdv, A0_, outer_, s0_, H0_, E0_, rfl, hC, rfl, hcd⟩ := hX
    obtain ⟨CT, h0_, he_, io_, fa_⟩ := C
    have hC : CT = tb K := hC
    subst hC
    have hcalm : (cxOf (L2.CX P w) P w K mg base ["words", "begin", "line", "found", "at", "word", "told"] "box_numbers" (defScope st18) (fa 18) cdv A0_ outer_ s0_ H0_ E0_).calm = true := rfl
    have hu65 : (cxOf (L2.CX P w) P w K mg base ["words", "begin", "line", "found", "at", "word", "told"] "box_numbers" (defScope st18) (fa 18) cdv A0_ outer_ s0_ H0_ E0_).A.units + 65 < cLine := by omega
    have hr0 : Room (5 * k) _ := hr.mono (by omega)
    have hr1 : Room (5 * k + 1) _ := hr.mono (by omega)
    have hr2 : Room (5 * k + 2) _ := hr.mono (by omega)
    have hr3 : Room (5 * k + 3) _ := hr.mono (by omega)
    exact (ss_cons (s_asg (ps_set (i := 3) sc.nd rfl (Or.inl rfl) (c_lst f_nil)))
      (ss_cons (s_forr (ps_for hp rfl (pi_range1 (by rfl) T.n_range (pa_cons (c_cst pe_int (fun H => r_int _ H _)) pa_nil)) (pg_name (i := 4) sc.nd rfl (Or.inl rfl)) (ss_cons (s_asg (ps_set (i := 5) sc.nd rfl (Or.inl rfl) (c_ife (t_cmp o_lt (c_bin o_add (c_var (pv 1)) (c_var (pv 4))) (c_biB (B := .len) (b_len hK) (by rfl) T.n_len (by decide +kernel) (r_cons (c_var (pv 0)) r_nil)) (nomark _)) (c_ix hK hu (c_var (pv 0)) (c_bin o_add (c_var (pv 1)) (c_var (pv 4)))) (c_cst pe_str (fun H => r_str _ H _)))))
      (ss_cons (s_asg (ps_set (i := 6) sc.nd rfl (Or.inl rfl) (c_ife (t_cmp o_lt (c_var (pv 4)) (c_cst pe_int (fun H => r_int _ H _)) (nomark _)) (c_call A.o2 hgd hr0 tk (by rfl) T.m2 T.f2.kp T.b2 (k_cons (m := false) (c_var (pv 5)) (k_cons (m := false) (c_cst pe_int (fun H => r_int _ H _)) (k_cons (m := false) (c_bin o_sub (c_cst (pe_glob (v := .int 1267650600228229401496703205376) (by rfl) (T.g_MOST_SIDE).choose_spec ⟨_, rfl⟩) (fun H => r_int _ H _)) (c_cst pe_int (fun H => r_int _ H _))) k_nil)))) (c_call A.o2 hgd hr0 tk (by rfl) T.m2 T.f2.kp T.b2 (k_cons (m := false) (c_var (pv 5)) (k_cons (m := false) (c_cst pe_int (fun H => r_int _ H _)) (k_cons (m := false) (c_cst (pe_glob (v := .int 1267650600228229401496703205376) (by rfl) (T.g_MOST_SIDE).choose_spec ⟨_, rfl⟩) (fun H => r_int _ H _)) k_nil)))))))
      (ss_cons (s_iff (t_cmp o_is (c_var (pv 6)) (c_cst pe_non (fun H => r_non _ H)) (nomark _)) (ss_cons (s_raise (T.cx6) rfl hcalm tk (pmk_X T.ox6 T.xi6 T.xt6 ((xf6 T).up (by omega)) hgd hr2 T.b4 tk (by decide) (by rfl) T.mC6 (f_cons (c_var (pv 2)) (f_cons (c_bin o_add (c_var (pv 1)) (c_var (pv 4))) f_nil))))
      ss_nil) ss_nil)
      (ss_cons (s_app (ps_expr (pe_bm PySem.F.plainAttrs_list PySem.F.slot_list_append PySem.F.type_list_append mt_append (pv 3) (pa_cons (c_var (pv 6)) pa_nil))))
      ss_nil))))))
      (ss_cons (s_ret (c_var (pv 3)))
      ss_nil)))) rfl
theorem ok19 (T : Tx K mg fa ca pa cc ta fd) (A : Al P w K mg base fa cc ta fd k) (A' : Al P w K mg base fa cc ta fd (k - 1)) : FnG P w K mg base (5 * (k + 1)) (fa 19) (fd 19) [] (spF (tb K) (calls fs (k + 1)) 500 0) := def_ok (F := fn19) T.f19 sc19 rfl (by decide) rfl (fun _ => rfl) (fun {X} {C} {W} hK hu hu2 hgd hr tk hp hX => by
    have sc := sc19
    obtain ⟨qu, cdv, A0_, outer_, s0_, H0_, E0_, rfl, hC, rfl, hcd⟩ := hX
    obtain ⟨CT, h0_, he_, io_, fa_⟩ := C
    have hC : CT = tb K := hC
    subst hC
    have hcalm : (cxOf (L2.CX P w) P w K mg base [] "_law_top" (defScope st19) (fa 19) cdv A0_ outer_ s0_ H0_ E0_).calm = true := rfl
    have hu65 : (cxOf (L2.CX P w) P w K mg base [] "_law_top" (defScope st19) (fa 19) cdv A0_ outer_ s0_ H0_ E0_).A.units + 65 < cLine := by omega
    have hr0 : Room (5 * k) _ := hr.mono (by omega)
    have hr1 : Room (5 * k + 1) _ := hr.mono (by omega)
    have hr2 : Room (5 * k + 2) _ := hr.mono (by omega)
    have hr3 : Room (5 * k + 3) _ := hr.mono (by omega)
    exact (ss_cons (s_ret (c_bin o_mul (c_bin o_pow (c_cst pe_int (fun H => r_int _ H _)) (c_cst pe_int (fun H => r_int _ H _))) (c_bin o_pow (c_cst pe_int (fun H => r_int _ H _)) (c_cst pe_int (fun H => r_int _ H _)))))
      ss_nil)) rfl
theorem ok20 (T : Tx K mg fa ca pa cc ta fd) (A : Al P w K mg base fa cc ta fd k) (A' : Al P w K mg base fa cc ta fd (k - 1)) : FnG P w K mg base (5 * (k + 1)) (fa 20) (fd 20) ["_law_script"] (spF (tb K) (calls fs (k + 1)) 501 1) := def_ok (F := fn20) T.f20 sc20 rfl (by decide) rfl (fun _ => rfl) (fun {X} {C} {W} hK hu hu2 hgd hr tk hp hX => by
    have sc := sc20
    obtain ⟨qu, cdv, A0_, outer_, s0_, H0_, E0_, rfl, hC, rfl, hcd⟩ := hX
    obtain ⟨CT, h0_, he_, io_, fa_⟩ := C
    have hC : CT = tb K := hC
    subst hC
    have hcalm : (cxOf (L2.CX P w) P w K mg base ["_law_script"] "_law_pen" (defScope st20) (fa 20) cdv A0_ outer_ s0_ H0_ E0_).calm = true := rfl
    have hu65 : (cxOf (L2.CX P w) P w K mg base ["_law_script"] "_law_pen" (defScope st20) (fa 20) cdv A0_ outer_ s0_ H0_ E0_).A.units + 65 < cLine := by omega
    have hr0 : Room (5 * k) _ := hr.mono (by omega)
    have hr1 : Room (5 * k + 1) _ := hr.mono (by omega)
    have hr2 : Room (5 * k + 2) _ := hr.mono (by omega)
    have hr3 : Room (5 * k + 3) _ := hr.mono (by omega)
    exact (ss_cons (s_ret (c_lst (f_cons (c_biT (B := .list) (b_list hK) (by rfl) T.n_list (by decide +kernel) (r_cons (c_slice hK (c_var (pv 0)) so_none (so_some (c_cst pe_int (fun H => r_int _ H _)))) r_nil)) (f_cons (c_cst pe_int (fun H => r_int _ H _)) (f_cons (c_cst pe_int (fun H => r_int _ H _)) f_nil)))))
      ss_nil)) rfl
theorem ok21 (T : Tx K mg fa ca pa cc ta fd) (A : Al P w K mg base fa cc ta fd k) (A' : Al P w K mg base fa cc ta fd (k - 1)) : FnG P w K mg base (5 * (k + 1)) (fa 21) (fd 21) ["_law_pen_here", "_law_many"] (spF (tb K) (calls fs (k + 1)) 502 2) := def_ok (F := fn21) T.f21 sc21 rfl (by decide) rfl (fun _ => rfl) (fun {X} {C} {W} hK hu hu2 hgd hr tk hp hX => by
    have sc := sc21
    obtain ⟨qu, cdv, A0_, outer_, s0_, H0_, E0_, rfl, hC, rfl, hcd⟩ := hX
    obtain ⟨CT, h0_, he_, io_, fa_⟩ := C
    have hC : CT = tb K := hC
    subst hC
    have hcalm : (cxOf (L2.CX P w) P w K mg base ["_law_pen_here", "_law_many", "_law_digit", "_law_at", "_law_cell", "_law_great", "_law_mixed"] "_law_draw" (defScope st21) (fa 21) cdv A0_ outer_ s0_ H0_ E0_).calm = true := rfl
    have hu65 : (cxOf (L2.CX P w) P w K mg base ["_law_pen_here", "_law_many", "_law_digit", "_law_at", "_law_cell", "_law_great", "_law_mixed"] "_law_draw" (defScope st21) (fa 21) cdv A0_ outer_ s0_ H0_ E0_).A.units + 65 < cLine := by omega
    have hr0 : Room (5 * k) _ := hr.mono (by omega)
    have hr1 : Room (5 * k + 1) _ := hr.mono (by omega)
    have hr2 : Room (5 * k + 2) _ := hr.mono (by omega)
    have hr3 : Room (5 * k + 3) _ := hr.mono (by omega)
    exact (ss_cons (s_iff (t_cmp o_gt (c_ix hK hu (c_var (pv 0)) (c_cst pe_int (fun H => r_int _ H _))) (c_cst pe_int (fun H => r_int _ H _)) (nomark _)) (ss_cons (s_asg (ps_set (i := 2) sc.nd rfl (Or.inl rfl) (c_bin o_mod (c_biT (B := .int) b_int (by rfl) T.n_int (by decide +kernel) (r_cons (c_ix hK hu (c_var (pv 0)) (c_cst pe_int (fun H => r_int _ H _))) r_nil)) (c_var (pv 1)))))
      (ss_cons (s_setI (ps_asg (c_bin o_fdiv (c_biT (B := .int) b_int (by rfl) T.n_int (by decide +kernel) (r_cons (c_ix hK hu (c_var (pv 0)) (c_cst pe_int (fun H => r_int _ H _))) r_nil)) (c_var (pv 1))) (pg_sub (pv 0) (c_cst pe_int (fun H => r_int _ H _)) set_list)))
      (ss_cons (s_ret (c_var (pv 2)))
      ss_nil))) ss_nil)
      (ss_cons (s_asg (ps_set (i := 3) sc.nd rfl (Or.inl rfl) (c_ix hK hu (c_var (pv 0)) (c_cst pe_int (fun H => r_int _ H _)))))
      (ss_cons (s_setI (ps_asg (c_bin o_add (c_var (pv 3)) (c_cst pe_int (fun H => r_int _ H _))) (pg_sub (pv 0) (c_cst pe_int (fun H => r_int _ H _)) set_list)))
      (ss_cons (s_asg (ps_set (i := 4) sc.nd rfl (Or.inl rfl) (c_bin o_add (c_bin o_mul (c_cst pe_int (fun H => r_int _ H _)) (c_var (pv 3))) (c_cst pe_int (fun H => r_int _ H _)))))
      (ss_cons (s_iff (t_cmp (o_ne hK hu) (c_ix hK hu (c_var (pv 0)) (c_cst pe_int (fun H => r_int _ H _))) (c_lst f_nil) (nomark _)) (ss_cons (s_asg (ps_set (i := 4) sc.nd rfl (Or.inl rfl) (c_ix hK hu (c_ix hK hu (c_var (pv 0)) (c_cst pe_int (fun H => r_int _ H _))) (c_bin o_mod (c_biT (B := .int) b_int (by rfl) T.n_int (by decide +kernel) (r_cons (c_var (pv 3)) r_nil)) (c_biB (B := .len) (b_len hK) (by rfl) T.n_len (by decide +kernel) (r_cons (c_ix hK hu (c_var (pv 0)) (c_cst pe_int (fun H => r_int _ H _))) r_nil))))))
      ss_nil) ss_nil)
      (ss_cons (s_iff (PW.pt (w_and (t_cmp o_lt (c_var (pv 3)) (c_biB (B := .len) (b_len hK) (by rfl) T.n_len (by decide +kernel) (r_cons (c_ix hK hu (c_var (pv 0)) (c_cst pe_int (fun H => r_int _ H _))) r_nil)) (nomark _)) (w_and1 (op := .And) (t_cmp o_ge (c_biB (B := .abs) b_abs (by rfl) T.n_abs (by decide +kernel) (r_cons (c_var (pv 4)) r_nil)) (c_bin o_pow (c_cst pe_int (fun H => r_int _ H _)) (c_cst pe_int (fun H => r_int _ H _))) (nomark _))))) (ss_cons (s_asg (ps_set (i := 5) sc.nd rfl (Or.inl rfl) (c_bin o_add (c_bin o_mul (c_cst pe_int (fun H => r_int _ H _)) (c_bin o_sub (c_biB (B := .abs) b_abs (by rfl) T.n_abs (by decide +kernel) (r_cons (c_var (pv 4)) r_nil)) (c_bin o_pow (c_cst pe_int (fun H => r_int _ H _)) (c_cst pe_int (fun H => r_int _ H _))))) (c_biT (B := .int) b_int (by rfl) T.n_int (by decide +kernel) (r_cons (c_cmp o_lt (c_var (pv 4)) (c_cst pe_int (fun H => r_int _ H _)) (nomark _)) r_nil)))))
      (ss_cons (s_setI (ps_asg (c_bin o_fdiv (c_biT (B := .int) b_int (by rfl) T.n_int (by decide +kernel) (r_cons (c_var (pv 5)) r_nil)) (c_var (pv 1))) (pg_sub (pv 0) (c_cst pe_int (fun H => r_int _ H _)) set_list)))
      (ss_cons (s_ret (c_bin o_mod (c_biT (B := .int) b_int (by rfl) T.n_int (by decide +kernel) (r_cons (c_var (pv 5)) r_nil)) (c_var (pv 1))))
      ss_nil))) ss_nil)
      (ss_cons (s_asg (ps_set (i := 6) sc.nd rfl (Or.inl rfl) (c_bin o_mod (c_biT (B := .int) b_int (by rfl) T.n_int (by decide +kernel) (r_cons (c_bin o_pow (c_bin o_add (c_bin o_add (c_bin o_mod (c_biT (B := .int) b_int (by rfl) T.n_int (by decide +kernel) (r_cons (c_var (pv 4)) r_nil)) (c_cst pe_int (fun H => r_int _ H _))) (c_bin o_mul (c_cst pe_int (fun H => r_int _ H _)) (c_var (pv 3)))) (c_cst pe_int (fun H => r_int _ H _))) (c_cst pe_int (fun H => r_int _ H _))) r_nil)) (c_cst pe_int (fun H => r_int _ H _)))))
      (ss_cons (s_asg (ps_set (i := 6) sc.nd rfl (Or.inl rfl) (c_bin o_mod (c_biT (B := .int) b_int (by rfl) T.n_int (by decide +kernel) (r_cons (c_bin o_pow (c_bin o_add (c_bin o_add (c_bin o_mul (c_var (pv 6)) (c_bin o_add (c_bin o_mul (c_cst pe_int (fun H => r_int _ H _)) (c_var (pv 3))) (c_cst pe_int (fun H => r_int _ H _)))) (c_bin o_mul (c_bin o_mul (c_cst pe_int (fun H => r_int _ H _)) (c_var (pv 3))) (c_var (pv 3)))) (c_cst pe_int (fun H => r_int _ H _))) (c_cst pe_int (fun H => r_int _ H _))) r_nil)) (c_cst pe_int (fun H => r_int _ H _)))))
      (ss_cons (s_ret (c_bin o_mod (c_biT (B := .int) b_int (by rfl) T.n_int (by decide +kernel) (r_cons (c_bin o_fdiv (c_var (pv 6)) (c_cst pe_int (fun H => r_int _ H _))) r_nil)) (c_var (pv 1))))
      ss_nil)))))))))) rfl
theorem ok22 (T : Tx K mg fa ca pa cc ta fd) (A : Al P w K mg base fa cc ta fd k) (A' : Al P w K mg base fa cc ta fd (k - 1)) : FnG P w K mg base (5 * (k + 1)) (fa 22) (fd 22) ["_law_pen_here", "_law_some"] (spF (tb K) (calls fs (k + 1)) 503 2) := def_ok (F := fn22) T.f22 sc22 rfl (by decide) rfl (fun _ => rfl) (fun {X} {C} {W} hK hu hu2 hgd hr tk hp hX => by
    have sc := sc22
    obtain ⟨qu, cdv, A0_, outer_, s0_, H0_, E0_, rfl, hC, rfl, hcd⟩ := hX
    obtain ⟨CT, h0_, he_, io_, fa_⟩ := C
    have hC : CT = tb K := hC
    subst hC
    have hcalm : (cxOf (L2.CX P w) P w K mg base ["_law_pen_here", "_law_some"] "_law_pick" (defScope st22) (fa 22) cdv A0_ outer_ s0_ H0_ E0_).calm = true := rfl
    have hu65 : (cxOf (L2.CX P w) P w K mg base ["_law_pen_here", "_law_some"] "_law_pick" (defScope st22) (fa 22) cdv A0_ outer_ s0_ H0_ E0_).A.units + 65 < cLine := by omega
    have hr0 : Room (5 * k) _ := hr.mono (by omega)
    have hr1 : Room (5 * k + 1) _ := hr.mono (by omega)
    have hr2 : Room (5 * k + 2) _ := hr.mono (by omega)
    have hr3 : Room (5 * k + 3) _ := hr.mono (by omega)
    exact (ss_cons (s_ret (c_ix hK hu (c_var (pv 1)) (c_call A.o21 hgd hr0 tk (by rfl) T.m21 T.f21.kp T.b21 (k_cons (m := true) (c_var (pv 0)) (k_cons (m := false) (c_biB (B := .len) (b_len hK) (by rfl) T.n_len (by decide +kernel) (r_cons (c_var (pv 1)) r_nil)) k_nil)))))
      ss_nil)) rfl
theorem ok23 (T : Tx K mg fa ca pa cc ta fd) (A : Al P w K mg base fa cc ta fd k) (A' : Al P w K mg base fa cc ta fd (k - 1)) : FnG P w K mg base (5 * (k + 1)) (fa 23) (fd 23) ["_law_pen_here"] (spF (tb K) (calls fs (k + 1)) 504 1) := def_ok (F := fn23) T.f23 sc23 rfl (by decide) rfl (fun _ => rfl) (fun {X} {C} {W} hK hu hu2 hgd hr tk hp hX => by
    have sc := sc23
    obtain ⟨qu, cdv, A0_, outer_, s0_, H0_, E0_, rfl, hC, rfl, hcd⟩ := hX
    obtain ⟨CT, h0_, he_, io_, fa_⟩ := C
    have hC : CT = tb K := hC
    subst hC
    have hcalm : (cxOf (L2.CX P w) P w K mg base ["_law_pen_here"] "_law_number" (defScope st23) (fa 23) cdv A0_ outer_ s0_ H0_ E0_).calm = true := rfl
    have hu65 : (cxOf (L2.CX P w) P w K mg base ["_law_pen_here"] "_law_number" (defScope st23) (fa 23) cdv A0_ outer_ s0_ H0_ E0_).A.units + 65 < cLine := by omega
    have hr0 : Room (5 * k) _ := hr.mono (by omega)
    have hr1 : Room (5 * k + 1) _ := hr.mono (by omega)
    have hr2 : Room (5 * k + 2) _ := hr.mono (by omega)
    have hr3 : Room (5 * k + 3) _ := hr.mono (by omega)
    exact (ss_cons (s_ret (c_call A.o22 hgd hr0 tk (by rfl) T.m22 T.f22.kp T.b22 (k_cons (m := true) (c_var (pv 0)) (k_cons (m := false) (c_lst (f_cons (c_cst pe_int (fun H => r_int _ H _)) (f_cons (c_cst pe_int (fun H => r_int _ H _)) (f_cons (c_cst pe_int (fun H => r_int _ H _)) (f_cons (c_cst pe_int (fun H => r_int _ H _)) (f_cons (c_cst pe_int (fun H => r_int _ H _)) (f_cons (c_cst pe_int (fun H => r_int _ H _)) (f_cons (c_call A.o21 hgd hr0 tk (by rfl) T.m21 T.f21.kp T.b21 (k_cons (m := true) (c_var (pv 0)) (k_cons (m := false) (c_cst pe_int (fun H => r_int _ H _)) k_nil))) (f_cons (c_bin o_sub (c_bin o_fdiv (c_call0 A.o19 hgd hr0 tk (by rfl) T.m19 T.f19.kp T.b19) (c_cst pe_int (fun H => r_int _ H _))) (c_call A.o21 hgd hr0 tk (by rfl) T.m21 T.f21.kp T.b21 (k_cons (m := true) (c_var (pv 0)) (k_cons (m := false) (c_cst pe_int (fun H => r_int _ H _)) k_nil)))) f_nil))))))))) k_nil))))
      ss_nil)) rfl
theorem ok24 (T : Tx K mg fa ca pa cc ta fd) (A : Al P w K mg base fa cc ta fd k) (A' : Al P w K mg base fa cc ta fd (k - 1)) : FnG P w K mg base (5 * (k + 1)) (fa 24) (fd 24) ["_law_pen_here"] (spF (tb K) (calls fs (k + 1)) 505 1) := def_ok (F := fn24) T.f24 sc24 rfl (by decide) rfl (fun _ => rfl) (fun {X} {C} {W} hK hu hu2 hgd hr tk hp hX => by
    have sc := sc24
    obtain ⟨qu, cdv, A0_, outer_, s0_, H0_, E0_, rfl, hC, rfl, hcd⟩ := hX
    obtain ⟨CT, h0_, he_, io_, fa_⟩ := C
    have hC : CT = tb K := hC
    subst hC
    have hcalm : (cxOf (L2.CX P w) P w K mg base ["_law_pen_here"] "_law_side" (defScope st24) (fa 24) cdv A0_ outer_ s0_ H0_ E0_).calm = true := rfl
    have hu65 : (cxOf (L2.CX P w) P w K mg base ["_law_pen_here"] "_law_side" (defScope st24) (fa 24) cdv A0_ outer_ s0_ H0_ E0_).A.units + 65 < cLine := by omega
    have hr0 : Room (5 * k) _ := hr.mono (by omega)
    have hr1 : Room (5 * k + 1) _ := hr.mono (by omega)
    have hr2 : Room (5 * k + 2) _ := hr.mono (by omega)
    have hr3 : Room (5 * k + 3) _ := hr.mono (by omega)
    exact (ss_cons (s_ret (c_call A.o22 hgd hr0 tk (by rfl) T.m22 T.f22.kp T.b22 (k_cons (m := true) (c_var (pv 0)) (k_cons (m := false) (c_lst (f_cons (c_cst pe_int (fun H => r_int _ H _)) (f_cons (c_cst pe_int (fun H => r_int _ H _)) (f_cons (c_cst pe_int (fun H => r_int _ H _)) (f_cons (c_cst pe_int (fun H => r_int _ H _)) (f_cons (c_cst pe_int (fun H => r_int _ H _)) (f_cons (c_bin o_add (c_cst pe_int (fun H => r_int _ H _)) (c_call A.o21 hgd hr0 tk (by rfl) T.m21 T.f21.kp T.b21 (k_cons (m := true) (c_var (pv 0)) (k_cons (m := false) (c_cst pe_int (fun H => r_int _ H _)) k_nil)))) (f_cons (c_bin o_add (c_bin o_fdiv (c_call0 A.o19 hgd hr0 tk (by rfl) T.m19 T.f19.kp T.b19) (c_cst pe_int (fun H => r_int _ H _))) (c_call A.o21 hgd hr0 tk (by rfl) T.m21 T.f21.kp T.b21 (k_cons (m := true) (c_var (pv 0)) (k_cons (m := false) (c_cst pe_int (fun H => r_int _ H _)) k_nil)))) f_nil)))))))) k_nil))))
      ss_nil)) rfl
theorem ok25 (T : Tx K mg fa ca pa cc ta fd) (A : Al P w K mg base fa cc ta fd k) (A' : Al P w K mg base fa cc ta fd (k - 1)) : FnG P w K mg base (5 * (k + 1)) (fa 25) (fd 25) ["_law_pen_here"] (spF (tb K) (calls fs (k + 1)) 506 1) := def_ok (F := fn25) T.f25 sc25 rfl (by decide) rfl (fun _ => rfl) (fun {X} {C} {W} hK hu hu2 hgd hr tk hp hX => by
    have sc := sc25
    obtain ⟨qu, cdv, A0_, outer_, s0_, H0_, E0_, rfl, hC, rfl, hcd⟩ := hX
    obtain ⟨CT, h0_, he_, io_, fa_⟩ := C
    have hC : CT = tb K := hC
    subst hC
    have hcalm : (cxOf (L2.CX P w) P w K mg base ["_law_pen_here"] "_law_four" (defScope st25) (fa 25) cdv A0_ outer_ s0_ H0_ E0_).calm = true := rfl
    have hu65 : (cxOf (L2.CX P w) P w K mg base ["_law_pen_here"] "_law_four" (defScope st25) (fa 25) cdv A0_ outer_ s0_ H0_ E0_).A.units + 65 < cLine := by omega
    have hr0 : Room (5 * k) _ := hr.mono (by omega)
    have hr1 : Room (5 * k + 1) _ := hr.mono (by omega)
    have hr2 : Room (5 * k + 2) _ := hr.mono (by omega)
    have hr3 : Room (5 * k + 3) _ := hr.mono (by omega)
    exact (ss_cons (s_ret (c_tup (f_cons (c_call A.o23 hgd hr0 tk (by rfl) T.m23 T.f23.kp T.b23 (k_cons (m := true) (c_var (pv 0)) k_nil)) (f_cons (c_call A.o23 hgd hr0 tk (by rfl) T.m23 T.f23.kp T.b23 (k_cons (m := true) (c_var (pv 0)) k_nil)) (f_cons (c_call A.o24 hgd hr0 tk (by rfl) T.m24 T.f24.kp T.b24 (k_cons (m := true) (c_var (pv 0)) k_nil)) (f_cons (c_call A.o24 hgd hr0 tk (by rfl) T.m24 T.f24.kp T.b24 (k_cons (m := true) (c_var (pv 0)) k_nil)) f_nil))))))
      ss_nil)) rfl
theorem ok26 (T : Tx K mg fa ca pa cc ta fd) (A : Al P w K mg base fa cc ta fd k) (A' : Al P w K mg base fa cc ta fd (k - 1)) : FnG P w K mg base (5 * (k + 1)) (fa 26) (fd 26) ["_law_four_here"] (spF (tb K) (calls fs (k + 1)) 507 1) := def_ok (F := fn26) T.f26 sc26 rfl (by decide) rfl (fun _ => rfl) (fun {X} {C} {W} hK hu hu2 hgd hr tk hp hX => by
    have sc := sc26
    obtain ⟨qu, cdv, A0_, outer_, s0_, H0_, E0_, rfl, hC, rfl, hcd⟩ := hX
    obtain ⟨CT, h0_, he_, io_, fa_⟩ := C
    have hC : CT = tb K := hC
    subst hC
    have hcalm : (cxOf (L2.CX P w) P w K mg base ["_law_four_here", "_law_one"] "_law_made" (defScope st26) (fa 26) cdv A0_ outer_ s0_ H0_ E0_).calm = true := rfl
    have hu65 : (cxOf (L2.CX P w) P w K mg base ["_law_four_here", "_law_one"] "_law_made" (defScope st26) (fa 26) cdv A0_ outer_ s0_ H0_ E0_).A.units + 65 < cLine := by omega
    have hr0 : Room (5 * k) _ := hr.mono (by omega)
    have hr1 : Room (5 * k + 1) _ := hr.mono (by omega)
    have hr2 : Room (5 * k + 2) _ := hr.mono (by omega)
    have hr3 : Room (5 * k + 3) _ := hr.mono (by omega)
    exact (ss_cons (s_ret (c_cmt A.o10 hgd hr0 tk (by rfl) T.mC5 T.cn5 T.cr10 T.cm10 T.b10 (f_cons (c_bm hK PySem.F.plainAttrs_str PySem.F.slot_str_join PySem.F.type_str_join (m_join hK) rfl (c_cst pe_str (fun H => r_str _ H _)) (c_lc (vs := [1]) hK hcalm sc.nd (i_seq hK (c_var (pv 0))) (blkOk_by (own := [("_law_one", 1)]) (by kernel_rfl)) (fun _ _ _ _ _ => (pg_name (i := 1) sc.nd rfl (Or.inl rfl))) (fun _ _ _ _ _ => pt_tst0) (fun _ _ _ _ _ => pe_elt fun _ _ _ _ => (c_biT (B := .str) b_str (by rfl) T.n_str (by decide +kernel) (r_cons (c_var (pv 1)) r_nil))))) f_nil)))
      ss_nil)) rfl
theorem ok27 (T : Tx K mg fa ca pa cc ta fd) (A : Al P w K mg base fa cc ta fd k) (A' : Al P w K mg base fa cc ta fd (k - 1)) : FnG P w K mg base (5 * (k + 1)) (fa 27) (fd 27) ["_law_box"] (spF (tb K) (calls fs (k + 1)) 508 1) := def_ok (F := fn27) T.f27 sc27 rfl (by decide) rfl (fun _ => rfl) (fun {X} {C} {W} hK hu hu2 hgd hr tk hp hX => by
    have sc := sc27
    obtain ⟨qu, cdv, A0_, outer_, s0_, H0_, E0_, rfl, hC, rfl, hcd⟩ := hX
    obtain ⟨CT, h0_, he_, io_, fa_⟩ := C
    have hC : CT = tb K := hC
    subst hC
    have hcalm : (cxOf (L2.CX P w) P w K mg base ["_law_box"] "_law_told" (defScope st27) (fa 27) cdv A0_ outer_ s0_ H0_ E0_).calm = true := rfl
    have hu65 : (cxOf (L2.CX P w) P w K mg base ["_law_box"] "_law_told" (defScope st27) (fa 27) cdv A0_ outer_ s0_ H0_ E0_).A.units + 65 < cLine := by omega
    have hr0 : Room (5 * k) _ := hr.mono (by omega)
    have hr1 : Room (5 * k + 1) _ := hr.mono (by omega)
    have hr2 : Room (5 * k + 2) _ := hr.mono (by omega)
    have hr3 : Room (5 * k + 3) _ := hr.mono (by omega)
    exact (ss_cons (s_ret (c_tup (f_cons (c_fld hK (c_var (pv 0)) (fld_2 T)) (f_cons (c_fld hK (c_var (pv 0)) (fld_3 T)) (f_cons (c_fld hK (c_var (pv 0)) (fld_4 T)) (f_cons (c_fld hK (c_var (pv 0)) (fld_5 T)) f_nil))))))
      ss_nil)) rfl
theorem ok28 (T : Tx K mg fa ca pa cc ta fd) (A : Al P w K mg base fa cc ta fd k) (A' : Al P w K mg base fa cc ta fd (k - 1)) : FnG P w K mg base (5 * (k + 1)) (fa 28) (fd 28) ["_law_pen_here", "_law_four_here"] (spF (tb K) (calls fs (k + 1)) 509 2) := def_ok (F := fn28) T.f28 sc28 rfl (by decide) rfl (fun _ => rfl) (fun {X} {C} {W} hK hu hu2 hgd hr tk hp hX => by
    have sc := sc28
    obtain ⟨qu, cdv, A0_, outer_, s0_, H0_, E0_, rfl, hC, rfl, hcd⟩ := hX
    obtain ⟨CT, h0_, he_, io_, fa_⟩ := C
    have hC : CT = tb K := hC
    subst hC
    have hcalm : (cxOf (L2.CX P w) P w K mg base ["_law_pen_here", "_law_four_here", "_law_x", "_law_y", "_law_width", "_law_height", "_law_beside", "_law_above", "_law_way"] "_law_near" (defScope st28) (fa 28) cdv A0_ outer_ s0_ H0_ E0_).calm = true := rfl
    have hu65 : (cxOf (L2.CX P w) P w K mg base ["_law_pen_here", "_law_four_here", "_law_x", "_law_y", "_law_width", "_law_height", "_law_beside", "_law_above", "_law_way"] "_law_near" (defScope st28) (fa 28) cdv A0_ outer_ s0_ H0_ E0_).A.units + 65 < cLine := by omega
    have hr0 : Room (5 * k) _ := hr.mono (by omega)
    have hr1 : Room (5 * k + 1) _ := hr.mono (by omega)
    have hr2 : Room (5 * k + 2) _ := hr.mono (by omega)
    have hr3 : Room (5 * k + 3) _ := hr.mono (by omega)
    exact (ss_cons (s_unp (is := [2, 3, 4, 5]) rfl hK (ps_asg (c_var (pv 1)) (pg_un rfl (pgs_cons (pg_name (i := 2) sc.nd rfl (Or.inl rfl)) (pgs_cons (pg_name (i := 3) sc.nd rfl (Or.inl rfl)) (pgs_cons (pg_name (i := 4) sc.nd rfl (Or.inl rfl)) (pgs_cons (pg_name (i := 5) sc.nd rfl (Or.inl rfl)) pgs_nil)))))))
      (ss_cons (s_par2 (ps_par (i := 6) (j := 7) rfl sc.nd rfl rfl (by decide) rfl rfl (f_cons (c_biB (B := .min2) (b_min rfl) (by rfl) T.n_min (by decide +kernel) (r_cons (c_biT (B := .int) b_int (by rfl) T.n_int (by decide +kernel) (r_cons (c_bin o_add (c_var (pv 2)) (c_var (pv 4))) r_nil)) (r_cons (c_bin o_sub (c_call0 A.o19 hgd hr0 tk (by rfl) T.m19 T.f19.kp T.b19) (c_cst pe_int (fun H => r_int _ H _))) r_nil))) (f_cons (c_biB (B := .min2) (b_min rfl) (by rfl) T.n_min (by decide +kernel) (r_cons (c_biT (B := .int) b_int (by rfl) T.n_int (by decide +kernel) (r_cons (c_bin o_add (c_var (pv 3)) (c_var (pv 5))) r_nil)) (r_cons (c_bin o_sub (c_call0 A.o19 hgd hr0 tk (by rfl) T.m19 T.f19.kp T.b19) (c_cst pe_int (fun H => r_int _ H _))) r_nil))) f_nil)) (by rfl)))
      (ss_cons (s_asg (ps_set (i := 8) sc.nd rfl (Or.inl rfl) (c_call A.o21 hgd hr0 tk (by rfl) T.m21 T.f21.kp T.b21 (k_cons (m := true) (c_var (pv 0)) (k_cons (m := false) (c_cst pe_int (fun H => r_int _ H _)) k_nil)))))
      (ss_cons (s_iff (t_cmp (o_eq hK hu) (c_var (pv 8)) (c_cst pe_int (fun H => r_int _ H _)) (nomark _)) (ss_cons (s_ret (c_var (pv 1)))
      ss_nil) ss_nil)
      (ss_cons (s_iff (t_cmp (o_eq hK hu) (c_var (pv 8)) (c_cst pe_int (fun H => r_int _ H _)) (nomark _)) (ss_cons (s_ret (c_tup (f_cons (c_var (pv 2)) (f_cons (c_var (pv 3)) (f_cons (c_bin o_add (c_cst pe_int (fun H => r_int _ H _)) (c_call A.o21 hgd hr0 tk (by rfl) T.m21 T.f21.kp T.b21 (k_cons (m := true) (c_var (pv 0)) (k_cons (m := false) (c_biB (B := .min2) (b_min rfl) (by rfl) T.n_min (by decide +kernel) (r_cons (c_biT (B := .int) b_int (by rfl) T.n_int (by decide +kernel) (r_cons (c_var (pv 4)) r_nil)) (r_cons (c_cst pe_int (fun H => r_int _ H _)) r_nil))) k_nil)))) (f_cons (c_bin o_add (c_cst pe_int (fun H => r_int _ H _)) (c_call A.o21 hgd hr0 tk (by rfl) T.m21 T.f21.kp T.b21 (k_cons (m := true) (c_var (pv 0)) (k_cons (m := false) (c_biB (B := .min2) (b_min rfl) (by rfl) T.n_min (by decide +kernel) (r_cons (c_biT (B := .int) b_int (by rfl) T.n_int (by decide +kernel) (r_cons (c_var (pv 5)) r_nil)) (r_cons (c_cst pe_int (fun H => r_int _ H _)) r_nil))) k_nil)))) f_nil))))))
      ss_nil) ss_nil)
      (ss_cons (s_iff (t_cmp (o_eq hK hu) (c_var (pv 8)) (c_cst pe_int (fun H => r_int _ H _)) (nomark _)) (ss_cons (s_ret (c_tup (f_cons (c_var (pv 6)) (f_cons (c_var (pv 3)) (f_cons (c_call A.o24 hgd hr0 tk (by rfl) T.m24 T.f24.kp T.b24 (k_cons (m := true) (c_var (pv 0)) k_nil)) (f_cons (c_call A.o24 hgd hr0 tk (by rfl) T.m24 T.f24.kp T.b24 (k_cons (m := true) (c_var (pv 0)) k_nil)) f_nil))))))
      ss_nil) ss_nil)
      (ss_cons (s_iff (t_cmp (o_eq hK hu) (c_var (pv 8)) (c_cst pe_int (fun H => r_int _ H _)) (nomark _)) (ss_cons (s_ret (c_tup (f_cons (c_bin o_sub (c_var (pv 6)) (c_cst pe_int (fun H => r_int _ H _))) (f_cons (c_bin o_sub (c_var (pv 7)) (c_cst pe_int (fun H => r_int _ H _))) (f_cons (c_call A.o24 hgd hr0 tk (by rfl) T.m24 T.f24.kp T.b24 (k_cons (m := true) (c_var (pv 0)) k_nil)) (f_cons (c_var (pv 5)) f_nil))))))
      ss_nil) ss_nil)
      (ss_cons (s_iff (t_cmp (o_eq hK hu) (c_var (pv 8)) (c_cst pe_int (fun H => r_int _ H _)) (nomark _)) (ss_cons (s_ret (c_tup (f_cons (c_var (pv 2)) (f_cons (c_bin o_add (c_var (pv 7)) (c_call A.o21 hgd hr0 tk (by rfl) T.m21 T.f21.kp T.b21 (k_cons (m := true) (c_var (pv 0)) (k_cons (m := false) (c_cst pe_int (fun H => r_int _ H _)) k_nil)))) (f_cons (c_var (pv 4)) (f_cons (c_bin o_add (c_cst pe_int (fun H => r_int _ H _)) (c_call A.o21 hgd hr0 tk (by rfl) T.m21 T.f21.kp T.b21 (k_cons (m := true) (c_var (pv 0)) (k_cons (m := false) (c_cst pe_int (fun H => r_int _ H _)) k_nil)))) f_nil))))))
      ss_nil) ss_nil)
      (ss_cons (s_ret (c_call A.o25 hgd hr0 tk (by rfl) T.m25 T.f25.kp T.b25 (k_cons (m := true) (c_var (pv 0)) k_nil)))
      ss_nil)))))))))) rfl
theorem ok29 (T : Tx K mg fa ca pa cc ta fd) (A : Al P w K mg base fa cc ta fd k) (A' : Al P w K mg base fa cc ta fd (k - 1)) : FnG P w K mg base (5 * (k + 1)) (fa 29) (fd 29) ["_law_one", "_law_two"] (spF (tb K) (calls fs (k + 1)) 510 2) := def_ok (F := fn29) T.f29 sc29 rfl (by decide) rfl (fun _ => rfl) (fun {X} {C} {W} hK hu hu2 hgd hr tk hp hX => by
    have sc := sc29
    obtain ⟨qu, cdv, A0_, outer_, s0_, H0_, E0_, rfl, hC, rfl, hcd⟩ := hX
    obtain ⟨CT, h0_, he_, io_, fa_⟩ := C
    have hC : CT = tb K := hC
    subst hC
    have hcalm : (cxOf (L2.CX P w) P w K mg base ["_law_one", "_law_two", "_law_low", "_law_at", "_law_high"] "_law_common" (defScope st29) (fa 29) cdv A0_ outer_ s0_ H0_ E0_).calm = true := rfl
    have hu65 : (cxOf (L2.CX P w) P w K mg base ["_law_one", "_law_two", "_law_low", "_law_at", "_law_high"] "_law_common" (defScope st29) (fa 29) cdv A0_ outer_ s0_ H0_ E0_).A.units + 65 < cLine := by omega
    have hr0 : Room (5 * k) _ := hr.mono (by omega)
    have hr1 : Room (5 * k + 1) _ := hr.mono (by omega)
    have hr2 : Room (5 * k + 2) _ := hr.mono (by omega)
    have hr3 : Room (5 * k + 3) _ := hr.mono (by omega)
    exact (ss_cons (s_asgLc (vs := [3]) hK hcalm sc.nd rfl rfl (by rfl) (i_rng1 (by rfl) T.n_range (c_cst pe_int (fun H => r_int _ H _))) (blkOk_by (own := [("_law_at", 3)]) (by kernel_rfl)) (fun _ _ _ _ _ => (pg_name (i := 3) sc.nd rfl (Or.inl rfl))) (fun _ _ _ _ _ => pt_tst0) (fun _ _ _ _ _ => pe_elt fun _ _ _ _ => (c_biB (B := .max2) (b_max rfl) (by rfl) T.n_max (by decide +kernel) (r_cons (c_biT (B := .int) b_int (by rfl) T.n_int (by decide +kernel) (r_cons (c_ix hK hu (c_var (pv 0)) (c_var (pv 3))) r_nil)) (r_cons (c_biT (B := .int) b_int (by rfl) T.n_int (by decide +kernel) (r_cons (c_ix hK hu (c_var (pv 1)) (c_var (pv 3))) r_nil)) r_nil)))))
      (ss_cons (s_asgLc (vs := [3]) hK hcalm sc.nd rfl rfl (by rfl) (i_rng1 (by rfl) T.n_range (c_cst pe_int (fun H => r_int _ H _))) (blkOk_by (own := [("_law_at", 3)]) (by kernel_rfl)) (fun _ _ _ _ _ => (pg_name (i := 3) sc.nd rfl (Or.inl rfl))) (fun _ _ _ _ _ => pt_tst0) (fun _ _ _ _ _ => pe_elt fun _ _ _ _ => (c_biB (B := .min2) (b_min rfl) (by rfl) T.n_min (by decide +kernel) (r_cons (c_biT (B := .int) b_int (by rfl) T.n_int (by decide +kernel) (r_cons (c_bin o_add (c_ix hK hu (c_var (pv 0)) (c_var (pv 3))) (c_ix hK hu (c_var (pv 0)) (c_bin o_add (c_var (pv 3)) (c_cst pe_int (fun H => r_int _ H _))))) r_nil)) (r_cons (c_biT (B := .int) b_int (by rfl) T.n_int (by decide +kernel) (r_cons (c_bin o_add (c_ix hK hu (c_var (pv 1)) (c_var (pv 3))) (c_ix hK hu (c_var (pv 1)) (c_bin o_add (c_var (pv 3)) (c_cst pe_int (fun H => r_int _ H _))))) r_nil)) r_nil)))))
      (ss_cons (s_iff (PW.pt (w_or (t_cmp o_ge (c_ix hK hu (c_var (pv 2)) (c_cst pe_int (fun H => r_int _ H _))) (c_ix hK hu (c_var (pv 4)) (c_cst pe_int (fun H => r_int _ H _))) (nomark _)) (w_or1 (t_cmp o_ge (c_ix hK hu (c_var (pv 2)) (c_cst pe_int (fun H => r_int _ H _))) (c_ix hK hu (c_var (pv 4)) (c_cst pe_int (fun H => r_int _ H _))) (nomark _))))) (ss_cons (s_ret (c_cst pe_non (fun H => r_non _ H)))
      ss_nil) ss_nil)
      (ss_cons (s_ret (c_tup (f_cons (c_ix hK hu (c_var (pv 2)) (c_cst pe_int (fun H => r_int _ H _))) (f_cons (c_ix hK hu (c_var (pv 2)) (c_cst pe_int (fun H => r_int _ H _))) (f_cons (c_bin o_sub (c_ix hK hu (c_var (pv 4)) (c_cst pe_int (fun H => r_int _ H _))) (c_ix hK hu (c_var (pv 2)) (c_cst pe_int (fun H => r_int _ H _)))) (f_cons (c_bin o_sub (c_ix hK hu (c_var (pv 4)) (c_cst pe_int (fun H => r_int _ H _))) (c_ix hK hu (c_var (pv 2)) (c_cst pe_int (fun H => r_int _ H _)))) f_nil))))))
      ss_nil))))) rfl
theorem ok30 (T : Tx K mg fa ca pa cc ta fd) (A : Al P w K mg base fa cc ta fd k) (A' : Al P w K mg base fa cc ta fd (k - 1)) : FnG P w K mg base (5 * (k + 1)) (fa 30) (fd 30) ["_law_one", "_law_two"] (spF (tb K) (calls fs (k + 1)) 511 2) := def_ok (F := fn30) T.f30 sc30 rfl (by decide) rfl (fun _ => rfl) (fun {X} {C} {W} hK hu hu2 hgd hr tk hp hX => by
    have sc := sc30
    obtain ⟨qu, cdv, A0_, outer_, s0_, H0_, E0_, rfl, hC, rfl, hcd⟩ := hX
    obtain ⟨CT, h0_, he_, io_, fa_⟩ := C
    have hC : CT = tb K := hC
    subst hC
    have hcalm : (cxOf (L2.CX P w) P w K mg base ["_law_one", "_law_two", "_law_low", "_law_at", "_law_high"] "_law_least" (defScope st30) (fa 30) cdv A0_ outer_ s0_ H0_ E0_).calm = true := rfl
    have hu65 : (cxOf (L2.CX P w) P w K mg base ["_law_one", "_law_two", "_law_low", "_law_at", "_law_high"] "_law_least" (defScope st30) (fa 30) cdv A0_ outer_ s0_ H0_ E0_).A.units + 65 < cLine := by omega
    have hr0 : Room (5 * k) _ := hr.mono (by omega)
    have hr1 : Room (5 * k + 1) _ := hr.mono (by omega)
    have hr2 : Room (5 * k + 2) _ := hr.mono (by omega)
    have hr3 : Room (5 * k + 3) _ := hr.mono (by omega)
    exact (ss_cons (s_asgLc (vs := [3]) hK hcalm sc.nd rfl rfl (by rfl) (i_rng1 (by rfl) T.n_range (c_cst pe_int (fun H => r_int _ H _))) (blkOk_by (own := [("_law_at", 3)]) (by kernel_rfl)) (fun _ _ _ _ _ => (pg_name (i := 3) sc.nd rfl (Or.inl rfl))) (fun _ _ _ _ _ => pt_tst0) (fun _ _ _ _ _ => pe_elt fun _ _ _ _ => (c_biB (B := .min2) (b_min rfl) (by rfl) T.n_min (by decide +kernel) (r_cons (c_biT (B := .int) b_int (by rfl) T.n_int (by decide +kernel) (r_cons (c_ix hK hu (c_var (pv 0)) (c_var (pv 3))) r_nil)) (r_cons (c_biT (B := .int) b_int (by rfl) T.n_int (by decide +kernel) (r_cons (c_ix hK hu (c_var (pv 1)) (c_var (pv 3))) r_nil)) r_nil)))))
      (ss_cons (s_asgLc (vs := [3]) hK hcalm sc.nd rfl rfl (by rfl) (i_rng1 (by rfl) T.n_range (c_cst pe_int (fun H => r_int _ H _))) (blkOk_by (own := [("_law_at", 3)]) (by kernel_rfl)) (fun _ _ _ _ _ => (pg_name (i := 3) sc.nd rfl (Or.inl rfl))) (fun _ _ _ _ _ => pt_tst0) (fun _ _ _ _ _ => pe_elt fun _ _ _ _ => (c_biB (B := .max2) (b_max rfl) (by rfl) T.n_max (by decide +kernel) (r_cons (c_biT (B := .int) b_int (by rfl) T.n_int (by decide +kernel) (r_cons (c_bin o_add (c_ix hK hu (c_var (pv 0)) (c_var (pv 3))) (c_ix hK hu (c_var (pv 0)) (c_bin o_add (c_var (pv 3)) (c_cst pe_int (fun H => r_int _ H _))))) r_nil)) (r_cons (c_biT (B := .int) b_int (by rfl) T.n_int (by decide +kernel) (r_cons (c_bin o_add (c_ix hK hu (c_var (pv 1)) (c_var (pv 3))) (c_ix hK hu (c_var (pv 1)) (c_bin o_add (c_var (pv 3)) (c_cst pe_int (fun H => r_int _ H _))))) r_nil)) r_nil)))))
      (ss_cons (s_ret (c_tup (f_cons (c_ix hK hu (c_var (pv 2)) (c_cst pe_int (fun H => r_int _ H _))) (f_cons (c_ix hK hu (c_var (pv 2)) (c_cst pe_int (fun H => r_int _ H _))) (f_cons (c_bin o_sub (c_ix hK hu (c_var (pv 4)) (c_cst pe_int (fun H => r_int _ H _))) (c_ix hK hu (c_var (pv 2)) (c_cst pe_int (fun H => r_int _ H _)))) (f_cons (c_bin o_sub (c_ix hK hu (c_var (pv 4)) (c_cst pe_int (fun H => r_int _ H _))) (c_ix hK hu (c_var (pv 2)) (c_cst pe_int (fun H => r_int _ H _)))) f_nil))))))
      ss_nil)))) rfl
theorem ok31 (T : Tx K mg fa ca pa cc ta fd) (A : Al P w K mg base fa cc ta fd k) (A' : Al P w K mg base fa cc ta fd (k - 1)) : FnG P w K mg base (5 * (k + 1)) (fa 31) (fd 31) ["_law_way", "_law_made_here", "_law_more"] (spF (tb K) (calls fs (k + 1)) 512 3) := def_ok (F := fn31) T.f31 sc31 rfl (by decide) rfl (fun _ => rfl) (fun {X} {C} {W} hK hu hu2 hgd hr tk hp hX => by
    have sc := sc31
    obtain ⟨qu, cdv, A0_, outer_, s0_, H0_, E0_, rfl, hC, rfl, hcd⟩ := hX
    obtain ⟨CT, h0_, he_, io_, fa_⟩ := C
    have hC : CT = tb K := hC
    subst hC
    have hcalm : (cxOf (L2.CX P w) P w K mg base ["_law_way", "_law_made_here", "_law_more", "_law_found", "_law_kept"] "_law_bound" (defScope st31) (fa 31) cdv A0_ outer_ s0_ H0_ E0_).calm = true := rfl
    have hu65 : (cxOf (L2.CX P w) P w K mg base ["_law_way", "_law_made_here", "_law_more", "_law_found", "_law_kept"] "_law_bound" (defScope st31) (fa 31) cdv A0_ outer_ s0_ H0_ E0_).A.units + 65 < cLine := by omega
    have hr0 : Room (5 * k) _ := hr.mono (by omega)
    have hr1 : Room (5 * k + 1) _ := hr.mono (by omega)
    have hr2 : Room (5 * k + 2) _ := hr.mono (by omega)
    have hr3 : Room (5 * k + 3) _ := hr.mono (by omega)
    exact (ss_cons (s_par2 (ps_par (i := 3) (j := 4) rfl sc.nd rfl rfl (by decide) rfl rfl (f_cons (c_var (pv 1)) (f_cons (c_var (pv 1)) f_nil)) (by rfl)))
      (ss_cons (s_iff (t_cmp (o_eq hK hu) (c_var (pv 0)) (c_cst pe_int (fun H => r_int _ H _)) (nomark _)) (ss_cons (s_augO hK (by rfl) (sp_ok2__and___5 T A rfl rfl rfl rfl rfl hr0) (bc___and___5_BitAnd T rfl) (ip___and___5_BitAnd T rfl) hgd tk oi_band (c_var (pv 3)) (c_var (pv 2)) rfl sc.nd rfl (Or.inl rfl) (by decide) (by first | exact Or.inl rfl | exact Or.inr rfl))
      ss_nil) (ss_cons (s_augO hK (by rfl) (sp_ok2__or___5 T A rfl rfl rfl rfl rfl hr0) (bc___or___5_BitOr T rfl) (ip___or___5_BitOr T rfl) hgd tk oi_bor (c_var (pv 3)) (c_var (pv 2)) rfl sc.nd rfl (Or.inl rfl) (by decide) (by first | exact Or.inl rfl | exact Or.inr rfl))
      ss_nil))
      (ss_cons (s_ret (c_lst (f_cons (c_var (pv 3)) (f_cons (c_var (pv 4)) f_nil))))
      ss_nil)))) rfl
theorem ok33 (T : Tx K mg fa ca pa cc ta fd) (A : Al P w K mg base fa cc ta fd k) (A' : Al P w K mg base fa cc ta fd (k - 1)) : FnG P w K mg base (5 * (k + 1)) (fa 33) (fd 33) ["_law_four_here"] (spF (tb K) (calls fs (k + 1)) 514 1) := def_ok (F := fn33) T.f33 sc33 rfl (by decide) rfl (fun _ => rfl) (fun {X} {C} {W} hK hu hu2 hgd hr tk hp hX => by
    have sc := sc33
    obtain ⟨qu, cdv, A0_, outer_, s0_, H0_, E0_, rfl, hC, rfl, hcd⟩ := hX
    obtain ⟨CT, h0_, he_, io_, fa_⟩ := C
    have hC : CT = tb K := hC
    subst hC
    have hcalm : (cxOf (L2.CX P w) P w K mg base ["_law_four_here"] "_law_due" (defScope st33) (fa 33) cdv A0_ outer_ s0_ H0_ E0_).calm = true := rfl
    have hu65 : (cxOf (L2.CX P w) P w K mg base ["_law_four_here"] "_law_due" (defScope st33) (fa 33) cdv A0_ outer_ s0_ H0_ E0_).A.units + 65 < cLine := by omega
    have hr0 : Room (5 * k) _ := hr.mono (by omega)
    have hr1 : Room (5 * k + 1) _ := hr.mono (by omega)
    have hr2 : Room (5 * k + 2) _ := hr.mono (by omega)
    have hr3 : Room (5 * k + 3) _ := hr.mono (by omega)
    exact (ss_cons (s_iff (t_cmp o_gt (c_ix hK hu (c_var (pv 0)) (c_cst pe_int (fun H => r_int _ H _))) (c_call0 A.o19 hgd hr0 tk (by rfl) T.m19 T.f19.kp T.b19) (nomark _)) (ss_cons (s_ret (c_cst pe_str (fun H => r_str _ H _)))
      ss_nil) ss_nil)
      (ss_cons (s_ret (c_ife (t_cmp o_gt (c_ix hK hu (c_var (pv 0)) (c_cst pe_int (fun H => r_int _ H _))) (c_call0 A.o19 hgd hr0 tk (by rfl) T.m19 T.f19.kp T.b19) (nomark _)) (c_cst pe_str (fun H => r_str _ H _)) (c_var (pv 0))))
      ss_nil))) rfl
theorem ok34 (T : Tx K mg fa ca pa cc ta fd) (A : Al P w K mg base fa cc ta fd k) (A' : Al P w K mg base fa cc ta fd (k - 1)) : FnG P w K mg base (5 * (k + 1)) (fa 34) (fd 34) ["_law_one", "_law_two"] (spF (tb K) (calls fs (k + 1)) 515 2) := def_ok (F := fn34) T.f34 sc34 rfl (by decide) rfl (fun _ => rfl) (fun {X} {C} {W} hK hu hu2 hgd hr tk hp hX => by
    have sc := sc34
    obtain ⟨qu, cdv, A0_, outer_, s0_, H0_, E0_, rfl, hC, rfl, hcd⟩ := hX
    obtain ⟨CT, h0_, he_, io_, fa_⟩ := C
    have hC : CT = tb K := hC
    subst hC
    have hcalm : (cxOf (L2.CX P w) P w K mg base ["_law_one", "_law_two", "_law_first", "_law_second", "_law_common_here", "_law_least_here", "_law_told_here", "_law_inner", "_law_outer", "_law_due_here", "_law_way", "_law_thing"] "_law_two_right" (defScope st34) (fa 34) cdv A0_ outer_ s0_ H0_ E0_).calm = true := rfl
    have hu65 : (cxOf (L2.CX P w) P w K mg base ["_law_one", "_law_two", "_law_first", "_law_second", "_law_common_here", "_law_least_here", "_law_told_here", "_law_inner", "_law_outer", "_law_due_here", "_law_way", "_law_thing"] "_law_two_right" (defScope st34) (fa 34) cdv A0_ outer_ s0_ H0_ E0_).A.units + 65 < cLine := by omega
    have hr0 : Room (5 * k) _ := hr.mono (by omega)
    have hr1 : Room (5 * k + 1) _ := hr.mono (by omega)
    have hr2 : Room (5 * k + 2) _ := hr.mono (by omega)
    have hr3 : Room (5 * k + 3) _ := hr.mono (by omega)
    have hcode : cdv = .ref (cc 34) := hcd.symm.trans T.q34
    exact (ss_cons (s_unp (is := [2, 3]) rfl hK (ps_asg (c_tup (f_cons (c_call A.o26 hgd hr0 tk (by rfl) T.m26 T.f26.kp T.b26 (k_cons (m := false) (c_var (pv 0)) k_nil)) (f_cons (c_call A.o26 hgd hr0 tk (by rfl) T.m26 T.f26.kp T.b26 (k_cons (m := false) (c_var (pv 1)) k_nil)) f_nil))) (pg_un rfl (pgs_cons (pg_name (i := 2) sc.nd rfl (Or.inr rfl)) (pgs_cons (pg_name (i := 3) sc.nd rfl (Or.inr rfl)) pgs_nil)))))
      (ss_cons (s_par2 (ps_par (i := 4) (j := 5) rfl sc.nd rfl rfl (by decide) rfl rfl (f_cons (c_call A.o29 hgd hr0 tk (by rfl) T.m29 T.f29.kp T.b29 (k_cons (m := false) (c_var (pv 0)) (k_cons (m := false) (c_var (pv 1)) k_nil))) (f_cons (c_call A.o30 hgd hr0 tk (by rfl) T.m30 T.f30.kp T.b30 (k_cons (m := false) (c_var (pv 0)) (k_cons (m := false) (c_var (pv 1)) k_nil))) f_nil)) (by rfl)))
      (ss_cons (s_asg (ps_set (i := 6) sc.nd rfl (Or.inl rfl) (c_binO hK (by rfl) (sp_ok2__and___5 T A rfl rfl rfl rfl rfl hr0) (bc___and___5_BitAnd T rfl) hgd tk o_band (c_var (pv 2)) (c_var (pv 3)) rfl)))
      (ss_cons (s_iff (PW.pt (w_or (t_cmp (o_ne hK hu) (c_cmp o_is (c_var (pv 6)) (c_cst pe_non (fun H => r_non _ H)) (nomark _)) (c_cmp o_is (c_var (pv 4)) (c_cst pe_non (fun H => r_non _ H)) (nomark _)) (nomark _)) (w_or1 (PW.pt (w_and (t_cmp o_isnot (c_var (pv 6)) (c_cst pe_non (fun H => r_non _ H)) (nomark _)) (w_and1 (op := .And) (t_cmp (o_ne hK hu) (c_call A.o27 hgd hr0 tk (by rfl) T.m27 T.f27.kp T.b27 (k_cons (m := false) (c_var (pv 6)) k_nil)) (c_var (pv 4)) (nomark _)))))))) (ss_cons (s_ret (c_cst pe_bl (fun H => r_bl _ H _)))
      ss_nil) ss_nil)
      (ss_cons (s_iff (t_cmp (o_ne hK hu) (c_heard (j := 5 * k + 2) (by rfl) T.m32 T.h32 sc32 rfl (Or.inl rfl) rfl T.b32 (fun o => hear_calls rfl rfl) (hg32 T A') A.t34 hcode T.tt34 T.tu34 hK hgd hr tk (LamX.lamS_by (by kernel_rfl)) rfl (fun _ _ _ _ _ => rfl)
        (fun {Y} {CY} {WY} hK hu hu2 hgd hr tk hp hY => by
          obtain ⟨A1_, o1_, s1_, H1_, E1_, f1_, c1_, rfl, hC⟩ := hY
          obtain ⟨CT, h0_, he_, io_, fa_⟩ := CY
          have hC : CT = tb K := hC
          subst hC
          have hr0 : Room (5 * k) _ := hr.mono (by omega)
          have hr1 : Room (5 * k + 1) _ := hr.mono (by omega)
          have hr2 : Room (5 * k + 2) _ := hr.mono (by omega)
          exact (c_binO hK (by rfl) (sp_ok2__or___5 T A rfl rfl rfl rfl rfl hr0) (bc___or___5_BitOr T rfl) hgd tk o_bor (c_var (pv 2)) (c_var (pv 3)) rfl))) (c_call A.o33 hgd hr0 tk (by rfl) T.m33 T.f33.kp T.b33 (k_cons (m := false) (c_var (pv 5)) k_nil)) (nomark _)) (ss_cons (s_ret (c_cst pe_bl (fun H => r_bl _ H _)))
      ss_nil) ss_nil)
      (ss_cons (s_par2 (ps_par (i := 7) (j := 8) rfl sc.nd rfl rfl (by decide) rfl rfl (f_cons (c_cmp (o_eq hK hu) (c_var (pv 4)) (c_var (pv 0)) (nomark _)) (f_cons (c_cmp (o_eq hK hu) (c_var (pv 4)) (c_var (pv 1)) (nomark _)) f_nil)) (by rfl)))
      (ss_cons (s_asg (ps_set (i := 6) sc.nd rfl (Or.inl rfl) (c_lst (f_cons (c_cmpO hK (Nat.lt_of_le_of_lt (Nat.le_add_right _ 64) hu) (fun _ _ => rfl) (by rfl) (sp_ok2__le___5 T A rfl rfl rfl rfl rfl hr0) (nf___le___5 T rfl) hgd tk o_le (c_var (pv 2)) (c_var (pv 3)) (nomark _) nofun) (f_cons (c_cmpO hK (Nat.lt_of_le_of_lt (Nat.le_add_right _ 64) hu) (fun _ _ => rfl) (by rfl) (sp_ok2__lt___5 T A rfl rfl rfl rfl rfl hr0) (nf___lt___5 T rfl) hgd tk o_lt (c_var (pv 2)) (c_var (pv 3)) (nomark _) nofun) (f_cons (c_cmpO hK (Nat.lt_of_le_of_lt (Nat.le_add_right _ 64) hu) (fun _ _ => rfl) (by rfl) (sp_ok2__ge___5 T A rfl rfl rfl rfl rfl hr0) (nf___ge___5 T rfl) hgd tk o_ge (c_var (pv 2)) (c_var (pv 3)) (nomark _) nofun) (f_cons (c_cmpO hK (Nat.lt_of_le_of_lt (Nat.le_add_right _ 64) hu) (fun _ _ => rfl) (by rfl) (sp_ok2__gt___5 T A rfl rfl rfl rfl rfl hr0) (nf___gt___5 T rfl) hgd tk o_gt (c_var (pv 2)) (c_var (pv 3)) (nomark _) nofun) f_nil)))))))
      (ss_cons (s_iff (t_cmp (o_ne hK hu) (c_biB (B := .repr) (b_repr hK hgd hu2) (by rfl) T.n_repr (by decide +kernel) (r_cons (c_var (pv 6)) r_nil)) (c_biB (B := .repr) (b_repr hK hgd hu2) (by rfl) T.n_repr (by decide +kernel) (r_cons (c_lst (f_cons (c_var (pv 7)) (f_cons (c_and hK (c_var (pv 7)) (c_one (c_cmp (o_ne hK hu) (c_var (pv 0)) (c_var (pv 1)) (nomark _)))) (f_cons (c_var (pv 8)) (f_cons (c_and hK (c_var (pv 8)) (c_one (c_cmp (o_ne hK hu) (c_var (pv 0)) (c_var (pv 1)) (nomark _)))) f_nil))))) r_nil)) (nomark _)) (ss_cons (s_ret (c_cst pe_bl (fun H => r_bl _ H _)))
      ss_nil) ss_nil)
      (ss_cons (s_iff (t_cmp o_gt (c_biB (B := .max2) (b_max rfl) (by rfl) T.n_max (by decide +kernel) (r_cons (c_biT (B := .int) b_int (by rfl) T.n_int (by decide +kernel) (r_cons (c_ix hK hu (c_var (pv 5)) (c_cst pe_int (fun H => r_int _ H _))) r_nil)) (r_cons (c_biT (B := .int) b_int (by rfl) T.n_int (by decide +kernel) (r_cons (c_ix hK hu (c_var (pv 5)) (c_cst pe_int (fun H => r_int _ H _))) r_nil)) r_nil))) (c_call0 A.o19 hgd hr0 tk (by rfl) T.m19 T.f19.kp T.b19) (nomark _)) (ss_cons (s_ret (c_cst pe_bl (fun H => r_bl _ H _)))
      ss_nil) ss_nil)
      (ss_cons (s_asg (ps_set (i := 9) sc.nd rfl (Or.inl rfl) (c_lst (f_cons (c_binO hK (by rfl) (sp_ok2__and___5 T A rfl rfl rfl rfl rfl hr0) (bc___and___5_BitAnd T rfl) hgd tk o_band (c_var (pv 2)) (c_var (pv 3)) rfl) (f_cons (c_binO hK (by rfl) (sp_ok2__or___5 T A rfl rfl rfl rfl rfl hr0) (bc___or___5_BitOr T rfl) hgd tk o_bor (c_var (pv 2)) (c_var (pv 3)) rfl) f_nil)))))
      (ss_cons (s_iff (t_truC hK (c_neL hK (sp_eqE__eq___5 T A rfl rfl rfl rfl rfl) hr3 hgd (c_lc (vs := [10]) hK hcalm sc.nd (i_rng1 (by rfl) T.n_range (c_cst pe_int (fun H => r_int _ H _))) (blkOk_by (own := [("_law_way", 10)]) (by kernel_rfl)) (fun _ _ _ _ _ => (pg_name (i := 10) sc.nd rfl (Or.inl rfl))) (fun _ _ _ _ _ => pt_tst0) (fun _ _ _ _ _ => pe_elt fun _ _ _ _ => (c_call A.o31 hgd hr0 takesW0 (by rfl) T.m31 T.f31.kp T.b31 (k_cons (m := false) (c_var (pv 10)) (k_cons (m := false) (c_var (pv 2)) (k_cons (m := false) (c_var (pv 3)) k_nil)))))) (c_lc (vs := [11]) hK hcalm sc.nd (i_seq hK (c_var (pv 9))) (blkOk_by (own := [("_law_thing", 11)]) (by kernel_rfl)) (fun _ _ _ _ _ => (pg_name (i := 11) sc.nd rfl (Or.inl rfl))) (fun _ _ _ _ _ => pt_tst0) (fun _ _ _ _ _ => pe_elt fun _ _ _ _ => (c_lst (f_cons (c_var (pv 11)) (f_cons (c_var (pv 2)) f_nil))))) (nomark _)) (nomark _)) (ss_cons (s_ret (c_cst pe_bl (fun H => r_bl _ H _)))
      ss_nil) ss_nil)
      (ss_cons (s_ret (c_and hK (c_cmp (o_eq hK hu) (c_call A.o27 hgd hr0 tk (by rfl) T.m27 T.f27.kp T.b27 (k_cons (m := false) (c_var (pv 2)) k_nil)) (c_var (pv 0)) (nomark _)) (c_one (c_cmp (o_eq hK hu) (c_call A.o27 hgd hr0 tk (by rfl) T.m27 T.f27.kp T.b27 (k_cons (m := false) (c_var (pv 3)) k_nil)) (c_var (pv 1)) (nomark _)))))
      ss_nil))))))))))))) rfl
theorem ok35 (T : Tx K mg fa ca pa cc ta fd) (A : Al P w K mg base fa cc ta fd k) (A' : Al P w K mg base fa cc ta fd (k - 1)) : FnG P w K mg base (5 * (k + 1)) (fa 35) (fd 35) ["_law_script"] (spF (tb K) (calls fs (k + 1)) 516 1) := def_ok (F := fn35) T.f35 sc35 rfl (by decide) rfl (fun _ => rfl) (fun {X} {C} {W} hK hu hu2 hgd hr tk hp hX => by
    have sc := sc35
    obtain ⟨qu, cdv, A0_, outer_, s0_, H0_, E0_, rfl, hC, rfl, hcd⟩ := hX
    obtain ⟨CT, h0_, he_, io_, fa_⟩ := C
    have hC : CT = tb K := hC
    subst hC
    have hcalm : (cxOf (L2.CX P w) P w K mg base ["_law_script", "_law_pen_here", "_law_turn", "_law_one", "_law_two", "_law_low", "_law_high", "_law_wide", "_law_tall", "_law_heard_here"] "law" (defScope st35) (fa 35) cdv A0_ outer_ s0_ H0_ E0_).calm = true := rfl
    have hu65 : (cxOf (L2.CX P w) P w K mg base ["_law_script", "_law_pen_here", "_law_turn", "_law_one", "_law_two", "_law_low", "_law_high", "_law_wide", "_law_tall", "_law_heard_here"] "law" (defScope st35) (fa 35) cdv A0_ outer_ s0_ H0_ E0_).A.units + 65 < cLine := by omega
    have hr0 : Room (5 * k) _ := hr.mono (by omega)
    have hr1 : Room (5 * k + 1) _ := hr.mono (by omega)
    have hr2 : Room (5 * k + 2) _ := hr.mono (by omega)
    have hr3 : Room (5 * k + 3) _ := hr.mono (by omega)
    have hcode : cdv = .ref (cc 35) := hcd.symm.trans T.q35
    exact (ss_cons (s_asg (ps_set (i := 1) sc.nd rfl (Or.inl rfl) (c_call A.o20 hgd hr0 tk (by rfl) T.m20 T.f20.kp T.b20 (k_cons (m := false) (c_var (pv 0)) k_nil))))
      (ss_cons (s_forr (ps_for hp rfl (pi_range1 (by rfl) T.n_range (pa_cons (c_cst pe_int (fun H => r_int _ H _)) pa_nil)) (pg_name (i := 2) sc.nd rfl (Or.inl rfl)) (ss_cons (s_asg (ps_set (i := 3) sc.nd rfl (Or.inl rfl) (c_call A.o25 hgd hr0 tk (by rfl) T.m25 T.f25.kp T.b25 (k_cons (m := true) (c_var (pv 1)) k_nil))))
      (ss_cons (s_asg (ps_set (i := 4) sc.nd rfl (Or.inl rfl) (c_call A.o28 hgd hr0 tk (by rfl) T.m28 T.f28.kp T.b28 (k_cons (m := true) (c_var (pv 1)) (k_cons (m := false) (c_var (pv 3)) k_nil)))))
      (ss_cons (s_iff (PW.pt (w_or (t_not (t_tru hK (c_call A.o34 hgd hr0 tk (by rfl) T.m34 T.f34.kp T.b34 (k_cons (m := false) (c_var (pv 3)) (k_cons (m := false) (c_var (pv 4)) k_nil))))) (w_or (t_not (t_tru hK (c_call A.o34 hgd hr0 tk (by rfl) T.m34 T.f34.kp T.b34 (k_cons (m := false) (c_var (pv 4)) (k_cons (m := false) (c_var (pv 3)) k_nil))))) (w_or1 (t_not (t_tru hK (c_call A.o34 hgd hr0 tk (by rfl) T.m34 T.f34.kp T.b34 (k_cons (m := false) (c_var (pv 3)) (k_cons (m := false) (c_var (pv 3)) k_nil))))))))) (ss_cons (s_ret (c_cst pe_bl (fun H => r_bl _ H _)))
      ss_nil) ss_nil)
      ss_nil)))))
      (ss_cons (s_par2 (ps_par (i := 5) (j := 6) rfl sc.nd rfl rfl (by decide) rfl rfl (f_cons (c_mk (ds := []) T.mk5 A.o9 hgd hr1 tk (by rfl) T.mC5 T.ck5 T.bd9_2.choose_spec.2 T.bd9_2.choose_spec.1 (fun H => by simp only [RepAll, Rep]) (k_cons (m := false) (c_cst pe_int (fun H => r_int _ H _)) (k_cons (m := false) (c_cst pe_int (fun H => r_int _ H _)) (k_cons (m := false) (c_call0 A.o19 hgd hr0 tk (by rfl) T.m19 T.f19.kp T.b19) (k_cons (m := false) (c_cst pe_int (fun H => r_int _ H _)) k_nil))))) (f_cons (c_mk (ds := [(.int 1), (.int 1)]) T.mk5 A.o9 hgd hr1 tk (by rfl) T.mC5 T.ck5 T.bd9_0.choose_spec.2 T.bd9_0.choose_spec.1 (fun H => by simp only [RepAll, Rep]; exact ⟨_, _, rfl, rfl, _, _, rfl, rfl, rfl⟩) (k_cons (m := false) (c_bin o_sub (c_call0 A.o19 hgd hr0 tk (by rfl) T.m19 T.f19.kp T.b19) (c_cst pe_int (fun H => r_int _ H _))) (k_cons (m := false) (c_cst pe_int (fun H => r_int _ H _)) k_nil))) f_nil)) (by rfl)))
      (ss_cons (s_iff (PW.pt (w_or (t_truC hK (c_neO hK hu (sp_ne__eq___5 T A rfl rfl rfl rfl rfl hr1) hgd tk (o_ne hK hu) (c_binO hK (by rfl) (sp_ok2__and___5 T A rfl rfl rfl rfl rfl hr0) (bc___and___5_BitAnd T rfl) hgd tk o_band (c_var (pv 5)) (c_var (pv 6)) rfl) (c_var (pv 6)) (nomark _)) (nomark _)) (w_or (t_truC hK (c_neO hK hu (sp_ne__eq___5 T A rfl rfl rfl rfl rfl hr1) hgd tk (o_ne hK hu) (c_binO hK (by rfl) (sp_ok2__or___5 T A rfl rfl rfl rfl rfl hr0) (bc___or___5_BitOr T rfl) hgd tk o_bor (c_var (pv 5)) (c_var (pv 6)) rfl) (c_var (pv 5)) (nomark _)) (nomark _)) (w_or1 (t_cmp o_isnot (c_binO hK (by rfl) (sp_ok2__and___5 T A rfl rfl rfl rfl rfl hr0) (bc___and___5_BitAnd T rfl) hgd tk o_band (c_mk (ds := [(.int 1), (.int 1)]) T.mk5 A.o9 hgd hr1 tk (by rfl) T.mC5 T.ck5 T.bd9_0.choose_spec.2 T.bd9_0.choose_spec.1 (fun H => by simp only [RepAll, Rep]; exact ⟨_, _, rfl, rfl, _, _, rfl, rfl, rfl⟩) (k_cons (m := false) (c_cst pe_int (fun H => r_int _ H _)) (k_cons (m := false) (c_cst pe_int (fun H => r_int _ H _)) k_nil))) (c_mk (ds := [(.int 1), (.int 1)]) T.mk5 A.o9 hgd hr1 tk (by rfl) T.mC5 T.ck5 T.bd9_0.choose_spec.2 T.bd9_0.choose_spec.1 (fun H => by simp only [RepAll, Rep]; exact ⟨_, _, rfl, rfl, _, _, rfl, rfl, rfl⟩) (k_cons (m := false) (c_cst pe_int (fun H => r_int _ H _)) (k_cons (m := false) (c_cst pe_int (fun H => r_int _ H _)) k_nil))) rfl) (c_cst pe_non (fun H => r_non _ H)) (nomark _)))))) (ss_cons (s_ret (c_cst pe_bl (fun H => r_bl _ H _)))
      ss_nil) ss_nil)
      (ss_cons (s_unp (is := [7, 8]) rfl hK (ps_asg (c_tup (f_cons (c_mk (ds := [(.int 1)]) T.mk5 A.o9 hgd hr1 tk (by rfl) T.mC5 T.ck5 T.bd9_1.choose_spec.2 T.bd9_1.choose_spec.1 (fun H => by simp only [RepAll, Rep]; exact ⟨_, _, rfl, rfl, rfl⟩) (k_cons (m := false) (c_bin o_sub (c_call0 A.o19 hgd hr0 tk (by rfl) T.m19 T.f19.kp T.b19) (c_cst pe_int (fun H => r_int _ H _))) (k_cons (m := false) (c_cst pe_int (fun H => r_int _ H _)) (k_cons (m := false) (c_call0 A.o19 hgd hr0 tk (by rfl) T.m19 T.f19.kp T.b19) k_nil)))) (f_cons (c_mk (ds := []) T.mk5 A.o9 hgd hr1 tk (by rfl) T.mC5 T.ck5 T.bd9_2.choose_spec.2 T.bd9_2.choose_spec.1 (fun H => by simp only [RepAll, Rep]) (k_cons (m := false) (c_cst pe_int (fun H => r_int _ H _)) (k_cons (m := false) (c_bin o_sub (c_call0 A.o19 hgd hr0 tk (by rfl) T.m19 T.f19.kp T.b19) (c_cst pe_int (fun H => r_int _ H _))) (k_cons (m := false) (c_cst pe_int (fun H => r_int _ H _)) (k_cons (m := false) (c_call0 A.o19 hgd hr0 tk (by rfl) T.m19 T.f19.kp T.b19) k_nil))))) f_nil))) (pg_un rfl (pgs_cons (pg_name (i := 7) sc.nd rfl (Or.inr rfl)) (pgs_cons (pg_name (i := 8) sc.nd rfl (Or.inr rfl)) pgs_nil)))))
      (ss_cons (s_asg (ps_set (i := 9) sc.nd rfl (Or.inl rfl) (c_lst (f_cons (c_heard (j := 5 * k + 2) (by rfl) T.m32 T.h32 sc32 rfl (Or.inl rfl) rfl T.b32 (fun o => hear_calls rfl rfl) (hg32 T A') A.t35 hcode T.tt35 T.tu35 hK hgd hr tk (LamX.lamS_by (by kernel_rfl)) rfl (fun _ _ _ _ _ => rfl)
        (fun {Y} {CY} {WY} hK hu hu2 hgd hr tk hp hY => by
          obtain ⟨A1_, o1_, s1_, H1_, E1_, f1_, c1_, rfl, hC⟩ := hY
          obtain ⟨CT, h0_, he_, io_, fa_⟩ := CY
          have hC : CT = tb K := hC
          subst hC
          have hr0 : Room (5 * k) _ := hr.mono (by omega)
          have hr1 : Room (5 * k + 1) _ := hr.mono (by omega)
          have hr2 : Room (5 * k + 2) _ := hr.mono (by omega)
          exact (c_binO hK (by rfl) (sp_ok2__or___5 T A rfl rfl rfl rfl rfl hr0) (bc___or___5_BitOr T rfl) hgd tk o_bor (c_mk (ds := [(.int 1), (.int 1)]) T.mk5 A.o9 hgd hr1 tk (by rfl) T.mC5 T.ck5 T.bd9_0.choose_spec.2 T.bd9_0.choose_spec.1 (fun H => by simp only [RepAll, Rep]; exact ⟨_, _, rfl, rfl, _, _, rfl, rfl, rfl⟩) (k_cons (m := false) (c_cst pe_int (fun H => r_int _ H _)) (k_cons (m := false) (c_cst pe_int (fun H => r_int _ H _)) k_nil))) (c_var (pv 7)) rfl))) f_nil))))
      (ss_cons (s_app (ps_expr (pe_bm PySem.F.plainAttrs_list PySem.F.slot_list_append PySem.F.type_list_append mt_append (pv 9) (pa_cons (c_heard (j := 5 * k + 2) (by rfl) T.m32 T.h32 sc32 rfl (Or.inl rfl) rfl T.b32 (fun o => hear_calls rfl rfl) (hg32 T A') A.t35 hcode T.tt35 T.tu35 hK hgd hr tk (LamX.lamS_by (by kernel_rfl)) rfl (fun _ _ _ _ _ => rfl)
        (fun {Y} {CY} {WY} hK hu hu2 hgd hr tk hp hY => by
          obtain ⟨A1_, o1_, s1_, H1_, E1_, f1_, c1_, rfl, hC⟩ := hY
          obtain ⟨CT, h0_, he_, io_, fa_⟩ := CY
          have hC : CT = tb K := hC
          subst hC
          have hr0 : Room (5 * k) _ := hr.mono (by omega)
          have hr1 : Room (5 * k + 1) _ := hr.mono (by omega)
          have hr2 : Room (5 * k + 2) _ := hr.mono (by omega)
          exact (c_binO hK (by rfl) (sp_ok2__or___5 T A rfl rfl rfl rfl rfl hr0) (bc___or___5_BitOr T rfl) hgd tk o_bor (c_mk (ds := [(.int 1), (.int 1)]) T.mk5 A.o9 hgd hr1 tk (by rfl) T.mC5 T.ck5 T.bd9_0.choose_spec.2 T.bd9_0.choose_spec.1 (fun H => by simp only [RepAll, Rep]; exact ⟨_, _, rfl, rfl, _, _, rfl, rfl, rfl⟩) (k_cons (m := false) (c_cst pe_int (fun H => r_int _ H _)) (k_cons (m := false) (c_cst pe_int (fun H => r_int _ H _)) k_nil))) (c_var (pv 8)) rfl))) pa_nil))))
      (ss_cons (s_app (ps_expr (pe_bm PySem.F.plainAttrs_list PySem.F.slot_list_append PySem.F.type_list_append mt_append (pv 9) (pa_cons (c_heard (j := 5 * k + 2) (by rfl) T.m32 T.h32 sc32 rfl (Or.inl rfl) rfl T.b32 (fun o => hear_calls rfl rfl) (hg32 T A') A.t35 hcode T.tt35 T.tu35 hK hgd hr tk (LamX.lamS_by (by kernel_rfl)) rfl (fun _ _ _ _ _ => rfl)
        (fun {Y} {CY} {WY} hK hu hu2 hgd hr tk hp hY => by
          obtain ⟨A1_, o1_, s1_, H1_, E1_, f1_, c1_, rfl, hC⟩ := hY
          obtain ⟨CT, h0_, he_, io_, fa_⟩ := CY
          have hC : CT = tb K := hC
          subst hC
          have hr0 : Room (5 * k) _ := hr.mono (by omega)
          have hr1 : Room (5 * k + 1) _ := hr.mono (by omega)
          have hr2 : Room (5 * k + 2) _ := hr.mono (by omega)
          exact (c_binO hK (by rfl) (sp_ok2__or___5 T A rfl rfl rfl rfl rfl hr0) (bc___or___5_BitOr T rfl) hgd tk o_bor (c_var (pv 8)) (c_var (pv 7)) rfl))) pa_nil))))
      (ss_cons (s_iff (t_cmp (o_ne hK hu) (c_var (pv 9)) (c_lst (f_cons (c_cst pe_str (fun H => r_str _ H _)) (f_cons (c_cst pe_str (fun H => r_str _ H _)) (f_cons (c_cst pe_str (fun H => r_str _ H _)) f_nil)))) (nomark _)) (ss_cons (s_ret (c_cst pe_bl (fun H => r_bl _ H _)))
      ss_nil) ss_nil)
      (ss_cons (s_ret (c_cmpO hK (Nat.lt_of_le_of_lt (Nat.le_add_right _ 64) hu) (fun _ _ => rfl) (by rfl) (sp_ok2__eq___5 T A rfl rfl rfl rfl rfl hr0) (nf___eq___5 T rfl) hgd tk (o_eq hK hu) (c_binO hK (by rfl) (sp_ok2__or___5 T A rfl rfl rfl rfl rfl hr0) (bc___or___5_BitOr T rfl) hgd tk o_bor (c_mk (ds := [(.int 1), (.int 1)]) T.mk5 A.o9 hgd hr1 tk (by rfl) T.mC5 T.ck5 T.bd9_0.choose_spec.2 T.bd9_0.choose_spec.1 (fun H => by simp only [RepAll, Rep]; exact ⟨_, _, rfl, rfl, _, _, rfl, rfl, rfl⟩) (k_cons (m := false) (c_cst pe_int (fun H => r_int _ H _)) (k_cons (m := false) (c_cst pe_int (fun H => r_int _ H _)) k_nil))) (c_mk (ds := [(.int 1), (.int 1)]) T.mk5 A.o9 hgd hr1 tk (by rfl) T.mC5 T.ck5 T.bd9_0.choose_spec.2 T.bd9_0.choose_spec.1 (fun H => by simp only [RepAll, Rep]; exact ⟨_, _, rfl, rfl, _, _, rfl, rfl, rfl⟩) (k_cons (m := false) (c_cst pe_int (fun H => r_int _ H _)) (k_cons (m := false) (c_cst pe_int (fun H => r_int _ H _)) k_nil))) rfl) (c_mk (ds := []) T.mk5 A.o9 hgd hr1 tk (by rfl) T.mC5 T.ck5 T.bd9_2.choose_spec.2 T.bd9_2.choose_spec.1 (fun H => by simp only [RepAll, Rep]) (k_cons (m := false) (c_cst pe_int (fun H => r_int _ H _)) (k_cons (m := false) (c_cst pe_int (fun H => r_int _ H _)) (k_cons (m := false) (c_cst pe_int (fun H => r_int _ H _)) (k_cons (m := false) (c_cst pe_int (fun H => r_int _ H _)) k_nil))))) (nomark _) nofun))
      ss_nil))))))))))) rfl
theorem step (T : Tx K mg fa ca pa cc ta fd) (A : Al P w K mg base fa cc ta fd k) (A' : Al P w K mg base fa cc ta fd (k - 1)) : Al P w K mg base fa cc ta fd (k + 1) := ⟨ok0 T A A', ok1 T A A', ok2 T A A', ok5 T A A', ok6 T A A', ok7 T A A', ok8 T A A', ok9 T A A', ok10 T A A', ok11 T A A', ok12 T A A', ok13 T A A', ok14 T A A', ok15 T A A', ok16 T A A', ok17 T A A', ok18 T A A', ok19 T A A', ok20 T A A', ok21 T A A', ok22 T A A', ok23 T A A', ok24 T A A', ok25 T A A', ok26 T A A', ok27 T A A', ok28 T A A', ok29 T A A', ok30 T A A', ok31 T A A', ok33 T A A', ok34 T A A', ok35 T A A', A.t34, A.t35⟩
theorem al (T : Tx K mg fa ca pa cc ta fd) (h34 : LamX.TabB base mg (cc 34) (ta 34)) (h35 : LamX.TabB base mg (cc 35) (ta 35)) : ∀ k, Al P w K mg base fa cc ta fd k ∧ Al P w K mg base fa cc ta fd (k - 1)
  | 0 => ⟨⟨fn_zero rfl, fn_zero rfl, fn_zero rfl, fn_zero rfl, fn_zero rfl, fn_zero rfl, fn_zero rfl, fn_zero rfl, fn_zero rfl, fn_zero rfl, fn_zero rfl, fn_zero rfl, fn_zero rfl, fn_zero rfl, fn_zero rfl, fn_zero rfl, fn_zero rfl, fn_zero rfl, fn_zero rfl, fn_zero rfl, fn_zero rfl, fn_zero rfl, fn_zero rfl, fn_zero rfl, fn_zero rfl, fn_zero rfl, fn_zero rfl, fn_zero rfl, fn_zero rfl, fn_zero rfl, fn_zero rfl, fn_zero rfl, fn_zero rfl, h34, h35⟩, ⟨fn_zero rfl, fn_zero rfl, fn_zero rfl, fn_zero rfl, fn_zero rfl, fn_zero rfl, fn_zero rfl, fn_zero rfl, fn_zero rfl, fn_zero rfl, fn_zero rfl, fn_zero rfl, fn_zero rfl, fn_zero rfl, fn_zero rfl, fn_zero rfl, fn_zero rfl, fn_zero rfl, fn_zero rfl, fn_zero rfl, fn_zero rfl, fn_zero rfl, fn_zero rfl, fn_zero rfl, fn_zero rfl, fn_zero rfl, fn_zero rfl, fn_zero rfl, fn_zero rfl, fn_zero rfl, fn_zero rfl, fn_zero rfl, fn_zero rfl, h34, h35⟩⟩
  | k + 1 => ⟨step T (al T h34 h35 k).1 (al T h34 h35 k).2, (al T h34 h35 k).1⟩
end
theorem all_mk {P : Program} {w : World} {K : PySem.W.Frag} {h : Heap} {mg : Str → Option Value} {fl : Addr} (X : K.In h) (G : h.Ns mainGlobals mg) (hfl : mg "law" = some (.ref fl)) {C0 C1 C3 C6 C5 f0 f1 f2 f3 f4 f5 f6 f7 f8 f9 T9 f10 p10 f11 f12 f13 f14 f15 f16 f17 f18 T18 f19 f20 f21 f22 f23 f24 f25 f26 f27 f28 f29 f30 f31 f32 f33 f34 cc34 ta34 f35 cc35 ta35 : Addr}
    {nm3 q3 : Str} {N3 : Addr} {bs3 bm3 : List Value} {sn3 : List Str} {sub3 : List Value} {ab3 : Bool} {col3 : Option Bool} {dd3 : Option Addr} {k03 k13 k23 k33 k53 : Option Value}
    {nm6 q6 : Str} {N6 : Addr} {bs6 bm6 : List Value} {sn6 : List Str} {sub6 : List Value} {ab6 : Bool} {col6 : Option Bool} {dd6 : Option Addr} {k06 k16 k26 k36 k56 : Option Value}
    {od0 an0 : Option Addr} {sl0 : Array (Option Value)} {oc0 kV0 dc0 pm0 ct0 : Value} {cd0 : Value}
    {od1 an1 : Option Addr} {sl1 : Array (Option Value)} {oc1 kV1 dc1 pm1 ct1 : Value} {cd1 : Value}
    {od2 an2 : Option Addr} {sl2 : Array (Option Value)} {oc2 kV2 dc2 pm2 ct2 : Value} {cd2 : Value}
    {od3 an3 : Option Addr} {sl3 : Array (Option Value)} {oc3 kV3 dc3 pm3 ct3 : Value} {cd3 : Value}
    {od4 an4 : Option Addr} {sl4 : Array (Option Value)} {oc4 kV4 dc4 pm4 ct4 : Value} {cd4 : Value}
    {od5 an5 : Option Addr} {sl5 : Array (Option Value)} {oc5 kV5 dc5 pm5 ct5 : Value} {cd5 : Value}
    {od6 an6 : Option Addr} {sl6 : Array (Option Value)} {oc6 kV6 dc6 pm6 ct6 : Value} {cd6 : Value}
    {od7 an7 : Option Addr} {sl7 : Array (Option Value)} {oc7 kV7 dc7 pm7 ct7 : Value} {cd7 : Value}
    {od8 an8 : Option Addr} {sl8 : Array (Option Value)} {oc8 kV8 dc8 pm8 ct8 : Value} {cd8 : Value}
    {od9 an9 : Option Addr} {sl9 : Array (Option Value)} {oc9 kV9 dc9 pm9 ct9 : Value} {cd9 : Value}
    {tD9_0 tD9_1 : Tok} {oD9 : Value} {dD9 : Option Addr} {nD9 : Nat} {sD9 : Array (Option Value)}
    {rs10 : List Value}
    {od10 an10 : Option Addr} {sl10 : Array (Option Value)} {oc10 kV10 dc10 pm10 ct10 : Value} {cd10 : Value}
    {od11 an11 : Option Addr} {sl11 : Array (Option Value)} {oc11 kV11 dc11 pm11 ct11 : Value} {cd11 : Value}
    {od12 an12 : Option Addr} {sl12 : Array (Option Value)} {oc12 kV12 dc12 pm12 ct12 : Value} {cd12 : Value}
    {od13 an13 : Option Addr} {sl13 : Array (Option Value)} {oc13 kV13 dc13 pm13 ct13 : Value} {cd13 : Value}
    {od14 an14 : Option Addr} {sl14 : Array (Option Value)} {oc14 kV14 dc14 pm14 ct14 : Value} {cd14 : Value}
    {od15 an15 : Option Addr} {sl15 : Array (Option Value)} {oc15 kV15 dc15 pm15 ct15 : Value} {cd15 : Value}
    {od16 an16 : Option Addr} {sl16 : Array (Option Value)} {oc16 kV16 dc16 pm16 ct16 : Value} {cd16 : Value}
    {od17 an17 : Option Addr} {sl17 : Array (Option Value)} {oc17 kV17 dc17 pm17 ct17 : Value} {cd17 : Value}
    {od18 an18 : Option Addr} {sl18 : Array (Option Value)} {oc18 kV18 dc18 pm18 ct18 : Value} {cd18 : Value}
    {tD18_0 tD18_1 : Tok} {oD18 : Value} {dD18 : Option Addr} {nD18 : Nat} {sD18 : Array (Option Value)}
    {od19 an19 : Option Addr} {sl19 : Array (Option Value)} {oc19 kV19 dc19 pm19 ct19 : Value} {cd19 : Value}
    {od20 an20 : Option Addr} {sl20 : Array (Option Value)} {oc20 kV20 dc20 pm20 ct20 : Value} {cd20 : Value}
    {od21 an21 : Option Addr} {sl21 : Array (Option Value)} {oc21 kV21 dc21 pm21 ct21 : Value} {cd21 : Value}
    {od22 an22 : Option Addr} {sl22 : Array (Option Value)} {oc22 kV22 dc22 pm22 ct22 : Value} {cd22 : Value}
    {od23 an23 : Option Addr} {sl23 : Array (Option Value)} {oc23 kV23 dc23 pm23 ct23 : Value} {cd23 : Value}
    {od24 an24 : Option Addr} {sl24 : Array (Option Value)} {oc24 kV24 dc24 pm24 ct24 : Value} {cd24 : Value}
    {od25 an25 : Option Addr} {sl25 : Array (Option Value)} {oc25 kV25 dc25 pm25 ct25 : Value} {cd25 : Value}
    {od26 an26 : Option Addr} {sl26 : Array (Option Value)} {oc26 kV26 dc26 pm26 ct26 : Value} {cd26 : Value}
    {od27 an27 : Option Addr} {sl27 : Array (Option Value)} {oc27 kV27 dc27 pm27 ct27 : Value} {cd27 : Value}
    {od28 an28 : Option Addr} {sl28 : Array (Option Value)} {oc28 kV28 dc28 pm28 ct28 : Value} {cd28 : Value}
    {od29 an29 : Option Addr} {sl29 : Array (Option Value)} {oc29 kV29 dc29 pm29 ct29 : Value} {cd29 : Value}
    {od30 an30 : Option Addr} {sl30 : Array (Option Value)} {oc30 kV30 dc30 pm30 ct30 : Value} {cd30 : Value}
    {od31 an31 : Option Addr} {sl31 : Array (Option Value)} {oc31 kV31 dc31 pm31 ct31 : Value} {cd31 : Value}
    {od32 an32 : Option Addr} {sl32 : Array (Option Value)} {oc32 kV32 dc32 pm32 ct32 : Value} {cd32 : Value}
    {od33 an33 : Option Addr} {sl33 : Array (Option Value)} {oc33 kV33 dc33 pm33 ct33 : Value} {cd33 : Value}
    {od34 an34 : Option Addr} {sl34 : Array (Option Value)} {oc34 kV34 dc34 pm34 ct34 : Value}
    {oX34 : Value} {dX34 : Option Addr} {vX34 : Array Value} {sX34 : Array (Option Value)}
    {od35 an35 : Option Addr} {sl35 : Array (Option Value)} {oc35 kV35 dc35 pm35 ct35 : Value}
    {oX35 : Value} {dX35 : Option Addr} {vX35 : Array Value} {sX35 : Array (Option Value)}
    {t_FIGURES : Tok}
    {t_MOST_SIDE : Tok}
    (aC0 : PySem.W.nsIn K mainGlobals "CurveError" = some (some (.ref C0)))
    (aC1 : PySem.W.nsIn K mainGlobals "BadInput" = some (some (.ref C1)))
    (aC3 : PySem.W.nsIn K mainGlobals "BadBox" = some (some (.ref C3)))
    (aC6 : PySem.W.nsIn K mainGlobals "BadText" = some (some (.ref C6)))
    (aC5 : PySem.W.nsIn K mainGlobals "Box" = some (some (.ref C5)))
    (xc0 : xcB K C0 = true)
    (na0 : naB K C0 [] = true)
    (xc1 : xcB K C1 = true)
    (na1 : naB K C1 [] = true)
    (xc3 : xcB K C3 = true)
    (na3 : naB K C3 ["part"] = true)
    (xL3 : K.lookup C3 = some (excClassObj nm3 q3 C3 N3 bs3 bm3 true sn3 sub3 ab3 col3 dd3 k03 k13 k23 k33 k53 "ValueError.__new__"))
    (xR3 : PySem.HandSPX.refsVE bm3 = true)
    (xS3 : (decide (PySem.W.findIn K (.ref C3) "__setattr__" = some (some (.builtin "object.__setattr__"))) && (decide (PySem.W.subIn K (.ref C3) (.type "BaseException") = some true) && (decide (PySem.W.typeIn K (.ref C3) = some (.type "type")) && PySem.W.keepIn K (.ref C3)))) = true)
    (xi3 : PySem.W.findIn K (.ref C3) "__init__" = some (some (.ref f3)))
    (xt3 : PySem.W.typeIn K (.ref f3) = some (.type "function"))
    (xc6 : xcB K C6 = true)
    (na6 : naB K C6 ["line", "word"] = true)
    (xL6 : K.lookup C6 = some (excClassObj nm6 q6 C6 N6 bs6 bm6 true sn6 sub6 ab6 col6 dd6 k06 k16 k26 k36 k56 "ValueError.__new__"))
    (xR6 : PySem.HandSPX.refsVE bm6 = true)
    (xS6 : (decide (PySem.W.findIn K (.ref C6) "__setattr__" = some (some (.builtin "object.__setattr__"))) && (decide (PySem.W.subIn K (.ref C6) (.type "BaseException") = some true) && (decide (PySem.W.typeIn K (.ref C6) = some (.type "type")) && PySem.W.keepIn K (.ref C6)))) = true)
    (xi6 : PySem.W.findIn K (.ref C6) "__init__" = some (some (.ref f4)))
    (xt6 : PySem.W.typeIn K (.ref f4) = some (.type "function"))
    (cl5 : clsB K C5 = true)
    (cg5 : cgB K C5 = true)
    (na5 : naB K C5 ["x", "y", "width", "height"] = true)
    (ni5 : PySem.W.findIn K (.ref C5) "__init__" = some (some (.ref f9)))
    (nk5 : PySem.W.makesIn K C5 = true)
    (nf5 : PySem.W.isFn K (.ref f9) = true)
    (np5 : PySem.W.keepIn K (.ref C5) = true)
    (a0 : PySem.W.nsIn K mainGlobals "is_integer" = some (some (.ref f0)))
    (l0 : K.lookup f0 = some ⟨oc0, od0, .func (PySem.W.fnOf "is_integer" "is_integer" (defArgs st0) (defBody st0) (defScope st0) .none kV0 dc0 pm0 an0 cd0 ct0), sl0⟩)
    (c0 : PySem.W.codeIn K cd0 "is_integer" = true)
    (k0 : PySem.W.keepIn K (.ref f0) = true)
    (a1 : PySem.W.nsIn K mainGlobals "is_between" = some (some (.ref f1)))
    (l1 : K.lookup f1 = some ⟨oc1, od1, .func (PySem.W.fnOf "is_between" "is_between" (defArgs st1) (defBody st1) (defScope st1) .none kV1 dc1 pm1 an1 cd1 ct1), sl1⟩)
    (c1 : PySem.W.codeIn K cd1 "is_between" = true)
    (k1 : PySem.W.keepIn K (.ref f1) = true)
    (a2 : PySem.W.nsIn K mainGlobals "number_in" = some (some (.ref f2)))
    (l2 : K.lookup f2 = some ⟨oc2, od2, .func (PySem.W.fnOf "number_in" "number_in" (defArgs st2) (defBody st2) (defScope st2) .none kV2 dc2 pm2 an2 cd2 ct2), sl2⟩)
    (c2 : PySem.W.codeIn K cd2 "number_in" = true)
    (k2 : PySem.W.keepIn K (.ref f2) = true)
    (l3 : K.lookup f3 = some ⟨oc3, od3, .func (PySem.W.fnOf "__init__" "BadBox.__init__" (defArgs st3) (defBody st3) (defScope st3) .none kV3 dc3 pm3 an3 cd3 ct3), sl3⟩)
    (c3 : PySem.W.codeIn K cd3 "BadBox.__init__" = true)
    (k3 : PySem.W.keepIn K (.ref f3) = true)
    (l4 : K.lookup f4 = some ⟨oc4, od4, .func (PySem.W.fnOf "__init__" "BadText.__init__" (defArgs st4) (defBody st4) (defScope st4) .none kV4 dc4 pm4 an4 cd4 ct4), sl4⟩)
    (c4 : PySem.W.codeIn K cd4 "BadText.__init__" = true)
    (k4 : PySem.W.keepIn K (.ref f4) = true)
    (a5 : PySem.W.nsIn K mainGlobals "need_box" = some (some (.ref f5)))
    (l5 : K.lookup f5 = some ⟨oc5, od5, .func (PySem.W.fnOf "need_box" "need_box" (defArgs st5) (defBody st5) (defScope st5) .none kV5 dc5 pm5 an5 cd5 ct5), sl5⟩)
    (c5 : PySem.W.codeIn K cd5 "need_box" = true)
    (k5 : PySem.W.keepIn K (.ref f5) = true)
    (a6 : PySem.W.nsIn K mainGlobals "is_within" = some (some (.ref f6)))
    (l6 : K.lookup f6 = some ⟨oc6, od6, .func (PySem.W.fnOf "is_within" "is_within" (defArgs st6) (defBody st6) (defScope st6) .none kV6 dc6 pm6 an6 cd6 ct6), sl6⟩)
    (c6 : PySem.W.codeIn K cd6 "is_within" = true)
    (k6 : PySem.W.keepIn K (.ref f6) = true)
    (a7 : PySem.W.nsIn K mainGlobals "common_box" = some (some (.ref f7)))
    (l7 : K.lookup f7 = some ⟨oc7, od7, .func (PySem.W.fnOf "common_box" "common_box" (defArgs st7) (defBody st7) (defScope st7) .none kV7 dc7 pm7 an7 cd7 ct7), sl7⟩)
    (c7 : PySem.W.codeIn K cd7 "common_box" = true)
    (k7 : PySem.W.keepIn K (.ref f7) = true)
    (a8 : PySem.W.nsIn K mainGlobals "least_box" = some (some (.ref f8)))
    (l8 : K.lookup f8 = some ⟨oc8, od8, .func (PySem.W.fnOf "least_box" "least_box" (defArgs st8) (defBody st8) (defScope st8) .none kV8 dc8 pm8 an8 cd8 ct8), sl8⟩)
    (c8 : PySem.W.codeIn K cd8 "least_box" = true)
    (k8 : PySem.W.keepIn K (.ref f8) = true)
    (l9 : K.lookup f9 = some ⟨oc9, od9, .func (PySem.W.fnOf "__init__" "Box.__init__" (defArgs st9) (defBody st9) (defScope st9) (.ref T9) kV9 dc9 pm9 an9 cd9 ct9), sl9⟩)
    (c9 : PySem.W.codeIn K cd9 "Box.__init__" = true)
    (k9 : PySem.W.keepIn K (.ref f9) = true)
    (dD9 : K.lookup T9 = some ⟨oD9, dD9, .seq #[.int 1 tD9_0, .int 1 tD9_1] nD9, sD9⟩)
    (sa10 : PySem.W.findCls K (.ref C5) (.type "type") "read" = some (.get (.builtin "classmethod.__get__") (.ref p10) .none (.ref C5)))
    (sr10 : PySem.W.recIn K p10 "classmethod" = some (.ref f10 :: rs10))
    (sd10 : PySem.W.readsIn K C5 (.type "type") = true)
    (sg10 : PySem.W.specialIn K (.ref C5) "__getattribute__" = some (some (.builtin "type.__getattribute__")))
    (sf10 : PySem.W.fnIn K f10 = true)
    (l10 : K.lookup f10 = some ⟨oc10, od10, .func (PySem.W.fnOf "read" "Box.read" (defArgs st10) (defBody st10) (defScope st10) .none kV10 dc10 pm10 an10 cd10 ct10), sl10⟩)
    (c10 : PySem.W.codeIn K cd10 "Box.read" = true)
    (k10 : PySem.W.keepIn K (.ref f10) = true)
    (ma5_11 : PySem.W.findIn K (.ref C5) "__and__" = some (some (.ref f11)))
    (mb11 : PySem.W.isFn K (.ref f11) = true)
    (l11 : K.lookup f11 = some ⟨oc11, od11, .func (PySem.W.fnOf "__and__" "Box.__and__" (defArgs st11) (defBody st11) (defScope st11) .none kV11 dc11 pm11 an11 cd11 ct11), sl11⟩)
    (c11 : PySem.W.codeIn K cd11 "Box.__and__" = true)
    (k11 : PySem.W.keepIn K (.ref f11) = true)
    (ma5_12 : PySem.W.findIn K (.ref C5) "__or__" = some (some (.ref f12)))
    (mb12 : PySem.W.isFn K (.ref f12) = true)
    (l12 : K.lookup f12 = some ⟨oc12, od12, .func (PySem.W.fnOf "__or__" "Box.__or__" (defArgs st12) (defBody st12) (defScope st12) .none kV12 dc12 pm12 an12 cd12 ct12), sl12⟩)
    (c12 : PySem.W.codeIn K cd12 "Box.__or__" = true)
    (k12 : PySem.W.keepIn K (.ref f12) = true)
    (ma5_13 : PySem.W.findIn K (.ref C5) "__le__" = some (some (.ref f13)))
    (mb13 : PySem.W.isFn K (.ref f13) = true)
    (l13 : K.lookup f13 = some ⟨oc13, od13, .func (PySem.W.fnOf "__le__" "Box.__le__" (defArgs st13) (defBody st13) (defScope st13) .none kV13 dc13 pm13 an13 cd13 ct13), sl13⟩)
    (c13 : PySem.W.codeIn K cd13 "Box.__le__" = true)
    (k13 : PySem.W.keepIn K (.ref f13) = true)
    (ma5_14 : PySem.W.findIn K (.ref C5) "__lt__" = some (some (.ref f14)))
    (mb14 : PySem.W.isFn K (.ref f14) = true)
    (l14 : K.lookup f14 = some ⟨oc14, od14, .func (PySem.W.fnOf "__lt__" "Box.__lt__" (defArgs st14) (defBody st14) (defScope st14) .none kV14 dc14 pm14 an14 cd14 ct14), sl14⟩)
    (c14 : PySem.W.codeIn K cd14 "Box.__lt__" = true)
    (k14 : PySem.W.keepIn K (.ref f14) = true)
    (ma5_15 : PySem.W.findIn K (.ref C5) "__ge__" = some (some (.ref f15)))
    (mb15 : PySem.W.isFn K (.ref f15) = true)
    (l15 : K.lookup f15 = some ⟨oc15, od15, .func (PySem.W.fnOf "__ge__" "Box.__ge__" (defArgs st15) (defBody st15) (defScope st15) .none kV15 dc15 pm15 an15 cd15 ct15), sl15⟩)
    (c15 : PySem.W.codeIn K cd15 "Box.__ge__" = true)
    (k15 : PySem.W.keepIn K (.ref f15) = true)
    (ma5_16 : PySem.W.findIn K (.ref C5) "__gt__" = some (some (.ref f16)))
    (mb16 : PySem.W.isFn K (.ref f16) = true)
    (l16 : K.lookup f16 = some ⟨oc16, od16, .func (PySem.W.fnOf "__gt__" "Box.__gt__" (defArgs st16) (defBody st16) (defScope st16) .none kV16 dc16 pm16 an16 cd16 ct16), sl16⟩)
    (c16 : PySem.W.codeIn K cd16 "Box.__gt__" = true)
    (k16 : PySem.W.keepIn K (.ref f16) = true)
    (ma5_17 : PySem.W.findIn K (.ref C5) "__eq__" = some (some (.ref f17)))
    (mb17 : PySem.W.isFn K (.ref f17) = true)
    (l17 : K.lookup f17 = some ⟨oc17, od17, .func (PySem.W.fnOf "__eq__" "Box.__eq__" (defArgs st17) (defBody st17) (defScope st17) .none kV17 dc17 pm17 an17 cd17 ct17), sl17⟩)
    (c17 : PySem.W.codeIn K cd17 "Box.__eq__" = true)
    (k17 : PySem.W.keepIn K (.ref f17) = true)
    (a18 : PySem.W.nsIn K mainGlobals "box_numbers" = some (some (.ref f18)))
    (l18 : K.lookup f18 = some ⟨oc18, od18, .func (PySem.W.fnOf "box_numbers" "box_numbers" (defArgs st18) (defBody st18) (defScope st18) (.ref T18) kV18 dc18 pm18 an18 cd18 ct18), sl18⟩)
    (c18 : PySem.W.codeIn K cd18 "box_numbers" = true)
    (k18 : PySem.W.keepIn K (.ref f18) = true)
    (dD18 : K.lookup T18 = some ⟨oD18, dD18, .seq #[.int 0 tD18_0, .int 0 tD18_1] nD18, sD18⟩)
    (a19 : PySem.W.nsIn K mainGlobals "_law_top" = some (some (.ref f19)))
    (l19 : K.lookup f19 = some ⟨oc19, od19, .func (PySem.W.fnOf "_law_top" "_law_top" (defArgs st19) (defBody st19) (defScope st19) .none kV19 dc19 pm19 an19 cd19 ct19), sl19⟩)
    (c19 : PySem.W.codeIn K cd19 "_law_top" = true)
    (k19 : PySem.W.keepIn K (.ref f19) = true)
    (a20 : PySem.W.nsIn K mainGlobals "_law_pen" = some (some (.ref f20)))
    (l20 : K.lookup f20 = some ⟨oc20, od20, .func (PySem.W.fnOf "_law_pen" "_law_pen" (defArgs st20) (defBody st20) (defScope st20) .none kV20 dc20 pm20 an20 cd20 ct20), sl20⟩)
    (c20 : PySem.W.codeIn K cd20 "_law_pen" = true)
    (k20 : PySem.W.keepIn K (.ref f20) = true)
    (a21 : PySem.W.nsIn K mainGlobals "_law_draw" = some (some (.ref f21)))
    (l21 : K.lookup f21 = some ⟨oc21, od21, .func (PySem.W.fnOf "_law_draw" "_law_draw" (defArgs st21) (defBody st21) (defScope st21) .none kV21 dc21 pm21 an21 cd21 ct21), sl21⟩)
    (c21 : PySem.W.codeIn K cd21 "_law_draw" = true)
    (k21 : PySem.W.keepIn K (.ref f21) = true)
    (a22 : PySem.W.nsIn K mainGlobals "_law_pick" = some (some (.ref f22)))
    (l22 : K.lookup f22 = some ⟨oc22, od22, .func (PySem.W.fnOf "_law_pick" "_law_pick" (defArgs st22) (defBody st22) (defScope st22) .none kV22 dc22 pm22 an22 cd22 ct22), sl22⟩)
    (c22 : PySem.W.codeIn K cd22 "_law_pick" = true)
    (k22 : PySem.W.keepIn K (.ref f22) = true)
    (a23 : PySem.W.nsIn K mainGlobals "_law_number" = some (some (.ref f23)))
    (l23 : K.lookup f23 = some ⟨oc23, od23, .func (PySem.W.fnOf "_law_number" "_law_number" (defArgs st23) (defBody st23) (defScope st23) .none kV23 dc23 pm23 an23 cd23 ct23), sl23⟩)
    (c23 : PySem.W.codeIn K cd23 "_law_number" = true)
    (k23 : PySem.W.keepIn K (.ref f23) = true)
    (a24 : PySem.W.nsIn K mainGlobals "_law_side" = some (some (.ref f24)))
    (l24 : K.lookup f24 = some ⟨oc24, od24, .func (PySem.W.fnOf "_law_side" "_law_side" (defArgs st24) (defBody st24) (defScope st24) .none kV24 dc24 pm24 an24 cd24 ct24), sl24⟩)
    (c24 : PySem.W.codeIn K cd24 "_law_side" = true)
    (k24 : PySem.W.keepIn K (.ref f24) = true)
    (a25 : PySem.W.nsIn K mainGlobals "_law_four" = some (some (.ref f25)))
    (l25 : K.lookup f25 = some ⟨oc25, od25, .func (PySem.W.fnOf "_law_four" "_law_four" (defArgs st25) (defBody st25) (defScope st25) .none kV25 dc25 pm25 an25 cd25 ct25), sl25⟩)
    (c25 : PySem.W.codeIn K cd25 "_law_four" = true)
    (k25 : PySem.W.keepIn K (.ref f25) = true)
    (a26 : PySem.W.nsIn K mainGlobals "_law_made" = some (some (.ref f26)))
    (l26 : K.lookup f26 = some ⟨oc26, od26, .func (PySem.W.fnOf "_law_made" "_law_made" (defArgs st26) (defBody st26) (defScope st26) .none kV26 dc26 pm26 an26 cd26 ct26), sl26⟩)
    (c26 : PySem.W.codeIn K cd26 "_law_made" = true)
    (k26 : PySem.W.keepIn K (.ref f26) = true)
    (a27 : PySem.W.nsIn K mainGlobals "_law_told" = some (some (.ref f27)))
    (l27 : K.lookup f27 = some ⟨oc27, od27, .func (PySem.W.fnOf "_law_told" "_law_told" (defArgs st27) (defBody st27) (defScope st27) .none kV27 dc27 pm27 an27 cd27 ct27), sl27⟩)
    (c27 : PySem.W.codeIn K cd27 "_law_told" = true)
    (k27 : PySem.W.keepIn K (.ref f27) = true)
    (a28 : PySem.W.nsIn K mainGlobals "_law_near" = some (some (.ref f28)))
    (l28 : K.lookup f28 = some ⟨oc28, od28, .func (PySem.W.fnOf "_law_near" "_law_near" (defArgs st28) (defBody st28) (defScope st28) .none kV28 dc28 pm28 an28 cd28 ct28), sl28⟩)
    (c28 : PySem.W.codeIn K cd28 "_law_near" = true)
    (k28 : PySem.W.keepIn K (.ref f28) = true)
    (a29 : PySem.W.nsIn K mainGlobals "_law_common" = some (some (.ref f29)))
    (l29 : K.lookup f29 = some ⟨oc29, od29, .func (PySem.W.fnOf "_law_common" "_law_common" (defArgs st29) (defBody st29) (defScope st29) .none kV29 dc29 pm29 an29 cd29 ct29), sl29⟩)
    (c29 : PySem.W.codeIn K cd29 "_law_common" = true)
    (k29 : PySem.W.keepIn K (.ref f29) = true)
    (a30 : PySem.W.nsIn K mainGlobals "_law_least" = some (some (.ref f30)))
    (l30 : K.lookup f30 = some ⟨oc30, od30, .func (PySem.W.fnOf "_law_least" "_law_least" (defArgs st30) (defBody st30) (defScope st30) .none kV30 dc30 pm30 an30 cd30 ct30), sl30⟩)
    (c30 : PySem.W.codeIn K cd30 "_law_least" = true)
    (k30 : PySem.W.keepIn K (.ref f30) = true)
    (a31 : PySem.W.nsIn K mainGlobals "_law_bound" = some (some (.ref f31)))
    (l31 : K.lookup f31 = some ⟨oc31, od31, .func (PySem.W.fnOf "_law_bound" "_law_bound" (defArgs st31) (defBody st31) (defScope st31) .none kV31 dc31 pm31 an31 cd31 ct31), sl31⟩)
    (c31 : PySem.W.codeIn K cd31 "_law_bound" = true)
    (k31 : PySem.W.keepIn K (.ref f31) = true)
    (a32 : PySem.W.nsIn K mainGlobals "_law_heard" = some (some (.ref f32)))
    (l32 : K.lookup f32 = some ⟨oc32, od32, .func (PySem.W.fnOf "_law_heard" "_law_heard" (defArgs st32) (defBody st32) (defScope st32) .none kV32 dc32 pm32 an32 cd32 ct32), sl32⟩)
    (c32 : PySem.W.codeIn K cd32 "_law_heard" = true)
    (k32 : PySem.W.keepIn K (.ref f32) = true)
    (a33 : PySem.W.nsIn K mainGlobals "_law_due" = some (some (.ref f33)))
    (l33 : K.lookup f33 = some ⟨oc33, od33, .func (PySem.W.fnOf "_law_due" "_law_due" (defArgs st33) (defBody st33) (defScope st33) .none kV33 dc33 pm33 an33 cd33 ct33), sl33⟩)
    (c33 : PySem.W.codeIn K cd33 "_law_due" = true)
    (k33 : PySem.W.keepIn K (.ref f33) = true)
    (a34 : PySem.W.nsIn K mainGlobals "_law_two_right" = some (some (.ref f34)))
    (l34 : K.lookup f34 = some ⟨oc34, od34, .func (PySem.W.fnOf "_law_two_right" "_law_two_right" (defArgs st34) (defBody st34) (defScope st34) .none kV34 dc34 pm34 an34 (.ref cc34) ct34), sl34⟩)
    (c34 : PySem.W.codeIn K (.ref cc34) "_law_two_right" = true)
    (k34 : PySem.W.keepIn K (.ref f34) = true)
    (lc34 : K.lookup cc34 = some ⟨oX34, dX34, .fields vX34, sX34⟩)
    (lp34 : (vX34[11]? : Option Value) = some (.ref ta34))
    (lt34 : PySem.W.tabIn K "_law_two_right" = some (cc34, ta34))
    (lu34 : ttB K lamN ta34 (("_law_two_right" : Str) ++ ".<locals>." ++ "<lambda>") = true)
    (a35 : PySem.W.nsIn K mainGlobals "law" = some (some (.ref f35)))
    (l35 : K.lookup f35 = some ⟨oc35, od35, .func (PySem.W.fnOf "law" "law" (defArgs st35) (defBody st35) (defScope st35) .none kV35 dc35 pm35 an35 (.ref cc35) ct35), sl35⟩)
    (c35 : PySem.W.codeIn K (.ref cc35) "law" = true)
    (k35 : PySem.W.keepIn K (.ref f35) = true)
    (lc35 : K.lookup cc35 = some ⟨oX35, dX35, .fields vX35, sX35⟩)
    (lp35 : (vX35[11]? : Option Value) = some (.ref ta35))
    (lt35 : PySem.W.tabIn K "law" = some (cc35, ta35))
    (lu35 : ttB K lamN ta35 (("law" : Str) ++ ".<locals>." ++ "<lambda>") = true)
    (is3 : isoB K C3 [(C0, false), (C1, false), (C3, true), (C6, false), (C5, false)] = true)
    (is5 : isoB K C5 [(C0, false), (C1, false), (C3, false), (C6, false), (C5, true)] = true)
    (ib : isbB K [C0, C1, C3, C6, C5] = true)
    (em0 : exmB K C0 [C0, C1, C3, C6] = true)
    (nO5 : nfB K C5 [C0, C1, C3, C6, C5] = true)
    (nE5 : neB K C5 = true)
    (bc5__and__ : bcB K C5 .BitAnd = true)
    (bc5__or__ : bcB K C5 .BitOr = true)
    (ip5__and__ : ipB K C5 (PySem.Operator.BitAnd).info.2 = true)
    (ip5__or__ : ipB K C5 (PySem.Operator.BitOr).info.2 = true)
    (z_abs : PySem.W.nsIn K mainGlobals "abs" = some none)
    (z_all : PySem.W.nsIn K mainGlobals "all" = some none)
    (z_bool : PySem.W.nsIn K mainGlobals "bool" = some none)
    (z_int : PySem.W.nsIn K mainGlobals "int" = some none)
    (z_isinstance : PySem.W.nsIn K mainGlobals "isinstance" = some none)
    (z_len : PySem.W.nsIn K mainGlobals "len" = some none)
    (z_list : PySem.W.nsIn K mainGlobals "list" = some none)
    (z_max : PySem.W.nsIn K mainGlobals "max" = some none)
    (z_min : PySem.W.nsIn K mainGlobals "min" = some none)
    (z_range : PySem.W.nsIn K mainGlobals "range" = some none)
    (z_repr : PySem.W.nsIn K mainGlobals "repr" = some none)
    (z_str : PySem.W.nsIn K mainGlobals "str" = some none)
    (y_FIGURES : PySem.W.nsIn K mainGlobals "FIGURES" = some (some (.str "0123456789" t_FIGURES)))
    (y_MOST_SIDE : PySem.W.nsIn K mainGlobals "MOST_SIDE" = some (some (.int 1267650600228229401496703205376 t_MOST_SIDE)))
    : ∃ fd : FuncData, (∀ (s : Shared) (u : Value), BindsTo s fd ⟨[u], []⟩ [("_law_script", u)]) ∧ ∀ base : Heap, K.In base → base.Ns mainGlobals mg → (∀ x ∈ lamN, ∀ c P, PySem.W.tabIn K x = some (c, P) → LamX.TabB base mg c P) → FnG P w K mg base 60 fl fd ["_law_script"] (spF (tb K) (calls fs 12) 516 1) := by
  have e := hfl.symm.trans (PySem.W.mg_of X G a35)
  cases e
  have F0 := fun_mk (st := st0) l0 c0 k0
  have B0 := F0.binds (ps := ["value"]) fun _ _ _ _ _ _ us hl => match us, hl with | [_], _ => rfl
  have F1 := fun_mk (st := st1) l1 c1 k1
  have B1 := F1.binds (ps := ["value", "least", "most"]) fun _ _ _ _ _ _ us hl => match us, hl with | [_, _, _], _ => rfl
  have F2 := fun_mk (st := st2) l2 c2 k2
  have B2 := F2.binds (ps := ["word", "least", "most"]) fun _ _ _ _ _ _ us hl => match us, hl with | [_, _, _], _ => rfl
  have F3 := fun_mk (st := st3) l3 c3 k3
  have B3 := F3.binds (ps := ["self", "part"]) fun _ _ _ _ _ _ us hl => match us, hl with | [_, _], _ => rfl
  have F4 := fun_mk (st := st4) l4 c4 k4
  have B4 := F4.binds (ps := ["self", "line", "word"]) fun _ _ _ _ _ _ us hl => match us, hl with | [_, _, _], _ => rfl
  have F5 := fun_mk (st := st5) l5 c5 k5
  have B5 := F5.binds (ps := ["other"]) fun _ _ _ _ _ _ us hl => match us, hl with | [_], _ => rfl
  have F6 := fun_mk (st := st6) l6 c6 k6
  have B6 := F6.binds (ps := ["one", "other"]) fun _ _ _ _ _ _ us hl => match us, hl with | [_, _], _ => rfl
  have F7 := fun_mk (st := st7) l7 c7 k7
  have B7 := F7.binds (ps := ["one", "other"]) fun _ _ _ _ _ _ us hl => match us, hl with | [_, _], _ => rfl
  have F8 := fun_mk (st := st8) l8 c8 k8
  have B8 := F8.binds (ps := ["one", "other"]) fun _ _ _ _ _ _ us hl => match us, hl with | [_, _], _ => rfl
  have FD9 : FunD K "__init__" "Box.__init__" (defArgs st9) (defBody st9) (defScope st9) [.int 1, .int 1] [] f9 (PySem.W.fnOf "__init__" "Box.__init__" (defArgs st9) (defBody st9) (defScope st9) (.ref T9) kV9 dc9 pm9 an9 cd9 ct9) := ⟨⟨_, _, _, _, _, _, _, _, _, _, rfl, l9, c9, .inr ⟨by simp, T9, _, _, _, rfl, dD9, rfl, (.cons ⟨tD9_0, rfl⟩ (.cons ⟨tD9_1, rfl⟩ .nil))⟩, .inl rfl⟩, k9⟩
  have F10 := fun_mk (st := st10) l10 c10 k10
  have B10 := F10.binds (ps := ["cls", "text"]) fun _ _ _ _ _ _ us hl => match us, hl with | [_, _], _ => rfl
  have F11 := fun_mk (st := st11) l11 c11 k11
  have B11 := F11.binds (ps := ["self", "other"]) fun _ _ _ _ _ _ us hl => match us, hl with | [_, _], _ => rfl
  have F12 := fun_mk (st := st12) l12 c12 k12
  have B12 := F12.binds (ps := ["self", "other"]) fun _ _ _ _ _ _ us hl => match us, hl with | [_, _], _ => rfl
  have F13 := fun_mk (st := st13) l13 c13 k13
  have B13 := F13.binds (ps := ["self", "other"]) fun _ _ _ _ _ _ us hl => match us, hl with | [_, _], _ => rfl
  have F14 := fun_mk (st := st14) l14 c14 k14
  have B14 := F14.binds (ps := ["self", "other"]) fun _ _ _ _ _ _ us hl => match us, hl with | [_, _], _ => rfl
  have F15 := fun_mk (st := st15) l15 c15 k15
  have B15 := F15.binds (ps := ["self", "other"]) fun _ _ _ _ _ _ us hl => match us, hl with | [_, _], _ => rfl
  have F16 := fun_mk (st := st16) l16 c16 k16
  have B16 := F16.binds (ps := ["self", "other"]) fun _ _ _ _ _ _ us hl => match us, hl with | [_, _], _ => rfl
  have F17 := fun_mk (st := st17) l17 c17 k17
  have B17 := F17.binds (ps := ["self", "other"]) fun _ _ _ _ _ _ us hl => match us, hl with | [_, _], _ => rfl
  have FD18 : FunD K "box_numbers" "box_numbers" (defArgs st18) (defBody st18) (defScope st18) [.int 0, .int 0] [] f18 (PySem.W.fnOf "box_numbers" "box_numbers" (defArgs st18) (defBody st18) (defScope st18) (.ref T18) kV18 dc18 pm18 an18 cd18 ct18) := ⟨⟨_, _, _, _, _, _, _, _, _, _, rfl, l18, c18, .inr ⟨by simp, T18, _, _, _, rfl, dD18, rfl, (.cons ⟨tD18_0, rfl⟩ (.cons ⟨tD18_1, rfl⟩ .nil))⟩, .inl rfl⟩, k18⟩
  have F19 := fun_mk (st := st19) l19 c19 k19
  have B19 := F19.binds (ps := []) fun _ _ _ _ _ _ us hl => match us, hl with | [], _ => rfl
  have F20 := fun_mk (st := st20) l20 c20 k20
  have B20 := F20.binds (ps := ["_law_script"]) fun _ _ _ _ _ _ us hl => match us, hl with | [_], _ => rfl
  have F21 := fun_mk (st := st21) l21 c21 k21
  have B21 := F21.binds (ps := ["_law_pen_here", "_law_many"]) fun _ _ _ _ _ _ us hl => match us, hl with | [_, _], _ => rfl
  have F22 := fun_mk (st := st22) l22 c22 k22
  have B22 := F22.binds (ps := ["_law_pen_here", "_law_some"]) fun _ _ _ _ _ _ us hl => match us, hl with | [_, _], _ => rfl
  have F23 := fun_mk (st := st23) l23 c23 k23
  have B23 := F23.binds (ps := ["_law_pen_here"]) fun _ _ _ _ _ _ us hl => match us, hl with | [_], _ => rfl
  have F24 := fun_mk (st := st24) l24 c24 k24
  have B24 := F24.binds (ps := ["_law_pen_here"]) fun _ _ _ _ _ _ us hl => match us, hl with | [_], _ => rfl
  have F25 := fun_mk (st := st25) l25 c25 k25
  have B25 := F25.binds (ps := ["_law_pen_here"]) fun _ _ _ _ _ _ us hl => match us, hl with | [_], _ => rfl
  have F26 := fun_mk (st := st26) l26 c26 k26
  have B26 := F26.binds (ps := ["_law_four_here"]) fun _ _ _ _ _ _ us hl => match us, hl with | [_], _ => rfl
  have F27 := fun_mk (st := st27) l27 c27 k27
  have B27 := F27.binds (ps := ["_law_box"]) fun _ _ _ _ _ _ us hl => match us, hl with | [_], _ => rfl
  have F28 := fun_mk (st := st28) l28 c28 k28
  have B28 := F28.binds (ps := ["_law_pen_here", "_law_four_here"]) fun _ _ _ _ _ _ us hl => match us, hl with | [_, _], _ => rfl
  have F29 := fun_mk (st := st29) l29 c29 k29
  have B29 := F29.binds (ps := ["_law_one", "_law_two"]) fun _ _ _ _ _ _ us hl => match us, hl with | [_, _], _ => rfl
  have F30 := fun_mk (st := st30) l30 c30 k30
  have B30 := F30.binds (ps := ["_law_one", "_law_two"]) fun _ _ _ _ _ _ us hl => match us, hl with | [_, _], _ => rfl
  have F31 := fun_mk (st := st31) l31 c31 k31
  have B31 := F31.binds (ps := ["_law_way", "_law_made_here", "_law_more"]) fun _ _ _ _ _ _ us hl => match us, hl with | [_, _, _], _ => rfl
  have F32 := fun_mk (st := st32) l32 c32 k32
  have B32 := F32.binds (ps := ["_law_ask"]) fun _ _ _ _ _ _ us hl => match us, hl with | [_], _ => rfl
  have F33 := fun_mk (st := st33) l33 c33 k33
  have B33 := F33.binds (ps := ["_law_four_here"]) fun _ _ _ _ _ _ us hl => match us, hl with | [_], _ => rfl
  have F34 := fun_mk (st := st34) l34 c34 k34
  have B34 := F34.binds (ps := ["_law_one", "_law_two"]) fun _ _ _ _ _ _ us hl => match us, hl with | [_, _], _ => rfl
  have F35 := fun_mk (st := st35) l35 c35 k35
  have B35 := F35.binds (ps := ["_law_script"]) fun _ _ _ _ _ _ us hl => match us, hl with | [_], _ => rfl
  have T : Tx K mg (fun i => match i with | 0 => f0 | 1 => f1 | 2 => f2 | 3 => f3 | 4 => f4 | 5 => f5 | 6 => f6 | 7 => f7 | 8 => f8 | 9 => f9 | 10 => f10 | 11 => f11 | 12 => f12 | 13 => f13 | 14 => f14 | 15 => f15 | 16 => f16 | 17 => f17 | 18 => f18 | 19 => f19 | 20 => f20 | 21 => f21 | 22 => f22 | 23 => f23 | 24 => f24 | 25 => f25 | 26 => f26 | 27 => f27 | 28 => f28 | 29 => f29 | 30 => f30 | 31 => f31 | 32 => f32 | 33 => f33 | 34 => f34 | 35 => fl | _ => 0) (fun i => match i with | 0 => C0 | 1 => C1 | 3 => C3 | 6 => C6 | 5 => C5 | _ => 0) (fun i => match i with | 10 => p10 | _ => 0) (fun i => match i with | 34 => cc34 | 35 => cc35 | _ => 0) (fun i => match i with | 34 => ta34 | 35 => ta35 | _ => 0) (fun i => match i with | 0 => PySem.W.fnOf "is_integer" "is_integer" (defArgs st0) (defBody st0) (defScope st0) .none kV0 dc0 pm0 an0 cd0 ct0 | 1 => PySem.W.fnOf "is_between" "is_between" (defArgs st1) (defBody st1) (defScope st1) .none kV1 dc1 pm1 an1 cd1 ct1 | 2 => PySem.W.fnOf "number_in" "number_in" (defArgs st2) (defBody st2) (defScope st2) .none kV2 dc2 pm2 an2 cd2 ct2 | 3 => PySem.W.fnOf "__init__" "BadBox.__init__" (defArgs st3) (defBody st3) (defScope st3) .none kV3 dc3 pm3 an3 cd3 ct3 | 4 => PySem.W.fnOf "__init__" "BadText.__init__" (defArgs st4) (defBody st4) (defScope st4) .none kV4 dc4 pm4 an4 cd4 ct4 | 5 => PySem.W.fnOf "need_box" "need_box" (defArgs st5) (defBody st5) (defScope st5) .none kV5 dc5 pm5 an5 cd5 ct5 | 6 => PySem.W.fnOf "is_within" "is_within" (defArgs st6) (defBody st6) (defScope st6) .none kV6 dc6 pm6 an6 cd6 ct6 | 7 => PySem.W.fnOf "common_box" "common_box" (defArgs st7) (defBody st7) (defScope st7) .none kV7 dc7 pm7 an7 cd7 ct7 | 8 => PySem.W.fnOf "least_box" "least_box" (defArgs st8) (defBody st8) (defScope st8) .none kV8 dc8 pm8 an8 cd8 ct8 | 9 => PySem.W.fnOf "__init__" "Box.__init__" (defArgs st9) (defBody st9) (defScope st9) (.ref T9) kV9 dc9 pm9 an9 cd9 ct9 | 10 => PySem.W.fnOf "read" "Box.read" (defArgs st10) (defBody st10) (defScope st10) .none kV10 dc10 pm10 an10 cd10 ct10 | 11 => PySem.W.fnOf "__and__" "Box.__and__" (defArgs st11) (defBody st11) (defScope st11) .none kV11 dc11 pm11 an11 cd11 ct11 | 12 => PySem.W.fnOf "__or__" "Box.__or__" (defArgs st12) (defBody st12) (defScope st12) .none kV12 dc12 pm12 an12 cd12 ct12 | 13 => PySem.W.fnOf "__le__" "Box.__le__" (defArgs st13) (defBody st13) (defScope st13) .none kV13 dc13 pm13 an13 cd13 ct13 | 14 => PySem.W.fnOf "__lt__" "Box.__lt__" (defArgs st14) (defBody st14) (defScope st14) .none kV14 dc14 pm14 an14 cd14 ct14 | 15 => PySem.W.fnOf "__ge__" "Box.__ge__" (defArgs st15) (defBody st15) (defScope st15) .none kV15 dc15 pm15 an15 cd15 ct15 | 16 => PySem.W.fnOf "__gt__" "Box.__gt__" (defArgs st16) (defBody st16) (defScope st16) .none kV16 dc16 pm16 an16 cd16 ct16 | 17 => PySem.W.fnOf "__eq__" "Box.__eq__" (defArgs st17) (defBody st17) (defScope st17) .none kV17 dc17 pm17 an17 cd17 ct17 | 18 => PySem.W.fnOf "box_numbers" "box_numbers" (defArgs st18) (defBody st18) (defScope st18) (.ref T18) kV18 dc18 pm18 an18 cd18 ct18 | 19 => PySem.W.fnOf "_law_top" "_law_top" (defArgs st19) (defBody st19) (defScope st19) .none kV19 dc19 pm19 an19 cd19 ct19 | 20 => PySem.W.fnOf "_law_pen" "_law_pen" (defArgs st20) (defBody st20) (defScope st20) .none kV20 dc20 pm20 an20 cd20 ct20 | 21 => PySem.W.fnOf "_law_draw" "_law_draw" (defArgs st21) (defBody st21) (defScope st21) .none kV21 dc21 pm21 an21 cd21 ct21 | 22 => PySem.W.fnOf "_law_pick" "_law_pick" (defArgs st22) (defBody st22) (defScope st22) .none kV22 dc22 pm22 an22 cd22 ct22 | 23 => PySem.W.fnOf "_law_number" "_law_number" (defArgs st23) (defBody st23) (defScope st23) .none kV23 dc23 pm23 an23 cd23 ct23 | 24 => PySem.W.fnOf "_law_side" "_law_side" (defArgs st24) (defBody st24) (defScope st24) .none kV24 dc24 pm24 an24 cd24 ct24 | 25 => PySem.W.fnOf "_law_four" "_law_four" (defArgs st25) (defBody st25) (defScope st25) .none kV25 dc25 pm25 an25 cd25 ct25 | 26 => PySem.W.fnOf "_law_made" "_law_made" (defArgs st26) (defBody st26) (defScope st26) .none kV26 dc26 pm26 an26 cd26 ct26 | 27 => PySem.W.fnOf "_law_told" "_law_told" (defArgs st27) (defBody st27) (defScope st27) .none kV27 dc27 pm27 an27 cd27 ct27 | 28 => PySem.W.fnOf "_law_near" "_law_near" (defArgs st28) (defBody st28) (defScope st28) .none kV28 dc28 pm28 an28 cd28 ct28 | 29 => PySem.W.fnOf "_law_common" "_law_common" (defArgs st29) (defBody st29) (defScope st29) .none kV29 dc29 pm29 an29 cd29 ct29 | 30 => PySem.W.fnOf "_law_least" "_law_least" (defArgs st30) (defBody st30) (defScope st30) .none kV30 dc30 pm30 an30 cd30 ct30 | 31 => PySem.W.fnOf "_law_bound" "_law_bound" (defArgs st31) (defBody st31) (defScope st31) .none kV31 dc31 pm31 an31 cd31 ct31 | 32 => PySem.W.fnOf "_law_heard" "_law_heard" (defArgs st32) (defBody st32) (defScope st32) .none kV32 dc32 pm32 an32 cd32 ct32 | 33 => PySem.W.fnOf "_law_due" "_law_due" (defArgs st33) (defBody st33) (defScope st33) .none kV33 dc33 pm33 an33 cd33 ct33 | 34 => PySem.W.fnOf "_law_two_right" "_law_two_right" (defArgs st34) (defBody st34) (defScope st34) .none kV34 dc34 pm34 an34 (.ref cc34) ct34 | 35 => PySem.W.fnOf "law" "law" (defArgs st35) (defBody st35) (defScope st35) .none kV35 dc35 pm35 an35 (.ref cc35) ct35 | _ => PySem.W.fnOf "" "" (defArgs st0) [] (defScope st0) .none .none .none .none .none .none .none) := {
    mC0 := PySem.W.mg_of X G aC0
    cn0 := adr_of aC0
    mC1 := PySem.W.mg_of X G aC1
    cn1 := adr_of aC1
    mC3 := PySem.W.mg_of X G aC3
    cn3 := adr_of aC3
    mC6 := PySem.W.mg_of X G aC6
    cn6 := adr_of aC6
    mC5 := PySem.W.mg_of X G aC5
    cn5 := adr_of aC5
    xr0 := xf_of xc0
    xe0 := xc_of xc0
    na0 := na_of na0
    xr1 := xf_of xc1
    xe1 := xc_of xc1
    na1 := na_of na1
    xr3 := xf_of xc3
    xe3 := xc_of xc3
    na3 := na_of na3
    ox3 := oex_of xL3 xR3 xS3
    xi3 := xi3
    xt3 := xt3
    cx3 := adr_of aC3
    xr6 := xf_of xc6
    xe6 := xc_of xc6
    na6 := na_of na6
    ox6 := oex_of xL6 xR6 xS6
    xi6 := xi6
    xt6 := xt6
    cx6 := adr_of aC6
    cl5 := cls_of cl5
    cg5 := cg5
    na5 := na_of na5
    ck5 := adr_of aC5
    mk5 := ⟨nk5, ni5, nf5, np5⟩
    m0 := PySem.W.mg_of X G a0
    f0 := funV F0
    b0 := B0
    m1 := PySem.W.mg_of X G a1
    f1 := funV F1
    b1 := B1
    m2 := PySem.W.mg_of X G a2
    f2 := funV F2
    b2 := B2
    f3 := funV F3
    b3 := B3
    f4 := funV F4
    b4 := B4
    m5 := PySem.W.mg_of X G a5
    f5 := funV F5
    b5 := B5
    m6 := PySem.W.mg_of X G a6
    f6 := funV F6
    b6 := B6
    m7 := PySem.W.mg_of X G a7
    f7 := funV F7
    b7 := B7
    m8 := PySem.W.mg_of X G a8
    f8 := funV F8
    b8 := B8
    f9 := funD_V FD9
    bd9_0 := binds_of FD9 3 0 (by simp) (by rfl) (fun _ _ _ _ _ _ _ us its hu hi => match us, its, hu, hi with | [_, _, _], [_, _], _, _ => ⟨_, rfl, rfl⟩)
    bd9_1 := binds_of FD9 4 1 (by simp) (by rfl) (fun _ _ _ _ _ _ _ us its hu hi => match us, its, hu, hi with | [_, _, _, _], [_, _], _, _ => ⟨_, rfl, rfl⟩)
    bd9_2 := binds_of FD9 5 2 (by simp) (by rfl) (fun _ _ _ _ _ _ _ us its hu hi => match us, its, hu, hi with | [_, _, _, _, _], [_, _], _, _ => ⟨_, rfl, rfl⟩)
    b0d9 := by obtain ⟨_, h, k⟩ := binds_of FD9 5 2 (ps := ["self", "x", "y", "width", "height"]) (by simp) (by rfl) (fun _ _ _ _ _ _ _ us its hu hi => match us, its, hu, hi with | [_, _, _, _, _], [_, _], _, _ => ⟨_, rfl, rfl⟩); cases h; exact k
    cr10 := ⟨sd10, sg10⟩
    cm10 := ⟨sa10, ⟨_, sr10⟩, sf10⟩
    f10 := funV F10
    b10 := B10
    me5_11 := ⟨ma5_11, mb11, k11⟩
    f11 := funV F11
    b11 := B11
    me5_12 := ⟨ma5_12, mb12, k12⟩
    f12 := funV F12
    b12 := B12
    me5_13 := ⟨ma5_13, mb13, k13⟩
    f13 := funV F13
    b13 := B13
    me5_14 := ⟨ma5_14, mb14, k14⟩
    f14 := funV F14
    b14 := B14
    me5_15 := ⟨ma5_15, mb15, k15⟩
    f15 := funV F15
    b15 := B15
    me5_16 := ⟨ma5_16, mb16, k16⟩
    f16 := funV F16
    b16 := B16
    me5_17 := ⟨ma5_17, mb17, k17⟩
    f17 := funV F17
    b17 := B17
    m18 := PySem.W.mg_of X G a18
    f18 := funD_V FD18
    bd18_0 := binds_of FD18 1 0 (by simp) (by rfl) (fun _ _ _ _ _ _ _ us its hu hi => match us, its, hu, hi with | [_], [_, _], _, _ => ⟨_, rfl, rfl⟩)
    m19 := PySem.W.mg_of X G a19
    f19 := funV F19
    b19 := B19
    m20 := PySem.W.mg_of X G a20
    f20 := funV F20
    b20 := B20
    m21 := PySem.W.mg_of X G a21
    f21 := funV F21
    b21 := B21
    m22 := PySem.W.mg_of X G a22
    f22 := funV F22
    b22 := B22
    m23 := PySem.W.mg_of X G a23
    f23 := funV F23
    b23 := B23
    m24 := PySem.W.mg_of X G a24
    f24 := funV F24
    b24 := B24
    m25 := PySem.W.mg_of X G a25
    f25 := funV F25
    b25 := B25
    m26 := PySem.W.mg_of X G a26
    f26 := funV F26
    b26 := B26
    m27 := PySem.W.mg_of X G a27
    f27 := funV F27
    b27 := B27
    m28 := PySem.W.mg_of X G a28
    f28 := funV F28
    b28 := B28
    m29 := PySem.W.mg_of X G a29
    f29 := funV F29
    b29 := B29
    m30 := PySem.W.mg_of X G a30
    f30 := funV F30
    b30 := B30
    m31 := PySem.W.mg_of X G a31
    f31 := funV F31
    b31 := B31
    m32 := PySem.W.mg_of X G a32
    f32 := funV F32
    h32 := F32
    b32 := B32
    m33 := PySem.W.mg_of X G a33
    f33 := funV F33
    b33 := B33
    m34 := PySem.W.mg_of X G a34
    f34 := funV F34
    b34 := B34
    q34 := rfl
    ti34 := lt34
    tt34 := tt_mem lt34 (by decide)
    tu34 := tt_un lu34
    m35 := PySem.W.mg_of X G a35
    f35 := funV F35
    b35 := B35
    q35 := rfl
    ti35 := lt35
    tt35 := tt_mem lt35 (by decide)
    tu35 := tt_un lu35
    is3 := is3
    is5 := is5
    ib := ib
    em0 := em0
    nO5 := nO5
    nE5 := nE5
    bc5__and__ := bc5__and__
    bc5__or__ := bc5__or__
    ip5__and__ := ip5__and__
    ip5__or__ := ip5__or__
    n_abs := PySem.W.mg_none_of X G z_abs
    n_all := PySem.W.mg_none_of X G z_all
    n_bool := PySem.W.mg_none_of X G z_bool
    n_int := PySem.W.mg_none_of X G z_int
    n_isinstance := PySem.W.mg_none_of X G z_isinstance
    n_len := PySem.W.mg_none_of X G z_len
    n_list := PySem.W.mg_none_of X G z_list
    n_max := PySem.W.mg_none_of X G z_max
    n_min := PySem.W.mg_none_of X G z_min
    n_range := PySem.W.mg_none_of X G z_range
    n_repr := PySem.W.mg_none_of X G z_repr
    n_str := PySem.W.mg_none_of X G z_str
    g_FIGURES := ⟨_, PySem.W.mg_of X G y_FIGURES⟩
    g_MOST_SIDE := ⟨_, PySem.W.mg_of X G y_MOST_SIDE⟩
  }
  exact ⟨_, fun s u => .of_eq rfl, fun base _ _ hT => (al (base := base) T (hT _ (by decide) _ _ lt34) (hT _ (by decide) _ _ lt35) 12).1.o35⟩
end LW
end
section
namespace LW
open PP PySem L2
theorem k_is_integer {k : Nat} : S_is_integer (calls fs (k + 1) 0) := by
  rw [calls_fn fs (k + 0) 0 (F := F_is_integer) rfl]
  exact is_integer_ok
theorem k_is_between {k : Nat} : S_is_between (calls fs (k + 2) 1) := by
  rw [calls_fn fs (k + 1) 1 (F := F_is_between) rfl]
  exact is_between_ok k_is_integer
theorem k_number_in {k : Nat} : S_number_in (calls fs (k + 1) 10) := by
  rw [calls_fn fs (k + 0) 10 (F := F_number_in) rfl]
  exact number_in_ok
theorem k_need_box {k : Nat} : S_need_box (calls fs (k + 1) 4) := by
  rw [calls_fn fs (k + 0) 4 (F := F_need_box) rfl]
  exact need_box_ok
theorem k_is_within {k : Nat} : S_is_within (calls fs (k + 1) 7) := by
  rw [calls_fn fs (k + 0) 7 (F := F_is_within) rfl]
  exact is_within_ok
theorem k_Box__init__ {k : Nat} : S_box_init (calls fs (k + 3) 6000) := by
  rw [calls_fn fs (k + 2) 6000 (F := F_Box__init__) rfl]
  exact box_init_ok k_is_between
theorem k_common_box {k : Nat} : S_common_box (calls fs (k + 4) 8) := by
  rw [calls_fn fs (k + 3) 8 (F := F_common_box) rfl]
  exact common_box_ok k_Box__init__
theorem k_least_box {k : Nat} : S_least_box (calls fs (k + 4) 9) := by
  rw [calls_fn fs (k + 3) 9 (F := F_least_box) rfl]
  exact least_box_ok k_Box__init__
theorem k_box_numbers {k : Nat} : S_box_numbers (calls fs (k + 2) 11) := by
  rw [calls_fn fs (k + 1) 11 (F := F_box_numbers) rfl]
  exact box_numbers_ok k_number_in
theorem k_Box_read {k : Nat} : S_read (calls fs (k + 4) 6051) := by
  rw [calls_fn fs (k + 3) 6051 (F := F_Box_read) rfl]
  exact read_ok k_box_numbers k_Box__init__
theorem k_Box__and__ {k : Nat} : S_and (calls fs (k + 5) 6009) := by
  rw [calls_fn fs (k + 4) 6009 (F := F_Box__and__) rfl]
  exact and_ok k_need_box k_common_box
theorem k_Box__or__ {k : Nat} : S_or (calls fs (k + 5) 6010) := by
  rw [calls_fn fs (k + 4) 6010 (F := F_Box__or__) rfl]
  exact or_ok k_need_box k_least_box
theorem k_Box__le__ {k : Nat} : S_cmpB within (calls fs (k + 2) 6013) := by
  rw [calls_fn fs (k + 1) 6013 (F := F_Box__le__) rfl]
  exact le_ok k_need_box k_is_within
theorem k_Box__lt__ {k : Nat} : S_cmpB (fun x y w h x' y' w' h' => within x y w h x' y' w' h' && !within x' y' w' h' x y w h) (calls fs (k + 2) 6012) := by
  rw [calls_fn fs (k + 1) 6012 (F := F_Box__lt__) rfl]
  exact lt_ok k_need_box k_is_within
theorem k_Box__ge__ {k : Nat} : S_cmpB (fun x y w h x' y' w' h' => within x' y' w' h' x y w h) (calls fs (k + 2) 6015) := by
  rw [calls_fn fs (k + 1) 6015 (F := F_Box__ge__) rfl]
  exact ge_ok k_need_box k_is_within
theorem k_Box__gt__ {k : Nat} : S_cmpB (fun x y w h x' y' w' h' => within x' y' w' h' x y w h && !within x y w h x' y' w' h') (calls fs (k + 2) 6014) := by
  rw [calls_fn fs (k + 1) 6014 (F := F_Box__gt__) rfl]
  exact gt_ok k_need_box k_is_within
theorem k_Box__eq__ {k : Nat} : S_beq (calls fs (k + 1) 6016) := by
  rw [calls_fn fs (k + 0) 6016 (F := F_Box__eq__) rfl]
  exact beq_ok
theorem k_pen {k : Nat} (ns : List Int) (h : ns.length ≤ 63) : calls fs (k + 1) 501 [.fz (.kst (ns.map D.int))] = .ok (.nw (.lst [.lst (ns.map D.int), .int 0, .int 0])) [] := (calls_eq fs k 501 (F := penFn) rfl _).trans (pen_ok h).1
theorem k_draw {k : Nat} : DrawOk (calls fs (k + 1)) 502 := by
  intro n p m hp hn hm hm2
  rw [calls_eq fs k 502 (F := drawFn 34019 3673 2147483549 47189 827 2147483629 397 53813 97 2147483587) rfl]
  exact draw_ok (by decide) (by decide) (by decide) (by decide) (by decide) (by decide) (by decide) (by decide) (by decide) hp hn hm hm2
theorem k_pick {k : Nat} : PickOk (calls fs (k + 2)) 503 := by
  intro n p xs hp hn h0 h1
  rw [calls_eq fs (k + 1) 503 (F := pickFn 502) rfl]
  exact pick_ok k_draw hp hn h0 h1
end LW
end
section
set_option maxHeartbeats 1000000
namespace LW
open PP PySem L2
theorem lam_eq (k : Nat) (o : D) : calls fs (k + 1) 513 [.fz o] = finR [] (exs (askCl o (calls fs k)) fn32.body [.fn, .un, .un, .un]) := rfl
theorem k_told {k : Nat} (x y w h : Int) : calls fs (k + 1) 508 [.fz (boxD x y w h)] = .ok (.d (.tup [.int x, .int y, .int w, .int h])) [] := by
  rw [calls_eq fs k 508 (F := fn27) rfl]
  simp only [fn27]
  walk_at "px"
abbrev S_heard (g : Gf) : Prop := (∀ x y w h, g [.fz (.tup [.non, boxD x y w h])] = .ok (.d (.tup [.int x, .int y, .int w, .int h])) []) ∧ ∀ p : Str, g [.fz (.err 3 [1] [.str p])] = .ok (.d (.str p)) []
theorem k_heard {k : Nat} : S_heard (calls fs (k + 2) 513) := by
  refine ⟨fun x y w h => ?_, fun p => ?_⟩
  · rw [lam_eq]
    have ht := @k_told k x y w h
    simp only [fn32]
    generalize calls fs (k + 1) = cl at *
    have e2 : askCl (.tup [.non, boxD x y w h]) cl 508 [.fz (boxD x y w h)] = .ok (.d (.tup [.int x, .int y, .int w, .int h])) [] := by
      show cl 508 _ = _
      exact ht
    walk_at "px"
  · rw [lam_eq]
    simp only [fn32]
    walk_at "px"
theorem k_top {k : Nat} : calls fs (k + 1) 500 [] = .ok (.d (.int 1267650600228229401496703205376)) [] := by
  rw [calls_eq fs k 500 (F := fn19) rfl]
  rfl
theorem use_pickI {cl : CallF} {f : Nat} (h : PickOk cl f) {n : Nat} {p : D} {xs : List D} {rc : RC} (lo hi : Int) (hr : cl f [.io p, .fz (.lst xs)] = rc) (hp : PenOk n p) (hn : n ≤ 1000000) (h0 : 0 < xs.length) (h1 : xs.length < 1000) (hx : ∀ d ∈ xs, btw d lo hi = true) :
    ∃ i p', rc = .ok (.d (.int i)) [p'] ∧ PenOk (n + 1) p' ∧ lo ≤ i ∧ i ≤ hi := by
  obtain ⟨d, hd, p', e, h2⟩ := use_pick h hr hp hn h0 h1
  have := hx d hd
  cases d with
  | int i =>
    simp only [btw, Bool.and_eq_true, decide_eq_true_eq] at this
    exact ⟨i, p', e, h2, this.1, this.2⟩
  | _ => cases this
theorem btw_i {i lo hi : Int} (h : lo ≤ i ∧ i ≤ hi) : btw (.int i) lo hi = true := by simp only [btw, h.1, h.2, decide_true, Bool.and_self]
theorem k_number {k n : Nat} {p : D} (hp : PenOk n p) (hn : n ≤ 900000) : ∃ i p', calls fs (k + 3) 504 [.io p] = .ok (.d (.int i)) [p'] ∧ PenOk (n + 3) p' ∧ 0 ≤ i ∧ i ≤ 633825300114114700748351602688 := by
  rw [calls_eq fs (k + 2) 504 (F := fn23) rfl]
  have ht := @k_top (k + 1)
  have hpk := @k_pick k
  have hdr := @k_draw (k + 1)
  generalize calls fs (k + 2) = cl at *
  simp only [fn23]
  walk_at "px"
  generalize hrc : cl 502 _ = rc
  obtain ⟨r, p1, rfl, a1, b1, h1⟩ := use_draw hdr hrc hp (by omega) (by decide) (by decide)
  walk_at "px"
  generalize hrc : cl 502 _ = rc
  obtain ⟨r2, p2, rfl, a2, b2, h2⟩ := use_draw hdr hrc h1 (by omega) (by decide) (by decide)
  walk_at "px"
  generalize hrc : cl 503 _ = rc
  obtain ⟨i, p3, rfl, h3, c1, c2⟩ := use_pickI hpk 0 633825300114114700748351602688 hrc h2 (by omega) (by simp) (by simp) (fun d hd => by
    simp only [List.mem_cons, List.not_mem_nil, or_false] at hd
    rcases hd with rfl | rfl | rfl | rfl | rfl | rfl | rfl | rfl <;> exact btw_i (by omega))
  walk_at "px"
  exact ⟨_, _, rfl, h3, c1, c2⟩
theorem k_side {k n : Nat} {p : D} (hp : PenOk n p) (hn : n ≤ 900000) : ∃ i p', calls fs (k + 3) 505 [.io p] = .ok (.d (.int i)) [p'] ∧ PenOk (n + 3) p' ∧ 1 ≤ i ∧ i ≤ 1267650600228229401496703205376 := by
  rw [calls_eq fs (k + 2) 505 (F := fn24) rfl]
  have ht := @k_top (k + 1)
  have hpk := @k_pick k
  have hdr := @k_draw (k + 1)
  generalize calls fs (k + 2) = cl at *
  simp only [fn24]
  walk_at "px"
  generalize hrc : cl 502 _ = rc
  obtain ⟨r, p1, rfl, a1, b1, h1⟩ := use_draw hdr hrc hp (by omega) (by decide) (by decide)
  walk_at "px"
  generalize hrc : cl 502 _ = rc
  obtain ⟨r2, p2, rfl, a2, b2, h2⟩ := use_draw hdr hrc h1 (by omega) (by decide) (by decide)
  walk_at "px"
  generalize hrc : cl 503 _ = rc
  obtain ⟨i, p3, rfl, h3, c1, c2⟩ := use_pickI hpk 1 1267650600228229401496703205376 hrc h2 (by omega) (by simp) (by simp) (fun d hd => by
    simp only [List.mem_cons, List.not_mem_nil, or_false] at hd
    rcases hd with rfl | rfl | rfl | rfl | rfl | rfl | rfl <;> exact btw_i (by omega))
  walk_at "px"
  exact ⟨_, _, rfl, h3, c1, c2⟩
abbrev qf4 (x y w h : Int) : D := .tup [.int x, .int y, .int w, .int h]
theorem k_four {k n : Nat} {p : D} (hp : PenOk n p) (hn : n ≤ 800000) : ∃ x y w h p', calls fs (k + 4) 506 [.io p] = .ok (.d (qf4 x y w h)) [p'] ∧ PenOk (n + 12) p' ∧ okN x y w h := by
  rw [calls_eq fs (k + 3) 506 (F := fn25) rfl]
  have hN := @k_number k
  have hS := @k_side k
  generalize calls fs (k + 3) = cl at *
  obtain ⟨x, p1, e1, h1, c1, d1⟩ := hN hp (by omega)
  obtain ⟨y, p2, e2, h2, c2, d2⟩ := hN h1 (by omega)
  obtain ⟨w, p3, e3, h3, c3⟩ := hS h2 (by omega)
  obtain ⟨h, p4, e4, h4, c4⟩ := hS h3 (by omega)
  clear hN hS
  simp only [fn25]
  walk_at "px"
  exact ⟨x, y, w, h, p4, rfl, h4, ⟨c1, by omega⟩, ⟨c2, by omega⟩, c3, c4⟩
theorem smI_of {i : Int} (h0 : 0 ≤ i) (h : i ≤ 1267650600228229401496703205376) : smI i := small40 h0 (by unfold lim40; omega)
theorem bi_str_i {i : Int} (h : smI i) : biD .str [.int i] = some (.str (T i)) := by
  have := h.log
  show (if _ then _ else _) = _
  rw [if_pos (by rw [decide_eq_true_eq]; omega)]
theorem k_made {k : Nat} {x y w h : Int} (o : okN x y w h) : calls fs (k + 5) 507 [.fz (qf4 x y w h)] = .ok (.nw (boxD x y w h)) [] := by
  rw [calls_eq fs (k + 4) 507 (F := fn26) rfl]
  have hr := (@k_Box_read k).2 (txB x y w h) (by have := tx_len o; omega)
  rw [rdX_tx o] at hr
  generalize calls fs (k + 4) = cl at *
  obtain ⟨⟨a1, a2⟩, ⟨b1, b2⟩, ⟨c1, c2⟩, ⟨d1, d2⟩⟩ := o
  have hs : ∀ i ∈ [x, y, w, h], biD .str [.int i] = some (.str (T i)) := fun i hi => by
    simp only [List.mem_cons, List.not_mem_nil, or_false] at hi
    rcases hi with rfl | rfl | rfl | rfl
    · exact bi_str_i (smI_of a1 (by omega))
    · exact bi_str_i (smI_of b1 (by omega))
    · exact bi_str_i (smI_of (by omega) (by omega))
    · exact bi_str_i (smI_of (by omega) (by omega))
  have hj : biD .join [.str (Str.ofString " "), .lst ([x, y, w, h].map fun i => .str (T i))] = some (.str (txB x y w h)) := by
    have e : biD .join [.str spc, .lst [.str (T x), .str (T y), .str (T w), .str (T h)]] = if (([T x, T y, T w, T h] : List Str).map (·.length)).sum + 4 * spc.length ≤ LIM then some (.str (Txt.join spc [T x, T y, T w, T h])) else none := rfl
    have l1 := T_len40 a1 (by omega)
    have l2 := T_len40 b1 (by omega)
    have l3 := T_len40 (v := w) (by omega) (by omega)
    have l4 := T_len40 (v := h) (by omega) (by omega)
    have l5 : spc.length = 1 := by rw [len_ofS]; rfl
    refine e.trans ?_
    rw [if_pos (by
      simp only [List.map_cons, List.map_nil, List.sum_cons, List.sum_nil]
      unfold LIM
      omega), join_tx]
  generalize txB x y w h = z at *
  as_aux_lemma =>
  simp only [fn26]
  walk_at "pp"
  rw [lc_enc (ds := [.int x, .int y, .int w, .int h]) D.int [x, y, w, h] (fun i => .str (T i)) rfl rfl (by simp [LIM]) (fun i hi => by
    have := hs i hi
    clear hs hj hr
    simp only [storeG, wipeE]
    walk_at "px"
    simp only [eltT]
    walk_at "px"
    exact ⟨_, rfl, rfl⟩)]
  clear hs
  generalize [x, y, w, h].map (fun i => D.str (T i)) = ls at *
  walk_at "px"
theorem rng2 : List.map (fun (k : Nat) => D.int (0 + (k : Int))) (List.range 2) = [.int 0, .int 1] := rfl
theorem k_common {k : Nat} (x y w h x' y' w' h' : Int) : calls fs (k + 1) 510 [.fz (qf4 x y w h), .fz (qf4 x' y' w' h')] = .ok (.d (if max x x' < min (x + w) (x' + w') ∧ max y y' < min (y + h) (y' + h') then qf4 (max x x') (max y y') (min (x + w) (x' + w') - max x x') (min (y + h) (y' + h') - max y y') else .non)) [] := by
  rw [calls_eq fs k 510 (F := fn29) rfl]
  generalize calls fs k = cl at *
  have b2 : (b40 0 && b40 2) = true := rfl
  as_aux_lemma =>
  simp only [fn29]
  walk_at "px"
  rw [rng2, lc_enc (ds := [.int 0, .int 1]) D.int [0, 1] (fun i => if i = 0 then .int (max x x') else .int (max y y')) rfl rfl (by simp [LIM]) (fun i hi => by
    simp only [List.mem_cons, List.not_mem_nil, or_false] at hi
    rcases hi with rfl | rfl
    · simp only [storeG, wipeE]
      walk_at "px"
      simp only [eltT]
      walk_at "px"
      exact ⟨_, rfl, rfl⟩
    · simp only [storeG, wipeE]
      walk_at "px"
      simp only [eltT]
      walk_at "px"
      exact ⟨_, rfl, rfl⟩)]
  rw [show [0, 1].map (fun i : Int => if i = 0 then D.int (max x x') else .int (max y y')) = [.int (max x x'), .int (max y y')] from rfl]
  walk_at "px"
  rw [rng2, lc_enc (ds := [.int 0, .int 1]) D.int [0, 1] (fun i => if i = 0 then .int (min (x + w) (x' + w')) else .int (min (y + h) (y' + h'))) rfl rfl (by simp [LIM]) (fun i hi => by
    simp only [List.mem_cons, List.not_mem_nil, or_false] at hi
    rcases hi with rfl | rfl
    · simp only [storeG, wipeE]
      walk_at "px"
      simp only [eltT]
      walk_at "px"
      exact ⟨_, rfl, rfl⟩
    · simp only [storeG, wipeE]
      walk_at "px"
      simp only [eltT]
      walk_at "px"
      exact ⟨_, rfl, rfl⟩)]
  rw [show [0, 1].map (fun i : Int => if i = 0 then D.int (min (x + w) (x' + w')) else .int (min (y + h) (y' + h'))) = [.int (min (x + w) (x' + w')), .int (min (y + h) (y' + h'))] from rfl]
  walk_at "px"
  generalize max x x' = a
  generalize max y y' = b
  generalize min (x + w) (x' + w') = c
  generalize min (y + h) (y' + h') = d
  by_cases h1 : a < c
  · have g1 : decide (c ≤ a) = false := decide_eq_false (by omega)
    by_cases h2 : b < d
    · have g2 : decide (d ≤ b) = false := decide_eq_false (by omega)
      rw [if_pos ⟨h1, h2⟩]
      walk_at "px"
    · have g2 : decide (d ≤ b) = true := decide_eq_true (by omega)
      rw [if_neg (fun z => h2 z.2)]
      walk_at "px"
  · have g1 : decide (c ≤ a) = true := decide_eq_true (by omega)
    rw [if_neg (fun z => h1 z.1)]
    walk_at "px"
theorem k_least {k : Nat} (x y w h x' y' w' h' : Int) : calls fs (k + 1) 511 [.fz (qf4 x y w h), .fz (qf4 x' y' w' h')] = .ok (.d (qf4 (min x x') (min y y') (max (x + w) (x' + w') - min x x') (max (y + h) (y' + h') - min y y'))) [] := by
  rw [calls_eq fs k 511 (F := fn30) rfl]
  generalize calls fs k = cl at *
  have b2 : (b40 0 && b40 2) = true := rfl
  as_aux_lemma =>
  simp only [fn30]
  walk_at "px"
  rw [rng2, lc_enc (ds := [.int 0, .int 1]) D.int [0, 1] (fun i => if i = 0 then .int (min x x') else .int (min y y')) rfl rfl (by simp [LIM]) (fun i hi => by
    simp only [List.mem_cons, List.not_mem_nil, or_false] at hi
    rcases hi with rfl | rfl
    · simp only [storeG, wipeE]
      walk_at "px"
      simp only [eltT]
      walk_at "px"
      exact ⟨_, rfl, rfl⟩
    · simp only [storeG, wipeE]
      walk_at "px"
      simp only [eltT]
      walk_at "px"
      exact ⟨_, rfl, rfl⟩)]
  rw [show [0, 1].map (fun i : Int => if i = 0 then D.int (min x x') else .int (min y y')) = [.int (min x x'), .int (min y y')] from rfl]
  walk_at "px"
  rw [rng2, lc_enc (ds := [.int 0, .int 1]) D.int [0, 1] (fun i => if i = 0 then .int (max (x + w) (x' + w')) else .int (max (y + h) (y' + h'))) rfl rfl (by simp [LIM]) (fun i hi => by
    simp only [List.mem_cons, List.not_mem_nil, or_false] at hi
    rcases hi with rfl | rfl
    · simp only [storeG, wipeE]
      walk_at "px"
      simp only [eltT]
      walk_at "px"
      exact ⟨_, rfl, rfl⟩
    · simp only [storeG, wipeE]
      walk_at "px"
      simp only [eltT]
      walk_at "px"
      exact ⟨_, rfl, rfl⟩)]
  rw [show [0, 1].map (fun i : Int => if i = 0 then D.int (max (x + w) (x' + w')) else .int (max (y + h) (y' + h'))) = [.int (max (x + w) (x' + w')), .int (max (y + h) (y' + h'))] from rfl]
  walk_at "px"
theorem eq4 (a b c d a' b' c' d' : Int) : op2 .eq (qf4 a b c d) (qf4 a' b' c' d') = some (.bl ((a == a') && ((b == b') && ((c == c') && ((d == d') && true))))) := rfl
theorem ne4 (a b c d a' b' c' d' : Int) : op2 .ne (qf4 a b c d) (qf4 a' b' c' d') = some (.bl (!((a == a') && ((b == b') && ((c == c') && ((d == d') && true)))))) := rfl
theorem eqn4 (a b c d : Int) : op2 .eq .non (qf4 a b c d) = some (.bl false) := rfl
theorem k_near {k n : Nat} {p : D} {x y w h : Int} (hp : PenOk n p) (hn : n ≤ 700000) (o : okN x y w h) : ∃ x' y' w' h' p', calls fs (k + 5) 509 [.io p, .fz (qf4 x y w h)] = .ok (.d (qf4 x' y' w' h')) [p'] ∧ PenOk (n + 20) p' ∧ okN x' y' w' h' := by
  rw [calls_eq fs (k + 4) 509 (F := fn28) rfl]
  have ht := @k_top (k + 3)
  have hdr := @k_draw (k + 3)
  have hS := fun n p => @k_side (k + 1) n p
  have hF := fun n p => @k_four k n p
  generalize calls fs (k + 4) = cl at *
  obtain ⟨⟨a1, a2⟩, ⟨b1, b2⟩, ⟨c1, c2⟩, ⟨d1, d2⟩⟩ := o
  replace hS := Hid.mk hS
  replace hF := Hid.mk hF
  replace hdr := Hid.mk hdr
  as_aux_lemma =>
  simp only [fn28]
  walk_at "px"
  generalize hrc : cl 502 _ = rc
  obtain ⟨r, p1, rfl, r0, r1, h1⟩ := use_draw hdr.out hrc hp (by omega) (by decide) (by decide)
  clear hrc
  have hcase : r = 0 ∨ r = 1 ∨ r = 2 ∨ r = 3 ∨ r = 4 ∨ r = 5 := by omega
  rcases hcase with rfl | rfl | rfl | rfl | rfl | rfl
  · walk_at "px"
    exact ⟨_, _, _, _, _, rfl, h1.mono (by omega), ⟨a1, a2⟩, ⟨b1, b2⟩, ⟨c1, c2⟩, d1, d2⟩
  · walk_at "px"
    generalize hrc : cl 502 _ = rc
    obtain ⟨r2, p2, rfl, e0, e1, h2⟩ := use_draw hdr.out hrc h1 (by omega) (by omega) (by omega)
    clear hrc
    walk_at "px"
    generalize hrc : cl 502 _ = rc
    obtain ⟨r3, p3, rfl, g0, g1, h3⟩ := use_draw hdr.out hrc h2 (by omega) (by omega) (by omega)
    clear hrc
    walk_at "px"
    exact ⟨_, _, _, _, _, rfl, h3.mono (by omega), ⟨a1, a2⟩, ⟨b1, b2⟩, ⟨by omega, by omega⟩, by omega, by omega⟩
  · obtain ⟨w2, p2, k1, h2, e1, e2⟩ := hS.out _ _ h1 (by omega)
    obtain ⟨w3, p3, k2, h3, g1, g2⟩ := hS.out _ _ h2 (by omega)
    clear hS hF hdr
    walk_at "px"
    exact ⟨_, _, _, _, _, rfl, h3.mono (by omega), ⟨by omega, by omega⟩, ⟨b1, b2⟩, ⟨e1, e2⟩, g1, g2⟩
  · obtain ⟨w2, p2, k1, h2, e1, e2⟩ := hS.out _ _ h1 (by omega)
    clear hS hF hdr
    walk_at "px"
    exact ⟨_, _, _, _, _, rfl, h2.mono (by omega), ⟨by omega, by omega⟩, ⟨by omega, by omega⟩, ⟨e1, e2⟩, d1, d2⟩
  · walk_at "px"
    generalize hrc : cl 502 _ = rc
    obtain ⟨r2, p2, rfl, e0, e1, h2⟩ := use_draw hdr.out hrc h1 (by omega) (by omega) (by omega)
    clear hrc
    walk_at "px"
    generalize hrc : cl 502 _ = rc
    obtain ⟨r3, p3, rfl, g0, g1, h3⟩ := use_draw hdr.out hrc h2 (by omega) (by omega) (by omega)
    clear hrc
    walk_at "px"
    exact ⟨_, _, _, _, _, rfl, h3.mono (by omega), ⟨a1, a2⟩, ⟨by omega, by omega⟩, ⟨c1, c2⟩, by omega, by omega⟩
  · obtain ⟨x2, y2, w2, h2, p2, k1, h3, o2⟩ := hF.out _ _ h1 (by omega)
    clear hS hF hdr
    walk_at "px"
    exact ⟨_, _, _, _, _, rfl, h3.mono (by omega), o2⟩
theorem k_due {k : Nat} (x y w h : Int) : calls fs (k + 2) 514 [.fz (qf4 x y w h)] = .ok (.d (if w > 1267650600228229401496703205376 then .str "width" else if h > 1267650600228229401496703205376 then .str "height" else qf4 x y w h)) [] := by
  rw [calls_eq fs (k + 1) 514 (F := fn33) rfl]
  have ht := @k_top k
  generalize calls fs (k + 1) = cl at *
  simp only [fn33]
  by_cases h1 : w > 1267650600228229401496703205376
  · have g1 : decide (1267650600228229401496703205376 < w) = true := decide_eq_true h1
    rw [if_pos h1]
    walk_at "px"
  · have g1 : decide (1267650600228229401496703205376 < w) = false := decide_eq_false h1
    rw [if_neg h1]
    by_cases h2 : h > 1267650600228229401496703205376
    · have g2 : decide (1267650600228229401496703205376 < h) = true := decide_eq_true h2
      rw [if_pos h2]
      walk_at "px"
    · have g2 : decide (1267650600228229401496703205376 < h) = false := decide_eq_false h2
      rw [if_neg h2]
      walk_at "px"
theorem bad_none {x y w h : Int} (o : okN x y w h) : mkBx (.int x) (.int y) (.int w) (.int h) = .ok (.nw (boxD x y w h)) [] := by
  rw [mkBx_int, o.bad]
theorem and_eq {x y w h x' y' w' h' : Int} (o : okN x y w h) (o' : okN x' y' w' h') : (max x x' < min (x + w) (x' + w') ∧ max y y' < min (y + h) (y' + h')) → okN (max x x') (max y y') (min (x + w) (x' + w') - max x x') (min (y + h) (y' + h') - max y y') := fun ⟨c1, c2⟩ => by
  obtain ⟨⟨a1, a2⟩, ⟨b1, b2⟩, ⟨c1', c2'⟩, ⟨d1, d2⟩⟩ := o
  obtain ⟨⟨e1, e2⟩, ⟨f1, f2⟩, ⟨g1, g2⟩, ⟨h1, h2⟩⟩ := o'
  exact ⟨⟨by omega, by omega⟩, ⟨by omega, by omega⟩, ⟨by omega, by omega⟩, by omega, by omega⟩
theorem inner_eq {x y w h x' y' w' h' : Int} (o : okN x y w h) (o' : okN x' y' w' h') (c : max x x' < min (x + w) (x' + w') ∧ max y y' < min (y + h) (y' + h')) :
    ((max x x' == x) && ((max y y' == y) && ((min (x + w) (x' + w') - max x x' == w) && ((min (y + h) (y' + h') - max y y' == h) && true)))) = within x y w h x' y' w' h' := by
  obtain ⟨⟨a1, a2⟩, ⟨b1, b2⟩, ⟨c1', c2'⟩, ⟨d1, d2⟩⟩ := o
  obtain ⟨⟨e1, e2⟩, ⟨f1, f2⟩, ⟨g1, g2⟩, ⟨h1, h2⟩⟩ := o'
  rw [Bool.eq_iff_iff]
  simp only [within, Bool.and_eq_true, beq_iff_eq, decide_eq_true_eq, and_true]
  omega
theorem outer_eq {x y w h x' y' w' h' : Int} (o : okN x y w h) (o' : okN x' y' w' h') (c : max x x' < min (x + w) (x' + w') ∧ max y y' < min (y + h) (y' + h')) :
    ((max x x' == x') && ((max y y' == y') && ((min (x + w) (x' + w') - max x x' == w') && ((min (y + h) (y' + h') - max y y' == h') && true)))) = within x' y' w' h' x y w h := by
  obtain ⟨⟨a1, a2⟩, ⟨b1, b2⟩, ⟨c1', c2'⟩, ⟨d1, d2⟩⟩ := o
  obtain ⟨⟨e1, e2⟩, ⟨f1, f2⟩, ⟨g1, g2⟩, ⟨h1, h2⟩⟩ := o'
  rw [Bool.eq_iff_iff]
  simp only [within, Bool.and_eq_true, beq_iff_eq, decide_eq_true_eq, and_true]
  omega
theorem none_in {x y w h x' y' w' h' : Int} (o : okN x y w h) (o' : okN x' y' w' h') (c : ¬ (max x x' < min (x + w) (x' + w') ∧ max y y' < min (y + h) (y' + h'))) : within x y w h x' y' w' h' = false ∧ within x' y' w' h' x y w h = false := by
  obtain ⟨⟨a1, a2⟩, ⟨b1, b2⟩, ⟨c1', c2'⟩, ⟨d1, d2⟩⟩ := o
  obtain ⟨⟨e1, e2⟩, ⟨f1, f2⟩, ⟨g1, g2⟩, ⟨h1, h2⟩⟩ := o'
  constructor
  · rw [Bool.eq_false_iff]
    simp only [within, ne_eq, Bool.and_eq_true, decide_eq_true_eq]
    omega
  · rw [Bool.eq_false_iff]
    simp only [within, ne_eq, Bool.and_eq_true, decide_eq_true_eq]
    omega
theorem both_in {x y w h x' y' w' h' : Int} : (within x y w h x' y' w' h' && !within x' y' w' h' x y w h) = (within x y w h x' y' w' h' && !((x == x') && ((y == y') && ((w == w') && ((h == h') && true))))) := by
  rw [Bool.eq_iff_iff]
  simp only [within, Bool.and_eq_true, Bool.not_eq_true', Bool.eq_false_iff, ne_eq, beq_iff_eq, decide_eq_true_eq, and_true]
  omega
theorem both_in' {x y w h x' y' w' h' : Int} : (within x' y' w' h' x y w h && !within x y w h x' y' w' h') = (within x' y' w' h' x y w h && !((x == x') && ((y == y') && ((w == w') && ((h == h') && true))))) := by
  rw [both_in, show (x' == x) = (x == x') from BEq.comm, show (y' == y) = (y == y') from BEq.comm, show (w' == w) = (w == w') from BEq.comm, show (h' == h) = (h == h') from BEq.comm]
abbrev cm4 (x y w h x' y' w' h' : Int) : D := qf4 (max x x') (max y y') (min (x + w) (x' + w') - max x x') (min (y + h) (y' + h') - max y y')
abbrev cmB (x y w h x' y' w' h' : Int) : D := boxD (max x x') (max y y') (min (x + w) (x' + w') - max x x') (min (y + h) (y' + h') - max y y')
theorem k_bound_n {k : Nat} {x y w h x' y' w' h' : Int} (c : ¬ (max x x' < min (x + w) (x' + w') ∧ max y y' < min (y + h) (y' + h'))) : calls fs (k + 6) 512 [.fz (.int 0), .fz (boxD x y w h), .fz (boxD x' y' w' h')] = .ok (.nw (.lst [.non, boxD x y w h])) [] := by
  rw [calls_eq fs (k + 5) 512 (F := fn31) rfl]
  have hA := (@k_Box__and__ k).2 x y w h x' y' w' h'
  unfold andBx at hA
  rw [if_neg c] at hA
  generalize calls fs (k + 5) = cl at *
  as_aux_lemma =>
  simp only [fn31]
  walk_at "px"
theorem k_bound_c {k : Nat} {x y w h x' y' w' h' : Int} (o : okN x y w h) (o' : okN x' y' w' h') (c : max x x' < min (x + w) (x' + w') ∧ max y y' < min (y + h) (y' + h')) : calls fs (k + 6) 512 [.fz (.int 0), .fz (boxD x y w h), .fz (boxD x' y' w' h')] = .ok (.nw (.lst [cmB x y w h x' y' w' h', boxD x y w h])) [] := by
  rw [calls_eq fs (k + 5) 512 (F := fn31) rfl]
  have hA := (@k_Box__and__ k).2 x y w h x' y' w' h'
  unfold andBx at hA
  rw [if_pos c, bad_none (and_eq o o' c)] at hA
  generalize calls fs (k + 5) = cl at *
  as_aux_lemma =>
  simp only [fn31]
  walk_at "px"
theorem k_bound_o {k : Nat} {x y w h x' y' w' h' : Int} (c : okN (min x x') (min y y') (max (x + w) (x' + w') - min x x') (max (y + h) (y' + h') - min y y')) : calls fs (k + 6) 512 [.fz (.int 1), .fz (boxD x y w h), .fz (boxD x' y' w' h')] = .ok (.nw (.lst [boxD (min x x') (min y y') (max (x + w) (x' + w') - min x x') (max (y + h) (y' + h') - min y y'), boxD x y w h])) [] := by
  rw [calls_eq fs (k + 5) 512 (F := fn31) rfl]
  have hA := (@k_Box__or__ k).2 x y w h x' y' w' h'
  rw [bad_none c] at hA
  generalize calls fs (k + 5) = cl at *
  as_aux_lemma =>
  simp only [fn31]
  walk_at "px"
theorem eqOO_box {cl : CallF} (hq : S_beq (cl 6016)) (x y w h : Int) : eqOO cl [5] (boxD x y w h) (boxD x y w h) = true := by
  have e : cl (spec 5 16) [.fz (boxD x y w h), .fz (boxD x y w h)] = .ok (.d (.bl true)) [] := by
    show cl 6016 _ = _
    rw [hq.1 x y w h x y w h]
    simp
  simp only [boxD] at e ⊢
  simp only [eqOO, e, Bool.and_true]
  rfl
theorem eqLL_box {cl : CallF} (hq : S_beq (cl 6016)) {r : D} (hr : eqOO cl [5] r r = true) (hd : dpO r = 0) (x y w h x' y' w' h' : Int) : eqLL cl [5] (.lst [.lst [r, boxD x y w h], .lst [boxD x' y' w' h', boxD x y w h]]) (.lst [.lst [r, boxD x y w h], .lst [boxD x' y' w' h', boxD x y w h]]) = true := by
  have h1 := eqOO_box hq x y w h
  have h2 := eqOO_box hq x' y' w' h'
  have d1 : dpO (boxD x y w h) = 0 := by simp only [boxD, dpO]
  have d2 : dpO (boxD x' y' w' h') = 0 := by simp only [boxD, dpO]
  generalize boxD x y w h = A at *
  generalize boxD x' y' w' h' = B at *
  simp only [eqLL, eqOOs, eqOO, dpOs, dpO, h1, h2, hr, hd, d1, d2, Bool.and_true]
  decide
theorem repr_eq {b1 b2 b3 b4 : Bool} : ∃ z, biD .repr [.lst [.bl b1, .bl b2, .bl b3, .bl b4]] = some (.str z) := repr_sm rfl (by simp [szD, szL]) (by simp [dpD, dpL])
theorem bx_w {x y w h : Int} (hx : 0 ≤ x ∧ x ≤ 1267650600228229401496703205375) (hy : 0 ≤ y ∧ y ≤ 1267650600228229401496703205375) (hw : w > 1267650600228229401496703205376) : mkBx (.int x) (.int y) (.int w) (.int h) = .exc (eBox "width") [] := by
  have e1 : btw (.int x) 0 1267650600228229401496703205375 = true := btw_i hx
  have e2 : btw (.int y) 0 1267650600228229401496703205375 = true := btw_i hy
  have e3 : btw (.int w) 1 1267650600228229401496703205376 = false := by
    simp only [btw, Bool.and_eq_false_iff, decide_eq_false_iff_not]
    right
    omega
  simp only [mkBx, boxBad, e1, e2, e3]
theorem bx_h {x y w h : Int} (hx : 0 ≤ x ∧ x ≤ 1267650600228229401496703205375) (hy : 0 ≤ y ∧ y ≤ 1267650600228229401496703205375) (hw : 1 ≤ w ∧ w ≤ 1267650600228229401496703205376) (hh : h > 1267650600228229401496703205376) : mkBx (.int x) (.int y) (.int w) (.int h) = .exc (eBox "height") [] := by
  have e1 : btw (.int x) 0 1267650600228229401496703205375 = true := btw_i hx
  have e2 : btw (.int y) 0 1267650600228229401496703205375 = true := btw_i hy
  have e3 : btw (.int w) 1 1267650600228229401496703205376 = true := btw_i hw
  have e4 : btw (.int h) 1 1267650600228229401496703205376 = false := by
    simp only [btw, Bool.and_eq_false_iff, decide_eq_false_iff_not]
    right
    omega
  simp only [mkBx, boxBad, e1, e2, e3, e4]
abbrev S_two (g : Gf) : Prop := ∀ x y w h x' y' w' h', okN x y w h → okN x' y' w' h' → g [.fz (qf4 x y w h), .fz (qf4 x' y' w' h')] = .ok (.d (.bl true)) []
theorem k_two {k : Nat} : S_two (calls fs (k + 7) 515) := by
  intro x y w h x' y' w' h' o o'
  rw [calls_eq fs (k + 6) 515 (F := fn34) rfl]
  have hM := @k_made (k + 1) x y w h o
  have hM' := @k_made (k + 1) x' y' w' h' o'
  have hC := @k_common (k + 5) x y w h x' y' w' h'
  have hL := @k_least (k + 5) x y w h x' y' w' h'
  have hA := (@k_Box__and__ (k + 1)).2 x y w h x' y' w' h'
  have hO := (@k_Box__or__ (k + 1)).2 x y w h x' y' w' h'
  have hle := (@k_Box__le__ (k + 4)).2 x y w h x' y' w' h'
  have hlt := (@k_Box__lt__ (k + 4)).2 x y w h x' y' w' h'
  have hge : calls fs (k + 6) 6015 [.fz (boxD x y w h), .fz (boxD x' y' w' h')] = .ok (.d (.bl (within x' y' w' h' x y w h))) [] := (@k_Box__ge__ (k + 4)).2 x y w h x' y' w' h'
  have hgt := (@k_Box__gt__ (k + 4)).2 x y w h x' y' w' h'
  have hq := @k_Box__eq__ (k + 5)
  have hH := @k_heard (k + 4)
  have hD := @k_due (k + 4) (min x x') (min y y') (max (x + w) (x' + w') - min x x') (max (y + h) (y' + h') - min y y')
  have ht := @k_top (k + 5)
  have hT := fun a b c d => @k_told (k + 5) a b c d
  have hbn := fun c => @k_bound_n k x y w h x' y' w' h' c
  have hbc := fun c => @k_bound_c k x y w h x' y' w' h' o o' c
  have hbo := fun c => @k_bound_o k x y w h x' y' w' h' c
  have nt : op2 .ne (.bl true) (.bl true) = some (.bl false) := rfl
  have nf : op2 .ne (.bl false) (.bl false) = some (.bl false) := rfl
  have n4 : ∀ a b c d, op2 .ne (qf4 a b c d) (qf4 a b c d) = some (.bl false) := fun a b c d => by rw [ne4]; simp
  have ns : ∀ z : Str, op2 .ne (.str z) (.str z) = some (.bl false) := fun z => by show some (D.bl (z != z)) = _; simp
  have es : ∀ a b c d, op2 .eq (qf4 a b c d) (qf4 a b c d) = some (.bl true) := fun a b c d => by rw [eq4]; simp
  have q1 : ∀ b1 b2 b3 b4 : Bool, ∃ z, biD .repr [.lst [.bl b1, .bl b2, .bl b3, .bl b4]] = some (.str z) := fun _ _ _ _ => repr_eq
  obtain ⟨⟨a1, a2⟩, ⟨b1, b2⟩, ⟨c1, c2⟩, ⟨d1, d2⟩⟩ := id o
  obtain ⟨⟨a1', a2'⟩, ⟨b1', b2'⟩, ⟨c1', c2'⟩, ⟨d1', d2'⟩⟩ := id o'
  have lw : 1 ≤ max (x + w) (x' + w') - min x x' := by omega
  have lh : 1 ≤ max (y + h) (y' + h') - min y y' := by omega
  have l1 : 0 ≤ min x x' ∧ min x x' ≤ 1267650600228229401496703205375 := by omega
  have l2 : 0 ≤ min y y' ∧ min y y' ≤ 1267650600228229401496703205375 := by omega
  have b2 : (b40 0 && b40 2) = true := rfl
  have l3 : max (x + w) (x' + w') - min x x' ≤ 1267650600228229401496703205376 → max (y + h) (y' + h') - min y y' ≤ 1267650600228229401496703205376 → okN (min x x') (min y y') (max (x + w) (x' + w') - min x x') (max (y + h) (y' + h') - min y y') := fun g1 g2 => ⟨l1, l2, ⟨lw, g1⟩, lh, g2⟩
  have kb1 : (within x y w h x' y' w' h' && !within x' y' w' h' x y w h) = _ := both_in
  have kb2 : (within x' y' w' h' x y w h && !within x y w h x' y' w' h') = _ := both_in'
  simp only [kb1] at hlt
  simp only [kb2] at hgt
  generalize calls fs (k + 6) = cl at *
  as_aux_lemma =>
  simp only [fn34]
  unfold andBx at hA
  generalize hW : max (x + w) (x' + w') - min x x' = W at *
  generalize hV : max (y + h) (y' + h') - min y y' = V at *
  generalize hX : min x x' = X at *
  generalize hY : min y y' = Y at *
  obtain ⟨Z, hZ⟩ : ∃ Z : Bool → Bool → Bool → Bool → Str, ∀ b1 b2 b3 b4, biD .repr [.lst [.bl b1, .bl b2, .bl b3, .bl b4]] = some (.str (Z b1 b2 b3 b4)) := ⟨fun b1 b2 b3 b4 => Classical.choose (q1 b1 b2 b3 b4), fun b1 b2 b3 b4 => Classical.choose_spec (q1 b1 b2 b3 b4)⟩
  clear q1
  have en : op2 .ne (qf4 x y w h) (qf4 x' y' w' h') = some (.bl (!((x == x') && ((y == y') && ((w == w') && ((h == h') && true)))))) := ne4 _ _ _ _ _ _ _ _
  by_cases c : max x x' < min (x + w) (x' + w') ∧ max y y' < min (y + h) (y' + h')
  · rw [if_pos c] at hC
    rw [if_pos c, bad_none (and_eq o o' c)] at hA
    replace hbc := hbc c
    have e1 : op2 .eq (cm4 x y w h x' y' w' h') (qf4 x y w h) = some (.bl (within x y w h x' y' w' h')) := by rw [eq4, inner_eq o o' c]
    have e2 : op2 .eq (cm4 x y w h x' y' w' h') (qf4 x' y' w' h') = some (.bl (within x' y' w' h' x y w h)) := by rw [eq4, outer_eq o o' c]
    clear hbn
    have hm : ∀ a b c d a' b' c' d', op2 .ne (qf4 a b c d) (qf4 a b c d) = op2 .ne (qf4 a' b' c' d') (qf4 a' b' c' d') := fun a b c d a' b' c' d' => by rw [n4, n4]
    generalize within x y w h x' y' w' h' = I at *
    generalize within x' y' w' h' x y w h = J at *
    generalize ((x == x') && ((y == y') && ((w == w') && ((h == h') && true)))) = E at *
    by_cases g1 : W > 1267650600228229401496703205376
    · rw [bx_w l1 l2 g1] at hO
      rw [if_pos g1] at hD
      have g3 : decide (1267650600228229401496703205376 < max W V) = true := decide_eq_true (by omega)
      clear hbc hbo
      cases I <;> cases J <;> cases E <;> walk_at "px"
    · by_cases g2 : V > 1267650600228229401496703205376
      · rw [bx_h l1 l2 ⟨lw, by omega⟩ g2] at hO
        rw [if_neg g1, if_pos g2] at hD
        have g3 : decide (1267650600228229401496703205376 < max W V) = true := decide_eq_true (by omega)
        clear hbc hbo
        cases I <;> cases J <;> cases E <;> walk_at "px"
      · have oL := l3 (by omega) (by omega)
        rw [bad_none oL] at hO
        rw [if_neg g1, if_neg g2] at hD
        have g3 : decide (1267650600228229401496703205376 < max W V) = false := decide_eq_false (by omega)
        replace hbo := hbo oL
        have hQ := eqLL_box (r := cmB x y w h x' y' w' h') hq (eqOO_box hq _ _ _ _) rfl x y w h X Y W V
        clear hq
        cases I <;> cases J <;> cases E <;> walk_at "px"
        all_goals (
          rw [rng2, lc_enc (ds := [.int 0, .int 1]) D.int [0, 1] (fun i => if i = 0 then .lst [cmB x y w h x' y' w' h', boxD x y w h] else .lst [boxD X Y W V, boxD x y w h]) rfl (by first | rfl | simp [calmS, getS]) (by simp [LIM]) (fun i hi => by
            simp only [List.mem_cons, List.not_mem_nil, or_false] at hi
            rcases hi with rfl | rfl
            · simp only [storeG, wipeE]
              walk_at "px"
              simp only [eltT]
              walk_at "px"
              exact ⟨_, rfl, rfl⟩
            · simp only [storeG, wipeE]
              walk_at "px"
              simp only [eltT]
              walk_at "px"
              exact ⟨_, rfl, rfl⟩)]
          rw [show [0, 1].map (fun i : Int => if i = 0 then D.lst [cmB x y w h x' y' w' h', boxD x y w h] else .lst [boxD X Y W V, boxD x y w h]) = [.lst [cmB x y w h x' y' w' h', boxD x y w h], .lst [boxD X Y W V, boxD x y w h]] from rfl]
          walk_at "px"
          rw [lc_enc (ds := [cmB x y w h x' y' w' h', boxD X Y W V]) (fun i : Int => if i = 0 then cmB x y w h x' y' w' h' else boxD X Y W V) [0, 1] (fun i => if i = 0 then .lst [cmB x y w h x' y' w' h', boxD x y w h] else .lst [boxD X Y W V, boxD x y w h]) rfl (by first | rfl | simp [calmS, getS]) (by simp [LIM]) (fun i hi => by
            simp only [List.mem_cons, List.not_mem_nil, or_false] at hi
            rcases hi with rfl | rfl
            · simp only [storeG, wipeE]
              walk_at "px"
              simp only [eltT]
              walk_at "px"
              exact ⟨_, rfl, rfl⟩
            · simp only [storeG, wipeE]
              walk_at "px"
              simp only [eltT]
              walk_at "px"
              exact ⟨_, rfl, rfl⟩)]
          rw [show [0, 1].map (fun i : Int => if i = 0 then D.lst [cmB x y w h x' y' w' h', boxD x y w h] else .lst [boxD X Y W V, boxD x y w h]) = [.lst [cmB x y w h x' y' w' h', boxD x y w h], .lst [boxD X Y W V, boxD x y w h]] from rfl]
          walk_at "px")
  · rw [if_neg c] at hC
    rw [if_neg c] at hA
    replace hbn := hbn c
    obtain ⟨e1, e2⟩ := none_in o o' c
    clear hbc
    have ea : ∀ a b c d, op2 .eq .non (qf4 a b c d) = some (.bl false) := eqn4
    rw [e1] at hle hlt
    rw [e2] at hge hgt
    generalize ((x == x') && ((y == y') && ((w == w') && ((h == h') && true)))) = E at *
    by_cases g1 : W > 1267650600228229401496703205376
    · rw [bx_w l1 l2 g1] at hO
      rw [if_pos g1] at hD
      have g3 : decide (1267650600228229401496703205376 < max W V) = true := decide_eq_true (by omega)
      clear hbn hbo
      cases E <;> walk_at "px"
    · by_cases g2 : V > 1267650600228229401496703205376
      · rw [bx_h l1 l2 ⟨lw, by omega⟩ g2] at hO
        rw [if_neg g1, if_pos g2] at hD
        have g3 : decide (1267650600228229401496703205376 < max W V) = true := decide_eq_true (by omega)
        clear hbn hbo
        cases E <;> walk_at "px"
      · have oL := l3 (by omega) (by omega)
        rw [bad_none oL] at hO
        rw [if_neg g1, if_neg g2] at hD
        have g3 : decide (1267650600228229401496703205376 < max W V) = false := decide_eq_false (by omega)
        replace hbo := hbo oL
        have hQ := eqLL_box (r := .non) hq rfl rfl x y w h X Y W V
        clear hq
        cases E <;> walk_at "px"
        all_goals (
          rw [rng2, lc_enc (ds := [.int 0, .int 1]) D.int [0, 1] (fun i => if i = 0 then .lst [.non, boxD x y w h] else .lst [boxD X Y W V, boxD x y w h]) rfl rfl (by simp [LIM]) (fun i hi => by
            simp only [List.mem_cons, List.not_mem_nil, or_false] at hi
            rcases hi with rfl | rfl
            · simp only [storeG, wipeE]
              walk_at "px"
              simp only [eltT]
              walk_at "px"
              exact ⟨_, rfl, rfl⟩
            · simp only [storeG, wipeE]
              walk_at "px"
              simp only [eltT]
              walk_at "px"
              exact ⟨_, rfl, rfl⟩)]
          rw [show [0, 1].map (fun i : Int => if i = 0 then D.lst [.non, boxD x y w h] else .lst [boxD X Y W V, boxD x y w h]) = [.lst [.non, boxD x y w h], .lst [boxD X Y W V, boxD x y w h]] from rfl]
          walk_at "px"
          rw [lc_enc (ds := [.non, boxD X Y W V]) (fun i : Int => if i = 0 then .non else boxD X Y W V) [0, 1] (fun i => if i = 0 then .lst [.non, boxD x y w h] else .lst [boxD X Y W V, boxD x y w h]) rfl (by first | rfl | simp [calmS, getS]) (by simp [LIM]) (fun i hi => by
            simp only [List.mem_cons, List.not_mem_nil, or_false] at hi
            rcases hi with rfl | rfl
            · simp only [storeG, wipeE]
              walk_at "px"
              simp only [eltT]
              walk_at "px"
              exact ⟨_, rfl, rfl⟩
            · simp only [storeG, wipeE]
              walk_at "px"
              simp only [eltT]
              walk_at "px"
              exact ⟨_, rfl, rfl⟩)]
          rw [show [0, 1].map (fun i : Int => if i = 0 then D.lst [.non, boxD x y w h] else .lst [boxD X Y W V, boxD x y w h]) = [.lst [.non, boxD x y w h], .lst [boxD X Y W V, boxD x y w h]] from rfl]
          walk_at "px")
theorem law_true (ns : List Int) (h : ns.length ≤ 63) : ∃ outs, calls fs 14 516 [.fz (.kst (ns.map D.int))] = .ok (.d (.bl true)) outs := by
  rw [calls_eq fs 13 516 (F := fn35) rfl]
  have hpen := @k_pen 12 ns h
  have hF := fun n p => @k_four 9 n p
  have hN := fun n p x y w h => @k_near 8 n p x y w h
  have h2 := @k_two 6
  have ht := @k_top 12
  have hI : S_box_init (calls fs 13 6000) := @k_Box__init__ 10
  have hA := (@k_Box__and__ 8).2
  have hO := (@k_Box__or__ 8).2
  have hH := @k_heard 11
  have hq := @k_Box__eq__ 12
  have n0 : op2 .ne (.lst [.str "width", .str "height", .str "width"]) (.lst [.str "width", .str "height", .str "width"]) = some (.bl false) := by
    have wf : wfD (.lst [.str "width", .str "height", .str "width"]) = true := by simp only [wfD, wfL, ok_ofS, Bool.and_true]
    rw [PP.op_ne wf wf (by decide) (by decide)]
    simp only [v_lst, v_cons, v_str, v_nil, decide_true, Bool.and_true, Bool.not_true]
  have o1 : ∀ x y w h : Int, oddD (.obj 5 [2, 3, 4, 5] [.int x, .int y, .int w, .int h]) = false := fun _ _ _ _ => rfl
  have b1 : boxBad (.int 0) (.int 0) (.int 1267650600228229401496703205376) (.int 1) = none := by decide
  have b2 : boxBad (.int 1267650600228229401496703205375) (.int 0) (.int 1) (.int 1) = none := by decide
  have b3 : boxBad (.int 0) (.int 0) (.int 1) (.int 1) = none := by decide
  have b4 : boxBad (.int 1) (.int 0) (.int 1) (.int 1) = none := by decide
  have b5 : boxBad (.int 1267650600228229401496703205375) (.int 0) (.int 1267650600228229401496703205376) (.int 1) = none := by decide
  have b6 : boxBad (.int 0) (.int 1267650600228229401496703205375) (.int 1) (.int 1267650600228229401496703205376) = none := by decide
  have b7 : boxBad (.int 1) (.int 1) (.int 1) (.int 1) = none := by decide
  have b8 : boxBad (.int 0) (.int 0) (.int 2) (.int 2) = none := by decide
  have f1 : calls fs 13 6009 [.fz (boxD 0 0 1267650600228229401496703205376 1), .fz (boxD 1267650600228229401496703205375 0 1 1)] = .ok (.nw (boxD 1267650600228229401496703205375 0 1 1)) [] := by
    rw [hA]
    rfl
  have f2 : calls fs 13 6010 [.fz (boxD 0 0 1267650600228229401496703205376 1), .fz (boxD 1267650600228229401496703205375 0 1 1)] = .ok (.nw (boxD 0 0 1267650600228229401496703205376 1)) [] := by
    rw [hO]
    rfl
  have f3 : calls fs 13 6009 [.fz (boxD 0 0 1 1), .fz (boxD 1 0 1 1)] = .ok (.d .non) [] := by
    rw [hA]
    rfl
  have qf4 : calls fs 13 6010 [.fz (boxD 0 0 1 1), .fz (boxD 1267650600228229401496703205375 0 1267650600228229401496703205376 1)] = .exc (eBox "width") [] := by
    rw [hO]
    rfl
  have f5 : calls fs 13 6010 [.fz (boxD 0 0 1 1), .fz (boxD 0 1267650600228229401496703205375 1 1267650600228229401496703205376)] = .exc (eBox "height") [] := by
    rw [hO]
    rfl
  have f6 : calls fs 13 6010 [.fz (boxD 0 1267650600228229401496703205375 1 1267650600228229401496703205376), .fz (boxD 1267650600228229401496703205375 0 1267650600228229401496703205376 1)] = .exc (eBox "width") [] := by
    rw [hO]
    rfl
  have f7 : calls fs 13 6010 [.fz (boxD 0 0 1 1), .fz (boxD 1 1 1 1)] = .ok (.nw (boxD 0 0 2 2)) [] := by
    rw [hO]
    rfl
  clear hA hO
  generalize calls fs 13 = cl at *
  as_aux_lemma =>
  simp only [fn35]
  replace hF := Hid.mk hF
  replace hN := Hid.mk hN
  walk_at "px"
  generalize hfo : forD _ _ _ _ = fo
  obtain ⟨env', rfl, p', s2, s3, s4, hen⟩ := use_forI hfo (fun j env => ∃ p s2 s3 s4, env = [.fz (.kst (ns.map D.int)), .ow p, s2, s3, s4, .un, .un, .un, .un, .un] ∧ PenOk (100 * j) p) ⟨_, _, _, _, rfl, (pen_ok (cl := cl) h).2⟩ (by
    rintro j env d hj ⟨p, s2, s3, s4, rfl, hp⟩
    as_aux_lemma =>
    clear hfo
    have hj9 : j < 9 := by
      have := (List.getElem?_eq_some_iff.mp hj).1
      simpa using this
    obtain ⟨x, y, w, h4, p1, k1, hp1, o1⟩ := hF.out _ _ hp (by omega)
    obtain ⟨x', y', w', h', p2, k2, hp2, o2⟩ := hN.out _ _ _ _ _ _ hp1 (by omega) o1
    have t1 := h2 _ _ _ _ _ _ _ _ o1 o2
    have t2 := h2 _ _ _ _ _ _ _ _ o2 o1
    have t3 := h2 _ _ _ _ _ _ _ _ o1 o1
    clear hF hN h2 hj hI hH hq
    walk_at "px"
    exact ⟨_, rfl, _, _, _, _, rfl, hp2.mono (by omega)⟩)
  clear hfo hF hN h2
  walk_at "px"
  exact ⟨_, rfl⟩
end LW
end
end
namespace LW
open PySem PySem.Spec PyProof.Rows L2 PP
theorem mk {P : Program} {w : World} {K : PySem.W.Frag} {h : Heap} {mg : Str → Option Value} {fl : Addr} (X : K.In h) (G : h.Ns mainGlobals mg) (hfl : mg "law" = some (.ref fl)) (o : HOk K = Ov w) : ∃ fd : FuncData, (∀ (s : Shared) (u : Value), BindsTo s fd ⟨[u], []⟩ [("_law_script", u)]) ∧ ∀ base : Heap, K.In base → base.Ns mainGlobals mg → (∀ x ∈ lamN, ∀ c P, PySem.W.tabIn K x = some (c, P) → LamX.TabB base mg c P) → FnG P w K mg base 60 fl fd ["_law_script"] (spF (tb K) (calls fs 12) 516 1) := by
  have oF : Fk K = Fv := congrArg (·.1) o
  have hb0 : Bk0 K = true := congrArg (fun z => z.2.getD 0 false) o
  have hb1 : Bk1 K = true := congrArg (fun z => z.2.getD 1 false) o
  have hb2 : Bk2 K = true := congrArg (fun z => z.2.getD 2 false) o
  have hb3 : Bk3 K = true := congrArg (fun z => z.2.getD 3 false) o
  have hb4 : Bk4 K = true := congrArg (fun z => z.2.getD 4 false) o
  have hb5 : Bk5 K = true := congrArg (fun z => z.2.getD 5 false) o
  have hb6 : Bk6 K = true := congrArg (fun z => z.2.getD 6 false) o
  have hb7 : Bk7 K = true := congrArg (fun z => z.2.getD 7 false) o
  have e0 : fnA K (f0 K) = fnV "is_integer" "is_integer" st0 := congrArg (fun z => z.getD 0 none) oF
  have e1 : fnA K (f1 K) = fnV "is_between" "is_between" st1 := congrArg (fun z => z.getD 1 none) oF
  have e2 : fnA K (f2 K) = fnV "number_in" "number_in" st2 := congrArg (fun z => z.getD 2 none) oF
  have e3 : fnA K (f3 K) = fnV "__init__" "BadBox.__init__" st3 := congrArg (fun z => z.getD 3 none) oF
  have e4 : fnA K (f4 K) = fnV "__init__" "BadText.__init__" st4 := congrArg (fun z => z.getD 4 none) oF
  have e5 : fnA K (f5 K) = fnV "need_box" "need_box" st5 := congrArg (fun z => z.getD 5 none) oF
  have e6 : fnA K (f6 K) = fnV "is_within" "is_within" st6 := congrArg (fun z => z.getD 6 none) oF
  have e7 : fnA K (f7 K) = fnV "common_box" "common_box" st7 := congrArg (fun z => z.getD 7 none) oF
  have e8 : fnA K (f8 K) = fnV "least_box" "least_box" st8 := congrArg (fun z => z.getD 8 none) oF
  have e9 : fnA K (f9 K) = fnV "__init__" "Box.__init__" st9 := congrArg (fun z => z.getD 9 none) oF
  have e10 : fnA K (f10 K) = fnV "read" "Box.read" st10 := congrArg (fun z => z.getD 10 none) oF
  have e11 : fnA K (f11 K) = fnV "__and__" "Box.__and__" st11 := congrArg (fun z => z.getD 11 none) oF
  have e12 : fnA K (f12 K) = fnV "__or__" "Box.__or__" st12 := congrArg (fun z => z.getD 12 none) oF
  have e13 : fnA K (f13 K) = fnV "__le__" "Box.__le__" st13 := congrArg (fun z => z.getD 13 none) oF
  have e14 : fnA K (f14 K) = fnV "__lt__" "Box.__lt__" st14 := congrArg (fun z => z.getD 14 none) oF
  have e15 : fnA K (f15 K) = fnV "__ge__" "Box.__ge__" st15 := congrArg (fun z => z.getD 15 none) oF
  have e16 : fnA K (f16 K) = fnV "__gt__" "Box.__gt__" st16 := congrArg (fun z => z.getD 16 none) oF
  have e17 : fnA K (f17 K) = fnV "__eq__" "Box.__eq__" st17 := congrArg (fun z => z.getD 17 none) oF
  have e18 : fnA K (f18 K) = fnV "box_numbers" "box_numbers" st18 := congrArg (fun z => z.getD 18 none) oF
  have e19 : fnA K (f19 K) = fnV "_law_top" "_law_top" st19 := congrArg (fun z => z.getD 19 none) oF
  have e20 : fnA K (f20 K) = fnV "_law_pen" "_law_pen" st20 := congrArg (fun z => z.getD 20 none) oF
  have e21 : fnA K (f21 K) = fnV "_law_draw" "_law_draw" st21 := congrArg (fun z => z.getD 21 none) oF
  have e22 : fnA K (f22 K) = fnV "_law_pick" "_law_pick" st22 := congrArg (fun z => z.getD 22 none) oF
  have e23 : fnA K (f23 K) = fnV "_law_number" "_law_number" st23 := congrArg (fun z => z.getD 23 none) oF
  have e24 : fnA K (f24 K) = fnV "_law_side" "_law_side" st24 := congrArg (fun z => z.getD 24 none) oF
  have e25 : fnA K (f25 K) = fnV "_law_four" "_law_four" st25 := congrArg (fun z => z.getD 25 none) oF
  have e26 : fnA K (f26 K) = fnV "_law_made" "_law_made" st26 := congrArg (fun z => z.getD 26 none) oF
  have e27 : fnA K (f27 K) = fnV "_law_told" "_law_told" st27 := congrArg (fun z => z.getD 27 none) oF
  have e28 : fnA K (f28 K) = fnV "_law_near" "_law_near" st28 := congrArg (fun z => z.getD 28 none) oF
  have e29 : fnA K (f29 K) = fnV "_law_common" "_law_common" st29 := congrArg (fun z => z.getD 29 none) oF
  have e30 : fnA K (f30 K) = fnV "_law_least" "_law_least" st30 := congrArg (fun z => z.getD 30 none) oF
  have e31 : fnA K (f31 K) = fnV "_law_bound" "_law_bound" st31 := congrArg (fun z => z.getD 31 none) oF
  have e32 : fnA K (f32 K) = fnV "_law_heard" "_law_heard" st32 := congrArg (fun z => z.getD 32 none) oF
  have e33 : fnA K (f33 K) = fnV "_law_due" "_law_due" st33 := congrArg (fun z => z.getD 33 none) oF
  have e34 : fnA K (f34 K) = fnV "_law_two_right" "_law_two_right" st34 := congrArg (fun z => z.getD 34 none) oF
  have e35 : fnA K (f35 K) = fnV "law" "law" st35 := congrArg (fun z => z.getD 35 none) oF
  have b_0_0 : (decide (PySem.W.nsIn K mainGlobals "CurveError" = some (some (.ref (C0 K))))) = true := (and1 hb0)
  replace hb0 := and2 hb0
  have aC0 : PySem.W.nsIn K mainGlobals "CurveError" = some (some (.ref (C0 K))) := of_decide_eq_true b_0_0
  have b_0_1 : (decide (PySem.W.nsIn K mainGlobals "BadInput" = some (some (.ref (C1 K))))) = true := (and1 hb0)
  replace hb0 := and2 hb0
  have aC1 : PySem.W.nsIn K mainGlobals "BadInput" = some (some (.ref (C1 K))) := of_decide_eq_true b_0_1
  have b_0_2 : (decide (PySem.W.nsIn K mainGlobals "BadBox" = some (some (.ref (C3 K))))) = true := (and1 hb0)
  replace hb0 := and2 hb0
  have aC3 : PySem.W.nsIn K mainGlobals "BadBox" = some (some (.ref (C3 K))) := of_decide_eq_true b_0_2
  have b_0_3 : (decide (PySem.W.nsIn K mainGlobals "BadText" = some (some (.ref (C6 K))))) = true := (and1 hb0)
  replace hb0 := and2 hb0
  have aC6 : PySem.W.nsIn K mainGlobals "BadText" = some (some (.ref (C6 K))) := of_decide_eq_true b_0_3
  have b_0_4 : (decide (PySem.W.nsIn K mainGlobals "Box" = some (some (.ref (C5 K))))) = true := (and1 hb0)
  replace hb0 := and2 hb0
  have aC5 : PySem.W.nsIn K mainGlobals "Box" = some (some (.ref (C5 K))) := of_decide_eq_true b_0_4
  have b_0_5 : (xcB K (C0 K)) = true := (and1 hb0)
  replace hb0 := and2 hb0
  have xc0 : xcB K (C0 K) = true := b_0_5
  have b_0_6 : (naB K (C0 K) []) = true := (and1 hb0)
  replace hb0 := and2 hb0
  have na0 : naB K (C0 K) [] = true := b_0_6
  have b_0_7 : (xcB K (C1 K)) = true := (and1 hb0)
  replace hb0 := and2 hb0
  have xc1 : xcB K (C1 K) = true := b_0_7
  have b_0_8 : (naB K (C1 K) []) = true := (and1 hb0)
  replace hb0 := and2 hb0
  have na1 : naB K (C1 K) [] = true := b_0_8
  have b_0_9 : (xcB K (C3 K)) = true := (and1 hb0)
  replace hb0 := and2 hb0
  have xc3 : xcB K (C3 K) = true := b_0_9
  have b_0_10 : (naB K (C3 K) ["part"]) = true := (and1 hb0)
  replace hb0 := and2 hb0
  have na3 : naB K (C3 K) ["part"] = true := b_0_10
  have b_0_11 : (exlB K (C3 K)) = true := (and1 hb0)
  replace hb0 := and2 hb0
  obtain ⟨_, _, _, _, _, _, _, _, _, _, _, _, _, _, _, xL3, xR3⟩ := exl_ok b_0_11
  have b_0_12 : ((decide (PySem.W.findIn K (.ref (C3 K)) "__setattr__" = some (some (.builtin "object.__setattr__"))) && (decide (PySem.W.subIn K (.ref (C3 K)) (.type "BaseException") = some true) && (decide (PySem.W.typeIn K (.ref (C3 K)) = some (.type "type")) && PySem.W.keepIn K (.ref (C3 K)))))) = true := (and1 hb0)
  replace hb0 := and2 hb0
  have xS3 : (decide (PySem.W.findIn K (.ref (C3 K)) "__setattr__" = some (some (.builtin "object.__setattr__"))) && (decide (PySem.W.subIn K (.ref (C3 K)) (.type "BaseException") = some true) && (decide (PySem.W.typeIn K (.ref (C3 K)) = some (.type "type")) && PySem.W.keepIn K (.ref (C3 K))))) = true := b_0_12
  have b_0_13 : (decide (PySem.W.findIn K (.ref (C3 K)) "__init__" = some (some (.ref (f3 K))))) = true := (and1 hb0)
  replace hb0 := and2 hb0
  have xi3 : PySem.W.findIn K (.ref (C3 K)) "__init__" = some (some (.ref (f3 K))) := of_decide_eq_true b_0_13
  have b_0_14 : (decide (PySem.W.typeIn K (.ref (f3 K)) = some (.type "function"))) = true := (and1 hb0)
  replace hb0 := and2 hb0
  have xt3 : PySem.W.typeIn K (.ref (f3 K)) = some (.type "function") := of_decide_eq_true b_0_14
  have b_0_15 : (xcB K (C6 K)) = true := (and1 hb0)
  replace hb0 := and2 hb0
  have xc6 : xcB K (C6 K) = true := b_0_15
  have b_0_16 : (naB K (C6 K) ["line", "word"]) = true := (and1 hb0)
  replace hb0 := and2 hb0
  have na6 : naB K (C6 K) ["line", "word"] = true := b_0_16
  have b_0_17 : (exlB K (C6 K)) = true := (and1 hb0)
  replace hb0 := and2 hb0
  obtain ⟨_, _, _, _, _, _, _, _, _, _, _, _, _, _, _, xL6, xR6⟩ := exl_ok b_0_17
  have b_0_18 : ((decide (PySem.W.findIn K (.ref (C6 K)) "__setattr__" = some (some (.builtin "object.__setattr__"))) && (decide (PySem.W.subIn K (.ref (C6 K)) (.type "BaseException") = some true) && (decide (PySem.W.typeIn K (.ref (C6 K)) = some (.type "type")) && PySem.W.keepIn K (.ref (C6 K)))))) = true := (and1 hb0)
  replace hb0 := and2 hb0
  have xS6 : (decide (PySem.W.findIn K (.ref (C6 K)) "__setattr__" = some (some (.builtin "object.__setattr__"))) && (decide (PySem.W.subIn K (.ref (C6 K)) (.type "BaseException") = some true) && (decide (PySem.W.typeIn K (.ref (C6 K)) = some (.type "type")) && PySem.W.keepIn K (.ref (C6 K))))) = true := b_0_18
  have b_0_19 : (decide (PySem.W.findIn K (.ref (C6 K)) "__init__" = some (some (.ref (f4 K))))) = true := (and1 hb0)
  replace hb0 := and2 hb0
  have xi6 : PySem.W.findIn K (.ref (C6 K)) "__init__" = some (some (.ref (f4 K))) := of_decide_eq_true b_0_19
  have b_0_20 : (decide (PySem.W.typeIn K (.ref (f4 K)) = some (.type "function"))) = true := (and1 hb0)
  replace hb0 := and2 hb0
  have xt6 : PySem.W.typeIn K (.ref (f4 K)) = some (.type "function") := of_decide_eq_true b_0_20
  have b_0_21 : (clsB K (C5 K)) = true := (and1 hb0)
  replace hb0 := and2 hb0
  have cl5 : clsB K (C5 K) = true := b_0_21
  have b_0_22 : (cgB K (C5 K)) = true := (and1 hb0)
  replace hb0 := and2 hb0
  have cg5 : cgB K (C5 K) = true := b_0_22
  have b_0_23 : (naB K (C5 K) ["x", "y", "width", "height"]) = true := (and1 hb0)
  replace hb0 := and2 hb0
  have na5 : naB K (C5 K) ["x", "y", "width", "height"] = true := b_0_23
  have b_0_24 : (decide (PySem.W.findIn K (.ref (C5 K)) "__init__" = some (some (.ref (f9 K))))) = true := hb0
  have ni5 : PySem.W.findIn K (.ref (C5 K)) "__init__" = some (some (.ref (f9 K))) := of_decide_eq_true b_0_24
  have b_1_0 : (PySem.W.makesIn K (C5 K)) = true := (and1 hb1)
  replace hb1 := and2 hb1
  have nk5 : PySem.W.makesIn K (C5 K) = true := b_1_0
  have b_1_1 : (PySem.W.isFn K (.ref (f9 K))) = true := (and1 hb1)
  replace hb1 := and2 hb1
  have nf5 : PySem.W.isFn K (.ref (f9 K)) = true := b_1_1
  have b_1_2 : (PySem.W.keepIn K (.ref (C5 K))) = true := (and1 hb1)
  replace hb1 := and2 hb1
  have np5 : PySem.W.keepIn K (.ref (C5 K)) = true := b_1_2
  have b_1_3 : (decide (PySem.W.nsIn K mainGlobals "is_integer" = some (some (.ref (f0 K))))) = true := (and1 hb1)
  replace hb1 := and2 hb1
  have a0 : PySem.W.nsIn K mainGlobals "is_integer" = some (some (.ref (f0 K))) := of_decide_eq_true b_1_3
  have b_1_4 : (fnC K (f0 K) "is_integer") = true := (and1 hb1)
  replace hb1 := and2 hb1
  obtain ⟨oc0, od0, kV0, dc0, pm0, an0, cd0, ct0, sl0, l0, c0⟩ := fnA_ok e0 b_1_4
  have b_1_5 : (PySem.W.keepIn K (.ref (f0 K))) = true := (and1 hb1)
  replace hb1 := and2 hb1
  have k0 : PySem.W.keepIn K (.ref (f0 K)) = true := b_1_5
  have b_1_6 : (decide (PySem.W.nsIn K mainGlobals "is_between" = some (some (.ref (f1 K))))) = true := (and1 hb1)
  replace hb1 := and2 hb1
  have a1 : PySem.W.nsIn K mainGlobals "is_between" = some (some (.ref (f1 K))) := of_decide_eq_true b_1_6
  have b_1_7 : (fnC K (f1 K) "is_between") = true := (and1 hb1)
  replace hb1 := and2 hb1
  obtain ⟨oc1, od1, kV1, dc1, pm1, an1, cd1, ct1, sl1, l1, c1⟩ := fnA_ok e1 b_1_7
  have b_1_8 : (PySem.W.keepIn K (.ref (f1 K))) = true := (and1 hb1)
  replace hb1 := and2 hb1
  have k1 : PySem.W.keepIn K (.ref (f1 K)) = true := b_1_8
  have b_1_9 : (decide (PySem.W.nsIn K mainGlobals "number_in" = some (some (.ref (f2 K))))) = true := (and1 hb1)
  replace hb1 := and2 hb1
  have a2 : PySem.W.nsIn K mainGlobals "number_in" = some (some (.ref (f2 K))) := of_decide_eq_true b_1_9
  have b_1_10 : (fnC K (f2 K) "number_in") = true := (and1 hb1)
  replace hb1 := and2 hb1
  obtain ⟨oc2, od2, kV2, dc2, pm2, an2, cd2, ct2, sl2, l2, c2⟩ := fnA_ok e2 b_1_10
  have b_1_11 : (PySem.W.keepIn K (.ref (f2 K))) = true := (and1 hb1)
  replace hb1 := and2 hb1
  have k2 : PySem.W.keepIn K (.ref (f2 K)) = true := b_1_11
  have b_1_12 : (fnC K (f3 K) "BadBox.__init__") = true := (and1 hb1)
  replace hb1 := and2 hb1
  obtain ⟨oc3, od3, kV3, dc3, pm3, an3, cd3, ct3, sl3, l3, c3⟩ := fnA_ok e3 b_1_12
  have b_1_13 : (PySem.W.keepIn K (.ref (f3 K))) = true := (and1 hb1)
  replace hb1 := and2 hb1
  have k3 : PySem.W.keepIn K (.ref (f3 K)) = true := b_1_13
  have b_1_14 : (fnC K (f4 K) "BadText.__init__") = true := (and1 hb1)
  replace hb1 := and2 hb1
  obtain ⟨oc4, od4, kV4, dc4, pm4, an4, cd4, ct4, sl4, l4, c4⟩ := fnA_ok e4 b_1_14
  have b_1_15 : (PySem.W.keepIn K (.ref (f4 K))) = true := (and1 hb1)
  replace hb1 := and2 hb1
  have k4 : PySem.W.keepIn K (.ref (f4 K)) = true := b_1_15
  have b_1_16 : (decide (PySem.W.nsIn K mainGlobals "need_box" = some (some (.ref (f5 K))))) = true := (and1 hb1)
  replace hb1 := and2 hb1
  have a5 : PySem.W.nsIn K mainGlobals "need_box" = some (some (.ref (f5 K))) := of_decide_eq_true b_1_16
  have b_1_17 : (fnC K (f5 K) "need_box") = true := (and1 hb1)
  replace hb1 := and2 hb1
  obtain ⟨oc5, od5, kV5, dc5, pm5, an5, cd5, ct5, sl5, l5, c5⟩ := fnA_ok e5 b_1_17
  have b_1_18 : (PySem.W.keepIn K (.ref (f5 K))) = true := (and1 hb1)
  replace hb1 := and2 hb1
  have k5 : PySem.W.keepIn K (.ref (f5 K)) = true := b_1_18
  have b_1_19 : (decide (PySem.W.nsIn K mainGlobals "is_within" = some (some (.ref (f6 K))))) = true := (and1 hb1)
  replace hb1 := and2 hb1
  have a6 : PySem.W.nsIn K mainGlobals "is_within" = some (some (.ref (f6 K))) := of_decide_eq_true b_1_19
  have b_1_20 : (fnC K (f6 K) "is_within") = true := (and1 hb1)
  replace hb1 := and2 hb1
  obtain ⟨oc6, od6, kV6, dc6, pm6, an6, cd6, ct6, sl6, l6, c6⟩ := fnA_ok e6 b_1_20
  have b_1_21 : (PySem.W.keepIn K (.ref (f6 K))) = true := (and1 hb1)
  replace hb1 := and2 hb1
  have k6 : PySem.W.keepIn K (.ref (f6 K)) = true := b_1_21
  have b_1_22 : (decide (PySem.W.nsIn K mainGlobals "common_box" = some (some (.ref (f7 K))))) = true := (and1 hb1)
  replace hb1 := and2 hb1
  have a7 : PySem.W.nsIn K mainGlobals "common_box" = some (some (.ref (f7 K))) := of_decide_eq_true b_1_22
  have b_1_23 : (fnC K (f7 K) "common_box") = true := (and1 hb1)
  replace hb1 := and2 hb1
  obtain ⟨oc7, od7, kV7, dc7, pm7, an7, cd7, ct7, sl7, l7, c7⟩ := fnA_ok e7 b_1_23
  have b_1_24 : (PySem.W.keepIn K (.ref (f7 K))) = true := hb1
  have k7 : PySem.W.keepIn K (.ref (f7 K)) = true := b_1_24
  have b_2_0 : (decide (PySem.W.nsIn K mainGlobals "least_box" = some (some (.ref (f8 K))))) = true := (and1 hb2)
  replace hb2 := and2 hb2
  have a8 : PySem.W.nsIn K mainGlobals "least_box" = some (some (.ref (f8 K))) := of_decide_eq_true b_2_0
  have b_2_1 : (fnC K (f8 K) "least_box") = true := (and1 hb2)
  replace hb2 := and2 hb2
  obtain ⟨oc8, od8, kV8, dc8, pm8, an8, cd8, ct8, sl8, l8, c8⟩ := fnA_ok e8 b_2_1
  have b_2_2 : (PySem.W.keepIn K (.ref (f8 K))) = true := (and1 hb2)
  replace hb2 := and2 hb2
  have k8 : PySem.W.keepIn K (.ref (f8 K)) = true := b_2_2
  have b_2_3 : (fnCD K (f9 K) (T9 K) "Box.__init__") = true := (and1 hb2)
  replace hb2 := and2 hb2
  obtain ⟨oc9, od9, kV9, dc9, pm9, an9, cd9, ct9, sl9, l9, c9⟩ := fnAD_ok e9 b_2_3
  have b_2_4 : (PySem.W.keepIn K (.ref (f9 K))) = true := (and1 hb2)
  replace hb2 := and2 hb2
  have k9 : PySem.W.keepIn K (.ref (f9 K)) = true := b_2_4
  have b_2_5 : (dfB K (T9 K) [1, 1]) = true := (and1 hb2)
  replace hb2 := and2 hb2
  obtain ⟨_, _, vs0, _, _, dD9, vi0⟩ := df_ok b_2_5
  obtain ⟨_, vs1, rfl, vi1⟩ := isI_cons vi0
  obtain ⟨_, vs2, rfl, vi2⟩ := isI_cons vi1
  obtain rfl := isI_nil vi2
  clear vi0 vi1
  have b_2_6 : (getB K (C5 K) "read" "classmethod.__get__") = true := (and1 hb2)
  replace hb2 := and2 hb2
  have sa10 := get_ok b_2_6
  have b_2_7 : (recB K (p10 K) "classmethod") = true := (and1 hb2)
  replace hb2 := and2 hb2
  obtain ⟨_, sr10⟩ := rec_ok b_2_7
  have b_2_8 : (PySem.W.readsIn K (C5 K) (.type "type")) = true := (and1 hb2)
  replace hb2 := and2 hb2
  have sd10 : PySem.W.readsIn K (C5 K) (.type "type") = true := b_2_8
  have b_2_9 : (decide (PySem.W.specialIn K (.ref (C5 K)) "__getattribute__" = some (some (.builtin "type.__getattribute__")))) = true := (and1 hb2)
  replace hb2 := and2 hb2
  have sg10 : PySem.W.specialIn K (.ref (C5 K)) "__getattribute__" = some (some (.builtin "type.__getattribute__")) := of_decide_eq_true b_2_9
  have b_2_10 : (PySem.W.fnIn K (f10 K)) = true := (and1 hb2)
  replace hb2 := and2 hb2
  have sf10 : PySem.W.fnIn K (f10 K) = true := b_2_10
  have b_2_11 : (fnC K (f10 K) "Box.read") = true := (and1 hb2)
  replace hb2 := and2 hb2
  obtain ⟨oc10, od10, kV10, dc10, pm10, an10, cd10, ct10, sl10, l10, c10⟩ := fnA_ok e10 b_2_11
  have b_2_12 : (PySem.W.keepIn K (.ref (f10 K))) = true := (and1 hb2)
  replace hb2 := and2 hb2
  have k10 : PySem.W.keepIn K (.ref (f10 K)) = true := b_2_12
  have b_2_13 : (decide (PySem.W.findIn K (.ref (C5 K)) "__and__" = some (some (.ref (f11 K))))) = true := (and1 hb2)
  replace hb2 := and2 hb2
  have ma5_11 : PySem.W.findIn K (.ref (C5 K)) "__and__" = some (some (.ref (f11 K))) := of_decide_eq_true b_2_13
  have b_2_14 : (PySem.W.isFn K (.ref (f11 K))) = true := (and1 hb2)
  replace hb2 := and2 hb2
  have mb11 : PySem.W.isFn K (.ref (f11 K)) = true := b_2_14
  have b_2_15 : (fnC K (f11 K) "Box.__and__") = true := (and1 hb2)
  replace hb2 := and2 hb2
  obtain ⟨oc11, od11, kV11, dc11, pm11, an11, cd11, ct11, sl11, l11, c11⟩ := fnA_ok e11 b_2_15
  have b_2_16 : (PySem.W.keepIn K (.ref (f11 K))) = true := (and1 hb2)
  replace hb2 := and2 hb2
  have k11 : PySem.W.keepIn K (.ref (f11 K)) = true := b_2_16
  have b_2_17 : (decide (PySem.W.findIn K (.ref (C5 K)) "__or__" = some (some (.ref (f12 K))))) = true := (and1 hb2)
  replace hb2 := and2 hb2
  have ma5_12 : PySem.W.findIn K (.ref (C5 K)) "__or__" = some (some (.ref (f12 K))) := of_decide_eq_true b_2_17
  have b_2_18 : (PySem.W.isFn K (.ref (f12 K))) = true := (and1 hb2)
  replace hb2 := and2 hb2
  have mb12 : PySem.W.isFn K (.ref (f12 K)) = true := b_2_18
  have b_2_19 : (fnC K (f12 K) "Box.__or__") = true := (and1 hb2)
  replace hb2 := and2 hb2
  obtain ⟨oc12, od12, kV12, dc12, pm12, an12, cd12, ct12, sl12, l12, c12⟩ := fnA_ok e12 b_2_19
  have b_2_20 : (PySem.W.keepIn K (.ref (f12 K))) = true := (and1 hb2)
  replace hb2 := and2 hb2
  have k12 : PySem.W.keepIn K (.ref (f12 K)) = true := b_2_20
  have b_2_21 : (decide (PySem.W.findIn K (.ref (C5 K)) "__le__" = some (some (.ref (f13 K))))) = true := (and1 hb2)
  replace hb2 := and2 hb2
  have ma5_13 : PySem.W.findIn K (.ref (C5 K)) "__le__" = some (some (.ref (f13 K))) := of_decide_eq_true b_2_21
  have b_2_22 : (PySem.W.isFn K (.ref (f13 K))) = true := (and1 hb2)
  replace hb2 := and2 hb2
  have mb13 : PySem.W.isFn K (.ref (f13 K)) = true := b_2_22
  have b_2_23 : (fnC K (f13 K) "Box.__le__") = true := (and1 hb2)
  replace hb2 := and2 hb2
  obtain ⟨oc13, od13, kV13, dc13, pm13, an13, cd13, ct13, sl13, l13, c13⟩ := fnA_ok e13 b_2_23
  have b_2_24 : (PySem.W.keepIn K (.ref (f13 K))) = true := hb2
  have k13 : PySem.W.keepIn K (.ref (f13 K)) = true := b_2_24
  have b_3_0 : (decide (PySem.W.findIn K (.ref (C5 K)) "__lt__" = some (some (.ref (f14 K))))) = true := (and1 hb3)
  replace hb3 := and2 hb3
  have ma5_14 : PySem.W.findIn K (.ref (C5 K)) "__lt__" = some (some (.ref (f14 K))) := of_decide_eq_true b_3_0
  have b_3_1 : (PySem.W.isFn K (.ref (f14 K))) = true := (and1 hb3)
  replace hb3 := and2 hb3
  have mb14 : PySem.W.isFn K (.ref (f14 K)) = true := b_3_1
  have b_3_2 : (fnC K (f14 K) "Box.__lt__") = true := (and1 hb3)
  replace hb3 := and2 hb3
  obtain ⟨oc14, od14, kV14, dc14, pm14, an14, cd14, ct14, sl14, l14, c14⟩ := fnA_ok e14 b_3_2
  have b_3_3 : (PySem.W.keepIn K (.ref (f14 K))) = true := (and1 hb3)
  replace hb3 := and2 hb3
  have k14 : PySem.W.keepIn K (.ref (f14 K)) = true := b_3_3
  have b_3_4 : (decide (PySem.W.findIn K (.ref (C5 K)) "__ge__" = some (some (.ref (f15 K))))) = true := (and1 hb3)
  replace hb3 := and2 hb3
  have ma5_15 : PySem.W.findIn K (.ref (C5 K)) "__ge__" = some (some (.ref (f15 K))) := of_decide_eq_true b_3_4
  have b_3_5 : (PySem.W.isFn K (.ref (f15 K))) = true := (and1 hb3)
  replace hb3 := and2 hb3
  have mb15 : PySem.W.isFn K (.ref (f15 K)) = true := b_3_5
  have b_3_6 : (fnC K (f15 K) "Box.__ge__") = true := (and1 hb3)
  replace hb3 := and2 hb3
  obtain ⟨oc15, od15, kV15, dc15, pm15, an15, cd15, ct15, sl15, l15, c15⟩ := fnA_ok e15 b_3_6
  have b_3_7 : (PySem.W.keepIn K (.ref (f15 K))) = true := (and1 hb3)
  replace hb3 := and2 hb3
  have k15 : PySem.W.keepIn K (.ref (f15 K)) = true := b_3_7
  have b_3_8 : (decide (PySem.W.findIn K (.ref (C5 K)) "__gt__" = some (some (.ref (f16 K))))) = true := (and1 hb3)
  replace hb3 := and2 hb3
  have ma5_16 : PySem.W.findIn K (.ref (C5 K)) "__gt__" = some (some (.ref (f16 K))) := of_decide_eq_true b_3_8
  have b_3_9 : (PySem.W.isFn K (.ref (f16 K))) = true := (and1 hb3)
  replace hb3 := and2 hb3
  have mb16 : PySem.W.isFn K (.ref (f16 K)) = true := b_3_9
  have b_3_10 : (fnC K (f16 K) "Box.__gt__") = true := (and1 hb3)
  replace hb3 := and2 hb3
  obtain ⟨oc16, od16, kV16, dc16, pm16, an16, cd16, ct16, sl16, l16, c16⟩ := fnA_ok e16 b_3_10
  have b_3_11 : (PySem.W.keepIn K (.ref (f16 K))) = true := (and1 hb3)
  replace hb3 := and2 hb3
  have k16 : PySem.W.keepIn K (.ref (f16 K)) = true := b_3_11
  have b_3_12 : (decide (PySem.W.findIn K (.ref (C5 K)) "__eq__" = some (some (.ref (f17 K))))) = true := (and1 hb3)
  replace hb3 := and2 hb3
  have ma5_17 : PySem.W.findIn K (.ref (C5 K)) "__eq__" = some (some (.ref (f17 K))) := of_decide_eq_true b_3_12
  have b_3_13 : (PySem.W.isFn K (.ref (f17 K))) = true := (and1 hb3)
  replace hb3 := and2 hb3
  have mb17 : PySem.W.isFn K (.ref (f17 K)) = true := b_3_13
  have b_3_14 : (fnC K (f17 K) "Box.__eq__") = true := (and1 hb3)
  replace hb3 := and2 hb3
  obtain ⟨oc17, od17, kV17, dc17, pm17, an17, cd17, ct17, sl17, l17, c17⟩ := fnA_ok e17 b_3_14
  have b_3_15 : (PySem.W.keepIn K (.ref (f17 K))) = true := (and1 hb3)
  replace hb3 := and2 hb3
  have k17 : PySem.W.keepIn K (.ref (f17 K)) = true := b_3_15
  have b_3_16 : (decide (PySem.W.nsIn K mainGlobals "box_numbers" = some (some (.ref (f18 K))))) = true := (and1 hb3)
  replace hb3 := and2 hb3
  have a18 : PySem.W.nsIn K mainGlobals "box_numbers" = some (some (.ref (f18 K))) := of_decide_eq_true b_3_16
  have b_3_17 : (fnCD K (f18 K) (T18 K) "box_numbers") = true := (and1 hb3)
  replace hb3 := and2 hb3
  obtain ⟨oc18, od18, kV18, dc18, pm18, an18, cd18, ct18, sl18, l18, c18⟩ := fnAD_ok e18 b_3_17
  have b_3_18 : (PySem.W.keepIn K (.ref (f18 K))) = true := (and1 hb3)
  replace hb3 := and2 hb3
  have k18 : PySem.W.keepIn K (.ref (f18 K)) = true := b_3_18
  have b_3_19 : (dfB K (T18 K) [0, 0]) = true := (and1 hb3)
  replace hb3 := and2 hb3
  obtain ⟨_, _, vs0, _, _, dD18, vi0⟩ := df_ok b_3_19
  obtain ⟨_, vs1, rfl, vi1⟩ := isI_cons vi0
  obtain ⟨_, vs2, rfl, vi2⟩ := isI_cons vi1
  obtain rfl := isI_nil vi2
  clear vi0 vi1
  have b_3_20 : (decide (PySem.W.nsIn K mainGlobals "_law_top" = some (some (.ref (f19 K))))) = true := (and1 hb3)
  replace hb3 := and2 hb3
  have a19 : PySem.W.nsIn K mainGlobals "_law_top" = some (some (.ref (f19 K))) := of_decide_eq_true b_3_20
  have b_3_21 : (fnC K (f19 K) "_law_top") = true := (and1 hb3)
  replace hb3 := and2 hb3
  obtain ⟨oc19, od19, kV19, dc19, pm19, an19, cd19, ct19, sl19, l19, c19⟩ := fnA_ok e19 b_3_21
  have b_3_22 : (PySem.W.keepIn K (.ref (f19 K))) = true := (and1 hb3)
  replace hb3 := and2 hb3
  have k19 : PySem.W.keepIn K (.ref (f19 K)) = true := b_3_22
  have b_3_23 : (decide (PySem.W.nsIn K mainGlobals "_law_pen" = some (some (.ref (f20 K))))) = true := (and1 hb3)
  replace hb3 := and2 hb3
  have a20 : PySem.W.nsIn K mainGlobals "_law_pen" = some (some (.ref (f20 K))) := of_decide_eq_true b_3_23
  have b_3_24 : (fnC K (f20 K) "_law_pen") = true := hb3
  obtain ⟨oc20, od20, kV20, dc20, pm20, an20, cd20, ct20, sl20, l20, c20⟩ := fnA_ok e20 b_3_24
  have b_4_0 : (PySem.W.keepIn K (.ref (f20 K))) = true := (and1 hb4)
  replace hb4 := and2 hb4
  have k20 : PySem.W.keepIn K (.ref (f20 K)) = true := b_4_0
  have b_4_1 : (decide (PySem.W.nsIn K mainGlobals "_law_draw" = some (some (.ref (f21 K))))) = true := (and1 hb4)
  replace hb4 := and2 hb4
  have a21 : PySem.W.nsIn K mainGlobals "_law_draw" = some (some (.ref (f21 K))) := of_decide_eq_true b_4_1
  have b_4_2 : (fnC K (f21 K) "_law_draw") = true := (and1 hb4)
  replace hb4 := and2 hb4
  obtain ⟨oc21, od21, kV21, dc21, pm21, an21, cd21, ct21, sl21, l21, c21⟩ := fnA_ok e21 b_4_2
  have b_4_3 : (PySem.W.keepIn K (.ref (f21 K))) = true := (and1 hb4)
  replace hb4 := and2 hb4
  have k21 : PySem.W.keepIn K (.ref (f21 K)) = true := b_4_3
  have b_4_4 : (decide (PySem.W.nsIn K mainGlobals "_law_pick" = some (some (.ref (f22 K))))) = true := (and1 hb4)
  replace hb4 := and2 hb4
  have a22 : PySem.W.nsIn K mainGlobals "_law_pick" = some (some (.ref (f22 K))) := of_decide_eq_true b_4_4
  have b_4_5 : (fnC K (f22 K) "_law_pick") = true := (and1 hb4)
  replace hb4 := and2 hb4
  obtain ⟨oc22, od22, kV22, dc22, pm22, an22, cd22, ct22, sl22, l22, c22⟩ := fnA_ok e22 b_4_5
  have b_4_6 : (PySem.W.keepIn K (.ref (f22 K))) = true := (and1 hb4)
  replace hb4 := and2 hb4
  have k22 : PySem.W.keepIn K (.ref (f22 K)) = true := b_4_6
  have b_4_7 : (decide (PySem.W.nsIn K mainGlobals "_law_number" = some (some (.ref (f23 K))))) = true := (and1 hb4)
  replace hb4 := and2 hb4
  have a23 : PySem.W.nsIn K mainGlobals "_law_number" = some (some (.ref (f23 K))) := of_decide_eq_true b_4_7
  have b_4_8 : (fnC K (f23 K) "_law_number") = true := (and1 hb4)
  replace hb4 := and2 hb4
  obtain ⟨oc23, od23, kV23, dc23, pm23, an23, cd23, ct23, sl23, l23, c23⟩ := fnA_ok e23 b_4_8
  have b_4_9 : (PySem.W.keepIn K (.ref (f23 K))) = true := (and1 hb4)
  replace hb4 := and2 hb4
  have k23 : PySem.W.keepIn K (.ref (f23 K)) = true := b_4_9
  have b_4_10 : (decide (PySem.W.nsIn K mainGlobals "_law_side" = some (some (.ref (f24 K))))) = true := (and1 hb4)
  replace hb4 := and2 hb4
  have a24 : PySem.W.nsIn K mainGlobals "_law_side" = some (some (.ref (f24 K))) := of_decide_eq_true b_4_10
  have b_4_11 : (fnC K (f24 K) "_law_side") = true := (and1 hb4)
  replace hb4 := and2 hb4
  obtain ⟨oc24, od24, kV24, dc24, pm24, an24, cd24, ct24, sl24, l24, c24⟩ := fnA_ok e24 b_4_11
  have b_4_12 : (PySem.W.keepIn K (.ref (f24 K))) = true := (and1 hb4)
  replace hb4 := and2 hb4
  have k24 : PySem.W.keepIn K (.ref (f24 K)) = true := b_4_12
  have b_4_13 : (decide (PySem.W.nsIn K mainGlobals "_law_four" = some (some (.ref (f25 K))))) = true := (and1 hb4)
  replace hb4 := and2 hb4
  have a25 : PySem.W.nsIn K mainGlobals "_law_four" = some (some (.ref (f25 K))) := of_decide_eq_true b_4_13
  have b_4_14 : (fnC K (f25 K) "_law_four") = true := (and1 hb4)
  replace hb4 := and2 hb4
  obtain ⟨oc25, od25, kV25, dc25, pm25, an25, cd25, ct25, sl25, l25, c25⟩ := fnA_ok e25 b_4_14
  have b_4_15 : (PySem.W.keepIn K (.ref (f25 K))) = true := (and1 hb4)
  replace hb4 := and2 hb4
  have k25 : PySem.W.keepIn K (.ref (f25 K)) = true := b_4_15
  have b_4_16 : (decide (PySem.W.nsIn K mainGlobals "_law_made" = some (some (.ref (f26 K))))) = true := (and1 hb4)
  replace hb4 := and2 hb4
  have a26 : PySem.W.nsIn K mainGlobals "_law_made" = some (some (.ref (f26 K))) := of_decide_eq_true b_4_16
  have b_4_17 : (fnC K (f26 K) "_law_made") = true := (and1 hb4)
  replace hb4 := and2 hb4
  obtain ⟨oc26, od26, kV26, dc26, pm26, an26, cd26, ct26, sl26, l26, c26⟩ := fnA_ok e26 b_4_17
  have b_4_18 : (PySem.W.keepIn K (.ref (f26 K))) = true := (and1 hb4)
  replace hb4 := and2 hb4
  have k26 : PySem.W.keepIn K (.ref (f26 K)) = true := b_4_18
  have b_4_19 : (decide (PySem.W.nsIn K mainGlobals "_law_told" = some (some (.ref (f27 K))))) = true := (and1 hb4)
  replace hb4 := and2 hb4
  have a27 : PySem.W.nsIn K mainGlobals "_law_told" = some (some (.ref (f27 K))) := of_decide_eq_true b_4_19
  have b_4_20 : (fnC K (f27 K) "_law_told") = true := (and1 hb4)
  replace hb4 := and2 hb4
  obtain ⟨oc27, od27, kV27, dc27, pm27, an27, cd27, ct27, sl27, l27, c27⟩ := fnA_ok e27 b_4_20
  have b_4_21 : (PySem.W.keepIn K (.ref (f27 K))) = true := (and1 hb4)
  replace hb4 := and2 hb4
  have k27 : PySem.W.keepIn K (.ref (f27 K)) = true := b_4_21
  have b_4_22 : (decide (PySem.W.nsIn K mainGlobals "_law_near" = some (some (.ref (f28 K))))) = true := (and1 hb4)
  replace hb4 := and2 hb4
  have a28 : PySem.W.nsIn K mainGlobals "_law_near" = some (some (.ref (f28 K))) := of_decide_eq_true b_4_22
  have b_4_23 : (fnC K (f28 K) "_law_near") = true := (and1 hb4)
  replace hb4 := and2 hb4
  obtain ⟨oc28, od28, kV28, dc28, pm28, an28, cd28, ct28, sl28, l28, c28⟩ := fnA_ok e28 b_4_23
  have b_4_24 : (PySem.W.keepIn K (.ref (f28 K))) = true := hb4
  have k28 : PySem.W.keepIn K (.ref (f28 K)) = true := b_4_24
  have b_5_0 : (decide (PySem.W.nsIn K mainGlobals "_law_common" = some (some (.ref (f29 K))))) = true := (and1 hb5)
  replace hb5 := and2 hb5
  have a29 : PySem.W.nsIn K mainGlobals "_law_common" = some (some (.ref (f29 K))) := of_decide_eq_true b_5_0
  have b_5_1 : (fnC K (f29 K) "_law_common") = true := (and1 hb5)
  replace hb5 := and2 hb5
  obtain ⟨oc29, od29, kV29, dc29, pm29, an29, cd29, ct29, sl29, l29, c29⟩ := fnA_ok e29 b_5_1
  have b_5_2 : (PySem.W.keepIn K (.ref (f29 K))) = true := (and1 hb5)
  replace hb5 := and2 hb5
  have k29 : PySem.W.keepIn K (.ref (f29 K)) = true := b_5_2
  have b_5_3 : (decide (PySem.W.nsIn K mainGlobals "_law_least" = some (some (.ref (f30 K))))) = true := (and1 hb5)
  replace hb5 := and2 hb5
  have a30 : PySem.W.nsIn K mainGlobals "_law_least" = some (some (.ref (f30 K))) := of_decide_eq_true b_5_3
  have b_5_4 : (fnC K (f30 K) "_law_least") = true := (and1 hb5)
  replace hb5 := and2 hb5
  obtain ⟨oc30, od30, kV30, dc30, pm30, an30, cd30, ct30, sl30, l30, c30⟩ := fnA_ok e30 b_5_4
  have b_5_5 : (PySem.W.keepIn K (.ref (f30 K))) = true := (and1 hb5)
  replace hb5 := and2 hb5
  have k30 : PySem.W.keepIn K (.ref (f30 K)) = true := b_5_5
  have b_5_6 : (decide (PySem.W.nsIn K mainGlobals "_law_bound" = some (some (.ref (f31 K))))) = true := (and1 hb5)
  replace hb5 := and2 hb5
  have a31 : PySem.W.nsIn K mainGlobals "_law_bound" = some (some (.ref (f31 K))) := of_decide_eq_true b_5_6
  have b_5_7 : (fnC K (f31 K) "_law_bound") = true := (and1 hb5)
  replace hb5 := and2 hb5
  obtain ⟨oc31, od31, kV31, dc31, pm31, an31, cd31, ct31, sl31, l31, c31⟩ := fnA_ok e31 b_5_7
  have b_5_8 : (PySem.W.keepIn K (.ref (f31 K))) = true := (and1 hb5)
  replace hb5 := and2 hb5
  have k31 : PySem.W.keepIn K (.ref (f31 K)) = true := b_5_8
  have b_5_9 : (decide (PySem.W.nsIn K mainGlobals "_law_heard" = some (some (.ref (f32 K))))) = true := (and1 hb5)
  replace hb5 := and2 hb5
  have a32 : PySem.W.nsIn K mainGlobals "_law_heard" = some (some (.ref (f32 K))) := of_decide_eq_true b_5_9
  have b_5_10 : (fnC K (f32 K) "_law_heard") = true := (and1 hb5)
  replace hb5 := and2 hb5
  obtain ⟨oc32, od32, kV32, dc32, pm32, an32, cd32, ct32, sl32, l32, c32⟩ := fnA_ok e32 b_5_10
  have b_5_11 : (PySem.W.keepIn K (.ref (f32 K))) = true := (and1 hb5)
  replace hb5 := and2 hb5
  have k32 : PySem.W.keepIn K (.ref (f32 K)) = true := b_5_11
  have b_5_12 : (decide (PySem.W.nsIn K mainGlobals "_law_due" = some (some (.ref (f33 K))))) = true := (and1 hb5)
  replace hb5 := and2 hb5
  have a33 : PySem.W.nsIn K mainGlobals "_law_due" = some (some (.ref (f33 K))) := of_decide_eq_true b_5_12
  have b_5_13 : (fnC K (f33 K) "_law_due") = true := (and1 hb5)
  replace hb5 := and2 hb5
  obtain ⟨oc33, od33, kV33, dc33, pm33, an33, cd33, ct33, sl33, l33, c33⟩ := fnA_ok e33 b_5_13
  have b_5_14 : (PySem.W.keepIn K (.ref (f33 K))) = true := (and1 hb5)
  replace hb5 := and2 hb5
  have k33 : PySem.W.keepIn K (.ref (f33 K)) = true := b_5_14
  have b_5_15 : (decide (PySem.W.nsIn K mainGlobals "_law_two_right" = some (some (.ref (f34 K))))) = true := (and1 hb5)
  replace hb5 := and2 hb5
  have a34 : PySem.W.nsIn K mainGlobals "_law_two_right" = some (some (.ref (f34 K))) := of_decide_eq_true b_5_15
  have b_5_16 : (fnCC K (f34 K) (cc34 K) "_law_two_right") = true := (and1 hb5)
  replace hb5 := and2 hb5
  obtain ⟨oc34, od34, kV34, dc34, pm34, an34, ct34, sl34, l34, c34⟩ := fnAC_ok e34 b_5_16
  have b_5_17 : (PySem.W.keepIn K (.ref (f34 K))) = true := (and1 hb5)
  replace hb5 := and2 hb5
  have k34 : PySem.W.keepIn K (.ref (f34 K)) = true := b_5_17
  have b_5_18 : (lcB K (cc34 K) (ta34 K)) = true := (and1 hb5)
  replace hb5 := and2 hb5
  obtain ⟨_, _, _, _, lc34, lp34⟩ := lc_ok b_5_18
  have b_5_19 : (decide (PySem.W.tabIn K "_law_two_right" = some ((cc34 K), (ta34 K)))) = true := (and1 hb5)
  replace hb5 := and2 hb5
  have lt34 : PySem.W.tabIn K "_law_two_right" = some ((cc34 K), (ta34 K)) := of_decide_eq_true b_5_19
  have b_5_20 : (ttB K lamN (ta34 K) (("_law_two_right" : Str) ++ ".<locals>." ++ "<lambda>")) = true := (and1 hb5)
  replace hb5 := and2 hb5
  have lu34 : ttB K lamN (ta34 K) (("_law_two_right" : Str) ++ ".<locals>." ++ "<lambda>") = true := b_5_20
  have b_5_21 : (decide (PySem.W.nsIn K mainGlobals "law" = some (some (.ref (f35 K))))) = true := (and1 hb5)
  replace hb5 := and2 hb5
  have a35 : PySem.W.nsIn K mainGlobals "law" = some (some (.ref (f35 K))) := of_decide_eq_true b_5_21
  have b_5_22 : (fnCC K (f35 K) (cc35 K) "law") = true := (and1 hb5)
  replace hb5 := and2 hb5
  obtain ⟨oc35, od35, kV35, dc35, pm35, an35, ct35, sl35, l35, c35⟩ := fnAC_ok e35 b_5_22
  have b_5_23 : (PySem.W.keepIn K (.ref (f35 K))) = true := (and1 hb5)
  replace hb5 := and2 hb5
  have k35 : PySem.W.keepIn K (.ref (f35 K)) = true := b_5_23
  have b_5_24 : (lcB K (cc35 K) (ta35 K)) = true := hb5
  obtain ⟨_, _, _, _, lc35, lp35⟩ := lc_ok b_5_24
  have b_6_0 : (decide (PySem.W.tabIn K "law" = some ((cc35 K), (ta35 K)))) = true := (and1 hb6)
  replace hb6 := and2 hb6
  have lt35 : PySem.W.tabIn K "law" = some ((cc35 K), (ta35 K)) := of_decide_eq_true b_6_0
  have b_6_1 : (ttB K lamN (ta35 K) (("law" : Str) ++ ".<locals>." ++ "<lambda>")) = true := (and1 hb6)
  replace hb6 := and2 hb6
  have lu35 : ttB K lamN (ta35 K) (("law" : Str) ++ ".<locals>." ++ "<lambda>") = true := b_6_1
  have b_6_2 : (isoB K (C3 K) [((C0 K), false), ((C1 K), false), ((C3 K), true), ((C6 K), false), ((C5 K), false)]) = true := (and1 hb6)
  replace hb6 := and2 hb6
  have is3 : isoB K (C3 K) [((C0 K), false), ((C1 K), false), ((C3 K), true), ((C6 K), false), ((C5 K), false)] = true := b_6_2
  have b_6_3 : (isoB K (C5 K) [((C0 K), false), ((C1 K), false), ((C3 K), false), ((C6 K), false), ((C5 K), true)]) = true := (and1 hb6)
  replace hb6 := and2 hb6
  have is5 : isoB K (C5 K) [((C0 K), false), ((C1 K), false), ((C3 K), false), ((C6 K), false), ((C5 K), true)] = true := b_6_3
  have b_6_4 : (isbB K [(C0 K), (C1 K), (C3 K), (C6 K), (C5 K)]) = true := (and1 hb6)
  replace hb6 := and2 hb6
  have ib : isbB K [(C0 K), (C1 K), (C3 K), (C6 K), (C5 K)] = true := b_6_4
  have b_6_5 : (exmB K (C0 K) [(C0 K), (C1 K), (C3 K), (C6 K)]) = true := (and1 hb6)
  replace hb6 := and2 hb6
  have em0 : exmB K (C0 K) [(C0 K), (C1 K), (C3 K), (C6 K)] = true := b_6_5
  have b_6_6 : (nfB K (C5 K) [(C0 K), (C1 K), (C3 K), (C6 K), (C5 K)]) = true := (and1 hb6)
  replace hb6 := and2 hb6
  have nO5 : nfB K (C5 K) [(C0 K), (C1 K), (C3 K), (C6 K), (C5 K)] = true := b_6_6
  have b_6_7 : (neB K (C5 K)) = true := (and1 hb6)
  replace hb6 := and2 hb6
  have nE5 : neB K (C5 K) = true := b_6_7
  have b_6_8 : (bcB K (C5 K) .BitAnd) = true := (and1 hb6)
  replace hb6 := and2 hb6
  have bc5__and__ : bcB K (C5 K) .BitAnd = true := b_6_8
  have b_6_9 : (bcB K (C5 K) .BitOr) = true := (and1 hb6)
  replace hb6 := and2 hb6
  have bc5__or__ : bcB K (C5 K) .BitOr = true := b_6_9
  have b_6_10 : (ipB K (C5 K) (PySem.Operator.BitAnd).info.2) = true := (and1 hb6)
  replace hb6 := and2 hb6
  have ip5__and__ : ipB K (C5 K) (PySem.Operator.BitAnd).info.2 = true := b_6_10
  have b_6_11 : (ipB K (C5 K) (PySem.Operator.BitOr).info.2) = true := (and1 hb6)
  replace hb6 := and2 hb6
  have ip5__or__ : ipB K (C5 K) (PySem.Operator.BitOr).info.2 = true := b_6_11
  have b_6_12 : (decide (PySem.W.nsIn K mainGlobals "abs" = some none)) = true := (and1 hb6)
  replace hb6 := and2 hb6
  have z_abs : PySem.W.nsIn K mainGlobals "abs" = some none := of_decide_eq_true b_6_12
  have b_6_13 : (decide (PySem.W.nsIn K mainGlobals "all" = some none)) = true := (and1 hb6)
  replace hb6 := and2 hb6
  have z_all : PySem.W.nsIn K mainGlobals "all" = some none := of_decide_eq_true b_6_13
  have b_6_14 : (decide (PySem.W.nsIn K mainGlobals "bool" = some none)) = true := (and1 hb6)
  replace hb6 := and2 hb6
  have z_bool : PySem.W.nsIn K mainGlobals "bool" = some none := of_decide_eq_true b_6_14
  have b_6_15 : (decide (PySem.W.nsIn K mainGlobals "int" = some none)) = true := (and1 hb6)
  replace hb6 := and2 hb6
  have z_int : PySem.W.nsIn K mainGlobals "int" = some none := of_decide_eq_true b_6_15
  have b_6_16 : (decide (PySem.W.nsIn K mainGlobals "isinstance" = some none)) = true := (and1 hb6)
  replace hb6 := and2 hb6
  have z_isinstance : PySem.W.nsIn K mainGlobals "isinstance" = some none := of_decide_eq_true b_6_16
  have b_6_17 : (decide (PySem.W.nsIn K mainGlobals "len" = some none)) = true := (and1 hb6)
  replace hb6 := and2 hb6
  have z_len : PySem.W.nsIn K mainGlobals "len" = some none := of_decide_eq_true b_6_17
  have b_6_18 : (decide (PySem.W.nsIn K mainGlobals "list" = some none)) = true := (and1 hb6)
  replace hb6 := and2 hb6
  have z_list : PySem.W.nsIn K mainGlobals "list" = some none := of_decide_eq_true b_6_18
  have b_6_19 : (decide (PySem.W.nsIn K mainGlobals "max" = some none)) = true := (and1 hb6)
  replace hb6 := and2 hb6
  have z_max : PySem.W.nsIn K mainGlobals "max" = some none := of_decide_eq_true b_6_19
  have b_6_20 : (decide (PySem.W.nsIn K mainGlobals "min" = some none)) = true := (and1 hb6)
  replace hb6 := and2 hb6
  have z_min : PySem.W.nsIn K mainGlobals "min" = some none := of_decide_eq_true b_6_20
  have b_6_21 : (decide (PySem.W.nsIn K mainGlobals "range" = some none)) = true := (and1 hb6)
  replace hb6 := and2 hb6
  have z_range : PySem.W.nsIn K mainGlobals "range" = some none := of_decide_eq_true b_6_21
  have b_6_22 : (decide (PySem.W.nsIn K mainGlobals "repr" = some none)) = true := (and1 hb6)
  replace hb6 := and2 hb6
  have z_repr : PySem.W.nsIn K mainGlobals "repr" = some none := of_decide_eq_true b_6_22
  have b_6_23 : (decide (PySem.W.nsIn K mainGlobals "str" = some none)) = true := (and1 hb6)
  replace hb6 := and2 hb6
  have z_str : PySem.W.nsIn K mainGlobals "str" = some none := of_decide_eq_true b_6_23
  have b_6_24 : (strT K "FIGURES" "0123456789") = true := hb6
  obtain ⟨_, y_FIGURES⟩ := strT_ok b_6_24
  have b_7_0 : (intT K "MOST_SIDE" 1267650600228229401496703205376) = true := hb7
  obtain ⟨_, y_MOST_SIDE⟩ := intT_ok b_7_0
  exact all_mk X G hfl aC0 aC1 aC3 aC6 aC5 xc0 na0 xc1 na1 xc3 na3 xL3 xR3 xS3 xi3 xt3 xc6 na6 xL6 xR6 xS6 xi6 xt6 cl5 cg5 na5 ni5 nk5 nf5 np5 a0 l0 c0 k0 a1 l1 c1 k1 a2 l2 c2 k2 l3 c3 k3 l4 c4 k4 a5 l5 c5 k5 a6 l6 c6 k6 a7 l7 c7 k7 a8 l8 c8 k8 l9 c9 k9 dD9 sa10 sr10 sd10 sg10 sf10 l10 c10 k10 ma5_11 mb11 l11 c11 k11 ma5_12 mb12 l12 c12 k12 ma5_13 mb13 l13 c13 k13 ma5_14 mb14 l14 c14 k14 ma5_15 mb15 l15 c15 k15 ma5_16 mb16 l16 c16 k16 ma5_17 mb17 l17 c17 k17 a18 l18 c18 k18 dD18 a19 l19 c19 k19 a20 l20 c20 k20 a21 l21 c21 k21 a22 l22 c22 k22 a23 l23 c23 k23 a24 l24 c24 k24 a25 l25 c25 k25 a26 l26 c26 k26 a27 l27 c27 k27 a28 l28 c28 k28 a29 l29 c29 k29 a30 l30 c30 k30 a31 l31 c31 k31 a32 l32 c32 k32 a33 l33 c33 k33 a34 l34 c34 k34 lc34 lp34 lt34 lu34 a35 l35 c35 k35 lc35 lp35 lt35 lu35 is3 is5 ib em0 nO5 nE5 bc5__and__ bc5__or__ ip5__and__ ip5__or__ z_abs z_all z_bool z_int z_isinstance z_len z_list z_max z_min z_range z_repr z_str y_FIGURES y_MOST_SIDE
end LW
open PySem PySem.W PyProof.Rows in
set_option maxRecDepth 100000 in
set_option maxHeartbeats 0 in
theorem PySem.Challenge.cw_curveboxes_k03_boxes_together_holds : PySem.Challenge.rw_curveboxes_k03_boxes_together.Holds := by
  w_on; o_law
  refine HandSHeadRun.head_any (r := OpenLaw.row PySem.Challenge.rw_curveboxes_k03_boxes_together) (q := LW.qv) (H := PP.hookP 6 LW.HOk LW.Ov) (ob := PP.obP 6 LW.HOk) (M := 40000) (loose := LW.loose) (d := HandSHeadRun.topDef (OpenLaw.row PySem.Challenge.rw_curveboxes_k03_boxes_together).prog 44) (kwd := []) PP.obP_eq
    (by kernel_rfl) (fun s => by kernel_rfl) LW.run (by kernel_rfl) (by kernel_rfl) (by kernel_rfl) (by rfl) (by first | assumption | decide +kernel) (by decide +kernel) ⟨rfl, rfl, rfl, rfl, rfl, by decide +kernel⟩ ?hw ?hc
  case hw => w_witness2
  case hc =>
    refine PP.law_walkE (l := PySem.Challenge.rw_curveboxes_k03_boxes_together) (n := 63) (k := 60) (F := LW.HOk) (val := LW.Ov) (sp := fun K => PP.spF (LW.tb K) (PP.calls LW.fs 12) 516 1) (x := "_law_script") LW.lamN rfl (by decide) (by kernel_rfl) ⟨rfl, by decide, by decide⟩ ?Q ?L ?F (PP.law_sp (T := LW.tb) (cs := PP.csOf LW.lamN) (fun _ => rfl) (fun K => PP.cs_tt) LW.law_true)
    case Q => kernel_rfl
    case L => intro w K o; exact congrArg (fun z => z.2.getD 8 false) o
    case F =>
      intro w mg fa h K KX o G hmg0
      have hmg : mg ("law" : PySem.Str) = some (.ref fa) := by
        have e : (HandSHeadRun.topDef (OpenLaw.row PySem.Challenge.rw_curveboxes_k03_boxes_together).prog 44).name = ("law" : PySem.Str) := by kernel_rfl
        rw [← e]
        exact hmg0
      exact LW.mk KX G hmg o
