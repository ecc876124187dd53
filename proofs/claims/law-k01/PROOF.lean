import PyProof.Rows.All
import Wide.All
import OpenK.AllK
import Wide.FinOn
import HandS.Head0
import HandS.Head1
import HandS.Head2
import HandS.HeadEnd
import HandS.HeadHook1
import HandS.HeadHook2
import HandS.HeadHook3
import HandS.HeadHook4
import HandS.Words
import HandS.Lambda
import HandS.Exc
import HandS.ExcInit
import HandS.ExcField
import HandS.Base
import HandS.Call
import HandS.List
import HandS.Dict
import HandS.Iter
import KE.KDictCopyH
import KE.KDictPairs
import KE.KDictDisplayH
import HandS.Comp
import HandS.Ends
import HandS.ExcOwn
import HandS.Text
import HandS.EndTab
import HandS.Wide
import HandS.WideBits
import HandS.Flow
import HandS.IsInst
import HandS.RaiseMore
import PyProof.ReprRoads
import HandS.GenOver
import PyProof.GenRules
import PyProof.GenQ
import HandS.GenList
import HandS.WordsExc
import KE.KNestM
import HandS.NoneIn
import HandS.Style
import HandS.Zip
import HandS.Deep
import HandS.FStr
import HandS.Star
import HandS.Codes
import HandS.ExcIs
import HandS.SlotsOwn
import KE.KOpsOwn
import HandS.Property
import PyProof.InstNe
import HandS.ExcValue
import HandS.ClsMeth
import HandS.MakeKw
import KE.KCallOwn
import KE.GoesEnum
import KE.GoesMore
import KE.KRevSl
import KE.KDictZip
import OpenK.KMore
import HandS.SortInts
import HandS.Conv
import KE.OsSort
import HandS.New0
import PyProof.Rows.Chain
import HandS.SetFor
import HandS.Strs
import HandS.SortKw
import HandS.IterVal
import HandS.OwnIter
import HandS.OwnEq
import PyProof.DictCompW
import HandS.DictComp
import HandS.TupLe
import KE.KDictList
import HandS.TupAny
import HandS.TupLen
import KE.KFmtOwn
import HandS.Small
import PyProof.DictRoadsH
import KE.KEqDict
import HandS.DictSub
import PyProof.Rows.Range3
import OpenK.KOps
import PyProof.SeqRoads2
import HandS.More
import PyProof.Rows.SortStr
import PyProof.Rows.StrMeet
import OpenK.KMeth
import HandS.DictEq
import PySem.Challenge.RW_curveboxes_k01_errors_and_their_fields
set_option Elab.async false
set_option linter.all false
set_option maxRecDepth 100000
section
namespace PP
open PySem PySem.Spec PyProof.Rows L2
def tys : List String := ["NoneType", "bool", "int", "str", "list", "tuple", "dict"]
def naB (K : PySem.W.Frag) (C : Addr) (fs : List Str) : Bool := fs.all fun f => decide (PySem.W.findIn K (.ref C) f = some none)
/-- what is asked of __class__ -/
def cgB (K : PySem.W.Frag) (C : Addr) : Bool := decide (PySem.W.findIn K (.ref C) "__class__" = some (some (.builtin "object.__class__"))) && (decide (PySem.W.specialIn K (.builtin "object.__class__") "__get__" = some (some (.builtin "getset_descriptor.__get__"))) && (decide (PySem.W.takesIn K (.builtin "object.__class__") = some true) && decide (PySem.W.mroIn K C (.type "object") = some true)))
def xcB (K : PySem.W.Frag) (C : Addr) : Bool := xfB K C && cgB K C
/-- isinstance: the built-in types, then each class with its answer -/
def isoTB (K : PySem.W.Frag) (n : String) (cs : List (Addr × Bool)) : Bool := (tys.all fun t => decide (PySem.W.kitOne K (.type t) (.type n) = some false)) && cs.all fun p => decide (PySem.W.kitOne K (.ref p.1) (.type n) = some p.2)
def isoB (K : PySem.W.Frag) (u : Addr) (cs : List (Addr × Bool)) : Bool := (tys.all fun t => decide (PySem.W.kitOne K (.type t) (.ref u) = some false)) && cs.all fun p => decide (PySem.W.kitOne K (.ref p.1) (.ref u) = some p.2)
def ttOf (K : PySem.W.Frag) (names : List Str) : List (Addr × Str) := names.filterMap fun x => (PySem.W.tabIn K x).map fun p => (p.2, x ++ ".<locals>." ++ "<lambda>")
def csOf (names : List Str) (K : PySem.W.Frag) : List (Addr × Addr) := names.filterMap fun x => PySem.W.tabIn K x
def isbB (K : PySem.W.Frag) (cs : List Addr) : Bool := tys.all fun t => cs.all fun C => decide (PySem.W.kitOne K (.ref C) (.type t) = some false)
/-- the addresses that can be reached in so many steps, each once -/
def addAll {β : Type} : List Addr → Nat → List Addr → (Nat → List Addr → β) → β
  | [], s, acc, k => k s acc
  | b :: r, s, acc, k => cond (Nat.testBit s b) (addAll r s acc k) (addAll r (s ||| (1 <<< b)) (b :: acc) k)
def frontG {β : Type} (g : Addr → Option Obj) : List Addr → Nat → List Addr → (Nat → List Addr → β) → β
  | [], s, acc, k => k s acc
  | a :: r, s, acc, k => addAll (match g a with | some o => He.refsD o | none => []) s acc fun s acc => frontG g r s acc k
def bfsG (g : Addr → Option Obj) : Nat → List Addr → Nat → List Addr → List Addr
  | 0, _, _, all => all
  | n + 1, front, s, all => frontG g front s [] fun s new => bfsG g n new s (all ++ new)
def adrG (g : Addr → Option Obj) (n : Nat) : List Addr := bfsG g n [mainGlobals] (1 <<< mainGlobals) [mainGlobals]
/-- a Hook of any data -/
def hookP {α : Type} (n : Nat) (F : PySem.W.Frag → α) (val : World → α) : PySem.W.Hook where
  α := α
  obs := fun s => F (He.frT s.heap.get? (PySem.cStatics :: adrG s.heap.get? n))
  val := val
  says := fun w h => ∃ K : PySem.W.Frag, K.In h ∧ F K = val w
  of := fun _ _ e => ⟨_, He.frT_in, e⟩
  keeps := fun _ _ _ ⟨K, hK, c⟩ k => ⟨K, PySem.W.Frag.In.keeps hK k, c⟩
def obP {α : Type} (n : Nat) (F : PySem.W.Frag → α) (s : PySem.W.SharedT) : α := F (He.frT (HandSHeadRun.getT s) (PySem.cStatics :: adrG (HandSHeadRun.getT s) n))
/-- the function at an address: what is told of it -/
def fnA (K : PySem.W.Frag) (a : Addr) : He.FnW := match K.lookup a with
  | some ⟨_, _, .func fd, _⟩ => some (fd.name, fd.qualname, fd.params, fd.body, fd.scope, fd.globals, fd.closure, fd.builtins)
  | _ => none
/-- no defaults, and a code of this name -/
def fnC (K : PySem.W.Frag) (a : Addr) (q : Str) : Bool := match K.lookup a with
  | some ⟨_, _, .func fd, _⟩ => decide (fd.defaults = .none) && PySem.W.codeIn K fd.code q
  | _ => false
/-- the object of an exception class of one's own with its own __init__ -/
def exlB (K : PySem.W.Frag) (C : Addr) : Bool := match K.lookup C with
  | some ⟨.type "type", _, .cls cd, sl⟩ => (match cd.mro, sl.toList with
    | .ref C' :: bm, [_, _, _, _, some (.builtin n), _] => C' == C && n == "ValueError.__new__" && !cd.hasDel && cd.hasDict && PySem.HandSPX.refsVE bm
    | _, _ => false)
  | _ => false
/-- what is told of a def -/
def fnV (x q : Str) (st : Stmt) : He.FnW := some (x, q, defArgs st, .stmts (defBody st), defScope st, mainGlobals, [], builtinsNs)
/-- found on an object -/
def mA (K : PySem.W.Frag) (C : Addr) (m : Str) : Addr := match PySem.W.findIn K (.ref C) m with
  | some (some (.ref f)) => f
  | _ => 0
/-- bound to an address in the module -/
def gA (K : PySem.W.Frag) (x : Str) : Addr := match PySem.W.nsIn K mainGlobals x with
  | some (some (.ref f)) => f
  | _ => 0
end PP
end
section
set_option maxHeartbeats 4000000
namespace LW
open PySem PySem.Spec PyProof.Rows L2 PP
def top (i : Nat) : Stmt := PySem.Challenge.pw_curveboxes_k01_errors_and_their_fields.main.body.getD i (.Pass ⟨0, 0, 0, 0⟩)
abbrev st0 : Stmt := inClass (top 5) 0
abbrev st1 : Stmt := inClass (top 6) 0
abbrev st2 : Stmt := inClass (top 7) 0
abbrev st3 : Stmt := inClass (top 8) 0
abbrev st4 : Stmt := inClass (top 9) 0
abbrev st5 : Stmt := inClass (top 10) 0
abbrev st6 : Stmt := inClass (top 11) 0
abbrev st7 : Stmt := inClass (top 12) 0
abbrev st8 : Stmt := inClass (top 13) 0
abbrev st9 : Stmt := inClass (top 14) 0
abbrev st10 : Stmt := inClass (top 15) 0
abbrev st11 : Stmt := inClass (top 16) 0
abbrev st12 : Stmt := inClass (top 17) 0
abbrev st13 : Stmt := inClass (top 18) 0
abbrev st14 : Stmt := inClass (top 19) 0
abbrev st15 : Stmt := inClass (top 20) 0
abbrev st16 : Stmt := inClass (top 21) 0
abbrev st17 : Stmt := inClass (top 22) 0
abbrev st18 : Stmt := top 25
abbrev st19 : Stmt := top 26
abbrev st20 : Stmt := top 27
abbrev st21 : Stmt := top 28
abbrev st22 : Stmt := top 29
abbrev st23 : Stmt := top 30
abbrev st24 : Stmt := top 31
abbrev st25 : Stmt := top 32
abbrev st26 : Stmt := top 33
def lamN : List Str := []
end LW
end
section
set_option maxHeartbeats 0
namespace LW
open PySem PySem.Spec PyProof.Rows L2 PP
abbrev Rw : PySem.W.OpenRow := PySem.W.OpenLaw.row PySem.Challenge.rw_curveboxes_k01_errors_and_their_fields
abbrev qv : Program := PySem.W.view Rw.prog [33]
def loose : List PySem.Str := ([Str.ofString "__name__", Str.ofString "CurveError", Str.ofString "BadInput", Str.ofString "Refused", Str.ofString "NoAnswer", Str.ofString "BadCurve", Str.ofString "BadLevel", Str.ofString "BadPlace", Str.ofString "BadKey", Str.ofString "BadBox", Str.ofString "BadSpans", Str.ofString "BadMany", Str.ofString "BadRule", Str.ofString "BadStore", Str.ofString "BadRow", Str.ofString "BadBook", Str.ofString "BadText", Str.ofString "BadLine", Str.ofString "Endless", Str.ofString "Unlike"] : List PySem.Str) ++ ([Str.ofString "Outside", Str.ofString "TooMany", Str.ofString "NoRow", Str.ofString "NoDeed", Str.ofString "_law_pen", Str.ofString "_law_draw", Str.ofString "_law_pick", Str.ofString "_law_value", Str.ofString "_law_signs", Str.ofString "_law_kinds", Str.ofString "_law_parts", Str.ofString "_law_pairs_right"] : List PySem.Str)
def C0 (K : PySem.W.Frag) : Addr := gA K "CurveError"
def C1 (K : PySem.W.Frag) : Addr := gA K "BadInput"
def C18 (K : PySem.W.Frag) : Addr := gA K "Refused"
def C23 (K : PySem.W.Frag) : Addr := gA K "NoAnswer"
def C8 (K : PySem.W.Frag) : Addr := gA K "BadCurve"
def C2 (K : PySem.W.Frag) : Addr := gA K "BadLevel"
def C10 (K : PySem.W.Frag) : Addr := gA K "BadPlace"
def C12 (K : PySem.W.Frag) : Addr := gA K "BadKey"
def C3 (K : PySem.W.Frag) : Addr := gA K "BadBox"
def C15 (K : PySem.W.Frag) : Addr := gA K "BadSpans"
def C4 (K : PySem.W.Frag) : Addr := gA K "BadMany"
def C29 (K : PySem.W.Frag) : Addr := gA K "BadRule"
def C27 (K : PySem.W.Frag) : Addr := gA K "BadStore"
def C24 (K : PySem.W.Frag) : Addr := gA K "BadRow"
def C20 (K : PySem.W.Frag) : Addr := gA K "BadBook"
def C6 (K : PySem.W.Frag) : Addr := gA K "BadText"
def C30 (K : PySem.W.Frag) : Addr := gA K "BadLine"
def C31 (K : PySem.W.Frag) : Addr := gA K "Endless"
def C32 (K : PySem.W.Frag) : Addr := gA K "Unlike"
def C28 (K : PySem.W.Frag) : Addr := gA K "Outside"
def C19 (K : PySem.W.Frag) : Addr := gA K "TooMany"
def C25 (K : PySem.W.Frag) : Addr := gA K "NoRow"
def C33 (K : PySem.W.Frag) : Addr := gA K "NoDeed"
def f0 (K : PySem.W.Frag) : Addr := mA K (C8 K) "__init__"
def f1 (K : PySem.W.Frag) : Addr := mA K (C2 K) "__init__"
def f2 (K : PySem.W.Frag) : Addr := mA K (C10 K) "__init__"
def f3 (K : PySem.W.Frag) : Addr := mA K (C12 K) "__init__"
def f4 (K : PySem.W.Frag) : Addr := mA K (C3 K) "__init__"
def f5 (K : PySem.W.Frag) : Addr := mA K (C15 K) "__init__"
def f6 (K : PySem.W.Frag) : Addr := mA K (C4 K) "__init__"
def f7 (K : PySem.W.Frag) : Addr := mA K (C29 K) "__init__"
def f8 (K : PySem.W.Frag) : Addr := mA K (C27 K) "__init__"
def f9 (K : PySem.W.Frag) : Addr := mA K (C24 K) "__init__"
def f10 (K : PySem.W.Frag) : Addr := mA K (C20 K) "__init__"
def f11 (K : PySem.W.Frag) : Addr := mA K (C6 K) "__init__"
def f12 (K : PySem.W.Frag) : Addr := mA K (C30 K) "__init__"
def f13 (K : PySem.W.Frag) : Addr := mA K (C31 K) "__init__"
def f14 (K : PySem.W.Frag) : Addr := mA K (C32 K) "__init__"
def f15 (K : PySem.W.Frag) : Addr := mA K (C28 K) "__init__"
def f16 (K : PySem.W.Frag) : Addr := mA K (C19 K) "__init__"
def f17 (K : PySem.W.Frag) : Addr := mA K (C25 K) "__init__"
def f18 (K : PySem.W.Frag) : Addr := gA K "_law_pen"
def f19 (K : PySem.W.Frag) : Addr := gA K "_law_draw"
def f20 (K : PySem.W.Frag) : Addr := gA K "_law_pick"
def f21 (K : PySem.W.Frag) : Addr := gA K "_law_value"
def f22 (K : PySem.W.Frag) : Addr := gA K "_law_signs"
def f23 (K : PySem.W.Frag) : Addr := gA K "_law_kinds"
def f24 (K : PySem.W.Frag) : Addr := gA K "_law_parts"
def f25 (K : PySem.W.Frag) : Addr := gA K "_law_pairs_right"
def f26 (K : PySem.W.Frag) : Addr := gA K "law"
def Fk (K : PySem.W.Frag) : List He.FnW := ([fnA K (f0 K), fnA K (f1 K), fnA K (f2 K), fnA K (f3 K), fnA K (f4 K), fnA K (f5 K), fnA K (f6 K), fnA K (f7 K), fnA K (f8 K), fnA K (f9 K), fnA K (f10 K), fnA K (f11 K), fnA K (f12 K), fnA K (f13 K), fnA K (f14 K), fnA K (f15 K), fnA K (f16 K), fnA K (f17 K), fnA K (f18 K), fnA K (f19 K)] : List He.FnW) ++ ([fnA K (f20 K), fnA K (f21 K), fnA K (f22 K), fnA K (f23 K), fnA K (f24 K), fnA K (f25 K), fnA K (f26 K)] : List He.FnW)
def Fv : List He.FnW := ([fnV "__init__" "BadCurve.__init__" st0, fnV "__init__" "BadLevel.__init__" st1, fnV "__init__" "BadPlace.__init__" st2, fnV "__init__" "BadKey.__init__" st3, fnV "__init__" "BadBox.__init__" st4, fnV "__init__" "BadSpans.__init__" st5, fnV "__init__" "BadMany.__init__" st6, fnV "__init__" "BadRule.__init__" st7, fnV "__init__" "BadStore.__init__" st8, fnV "__init__" "BadRow.__init__" st9, fnV "__init__" "BadBook.__init__" st10, fnV "__init__" "BadText.__init__" st11, fnV "__init__" "BadLine.__init__" st12, fnV "__init__" "Endless.__init__" st13, fnV "__init__" "Unlike.__init__" st14, fnV "__init__" "Outside.__init__" st15, fnV "__init__" "TooMany.__init__" st16, fnV "__init__" "NoRow.__init__" st17, fnV "_law_pen" "_law_pen" st18, fnV "_law_draw" "_law_draw" st19] : List He.FnW) ++ ([fnV "_law_pick" "_law_pick" st20, fnV "_law_value" "_law_value" st21, fnV "_law_signs" "_law_signs" st22, fnV "_law_kinds" "_law_kinds" st23, fnV "_law_parts" "_law_parts" st24, fnV "_law_pairs_right" "_law_pairs_right" st25, fnV "law" "law" st26] : List He.FnW)
def Bk0 (K : PySem.W.Frag) : Bool := (decide (PySem.W.nsIn K mainGlobals "CurveError" = some (some (.ref (C0 K))))) && ((decide (PySem.W.nsIn K mainGlobals "BadInput" = some (some (.ref (C1 K))))) && ((decide (PySem.W.nsIn K mainGlobals "Refused" = some (some (.ref (C18 K))))) && ((decide (PySem.W.nsIn K mainGlobals "NoAnswer" = some (some (.ref (C23 K))))) && ((decide (PySem.W.nsIn K mainGlobals "BadCurve" = some (some (.ref (C8 K))))) && ((decide (PySem.W.nsIn K mainGlobals "BadLevel" = some (some (.ref (C2 K))))) && ((decide (PySem.W.nsIn K mainGlobals "BadPlace" = some (some (.ref (C10 K))))) && ((decide (PySem.W.nsIn K mainGlobals "BadKey" = some (some (.ref (C12 K))))) && ((decide (PySem.W.nsIn K mainGlobals "BadBox" = some (some (.ref (C3 K))))) && ((decide (PySem.W.nsIn K mainGlobals "BadSpans" = some (some (.ref (C15 K))))) && ((decide (PySem.W.nsIn K mainGlobals "BadMany" = some (some (.ref (C4 K))))) && ((decide (PySem.W.nsIn K mainGlobals "BadRule" = some (some (.ref (C29 K))))) && ((decide (PySem.W.nsIn K mainGlobals "BadStore" = some (some (.ref (C27 K))))) && ((decide (PySem.W.nsIn K mainGlobals "BadRow" = some (some (.ref (C24 K))))) && ((decide (PySem.W.nsIn K mainGlobals "BadBook" = some (some (.ref (C20 K))))) && ((decide (PySem.W.nsIn K mainGlobals "BadText" = some (some (.ref (C6 K))))) && ((decide (PySem.W.nsIn K mainGlobals "BadLine" = some (some (.ref (C30 K))))) && ((decide (PySem.W.nsIn K mainGlobals "Endless" = some (some (.ref (C31 K))))) && ((decide (PySem.W.nsIn K mainGlobals "Unlike" = some (some (.ref (C32 K))))) && ((decide (PySem.W.nsIn K mainGlobals "Outside" = some (some (.ref (C28 K))))) && ((decide (PySem.W.nsIn K mainGlobals "TooMany" = some (some (.ref (C19 K))))) && ((decide (PySem.W.nsIn K mainGlobals "NoRow" = some (some (.ref (C25 K))))) && ((decide (PySem.W.nsIn K mainGlobals "NoDeed" = some (some (.ref (C33 K))))) && ((xcB K (C0 K)) && ((naB K (C0 K) [])))))))))))))))))))))))))
def Bk1 (K : PySem.W.Frag) : Bool := (PySem.W.excIn K (C0 K) [.type "ValueError", .type "Exception", .type "BaseException", .type "object"] "ValueError.__new__") && ((PySem.W.keepIn K (.ref (C0 K))) && ((decide (PySem.W.subIn K (.ref (C0 K)) (.type "BaseException") = some true)) && ((decide (PySem.W.typeIn K (.ref (C0 K)) = some (.type "type"))) && ((xcB K (C1 K)) && ((naB K (C1 K) []) && ((PySem.W.excIn K (C1 K) [.type "ValueError", .type "Exception", .type "BaseException", .type "object"] "ValueError.__new__") && ((PySem.W.keepIn K (.ref (C1 K))) && ((decide (PySem.W.subIn K (.ref (C1 K)) (.type "BaseException") = some true)) && ((decide (PySem.W.typeIn K (.ref (C1 K)) = some (.type "type"))) && ((xcB K (C18 K)) && ((naB K (C18 K) []) && ((PySem.W.excIn K (C18 K) [.type "ValueError", .type "Exception", .type "BaseException", .type "object"] "ValueError.__new__") && ((PySem.W.keepIn K (.ref (C18 K))) && ((decide (PySem.W.subIn K (.ref (C18 K)) (.type "BaseException") = some true)) && ((decide (PySem.W.typeIn K (.ref (C18 K)) = some (.type "type"))) && ((xcB K (C23 K)) && ((naB K (C23 K) []) && ((PySem.W.excIn K (C23 K) [.type "ValueError", .type "Exception", .type "BaseException", .type "object"] "ValueError.__new__") && ((PySem.W.keepIn K (.ref (C23 K))) && ((decide (PySem.W.subIn K (.ref (C23 K)) (.type "BaseException") = some true)) && ((decide (PySem.W.typeIn K (.ref (C23 K)) = some (.type "type"))) && ((xcB K (C8 K)) && ((naB K (C8 K) ["part"]) && ((exlB K (C8 K))))))))))))))))))))))))))
def Bk2 (K : PySem.W.Frag) : Bool := ((decide (PySem.W.findIn K (.ref (C8 K)) "__setattr__" = some (some (.builtin "object.__setattr__"))) && (decide (PySem.W.subIn K (.ref (C8 K)) (.type "BaseException") = some true) && (decide (PySem.W.typeIn K (.ref (C8 K)) = some (.type "type")) && PySem.W.keepIn K (.ref (C8 K)))))) && ((decide (PySem.W.findIn K (.ref (C8 K)) "__init__" = some (some (.ref (f0 K))))) && ((decide (PySem.W.typeIn K (.ref (f0 K)) = some (.type "function"))) && ((xcB K (C2 K)) && ((naB K (C2 K) ["value"]) && ((exlB K (C2 K)) && (((decide (PySem.W.findIn K (.ref (C2 K)) "__setattr__" = some (some (.builtin "object.__setattr__"))) && (decide (PySem.W.subIn K (.ref (C2 K)) (.type "BaseException") = some true) && (decide (PySem.W.typeIn K (.ref (C2 K)) = some (.type "type")) && PySem.W.keepIn K (.ref (C2 K)))))) && ((decide (PySem.W.findIn K (.ref (C2 K)) "__init__" = some (some (.ref (f1 K))))) && ((decide (PySem.W.typeIn K (.ref (f1 K)) = some (.type "function"))) && ((xcB K (C10 K)) && ((naB K (C10 K) ["value"]) && ((exlB K (C10 K)) && (((decide (PySem.W.findIn K (.ref (C10 K)) "__setattr__" = some (some (.builtin "object.__setattr__"))) && (decide (PySem.W.subIn K (.ref (C10 K)) (.type "BaseException") = some true) && (decide (PySem.W.typeIn K (.ref (C10 K)) = some (.type "type")) && PySem.W.keepIn K (.ref (C10 K)))))) && ((decide (PySem.W.findIn K (.ref (C10 K)) "__init__" = some (some (.ref (f2 K))))) && ((decide (PySem.W.typeIn K (.ref (f2 K)) = some (.type "function"))) && ((xcB K (C12 K)) && ((naB K (C12 K) ["value"]) && ((exlB K (C12 K)) && (((decide (PySem.W.findIn K (.ref (C12 K)) "__setattr__" = some (some (.builtin "object.__setattr__"))) && (decide (PySem.W.subIn K (.ref (C12 K)) (.type "BaseException") = some true) && (decide (PySem.W.typeIn K (.ref (C12 K)) = some (.type "type")) && PySem.W.keepIn K (.ref (C12 K)))))) && ((decide (PySem.W.findIn K (.ref (C12 K)) "__init__" = some (some (.ref (f3 K))))) && ((decide (PySem.W.typeIn K (.ref (f3 K)) = some (.type "function"))) && ((xcB K (C3 K)) && ((naB K (C3 K) ["part"]) && ((exlB K (C3 K)) && (((decide (PySem.W.findIn K (.ref (C3 K)) "__setattr__" = some (some (.builtin "object.__setattr__"))) && (decide (PySem.W.subIn K (.ref (C3 K)) (.type "BaseException") = some true) && (decide (PySem.W.typeIn K (.ref (C3 K)) = some (.type "type")) && PySem.W.keepIn K (.ref (C3 K))))))))))))))))))))))))))))))
def Bk3 (K : PySem.W.Frag) : Bool := (decide (PySem.W.findIn K (.ref (C3 K)) "__init__" = some (some (.ref (f4 K))))) && ((decide (PySem.W.typeIn K (.ref (f4 K)) = some (.type "function"))) && ((xcB K (C15 K)) && ((naB K (C15 K) ["part"]) && ((exlB K (C15 K)) && (((decide (PySem.W.findIn K (.ref (C15 K)) "__setattr__" = some (some (.builtin "object.__setattr__"))) && (decide (PySem.W.subIn K (.ref (C15 K)) (.type "BaseException") = some true) && (decide (PySem.W.typeIn K (.ref (C15 K)) = some (.type "type")) && PySem.W.keepIn K (.ref (C15 K)))))) && ((decide (PySem.W.findIn K (.ref (C15 K)) "__init__" = some (some (.ref (f5 K))))) && ((decide (PySem.W.typeIn K (.ref (f5 K)) = some (.type "function"))) && ((xcB K (C4 K)) && ((naB K (C4 K) ["value"]) && ((exlB K (C4 K)) && (((decide (PySem.W.findIn K (.ref (C4 K)) "__setattr__" = some (some (.builtin "object.__setattr__"))) && (decide (PySem.W.subIn K (.ref (C4 K)) (.type "BaseException") = some true) && (decide (PySem.W.typeIn K (.ref (C4 K)) = some (.type "type")) && PySem.W.keepIn K (.ref (C4 K)))))) && ((decide (PySem.W.findIn K (.ref (C4 K)) "__init__" = some (some (.ref (f6 K))))) && ((decide (PySem.W.typeIn K (.ref (f6 K)) = some (.type "function"))) && ((xcB K (C29 K)) && ((naB K (C29 K) ["part"]) && ((exlB K (C29 K)) && (((decide (PySem.W.findIn K (.ref (C29 K)) "__setattr__" = some (some (.builtin "object.__setattr__"))) && (decide (PySem.W.subIn K (.ref (C29 K)) (.type "BaseException") = some true) && (decide (PySem.W.typeIn K (.ref (C29 K)) = some (.type "type")) && PySem.W.keepIn K (.ref (C29 K)))))) && ((decide (PySem.W.findIn K (.ref (C29 K)) "__init__" = some (some (.ref (f7 K))))) && ((decide (PySem.W.typeIn K (.ref (f7 K)) = some (.type "function"))) && ((xcB K (C27 K)) && ((naB K (C27 K) ["part"]) && ((exlB K (C27 K)) && (((decide (PySem.W.findIn K (.ref (C27 K)) "__setattr__" = some (some (.builtin "object.__setattr__"))) && (decide (PySem.W.subIn K (.ref (C27 K)) (.type "BaseException") = some true) && (decide (PySem.W.typeIn K (.ref (C27 K)) = some (.type "type")) && PySem.W.keepIn K (.ref (C27 K)))))) && ((decide (PySem.W.findIn K (.ref (C27 K)) "__init__" = some (some (.ref (f8 K)))))))))))))))))))))))))))))
def Bk4 (K : PySem.W.Frag) : Bool := (decide (PySem.W.typeIn K (.ref (f8 K)) = some (.type "function"))) && ((xcB K (C24 K)) && ((naB K (C24 K) ["value"]) && ((exlB K (C24 K)) && (((decide (PySem.W.findIn K (.ref (C24 K)) "__setattr__" = some (some (.builtin "object.__setattr__"))) && (decide (PySem.W.subIn K (.ref (C24 K)) (.type "BaseException") = some true) && (decide (PySem.W.typeIn K (.ref (C24 K)) = some (.type "type")) && PySem.W.keepIn K (.ref (C24 K)))))) && ((decide (PySem.W.findIn K (.ref (C24 K)) "__init__" = some (some (.ref (f9 K))))) && ((decide (PySem.W.typeIn K (.ref (f9 K)) = some (.type "function"))) && ((xcB K (C20 K)) && ((naB K (C20 K) ["part"]) && ((exlB K (C20 K)) && (((decide (PySem.W.findIn K (.ref (C20 K)) "__setattr__" = some (some (.builtin "object.__setattr__"))) && (decide (PySem.W.subIn K (.ref (C20 K)) (.type "BaseException") = some true) && (decide (PySem.W.typeIn K (.ref (C20 K)) = some (.type "type")) && PySem.W.keepIn K (.ref (C20 K)))))) && ((decide (PySem.W.findIn K (.ref (C20 K)) "__init__" = some (some (.ref (f10 K))))) && ((decide (PySem.W.typeIn K (.ref (f10 K)) = some (.type "function"))) && ((xcB K (C6 K)) && ((naB K (C6 K) ["line", "word"]) && ((exlB K (C6 K)) && (((decide (PySem.W.findIn K (.ref (C6 K)) "__setattr__" = some (some (.builtin "object.__setattr__"))) && (decide (PySem.W.subIn K (.ref (C6 K)) (.type "BaseException") = some true) && (decide (PySem.W.typeIn K (.ref (C6 K)) = some (.type "type")) && PySem.W.keepIn K (.ref (C6 K)))))) && ((decide (PySem.W.findIn K (.ref (C6 K)) "__init__" = some (some (.ref (f11 K))))) && ((decide (PySem.W.typeIn K (.ref (f11 K)) = some (.type "function"))) && ((xcB K (C30 K)) && ((naB K (C30 K) ["word"]) && ((exlB K (C30 K)) && (((decide (PySem.W.findIn K (.ref (C30 K)) "__setattr__" = some (some (.builtin "object.__setattr__"))) && (decide (PySem.W.subIn K (.ref (C30 K)) (.type "BaseException") = some true) && (decide (PySem.W.typeIn K (.ref (C30 K)) = some (.type "type")) && PySem.W.keepIn K (.ref (C30 K)))))) && ((decide (PySem.W.findIn K (.ref (C30 K)) "__init__" = some (some (.ref (f12 K))))) && ((decide (PySem.W.typeIn K (.ref (f12 K)) = some (.type "function")))))))))))))))))))))))))))
def Bk5 (K : PySem.W.Frag) : Bool := (xcB K (C31 K)) && ((naB K (C31 K) ["level", "key"]) && ((exlB K (C31 K)) && (((decide (PySem.W.findIn K (.ref (C31 K)) "__setattr__" = some (some (.builtin "object.__setattr__"))) && (decide (PySem.W.subIn K (.ref (C31 K)) (.type "BaseException") = some true) && (decide (PySem.W.typeIn K (.ref (C31 K)) = some (.type "type")) && PySem.W.keepIn K (.ref (C31 K)))))) && ((decide (PySem.W.findIn K (.ref (C31 K)) "__init__" = some (some (.ref (f13 K))))) && ((decide (PySem.W.typeIn K (.ref (f13 K)) = some (.type "function"))) && ((xcB K (C32 K)) && ((naB K (C32 K) ["part"]) && ((exlB K (C32 K)) && (((decide (PySem.W.findIn K (.ref (C32 K)) "__setattr__" = some (some (.builtin "object.__setattr__"))) && (decide (PySem.W.subIn K (.ref (C32 K)) (.type "BaseException") = some true) && (decide (PySem.W.typeIn K (.ref (C32 K)) = some (.type "type")) && PySem.W.keepIn K (.ref (C32 K)))))) && ((decide (PySem.W.findIn K (.ref (C32 K)) "__init__" = some (some (.ref (f14 K))))) && ((decide (PySem.W.typeIn K (.ref (f14 K)) = some (.type "function"))) && ((xcB K (C28 K)) && ((naB K (C28 K) ["place"]) && ((exlB K (C28 K)) && (((decide (PySem.W.findIn K (.ref (C28 K)) "__setattr__" = some (some (.builtin "object.__setattr__"))) && (decide (PySem.W.subIn K (.ref (C28 K)) (.type "BaseException") = some true) && (decide (PySem.W.typeIn K (.ref (C28 K)) = some (.type "type")) && PySem.W.keepIn K (.ref (C28 K)))))) && ((decide (PySem.W.findIn K (.ref (C28 K)) "__init__" = some (some (.ref (f15 K))))) && ((decide (PySem.W.typeIn K (.ref (f15 K)) = some (.type "function"))) && ((xcB K (C19 K)) && ((naB K (C19 K) ["what", "most"]) && ((exlB K (C19 K)) && (((decide (PySem.W.findIn K (.ref (C19 K)) "__setattr__" = some (some (.builtin "object.__setattr__"))) && (decide (PySem.W.subIn K (.ref (C19 K)) (.type "BaseException") = some true) && (decide (PySem.W.typeIn K (.ref (C19 K)) = some (.type "type")) && PySem.W.keepIn K (.ref (C19 K)))))) && ((decide (PySem.W.findIn K (.ref (C19 K)) "__init__" = some (some (.ref (f16 K))))) && ((decide (PySem.W.typeIn K (.ref (f16 K)) = some (.type "function"))) && ((xcB K (C25 K))))))))))))))))))))))))))
def Bk6 (K : PySem.W.Frag) : Bool := (naB K (C25 K) ["place"]) && ((exlB K (C25 K)) && (((decide (PySem.W.findIn K (.ref (C25 K)) "__setattr__" = some (some (.builtin "object.__setattr__"))) && (decide (PySem.W.subIn K (.ref (C25 K)) (.type "BaseException") = some true) && (decide (PySem.W.typeIn K (.ref (C25 K)) = some (.type "type")) && PySem.W.keepIn K (.ref (C25 K)))))) && ((decide (PySem.W.findIn K (.ref (C25 K)) "__init__" = some (some (.ref (f17 K))))) && ((decide (PySem.W.typeIn K (.ref (f17 K)) = some (.type "function"))) && ((xcB K (C33 K)) && ((naB K (C33 K) []) && ((PySem.W.excIn K (C33 K) [.type "ValueError", .type "Exception", .type "BaseException", .type "object"] "ValueError.__new__") && ((PySem.W.keepIn K (.ref (C33 K))) && ((decide (PySem.W.subIn K (.ref (C33 K)) (.type "BaseException") = some true)) && ((decide (PySem.W.typeIn K (.ref (C33 K)) = some (.type "type"))) && ((fnC K (f0 K) "BadCurve.__init__") && ((PySem.W.keepIn K (.ref (f0 K))) && ((fnC K (f1 K) "BadLevel.__init__") && ((PySem.W.keepIn K (.ref (f1 K))) && ((fnC K (f2 K) "BadPlace.__init__") && ((PySem.W.keepIn K (.ref (f2 K))) && ((fnC K (f3 K) "BadKey.__init__") && ((PySem.W.keepIn K (.ref (f3 K))) && ((fnC K (f4 K) "BadBox.__init__") && ((PySem.W.keepIn K (.ref (f4 K))) && ((fnC K (f5 K) "BadSpans.__init__") && ((PySem.W.keepIn K (.ref (f5 K))) && ((fnC K (f6 K) "BadMany.__init__") && ((PySem.W.keepIn K (.ref (f6 K)))))))))))))))))))))))))))
def Bk7 (K : PySem.W.Frag) : Bool := (fnC K (f7 K) "BadRule.__init__") && ((PySem.W.keepIn K (.ref (f7 K))) && ((fnC K (f8 K) "BadStore.__init__") && ((PySem.W.keepIn K (.ref (f8 K))) && ((fnC K (f9 K) "BadRow.__init__") && ((PySem.W.keepIn K (.ref (f9 K))) && ((fnC K (f10 K) "BadBook.__init__") && ((PySem.W.keepIn K (.ref (f10 K))) && ((fnC K (f11 K) "BadText.__init__") && ((PySem.W.keepIn K (.ref (f11 K))) && ((fnC K (f12 K) "BadLine.__init__") && ((PySem.W.keepIn K (.ref (f12 K))) && ((fnC K (f13 K) "Endless.__init__") && ((PySem.W.keepIn K (.ref (f13 K))) && ((fnC K (f14 K) "Unlike.__init__") && ((PySem.W.keepIn K (.ref (f14 K))) && ((fnC K (f15 K) "Outside.__init__") && ((PySem.W.keepIn K (.ref (f15 K))) && ((fnC K (f16 K) "TooMany.__init__") && ((PySem.W.keepIn K (.ref (f16 K))) && ((fnC K (f17 K) "NoRow.__init__") && ((PySem.W.keepIn K (.ref (f17 K))) && ((decide (PySem.W.nsIn K mainGlobals "_law_pen" = some (some (.ref (f18 K))))) && ((fnC K (f18 K) "_law_pen") && ((PySem.W.keepIn K (.ref (f18 K)))))))))))))))))))))))))))
def Bk8 (K : PySem.W.Frag) : Bool := (decide (PySem.W.nsIn K mainGlobals "_law_draw" = some (some (.ref (f19 K))))) && ((fnC K (f19 K) "_law_draw") && ((PySem.W.keepIn K (.ref (f19 K))) && ((decide (PySem.W.nsIn K mainGlobals "_law_pick" = some (some (.ref (f20 K))))) && ((fnC K (f20 K) "_law_pick") && ((PySem.W.keepIn K (.ref (f20 K))) && ((decide (PySem.W.nsIn K mainGlobals "_law_value" = some (some (.ref (f21 K))))) && ((fnC K (f21 K) "_law_value") && ((PySem.W.keepIn K (.ref (f21 K))) && ((decide (PySem.W.nsIn K mainGlobals "_law_signs" = some (some (.ref (f22 K))))) && ((fnC K (f22 K) "_law_signs") && ((PySem.W.keepIn K (.ref (f22 K))) && ((decide (PySem.W.nsIn K mainGlobals "_law_kinds" = some (some (.ref (f23 K))))) && ((fnC K (f23 K) "_law_kinds") && ((PySem.W.keepIn K (.ref (f23 K))) && ((decide (PySem.W.nsIn K mainGlobals "_law_parts" = some (some (.ref (f24 K))))) && ((fnC K (f24 K) "_law_parts") && ((PySem.W.keepIn K (.ref (f24 K))) && ((decide (PySem.W.nsIn K mainGlobals "_law_pairs_right" = some (some (.ref (f25 K))))) && ((fnC K (f25 K) "_law_pairs_right") && ((PySem.W.keepIn K (.ref (f25 K))) && ((decide (PySem.W.nsIn K mainGlobals "law" = some (some (.ref (f26 K))))) && ((fnC K (f26 K) "law") && ((PySem.W.keepIn K (.ref (f26 K))) && ((isoB K (C0 K) [((C0 K), true), ((C1 K), true), ((C18 K), true), ((C23 K), true), ((C8 K), true), ((C2 K), true), ((C10 K), true), ((C12 K), true), ((C3 K), true), ((C15 K), true), ((C4 K), true), ((C29 K), true), ((C27 K), true), ((C24 K), true), ((C20 K), true), ((C6 K), true), ((C30 K), true), ((C31 K), true), ((C32 K), true), ((C28 K), true), ((C19 K), true), ((C25 K), true), ((C33 K), true)])))))))))))))))))))))))))
def Bk9 (K : PySem.W.Frag) : Bool := (isoB K (C1 K) [((C0 K), false), ((C1 K), true), ((C18 K), false), ((C23 K), false), ((C8 K), true), ((C2 K), true), ((C10 K), true), ((C12 K), true), ((C3 K), true), ((C15 K), true), ((C4 K), true), ((C29 K), true), ((C27 K), true), ((C24 K), true), ((C20 K), true), ((C6 K), true), ((C30 K), true), ((C31 K), false), ((C32 K), false), ((C28 K), false), ((C19 K), false), ((C25 K), false), ((C33 K), false)]) && ((isoB K (C2 K) [((C0 K), false), ((C1 K), false), ((C18 K), false), ((C23 K), false), ((C8 K), false), ((C2 K), true), ((C10 K), false), ((C12 K), false), ((C3 K), false), ((C15 K), false), ((C4 K), false), ((C29 K), false), ((C27 K), false), ((C24 K), false), ((C20 K), false), ((C6 K), false), ((C30 K), false), ((C31 K), false), ((C32 K), false), ((C28 K), false), ((C19 K), false), ((C25 K), false), ((C33 K), false)]) && ((isoB K (C3 K) [((C0 K), false), ((C1 K), false), ((C18 K), false), ((C23 K), false), ((C8 K), false), ((C2 K), false), ((C10 K), false), ((C12 K), false), ((C3 K), true), ((C15 K), false), ((C4 K), false), ((C29 K), false), ((C27 K), false), ((C24 K), false), ((C20 K), false), ((C6 K), false), ((C30 K), false), ((C31 K), false), ((C32 K), false), ((C28 K), false), ((C19 K), false), ((C25 K), false), ((C33 K), false)]) && ((isoB K (C4 K) [((C0 K), false), ((C1 K), false), ((C18 K), false), ((C23 K), false), ((C8 K), false), ((C2 K), false), ((C10 K), false), ((C12 K), false), ((C3 K), false), ((C15 K), false), ((C4 K), true), ((C29 K), false), ((C27 K), false), ((C24 K), false), ((C20 K), false), ((C6 K), false), ((C30 K), false), ((C31 K), false), ((C32 K), false), ((C28 K), false), ((C19 K), false), ((C25 K), false), ((C33 K), false)]) && ((isoB K (C6 K) [((C0 K), false), ((C1 K), false), ((C18 K), false), ((C23 K), false), ((C8 K), false), ((C2 K), false), ((C10 K), false), ((C12 K), false), ((C3 K), false), ((C15 K), false), ((C4 K), false), ((C29 K), false), ((C27 K), false), ((C24 K), false), ((C20 K), false), ((C6 K), true), ((C30 K), false), ((C31 K), false), ((C32 K), false), ((C28 K), false), ((C19 K), false), ((C25 K), false), ((C33 K), false)]) && ((isoB K (C8 K) [((C0 K), false), ((C1 K), false), ((C18 K), false), ((C23 K), false), ((C8 K), true), ((C2 K), false), ((C10 K), false), ((C12 K), false), ((C3 K), false), ((C15 K), false), ((C4 K), false), ((C29 K), false), ((C27 K), false), ((C24 K), false), ((C20 K), false), ((C6 K), false), ((C30 K), false), ((C31 K), false), ((C32 K), false), ((C28 K), false), ((C19 K), false), ((C25 K), false), ((C33 K), false)]) && ((isoB K (C10 K) [((C0 K), false), ((C1 K), false), ((C18 K), false), ((C23 K), false), ((C8 K), false), ((C2 K), false), ((C10 K), true), ((C12 K), false), ((C3 K), false), ((C15 K), false), ((C4 K), false), ((C29 K), false), ((C27 K), false), ((C24 K), false), ((C20 K), false), ((C6 K), false), ((C30 K), false), ((C31 K), false), ((C32 K), false), ((C28 K), false), ((C19 K), false), ((C25 K), false), ((C33 K), false)]) && ((isoB K (C12 K) [((C0 K), false), ((C1 K), false), ((C18 K), false), ((C23 K), false), ((C8 K), false), ((C2 K), false), ((C10 K), false), ((C12 K), true), ((C3 K), false), ((C15 K), false), ((C4 K), false), ((C29 K), false), ((C27 K), false), ((C24 K), false), ((C20 K), false), ((C6 K), false), ((C30 K), false), ((C31 K), false), ((C32 K), false), ((C28 K), false), ((C19 K), false), ((C25 K), false), ((C33 K), false)]) && ((isoB K (C15 K) [((C0 K), false), ((C1 K), false), ((C18 K), false), ((C23 K), false), ((C8 K), false), ((C2 K), false), ((C10 K), false), ((C12 K), false), ((C3 K), false), ((C15 K), true), ((C4 K), false), ((C29 K), false), ((C27 K), false), ((C24 K), false), ((C20 K), false), ((C6 K), false), ((C30 K), false), ((C31 K), false), ((C32 K), false), ((C28 K), false), ((C19 K), false), ((C25 K), false), ((C33 K), false)]) && ((isoB K (C18 K) [((C0 K), false), ((C1 K), false), ((C18 K), true), ((C23 K), false), ((C8 K), false), ((C2 K), false), ((C10 K), false), ((C12 K), false), ((C3 K), false), ((C15 K), false), ((C4 K), false), ((C29 K), false), ((C27 K), false), ((C24 K), false), ((C20 K), false), ((C6 K), false), ((C30 K), false), ((C31 K), true), ((C32 K), true), ((C28 K), true), ((C19 K), true), ((C25 K), false), ((C33 K), false)]) && ((isoB K (C19 K) [((C0 K), false), ((C1 K), false), ((C18 K), false), ((C23 K), false), ((C8 K), false), ((C2 K), false), ((C10 K), false), ((C12 K), false), ((C3 K), false), ((C15 K), false), ((C4 K), false), ((C29 K), false), ((C27 K), false), ((C24 K), false), ((C20 K), false), ((C6 K), false), ((C30 K), false), ((C31 K), false), ((C32 K), false), ((C28 K), false), ((C19 K), true), ((C25 K), false), ((C33 K), false)]) && ((isoB K (C20 K) [((C0 K), false), ((C1 K), false), ((C18 K), false), ((C23 K), false), ((C8 K), false), ((C2 K), false), ((C10 K), false), ((C12 K), false), ((C3 K), false), ((C15 K), false), ((C4 K), false), ((C29 K), false), ((C27 K), false), ((C24 K), false), ((C20 K), true), ((C6 K), false), ((C30 K), false), ((C31 K), false), ((C32 K), false), ((C28 K), false), ((C19 K), false), ((C25 K), false), ((C33 K), false)]) && ((isoB K (C23 K) [((C0 K), false), ((C1 K), false), ((C18 K), false), ((C23 K), true), ((C8 K), false), ((C2 K), false), ((C10 K), false), ((C12 K), false), ((C3 K), false), ((C15 K), false), ((C4 K), false), ((C29 K), false), ((C27 K), false), ((C24 K), false), ((C20 K), false), ((C6 K), false), ((C30 K), false), ((C31 K), false), ((C32 K), false), ((C28 K), false), ((C19 K), false), ((C25 K), true), ((C33 K), true)]) && ((isoB K (C24 K) [((C0 K), false), ((C1 K), false), ((C18 K), false), ((C23 K), false), ((C8 K), false), ((C2 K), false), ((C10 K), false), ((C12 K), false), ((C3 K), false), ((C15 K), false), ((C4 K), false), ((C29 K), false), ((C27 K), false), ((C24 K), true), ((C20 K), false), ((C6 K), false), ((C30 K), false), ((C31 K), false), ((C32 K), false), ((C28 K), false), ((C19 K), false), ((C25 K), false), ((C33 K), false)]) && ((isoB K (C25 K) [((C0 K), false), ((C1 K), false), ((C18 K), false), ((C23 K), false), ((C8 K), false), ((C2 K), false), ((C10 K), false), ((C12 K), false), ((C3 K), false), ((C15 K), false), ((C4 K), false), ((C29 K), false), ((C27 K), false), ((C24 K), false), ((C20 K), false), ((C6 K), false), ((C30 K), false), ((C31 K), false), ((C32 K), false), ((C28 K), false), ((C19 K), false), ((C25 K), true), ((C33 K), false)]) && ((isoB K (C27 K) [((C0 K), false), ((C1 K), false), ((C18 K), false), ((C23 K), false), ((C8 K), false), ((C2 K), false), ((C10 K), false), ((C12 K), false), ((C3 K), false), ((C15 K), false), ((C4 K), false), ((C29 K), false), ((C27 K), true), ((C24 K), false), ((C20 K), false), ((C6 K), false), ((C30 K), false), ((C31 K), false), ((C32 K), false), ((C28 K), false), ((C19 K), false), ((C25 K), false), ((C33 K), false)]) && ((isoB K (C28 K) [((C0 K), false), ((C1 K), false), ((C18 K), false), ((C23 K), false), ((C8 K), false), ((C2 K), false), ((C10 K), false), ((C12 K), false), ((C3 K), false), ((C15 K), false), ((C4 K), false), ((C29 K), false), ((C27 K), false), ((C24 K), false), ((C20 K), false), ((C6 K), false), ((C30 K), false), ((C31 K), false), ((C32 K), false), ((C28 K), true), ((C19 K), false), ((C25 K), false), ((C33 K), false)]) && ((isoB K (C29 K) [((C0 K), false), ((C1 K), false), ((C18 K), false), ((C23 K), false), ((C8 K), false), ((C2 K), false), ((C10 K), false), ((C12 K), false), ((C3 K), false), ((C15 K), false), ((C4 K), false), ((C29 K), true), ((C27 K), false), ((C24 K), false), ((C20 K), false), ((C6 K), false), ((C30 K), false), ((C31 K), false), ((C32 K), false), ((C28 K), false), ((C19 K), false), ((C25 K), false), ((C33 K), false)]) && ((isoB K (C30 K) [((C0 K), false), ((C1 K), false), ((C18 K), false), ((C23 K), false), ((C8 K), false), ((C2 K), false), ((C10 K), false), ((C12 K), false), ((C3 K), false), ((C15 K), false), ((C4 K), false), ((C29 K), false), ((C27 K), false), ((C24 K), false), ((C20 K), false), ((C6 K), false), ((C30 K), true), ((C31 K), false), ((C32 K), false), ((C28 K), false), ((C19 K), false), ((C25 K), false), ((C33 K), false)]) && ((isoB K (C31 K) [((C0 K), false), ((C1 K), false), ((C18 K), false), ((C23 K), false), ((C8 K), false), ((C2 K), false), ((C10 K), false), ((C12 K), false), ((C3 K), false), ((C15 K), false), ((C4 K), false), ((C29 K), false), ((C27 K), false), ((C24 K), false), ((C20 K), false), ((C6 K), false), ((C30 K), false), ((C31 K), true), ((C32 K), false), ((C28 K), false), ((C19 K), false), ((C25 K), false), ((C33 K), false)]) && ((isoB K (C32 K) [((C0 K), false), ((C1 K), false), ((C18 K), false), ((C23 K), false), ((C8 K), false), ((C2 K), false), ((C10 K), false), ((C12 K), false), ((C3 K), false), ((C15 K), false), ((C4 K), false), ((C29 K), false), ((C27 K), false), ((C24 K), false), ((C20 K), false), ((C6 K), false), ((C30 K), false), ((C31 K), false), ((C32 K), true), ((C28 K), false), ((C19 K), false), ((C25 K), false), ((C33 K), false)]) && ((isoB K (C33 K) [((C0 K), false), ((C1 K), false), ((C18 K), false), ((C23 K), false), ((C8 K), false), ((C2 K), false), ((C10 K), false), ((C12 K), false), ((C3 K), false), ((C15 K), false), ((C4 K), false), ((C29 K), false), ((C27 K), false), ((C24 K), false), ((C20 K), false), ((C6 K), false), ((C30 K), false), ((C31 K), false), ((C32 K), false), ((C28 K), false), ((C19 K), false), ((C25 K), false), ((C33 K), true)]) && ((isoTB K "ValueError" [((C0 K), true), ((C1 K), true), ((C18 K), true), ((C23 K), true), ((C8 K), true), ((C2 K), true), ((C10 K), true), ((C12 K), true), ((C3 K), true), ((C15 K), true), ((C4 K), true), ((C29 K), true), ((C27 K), true), ((C24 K), true), ((C20 K), true), ((C6 K), true), ((C30 K), true), ((C31 K), true), ((C32 K), true), ((C28 K), true), ((C19 K), true), ((C25 K), true), ((C33 K), true)]) && ((isbB K [(C0 K), (C1 K), (C18 K), (C23 K), (C8 K), (C2 K), (C10 K), (C12 K), (C3 K), (C15 K), (C4 K), (C29 K), (C27 K), (C24 K), (C20 K), (C6 K), (C30 K), (C31 K), (C32 K), (C28 K), (C19 K), (C25 K), (C33 K)]) && ((decide (PySem.W.nsIn K mainGlobals "ValueError" = some none))))))))))))))))))))))))))
def Bk10 (K : PySem.W.Frag) : Bool := (decide (PySem.W.nsIn K mainGlobals "abs" = some none)) && ((decide (PySem.W.nsIn K mainGlobals "int" = some none)) && ((decide (PySem.W.nsIn K mainGlobals "isinstance" = some none)) && ((decide (PySem.W.nsIn K mainGlobals "len" = some none)) && ((decide (PySem.W.nsIn K mainGlobals "list" = some none)) && ((decide (PySem.W.nsIn K mainGlobals "range" = some none)) && ((decide (PySem.W.nsIn K mainGlobals "repr" = some none))))))))
def HOk (K : PySem.W.Frag) : List He.FnW × List Bool := (Fk K, [Bk0 K, Bk1 K, Bk2 K, Bk3 K, Bk4 K, Bk5 K, Bk6 K, Bk7 K, Bk8 K, Bk9 K, Bk10 K, (PP.csOf lamN K).all fun p => (K.lookup p.2).isNone])
def Ov (_ : World) : List He.FnW × List Bool := (Fv, [true, true, true, true, true, true, true, true, true, true, true, true])
theorem run (w : World) : HandSHeadRun.RunEq Rw qv (hookP 6 HOk Ov) (obP 6 HOk) 40000 loose w := by
  intro os
  kernel_rfl
end LW
end
section
set_option maxHeartbeats 1000000
namespace L2
open PySem PySem.Spec PyProof.Rows
/-- a key, the tuple that bears it, the value -/
abbrev T3 := List Int × Addr × V
abbrev RT3 : List T3 → List (List Int × Addr × Value) → Prop := Paired fun p q => p.1 = q.1 ∧ p.2.1 = q.2.1 ∧ RelV p.2.2 q.2.2
/-- the object at a is this one -/
def dtO (a : Addr) (od : Obj) : HO := .ext fun h => h.get? a = some od
/-- .. a dict of these -/
def ObjDt (a : Addr) (od : Obj) (es : List T3) : Prop :=
  es.length ≤ sizeLine ∧ (a == sysModules) = false ∧ (es.map (·.1)).Nodup ∧ od.ExactDict ∧ ∃ (xs : List (List Int × Addr × Value)) (des : Array DictEntry) (ep : Nat), RT3 es xs ∧ od.data = .dict des ep ∧ ∀ (P : Program) (w : World), des.toList = xs.map (entryOfKey (tupleKind (intKind P w)))
/-- the keys' tuples stand -/
def KT3 (K : PySem.W.Frag) (H : Hp) (es : List T3) : Prop := ∀ e ∈ es, SqT K H e.2.1 (e.1.map V.int)
def getT3 (es : List T3) (k : List Int) : Option V := (es.find? fun e => decide (e.1 = k)).map (·.2.2)
theorem RT3.get {es : List T3} {xs : List (List Int × Addr × Value)} (r : RT3 es xs) (k : List Int) : RelO (getT3 es k) ((atKey xs k).map (·.2)) := by
  induction r with
  | nil => exact True.intro
  | @cons p q ps qs h t ih =>
    obtain ⟨h1, h2, h3⟩ := h
    by_cases e : p.1 = k
    · have e' : q.1 = k := h1.symm.trans e
      have a : getT3 (p :: ps) k = some p.2.2 := by simp [getT3, List.find?_cons, e]
      have b : atKey (q :: qs) k = some q.2 := by simp [atKey, List.find?_cons, e']
      rw [a, b]; exact h3
    · have e' : ¬ q.1 = k := fun z => e (h1.trans z)
      have a : getT3 (p :: ps) k = getT3 ps k := by simp [getT3, List.find?_cons, e]
      have b : atKey (q :: qs) k = atKey qs k := by simp [atKey, List.find?_cons, e']
      rw [a, b]; exact ih
theorem RT3.keys {es : List T3} {xs : List (List Int × Addr × Value)} (r : RT3 es xs) : es.map (·.1) = xs.map (·.1) := by
  induction r with
  | nil => rfl
  | cons h t ih => rw [List.map_cons, List.map_cons, ih, h.1]
theorem items_int {P : Program} {w : World} : ∀ {ks : List Int} {us : List Value}, Vals (ks.map V.int) us → ItemsAre (intKind P w) ks us
  | [], _, r => by rw [List.map_nil] at r; cases r; exact .nil
  | k :: ks, _, r => by
    rw [List.map_cons] at r
    cases r with
    | cons h t =>
      refine .cons ?_ (items_int t)
      obtain ⟨tk, e⟩ := (show ∃ t, _ = Value.int k t from h)
      subst e
      simp [intKind, Value.isInt]
theorem dtO_code {a c : Addr} {od : Obj} {q : Str} {es : List T3} (o : ObjDt a od es) : dtO a od ≠ LamX.CodeO c q := by
  intro h
  obtain ⟨_, _, _, _, _, des, ep, _, hd, _⟩ := o
  have hφ : (fun h : Heap => h.get? a = some od) = fun h => ∃ (oc : Obj) (vs : Array Value) (t : Tok), h.get? c = some oc ∧ oc.data = .fields vs ∧ vs[1]? = some (.str q t) := by
    unfold dtO LamX.CodeO at h
    injection h
  let co : Obj := { cls := .none, data := .fields #[.none, .str q 0] }
  let hp : Heap := { objs := Array.replicate (c + 1) co }
  have hg : ∀ b, b ≤ c → hp.get? b = some co := fun b hb => by
    have e : hp.objs[b]? = some co := by
      show (Array.replicate (c + 1) co)[b]? = some co
      rw [Array.getElem?_replicate, if_pos (show b < c + 1 from Nat.lt_succ_of_le hb)]
    unfold Heap.get?
    rw [e]
  have hn : ∀ b o, hp.get? b = some o → o = co := fun b o ho => by
    unfold Heap.get? at ho
    have e : hp.objs[b]? = if b < c + 1 then some co else none := by
      show (Array.replicate (c + 1) co)[b]? = _
      rw [Array.getElem?_replicate]
    rw [e] at ho
    split at ho
    · cases ho
    · split at ho
      · cases ho; rfl
      · cases ho
  have h1 : (fun h : Heap => ∃ (oc : Obj) (vs : Array Value) (t : Tok), h.get? c = some oc ∧ oc.data = .fields vs ∧ vs[1]? = some (.str q t)) hp :=
    ⟨co, _, 0, hg c (Nat.le_refl _), rfl, rfl⟩
  rw [← hφ] at h1
  have h2 := hn a od h1
  rw [h2] at hd
  cases hd
section
variable {X : Cx} {pins : List (Addr × Obj)} {σ : St} {H : Hp} {s : Shared} {a b : Addr} {od : Obj} {es : List T3} {k : List Int} {v : V} {A : Around} {E : Value → Shared → Prop}
theorem key3 (I : Inv X pins σ H s) (hb : SqT X.K H b (k.map V.int)) : (tupleKind (intKind X.prog X.w)).is s.heap k b := by
  obtain ⟨its, r, ⟨o, e1, e2, n, e3⟩, _⟩ := I.tuple hb
  exact ⟨o, its.toArray, n, e1, e2, e3, by simpa using items_int r⟩
theorem dt3_at (I : Inv X pins σ H s) (e : Rd H a (dtO a od)) : s.heap.get? a = some od := (e.ok I.hok).1
theorem rt3_mem : ∀ {es : List T3} {xs : List (List Int × Addr × Value)}, RT3 es xs → ∀ x ∈ xs, ∃ e ∈ es, e.1 = x.1 ∧ e.2.1 = x.2.1
  | _, _, .nil, x, hx => nomatch hx
  | _, _, .cons (a := p) (b := q) h t, x, hx => by
    rcases List.mem_cons.mp hx with rfl | hx
    · exact ⟨p, List.mem_cons_self, h.1, h.2.1⟩
    · obtain ⟨e, he, r⟩ := rt3_mem t x hx
      exact ⟨e, List.mem_cons_of_mem _ he, r⟩
theorem dt3_of (I : Inv X pins σ H s) (h : s.heap.get? a = some od) (o : ObjDt a od es) (hk : KT3 X.K H es) : ∃ xs, RT3 es xs ∧ s.heap.DictOfH (tupleKind (intKind X.prog X.w)) a xs := by
  obtain ⟨z, hd, hn, hx, xs, des, ep, r, hdt, hent⟩ := o
  refine ⟨xs, r, od, des, ep, h, hx, hdt, hent _ _, fun x hx => ?_, by rw [← r.keys]; exact hn⟩
  obtain ⟨e, he, h1, h2⟩ := rt3_mem r x hx
  rw [← h1, ← h2]
  exact key3 I (hk e he)
theorem dt3 (I : Inv X pins σ H s) (e : Rd H a (dtO a od)) (o : ObjDt a od es) (hk : KT3 X.K H es) : ∃ xs, RT3 es xs ∧ s.heap.DictOfH (tupleKind (intKind X.prog X.w)) a xs := dt3_of I (dt3_at I e) o hk
/-- d[y] -/
theorem ix_dt (hu : X.A.units + 1 < cLine) : IxR X (fun x y H Q => ∃ (a b : Addr) (od : Obj) (es : List T3) (k : List Int) (v : V), x = .ref a ∧ y = .ref b ∧ Rd H a (dtO a od) ∧ ObjDt a od es ∧ KT3 X.K H es ∧ SqT X.K H b (k.map V.int) ∧ getT3 es k = some v ∧ Q v H) := by
  intro value slice pins s σ H x y v u Q I rx ry h hs
  obtain ⟨a, b, od, es, k, z, rfl, rfl, e, o, hk, hb, g, q⟩ := h
  cases rx
  cases ry
  obtain ⟨xs, r, m⟩ := dt3 I e o hk
  have rg := r.get k
  rw [g] at rg
  obtain ⟨w', hw, rw'⟩ := RelO.some_of (v := z) (o := (atKey xs k).map (·.2)) rg
  obtain ⟨p, hp, hp2⟩ := Option.map_eq_some_iff.mp hw
  refine subscriptTail_builtinR (x := w') m.typeIs slot_dict_getitem.lookup (wpAny_getItem_heap (Q := fun r s' => r = w' ∧ EP X pins σ Q r s') (tupleKind_room_in1 hu) (key3 I hb) m hp ⟨hp2, ?_⟩) hs
  rw [hp2]
  exact ⟨z, H, I.tok _, rw', q⟩
theorem op_notIn_dt (hu : X.A.units + 1 < cLine) : OpR X (compareOp .NotIn) (fun x y H Q => ∃ (a b : Addr) (od : Obj) (es : List T3) (k : List Int), y = .ref a ∧ x = .ref b ∧ Rd H a (dtO a od) ∧ ObjDt a od es ∧ KT3 X.K H es ∧ SqT X.K H b (k.map V.int) ∧ Q (.bl (!(getT3 es k).isSome)) H) := by
  intro pins s σ H x y v u Q I rx ry h
  obtain ⟨a, b, od, es, k, rfl, rfl, e, o, hk, hb, q⟩ := h
  cases rx
  cases ry
  obtain ⟨xs, r, m⟩ := dt3 I e o hk
  refine wpAny_notIn_heap (tupleKind_room_in1 hu) (key3 I hb) o.2.1 m ⟨.bl _, H, I.tok _, ?_, q⟩
  have q := (r.get k).isSome_eq
  rw [Option.isSome_map] at q
  rw [q]; rfl
end
end L2
end
section
namespace PP
open PySem L2
inductive D where
  | non | bl (b : Bool) | int (i : Int) | str (s : Str)
  | lst (xs : List D) | tup (xs : List D) | kst (xs : List D)
  | dK (ks : List Key) (vs : List D) | dT (ks : List (List Int)) (vs : List D)
  | obj (c : Nat) (ks : List Nat) (vs : List D)
  | cls (c : Nat)
  | err (c : Nat) (ks : List Nat) (vs : List D)
/-- as plain data; none where a dict or an object is within -/
inductive O2 where
  | add | sub | mul | fdiv | mod | pow | shl | shr | band | bor | bxor | lt | le | gt | ge | eq | ne | isin | notin | is | isnot
inductive O1 where
  | neg | inv | rev
inductive B where
  | len | int | abs | list | tuple | repr | str | isInt | isBool | isTuple | isList | isStr | max2 | min2 | bool
  | all | any | sum | maxL | minL | sorted | isLT | zipL | split | join | index | strIx | rev | rngL | sset | sortR
  | inst (c : Nat) | dcp | dprs | dprK
mutual
inductive Tg where
  | nm (i : Nat) | tup (ts : Tgs)
inductive Tgs where
  | nil | cons (t : Tg) (ts : Tgs)
end
inductive Sl where
  | un | fz (d : D) | ow (d : D) | io (d : D) | fn
abbrev Env := List Sl
inductive U where
  | d (x : D) | sl (i : Nat) | nw (x : D)
abbrev Exn := Nat × List Nat × List D
inductive R (α : Type) where
  | ok (a : α) (env : Env) | exc (x : Exn) (env : Env) | bad
inductive Ar where
  | fz (d : D) | io (d : D)
inductive RC where
  | ok (r : U) (outs : List D) | exc (x : Exn) (outs : List D) | bad
abbrev CallF := Nat → List Ar → RC
inductive Fl where
  | next | brk | cont | ret (u : U)
mutual
inductive Ex where
  | var (i : Nat)
  | cst (d : D)
  | op2 (o : O2) (a b : Ex)
  | op1 (o : O1) (a : Ex)
  | chain (o p : O2) (a b c : Ex)
  | chain3 (o p r : O2) (a b c d : Ex)
  | and (a b : Ex) | or (a b : Ex) | not (a : Ex)
  | ife (c a b : Ex)
  | tup (es : Exs) | lst (es : Exs) | dic
  | call (f : Nat) (ms : List Bool) (es : Exs)
  | callP (f : Nat) (ms : List Bool) (pm : List Nat) (es : Exs)
  | bi (b : B) (es : Exs)
  | ix (a i : Ex)
  | slice (a : Ex) (bl bh : Bool) (lo hi : Ex)
  | fld (a : Ex) (k : Nat)
  | opo (o : O2) (cs ts : List Nat) (a b : Ex)
  | callD (f : Nat) (ms : List Bool) (es : Exs) (ds : List D)
  | mk (c : Nat) (ms : List Bool) (es : Exs) (ds : List D)
  | mth (io : Bool) (a : Ex) (m : Nat) (cs : List Nat) (ms : List Bool) (es : Exs) (ds : List D)
  | isObj (cs : List Nat) (a : Ex)
  | prp (a : Ex) (m : Nat) (cs : List Nat)
  | ino (neg : Bool) (cs : List Nat) (a b : Ex)
  | neo (cs : List Nat) (a b : Ex)
  | lc (vs : List Nat) (tg : Tg) (it : It) (hc : Bool) (c e : Ex)
  | lcX (m : Nat) (cs : List Nat) (a : Ex) (es : Exs) (ds : List D)
  | popI (i : Nat) (e : Ex)
  | bm (b : B) (o e : Ex)
  | lenO (cs : List Nat) (a : Ex)
  | fstr (es : Exs)
  | strO (cs : List Nat) (a : Ex)
  | mkP (c : Nat) (pm : List Nat) (es : Exs)
  | mkEP (c : Nat) (ks : List Nat) (pm : List Nat) (es : Exs)
  | mkE (c : Nat) (ks : List Nat) (es : Exs)
  | heard (f : Nat) (vs : List Nat) (e : Ex)
  | heardK (f : Nat) (vs : List Nat) (e : Ex)
  | ixK (i : Nat) (k : Ex) | dgt (i : Nat) (k x : Ex)
  | ask (i : Nat)
  | callS (f : Nat) (es : Exs)
  | cmt (c m n : Nat) (es : Exs)
  | mkL (i c n : Nat) (es : Exs)
  | mkLS (i c : Nat) (es : Exs)
  | getO (cs : List Nat) (a b : Ex)
  | calO (cs : List Nat) (n : Nat) (a : Ex) (es : Exs)
  | mkS (c : Nat) (es : Exs)
  | opu (m : Nat) (cs : List Nat) (a : Ex)
  | keep (a : Ex)
  | dicT | dis1 (i j m n : Int) | dgtT (a k x : Ex) | booO (cs : List Nat) (a : Ex)
  | mkF (c n : Nat) (es : Exs) | callF (f n : Nat) (es : Exs) | neL (cs : List Nat) (a b : Ex)
  | lsI (it : It)
  | dcT (vs : List Nat) (tg : Tg) (it : It) (k e : Ex) | dgtI (i : Nat) (k x : Ex) | cmpT (le : Bool) (a b : Ex)
  | hk (g : CallF → Env → R U)
  | popT (i : Nat) (k : Ex) | lsT (i : Nat) | emT (ne : Bool) (i : Nat) | dcK (vs : List Nat) (tg : Tg) (it : It) (k e : Ex)
inductive Exs where
  | nil | cons (e : Ex) (es : Exs) | star (e : Ex) (es : Exs)
inductive It where
  | seq (e : Ex) | rng (lo hi : Ex) | down (lo hi : Ex) | enum (e : Ex) | zip (a b : Ex) | str (e : Ex) | keys (i : Nat) | keysT (e : Ex) | own (cs : List Nat) (j : Nat) (e : Ex)
  | gen (m : Nat) (cs : List Nat) (a : Ex) (es : Exs) (ds : List D) | genF (f : Nat) (es : Exs) (ds : List D) | zipG (i j : It)
  | hk (g : CallF → Env → R (List D))
end
inductive SE where
  | c (d : D) | l (ds : List D) | lt (ds : List D)
mutual
inductive S where
  | asg (i : Nat) (e : Ex)
  | setI (i : Nat) (x e : Ex)
  | setK (i : Nat) (x e : Ex)
  | setT (i : Nat) (x e : Ex)
  | app (i : Nat) (e : Ex)
  | ext (i : Nat) (e : Ex)
  | aug (i : Nat) (o : O2) (e : Ex)
  | ex (e : Ex)
  | iff (c : Ex) (a b : Ss)
  | forr (i : Nat) (n : Ex) (b : Ss)
  | forl (i : Nat) (l : Ex) (b : Ss)
  | whil (c : Ex) (b : Ss)
  | ret (e : Ex) | retN | pass | brk | cont | never
  | par (is : List Nat) (es : Exs)
  | parK (i j : Nat) (a b : Ex)
  | parL (i j : Nat) (a : Ex) (d : D)
  | parL3 (i j k : Nat) (a : Ex) (d d2 : D)
  | parN (i j : Nat) (a : Ex)
  | parS (is : List Nat) (ses : List SE)
  | unp (is : List Nat) (e : Ex)
  | setF (i : Nat) (cs : List Nat) (k : Nat) (e : Ex)
  | fort (tg : Tg) (it : It) (b : Ss)
  | raise (c : Nat) (ks : List Nat) (es : Exs)
  | tryC (b : Ss) (cs : List Nat) (i j : Nat)
  | asgT (tg : Tg) (e : Ex)
  | hk (g : CallF → Env → R Fl)
  | unpF (i : Nat) (cs ks : List Nat) (e : Ex) | setO (i : Nat) (cs : List Nat) (x e : Ex) | setP (i : Nat) (cs : List Nat) (m : Nat) (e : Ex)
inductive Ss where
  | nil | cons (s : S) (r : Ss)
end
mutual
inductive G where
  | pl (s : S) | yl (e : Ex) | fr (tg : Tg) (it : It) (b : Gs) | ife (c : Ex) (a b : Gs)
inductive Gs where
  | nil | cons (g : G) (r : Gs)
end
def R.bind {α β : Type} (r : R α) (f : α → Env → R β) : R β := match r with
  | .ok a env => f a env
  | .exc x env => .exc x env
  | .bad => .bad
@[simp] theorem R.bind_ok {α β : Type} (a : α) (env : Env) (f : α → Env → R β) : (R.ok a env).bind f = f a env := rfl
@[simp] theorem R.bind_exc {α β : Type} (x : Exn) (env : Env) (f : α → Env → R β) : (R.exc x env : R α).bind f = .exc x env := rfl
@[simp] theorem R.bind_bad {α β : Type} (f : α → Env → R β) : (R.bad : R α).bind f = .bad := rfl
def orBad {α β : Type} (o : Option α) (f : α → R β) : R β := match o with
  | some a => f a
  | none => .bad
@[simp] theorem orBad_some {α β : Type} (a : α) (f : α → R β) : orBad (some a) f = f a := rfl
@[simp] theorem orBad_none {α β : Type} (f : α → R β) : orBad (none : Option α) f = .bad := rfl
def getS (env : Env) (i : Nat) : Sl := env.getD i .un
def rdS : Sl → Option D
  | .fz d => some d | .ow d => some d | .io d => some d | .un => none | .fn => none
def rdU (env : Env) : U → Option D
  | .d x => some x | .nw x => some x | .sl i => rdS (getS env i)
def rdAll (env : Env) : List U → Option (List D)
  | [] => some []
  | u :: us => match rdU env u, rdAll env us with
    | some d, some ds => some (d :: ds)
    | _, _ => none
def pend : U → U
  | .nw x => .d x | u => u
/-- take a value for good: an owned list is owned no more -/
def fzU (env : Env) : U → Option (D × Env)
  | .d x => some (x, env) | .nw x => some (x, env)
  | .sl i => match getS env i with
    | .fz d => some (d, env) | .ow d => some (d, env.set i (.fz d)) | _ => none
def LIM : Nat := 100000
def truD : D → Option Bool
  | .non => some false | .bl b => some b | .int i => some (i != 0)
  | .str s => if s.length ≤ LIM then some ((s.length : Int) != 0) else none
  | .lst xs => some (!xs.isEmpty) | .tup xs => some (!xs.isEmpty) | .kst xs => some (!xs.isEmpty)
  | _ => none
mutual
def toPy : D → Option PyData
  | .non => some .none | .bl b => some (.bool b) | .int i => some (.int i) | .str s => some (.str s)
  | .lst xs => (toPyAll xs).map .list | .tup xs => (toPyAll xs).map .tuple | .kst xs => (toPyAll xs).map .list
  | _ => none
def toPyAll : List D → Option (List PyData)
  | [] => some []
  | d :: ds => match toPy d, toPyAll ds with
    | some p, some ps => some (p :: ps)
    | _, _ => none
end
def eqP (x y : D) : Option Bool := match toPy x, toPy y with
  | some p, some q => if SeqAt.shaped p && SeqAt.shaped q then some (PyData.eqv p q) else none
  | _, _ => none
def eqD (x y : D) : Option Bool := match x, y with
  | .str a, .str b => some (decide (a = b))
  | x, y => eqP x y
/-- x in a list of data -/
def inD (x : D) (ys : List D) : Option D := match toPy x, toPyAll ys with
  | some p, some ps => if SeqAt.shaped p && SeqAt.shaped (.list ps) then some (.bl (ps.any fun z => PyData.eqv z p)) else none
  | _, _ => none
/-- one sign in a text -/
def inS (x y : Str) : Option D := match x.cps.toList with
  | [c] => some (.bl (decide (c ∈ y.cps.toList)))
  | _ => none
def bnd64 (i : Int) : Bool := decide (-(2 ^ 64) < i) && decide (i < 2 ^ 64)
def mulOk (i j : Int) : Bool := bnd64 i || bnd64 j || decide (i.natAbs.log2 + j.natAbs.log2 < 1000000)
def divOk (j : Int) : Bool := decide (0 < j) && decide (j.natAbs.log2 < 9000)
def shlOk (i j : Int) : Bool := decide (0 ≤ j) && decide (j ≤ 1000000) && decide (i.natAbs.log2 < 1000000)
def powOk (i j : Int) : Bool := decide (0 ≤ j) && decide (j ≤ 1000000) && decide (i.natAbs < 2 ^ 64)
/-- a text so many times -/
def repS (z : Str) (k : Nat) : Str := ⟨(List.replicate k z.cps).foldl (· ++ ·) #[]⟩
def intsD : List D → Option (List Int)
  | [] => some []
  | .int b :: r => (intsD r).map (b :: ·)
  | _ => none
def getK (ks : List Key) (vs : List D) (k : Key) : Option D := ((ks.zip vs).find? fun kv => decide (kv.1 = k)).map (·.2)
def putKP (kvs : List (Key × D)) (k : Key) (d : D) : List (Key × D) :=
  if (kvs.any fun kv => decide (kv.1 = k)) = true then kvs.map (fun kv => if kv.1 = k then (kv.1, d) else kv) else kvs ++ [(k, d)]
def getDT (ks : List (List Int)) (vs : List D) (k : List Int) : Option D := ((ks.zip vs).find? fun p => decide (p.1 = k)).map (·.2)
def putPT (ps : List (List Int × D)) (k : List Int) (d : D) : List (List Int × D) :=
  if (ps.any fun p => decide (p.1 = k)) = true then ps.map (fun p => if p.1 = k then (p.1, d) else p) else ps ++ [(k, d)]
def mkDT (ps : List (List Int × D)) : D := .dT (ps.map (·.1)) (ps.map (·.2))
def keyTD (k : List Int) : D := .tup (k.map .int)
def keyTI : D → Option (List Int)
  | .tup ys => intsD ys | _ => none
/-- keys that may be copied -/
def okT : List Int → Bool
  | [x, y] => decide (0 ≤ x) && decide (x < 32) && decide (0 ≤ y) && decide (y < 32)
  | _ => false
def pairsDT : List D → Option (List (List Int × D))
  | [] => some []
  | .tup [.tup ys, v] :: r => match intsD ys, pairsDT r with
    | some k, some ps => some ((k, v) :: ps)
    | _, _ => none
  | _ => none
def pairsDK : List D → Option (List (Key × D))
  | [] => some []
  | .tup [.int i, v] :: r => (pairsDK r).map fun ps => (.inl i, v) :: ps
  | _ => none
/-- a number in a tuple of numbers -/
def inT : D → List D → Option D
  | .int i, ys => match intsD ys with
    | some ns => some (.bl (ns.any fun n => n == i))
    | none => inD (.int i) ys
  | x, ys => inD x ys
def op2 : O2 → D → D → Option D
  | .add, .int i, .int j => some (.int (i + j))
  | .add, .lst xs, .lst ys => if xs.length + ys.length ≤ LIM then some (.lst (xs ++ ys)) else none
  | .add, .str x, .str y => if x.length + y.length ≤ LIM then some (.str (x ++ y)) else none
  | .sub, .int i, .int j => some (.int (i - j))
  | .mul, .int i, .int j => if mulOk i j then some (.int (i * j)) else none
  | .mul, .lst xs, .int j => if decide (0 ≤ j) && decide (j ≤ 1000) && decide (xs.length * j.toNat ≤ LIM) then some (.lst (List.replicate j.toNat xs).flatten) else none
  | .mul, .str z, .int j => if decide (2 ≤ j) && decide (j ≤ 1000) && decide (1 ≤ z.length) && decide (z.length * j.toNat ≤ LIM) then some (.str (repS z j.toNat)) else none
  | .fdiv, .int i, .int j => if divOk j then some (.int (i / j)) else none
  | .mod, .int i, .int j => if 0 < j then some (.int (i % j)) else none
  | .pow, .int i, .int j => if powOk i j then some (.int (i ^ j.toNat)) else none
  | .shl, .int i, .int j => if shlOk i j then some (.int (i * 2 ^ j.toNat)) else none
  | .shr, .int i, .int j => if 0 ≤ j then some (.int (i / 2 ^ j.toNat)) else none
  | .band, .int i, .int j => some (.int (Builtin.bitAnd i j))
  | .bor, .int i, .int j => some (.int (Builtin.bitOr i j))
  | .bxor, .int i, .int j => some (.int (Builtin.bitXor i j))
  | .lt, .int i, .int j => some (.bl (decide (i < j)))
  | .le, .int i, .int j => some (.bl (decide (i ≤ j)))
  | .gt, .int i, .int j => some (.bl (decide (j < i)))
  | .ge, .int i, .int j => some (.bl (decide (j ≤ i)))
  | .eq, x, y => (eqD x y).map .bl
  | .ne, x, y => (eqD x y).map fun b => .bl (!b)
  | .isin, x, .lst ys => inD x ys
  | .isin, x, .kst ys => inD x ys
  | .isin, x, .dT ks vs => (keyTI x).map fun k => .bl (getDT ks vs k).isSome
  | .isin, x, .tup ys => inT x ys
  | .isin, .str x, .str y => inS x y
  | .notin, x, .lst ys => (inD x ys).map fun d => match d with | .bl b => .bl (!b) | d => d
  | .notin, x, .kst ys => (inD x ys).map fun d => match d with | .bl b => .bl (!b) | d => d
  | .notin, x, .tup ys => (inD x ys).map fun d => match d with | .bl b => .bl (!b) | d => d
  | .notin, x, .dT ks vs => (keyTI x).map fun k => .bl (!(getDT ks vs k).isSome)
  | .notin, .str x, .str y => (inS x y).map fun d => match d with | .bl b => .bl (!b) | d => d
  | .is, x, .non => some (.bl (match x with | .non => true | _ => false))
  | .isnot, x, .non => some (.bl (match x with | .non => false | _ => true))
  | .is, x, .bl b => some (.bl (match x with | .bl c => b == c | _ => false))
  | .isnot, x, .bl b => some (.bl (match x with | .bl c => !(b == c) | _ => true))
  | _, _, _ => none
def op1 : O1 → D → Option D
  | .neg, .int i => some (.int (-i))
  | .inv, .int i => some (.int (Builtin.bitNot i))
  | .rev, .lst xs => some (.lst xs.reverse)
  | .rev, .kst xs => some (.lst xs.reverse)
  | .rev, .tup xs => some (.tup xs.reverse)
  | _, _ => none
def cutD (xs : List D) (lo hi : Option Int) : List D := (xs.drop (HT.sIx xs.length 0 lo)).take (HT.sIx xs.length xs.length hi - HT.sIx xs.length 0 lo)
def ixD : D → D → Option D
  | .lst xs, .int i => atI xs i
  | .tup xs, .int i => atI xs i
  | .kst xs, .int i => atI xs i
  | .dT ks vs, .tup ys => (intsD ys).bind fun k => getDT ks vs k
  | .str z, .int i => if z.length ≤ LIM then (atI z.cps.toList i).map fun c => .str ⟨#[c]⟩ else none
  | _, _ => none
def blsD : List D → Option (List Bool)
  | [] => some []
  | .bl b :: r => (blsD r).map (b :: ·)
  | _ => none
def strsD : List D → Option (List Str)
  | [] => some []
  | .str b :: r => (strsD r).map (b :: ·)
  | _ => none
/-- the place of x in a list of data -/
def indexP (p : PyData) : List PyData → Nat → Option Nat
  | [], _ => none
  | z :: r, j => if PyData.eqv z p then some j else indexP p r (j + 1)
def indexD (x : D) (ys : List D) : Option D := match toPy x, toPyAll ys with
  | some p, some ps => if SeqAt.shaped p && SeqAt.shaped (.list ps) then (indexP p ps 0).map fun (j : Nat) => .int j else none
  | _, _ => none
/-- none twice -/
def ddp : List Int → List Int
  | [] => []
  | a :: r => if (ddp r).contains a then ddp r else a :: ddp r
/-- built-in functions: what they give (fresh lists come as .nw) -/
def biD : B → List D → Option D
  | .len, [.lst xs] => some (.int xs.length)
  | .len, [.tup xs] => some (.int xs.length)
  | .len, [.kst xs] => some (.int xs.length)
  | .len, [.str x] => if x.length ≤ LIM then some (.int x.length) else none
  | .tuple, [.lst xs] => some (.tup xs)
  | .tuple, [.kst xs] => some (.tup xs)
  | .tuple, [.tup xs] => some (.tup xs)
  | .str, [.int i] => if decide (i.natAbs.log2 < 1920) then some (.str (toString i)) else none
  | .int, [.str x] => if x.length ≤ 640 then (PySem.intText? x).map .int else none
  | .all, [.lst xs] => (blsD xs).map fun bs => .bl (bs.all id)
  | .any, [.lst xs] => (blsD xs).map fun bs => .bl (bs.any id)
  | .isLT, [x] => match x with | .obj _ _ _ => none | .dT _ _ => none | .cls _ => none | .err _ _ _ => none | .lst _ => some (.bl true) | .kst _ => some (.bl true) | .tup _ => some (.bl true) | _ => some (.bl false)
  | .split, [.str x, .str y] => if x.length ≤ LIM && !(y.length == 0) then some (.lst ((Txt.split x y).map .str)) else none
  | .join, [.str x, .lst ys] => (strsD ys).bind fun zs => if (zs.map (·.length)).sum + zs.length * x.length ≤ LIM then some (.str (Txt.join x zs)) else none
  | .index, [.lst xs, x] => indexD x xs
  | .index, [.kst xs, x] => indexD x xs
  | .rev, [.lst xs] => some (.lst xs.reverse)
  | .rev, [.kst xs] => some (.lst xs.reverse)
  | .rev, [.tup xs] => some (.tup xs.reverse)
  | .sum, [.lst xs] => (intsD xs).map fun ns => .int ns.sum
  | .sorted, [.lst xs] => (intsD xs).map fun ns => .lst ((ns.mergeSort fun a b => decide (a ≤ b)).map .int)
  | .sortR, [.lst xs] => (intsD xs).map fun ns => .lst ((ns.mergeSort fun a b => decide (a ≤ b)).reverse.map .int)
  | .sset, [.lst xs] => (intsD xs).bind fun ns => if ns.length ≤ 4000 then some (.lst (((ddp ns).mergeSort fun a b => decide (a ≤ b)).map .int)) else none
  | .rngL, [.int n] => if (decide (0 ≤ n) && decide (n ≤ (LIM : Int))) = true then some (.lst ((List.range n.toNat).map fun (k : Nat) => .int (k : Int))) else none
  | .inst c, [] => some (.obj c [] [])
  | .dcp, [.dT ks vs] => if ks.all okT then some (.dT ks vs) else none
  | .dprs, [.lst ps] => (pairsDT ps).map fun qs => mkDT (qs.foldl (fun acc q => putPT acc q.1 q.2) [])
  | .dprK, [.lst ps] => (pairsDK ps).map fun qs => .dK ((qs.foldl (fun acc q => putKP acc q.1 q.2) []).map (·.1)) ((qs.foldl (fun acc q => putKP acc q.1 q.2) []).map (·.2))
  | .maxL, [.lst xs] => (intsD xs).bind fun ns => ns.max?.map .int
  | .minL, [.lst xs] => (intsD xs).bind fun ns => ns.min?.map .int
  | .zipL, [.lst xs, .lst ys] => if xs.length ≤ LIM then some (.lst ((xs.zip ys).map fun p => .tup [p.1, p.2])) else none
  | .int, [.int i] => some (.int i)
  | .int, [.bl b] => some (.int (if b then 1 else 0))
  | .bool, [.bl b] => some (.bl b)
  | .bool, [.int i] => some (.bl (i != 0))
  | .abs, [.int i] => some (.int (if i < 0 then -i else i))
  | .max2, [.int i, .int j] => some (.int (if j > i then j else i))
  | .min2, [.int i, .int j] => some (.int (if j < i then j else i))
  | .list, [.lst xs] => some (.lst xs)
  | .list, [.tup xs] => some (.lst xs)
  | .list, [.kst xs] => some (.lst xs)
  | .isInt, [x] => match x with | .cls _ => none | .dT _ _ => none | .int _ => some (.bl true) | .bl _ => some (.bl true) | _ => some (.bl false)
  | .isBool, [x] => match x with | .cls _ => none | .dT _ _ => none | .bl _ => some (.bl true) | _ => some (.bl false)
  | .isTuple, [x] => match x with | .cls _ => none | .dT _ _ => none | .tup _ => some (.bl true) | _ => some (.bl false)
  | .isList, [x] => match x with | .cls _ => none | .dT _ _ => none | .lst _ => some (.bl true) | .kst _ => some (.bl true) | _ => some (.bl false)
  | .isStr, [x] => match x with | .cls _ => none | .dT _ _ => none | .str _ => some (.bl true) | _ => some (.bl false)
  | .repr, [x] => match x with
    | .dK [] [] => some (.str "{}")
    | x => match toPy x with
      | some p => if p.showable && !p.hasDict && decide (p.shown.length ≤ LIM) && decide (p.depth ≤ 64) then some (.str p.shown) else none
      | none => none
  | _, _ => none
/-- the arguments of a call, once all are evaluated -/
def argsOf (env : Env) : List Bool → List U → Option (List Ar)
  | [], [] => some []
  | false :: ms, .d x :: us => (argsOf env ms us).map (.fz x :: ·)
  | true :: ms, .sl i :: us => match getS env i with
    | .ow d => (argsOf env ms us).map (.io d :: ·)
    | .io d => (argsOf env ms us).map (.io d :: ·)
    | _ => none
  | _, _ => none
/-- the slots that a call may change -/
def ioSlots : List U → List Nat
  | [] => []
  | .sl i :: us => i :: ioSlots us
  | _ :: us => ioSlots us
def setIO (s : Sl) (d : D) : Sl := match s with
  | .ow _ => .ow d | .io _ => .io d | s => s
def putIO (env : Env) : List Nat → List D → Env
  | i :: is, d :: ds => putIO (env.set i (setIO (getS env i) d)) is ds
  | _, _ => env
def dupFree : List Nat → Bool
  | [] => true
  | i :: is => !is.contains i && dupFree is
/-- in another order -/
def permL {α : Type} (pm : List Nat) (xs : List α) : List α := pm.filterMap fun i => xs[i]?
/-- a bound of a slice -/
def partD (u : U) (env : Env) : R (Option Int) := orBad (rdU env u) fun d => match d with
  | .int i => .ok (some i) env
  | _ => .bad
def optP (b : Bool) (f : Env → R U) (env : Env) : R (Option Int) := match b with
  | true => (f env).bind partD
  | false => .ok none env
/-- a def's call, once its arguments stand -/
def runC (cl : CallF) (f : Nat) (ms : List Bool) (us : List U) (env : Env) : R U := orBad (argsOf env ms us) fun as =>
  if dupFree (ioSlots us) then match cl f as with
    | .ok r outs => .ok r (putIO env (ioSlots us) outs)
    | .exc x outs => .exc x (putIO env (ioSlots us) outs)
    | .bad => .bad
  else .bad
/-- the number of a class's special thing -/
def spec (c m : Nat) : Nat := 1000 + 1000 * c + m
def opc : O2 → Nat
  | .add => 1 | .sub => 2 | .mul => 3 | .fdiv => 4 | .mod => 5 | .pow => 6 | .shl => 7 | .shr => 8 | .band => 9 | .bor => 10 | .bxor => 11 | .lt => 12 | .le => 13 | .gt => 14 | .ge => 15 | .eq => 16 | .ne => 16 | .isin => 17 | .notin => 17 | .is => 18 | .isnot => 18
def fldD : List Nat → List D → Nat → Option D
  | k :: ks, v :: vs, j => if k = j then some v else fldD ks vs j
  | _, _, _ => none
def putD : List Nat → List D → Nat → D → List Nat × List D
  | k :: ks, v :: vs, j, x => if k = j then (k :: ks, x :: vs) else (k :: (putD ks vs j x).1, v :: (putD ks vs j x).2)
  | _, _, j, x => ([j], [x])
def fldOf : D → Nat → Option D
  | .obj _ ks vs, j => fldD ks vs j
  | .err _ ks vs, j => fldD ks vs j
  | _, _ => none
/-- who takes a method's call: its class, how it is handed in -/
def recvU (io : Bool) (env : Env) (u : U) : Option (Nat × U × Env) := match io with
  | true => match u with
    | .sl i => match getS env i with
      | .ow (.obj c _ _) => some (c, .sl i, env)
      | .io (.obj c _ _) => some (c, .sl i, env)
      | _ => none
    | _ => none
  | false => match fzU env u with
    | some (.obj c ks vs, env') => some (c, .d (.obj c ks vs), env')
    | _ => none
def isObjOf (cs : List Nat) : D → Bool
  | .obj c _ _ => cs.contains c
  | .err c _ _ => cs.contains c
  | _ => false
def isDT : D → Bool
  | .dT _ _ => true | _ => false
def isClsD : D → Bool
  | .cls _ => true | .dT _ _ => true | _ => false
/-- no plain value: a class, an exception -/
def oddD : D → Bool
  | .cls _ => true | .err _ _ _ => true | .dT _ _ => true | _ => false
def kdD : D → Nat
  | .non => 0 | .bl _ => 1 | .int _ => 2 | .str _ => 3 | .lst _ => 4 | .kst _ => 4 | .tup _ => 5 | .dK _ _ => 6 | .dT _ _ => 6 | .obj _ _ _ => 7 | .cls _ => 8 | .err _ _ _ => 9
def isCmpO : O2 → Bool
  | .lt => true | .le => true | .gt => true | .ge => true | .eq => true | .ne => true | _ => false
/-- which right ones an own operator takes here -/
def okR (o : O2) (ts : List Nat) (c : Nat) : D → Bool
  | .obj c' _ _ => isCmpO o || c == c'
  | .cls _ => false
  | .err _ _ _ => false
  | .dT _ _ => false
  | y => isCmpO o || ts.contains (kdD y)
/-- an operator where the left one may be an object of an own class -/
def ownOp (cl : CallF) (o : O2) (cs ts : List Nat) (x y : D) (env : Env) : R U := match x with
  | .obj c ks vs => if !(cs.contains c && okR o ts c y) then .bad else match cl (spec c (opc o)) [.fz (.obj c ks vs), .fz y] with
    | .ok r _ => match o with
      | .ne => match r with
        | .d (.bl t) => .ok (.nw (.bl (!t))) env
        | _ => .bad
      | _ => .ok r env
    | .exc x _ => .exc x env
    | .bad => .bad
  | x => orBad (op2 o x y) fun z => .ok (.nw z) env
/-- x in o, by o's own def -/
def ownIn (cl : CallF) (neg : Bool) (cs : List Nat) (x y : D) (env : Env) : R U := match y with
  | .obj c ks vs => if !cs.contains c then .bad else match cl (spec c 17) [.fz (.obj c ks vs), .fz x] with
    | .ok (.d (.bl t)) _ => .ok (.nw (.bl (if neg then !t else t))) env
    | .exc x _ => .exc x env
    | _ => .bad
  | y => orBad (op2 (if neg then .notin else .isin) x y) fun z => .ok (.nw z) env
/-- x != y, x of a class with its own == -/
def ownNe (cl : CallF) (cs : List Nat) (x y : D) (env : Env) : R U := match x with
  | .obj c ks vs => if !(cs.contains c && !oddD y) then .bad else match cl (spec c 16) [.fz (.obj c ks vs), .fz y] with
    | .ok (.d (.bl t)) _ => .ok (.nw (.bl (!t))) env
    | .exc x _ => .exc x env
    | _ => .bad
  | x => orBad (op2 .ne x y) fun z => .ok (.nw z) env
/-- an own sign ahead -/
def ownUn (cl : CallF) (m : Nat) (cs : List Nat) (x : D) (env : Env) : R U := match x with
  | .obj c ks vs => if !cs.contains c then .bad else match cl (spec c m) [.fz (.obj c ks vs)] with
    | .ok r _ => .ok r env
    | .exc x _ => .exc x env
    | .bad => .bad
  | _ => .bad
/-- x[y], x of a class with its own __getitem__ -/
def ownGet (cl : CallF) (cs : List Nat) (x y : D) (env : Env) : R U := match x with
  | .obj c ks vs => if !cs.contains c then .bad else match cl (spec c 18) [.fz (.obj c ks vs), .fz y] with
    | .ok r _ => .ok r env
    | .exc x _ => .exc x env
    | .bad => .bad
  | _ => .bad
def isObD : D → Bool
  | .obj _ _ _ => true | _ => false
/-- x(..), x of a class with its own __call__ -/
def ownCal (cl : CallF) (cs : List Nat) (x : D) (ds : List D) (env : Env) : R U := match x with
  | .obj c ks vs => if !cs.contains c then .bad else match cl (spec c 20) ((.obj c ks vs :: ds).map .fz) with
    | .ok r _ => .ok r env
    | .exc x _ => .exc x env
    | .bad => .bad
  | _ => .bad
/-- the class c stands at a name -/
def isClsN (c : Nat) : Sl → Bool
  | .fz (.cls c') => c == c' | _ => false
mutual
/-- equal by own ==s, told True by each -/
def eqOO (cl : CallF) (cs : List Nat) : D → D → Bool
  | .obj c ks vs, .obj c' ks' vs' => cs.contains c && (match cl (spec c 16) [.fz (.obj c ks vs), .fz (.obj c' ks' vs')] with
    | .ok (.d (.bl true)) _ => true
    | _ => false)
  | .lst xs, .lst ys => eqOOs cl cs xs ys
  | x, y => match eqP x y with
    | some true => true
    | _ => false
def eqOOs (cl : CallF) (cs : List Nat) : List D → List D → Bool
  | [], [] => true
  | x :: xs, y :: ys => eqOO cl cs x y && eqOOs cl cs xs ys
  | _, _ => false
end
mutual
/-- how deep lists stand in lists -/
def dpO : D → Nat
  | .lst xs => dpOs xs + 1
  | _ => 0
def dpOs : List D → Nat
  | [] => 0
  | x :: xs => max (dpO x) (dpOs xs)
end
/-- two lists whose items are equal by own ==s -/
def eqLL (cl : CallF) (cs : List Nat) : D → D → Bool
  | .lst xs, .lst ys => decide (dpOs xs ≤ 2) && eqOOs cl cs xs ys
  | _, _ => false
/-- a new object, made by __init__ -/
def makeO (cl : CallF) (c : Nat) (as : List Ar) (env : Env) : R U := match cl (spec c 0) (.io (.obj c [] []) :: as) with
  | .ok (.d .non) [o] => .ok (.nw o) env
  | .exc x _ => .exc x env
  | _ => .bad
def allFz : List Ar → Bool
  | [] => true | .fz _ :: as => allFz as | .io _ :: _ => false
/-- a list comprehension's turns -/
def lcD (body : D → Env → R (Option D)) : List D → Env → List D → R (List D)
  | [], env, acc => .ok acc env
  | d :: r, env, acc => match body d env with
    | .ok (some x) env1 => if acc.length < LIM then lcD body r env1 (acc ++ [x]) else .bad
    | .ok none env1 => lcD body r env1 acc
    | _ => .bad
def wipeE (env : Env) : List Nat → Env
  | [] => env
  | i :: vs => wipeE (env.set i .un) vs
def calmS : Sl → Bool
  | .un => true | .fz _ => true | _ => false
/-- the comprehension's own names are again what they were -/
def backE (env0 env : Env) : List Nat → Env
  | [] => env
  | i :: vs => backE env0 (env.set i (getS env0 i)) vs
mutual
def storeG : Tg → D → Env → Option Env
  | .nm i, d, env => some (env.set i (.fz d))
  | .tup ts, .tup ds, env => storeGs ts ds env
  | .tup _, _, _ => none
def storeGs : Tgs → List D → Env → Option Env
  | .nil, [], env => some env
  | .cons t ts, d :: ds, env => (storeG t d env).bind (storeGs ts ds)
  | _, _, _ => none
end
def itemsD : D → Option (List D)
  | .lst xs => some xs | .tup xs => some xs | .kst xs => some xs | _ => none
def listD : D → Option (List D)
  | .lst xs => some xs | .kst xs => some xs | _ => none
def enumD : Nat → List D → List D
  | _, [] => []
  | i, d :: r => .tup [.int i, d] :: enumD (i + 1) r
def zipD (x y : D) : Option (List D) := match x, y with
  | .tup xs, .tup ys => some ((xs.zip ys).map fun p => .tup [p.1, p.2])
  | x, y => match listD x, listD y with
    | some xs, some ys => some ((xs.zip ys).map fun p => .tup [p.1, p.2])
    | _, _ => none
def b40 (i : Int) : Bool := decide (-(2 ^ 40) ≤ i) && decide (i < 2 ^ 40)
/-- one turn -/
def lcTurn (vs : List Nat) (tg : Tg) (hc : Bool) (tst : Env → R U) (elt : Env → R U) (d : D) (env : Env) : R (Option D) := orBad (storeG tg d (wipeE env vs)) fun env1 => match hc with
  | true => (tst env1).bind fun u env2 => orBad (rdU env2 u) fun x => orBad (truD x) fun t => match t with
    | true => (elt env2).bind fun u env3 => orBad (fzU env3 u) fun p => .ok (some p.1) p.2
    | false => .ok none env2
  | false => (elt env1).bind fun u env3 => orBad (fzU env3 u) fun p => .ok (some p.1) p.2
/-- a turn of a dict comprehension -/
def dcTurn (vs : List Nat) (tg : Tg) (key val : Env → R U) (d : D) (env : Env) : R (List Int × D) := orBad (storeG tg d (wipeE env vs)) fun env1 =>
  (key env1).bind fun u env2 => orBad (fzU env2 u) fun p => orBad (keyTI p.1) fun k => (val p.2).bind fun w env3 => orBad (fzU env3 w) fun q => .ok (k, q.1) q.2
def dcD (turn : D → Env → R (List Int × D)) : List D → Env → List (List Int × D) → R (List (List Int × D))
  | [], env, acc => .ok acc env
  | d :: r, env, acc => (turn d env).bind fun kv env1 => if acc.length < LIM then dcD turn r env1 (putPT acc kv.1 kv.2) else .bad
def dcAll (vs : List Nat) (env : Env) (r : R (List (List Int × D))) : R U := if !(vs.all fun i => calmS (getS env i)) then .bad else match r with
  | .ok ps env1 => .ok (.nw (mkDT ps)) (backE env env1 vs)
  | _ => .bad
/-- a dict with such keys at a name, to be read -/
def dtR (s : Sl) : Option (List (List Int) × List D) := match rdS s with
  | some (.dT ks vs) => some (ks, vs) | _ => none
/-- pairs in order -/
def lexLe : List Int → List Int → Bool
  | [], _ => true
  | _ :: _, [] => false
  | x :: xs, y :: ys => if x = y then lexLe xs ys else decide (x ≤ y)
def cmpTD (le : Bool) : D → D → Option Bool
  | .tup xs, .tup ys => match intsD xs, intsD ys with
    | some a, some b => some (if le then lexLe a b else HT.lexLt a b)
    | _, _ => none
  | _, _ => none
def lcAll (vs : List Nat) (env : Env) (r : R (List D)) : R U := if !(vs.all fun i => calmS (getS env i)) then .bad else match r with
  | .ok ds env1 => .ok (.nw (.lst ds)) (backE env env1 vs)
  | _ => .bad
def popD (xs : List D) (i : Int) : Option (D × List D) := if xs.length ≤ LIM then (ixN xs.length i).bind fun j => xs[j]?.map fun d => (d, xs.eraseIdx j) else none
/-- whose method it is -/
def recvB : B → D → Bool
  | .index, .lst _ => true | .index, .kst _ => true
  | .split, .str _ => true | .join, .str _ => true
  | _, _ => false
/-- a part of an f-string -/
def fmtD : D → Option Str
  | .str z => if z.length ≤ LIM then some z else none
  | .int i => if i.natAbs.log2 < 1920 then some (toString i) else none
  | _ => none
/-- what a generator yields, told as a list -/
def genR (r : RC) (env : Env) : R (List D) := match r with
  | .ok (.d (.kst ys)) [] => .ok ys env
  | _ => .bad
/-- what raises, told -/
def excR (r : RC) (env : Env) : R U := match r with
  | .exc x [] => .exc x env
  | _ => .bad
/-- slots are taken for good -/
def frzAll : List Nat → Env → Option Env
  | [], env => some env
  | i :: is, env => (fzU env (.sl i)).bind fun p => frzAll is p.2
/-- what is frozen alone -/
def maskS : Sl → Sl
  | .fz d => .fz d | _ => .un
def maskE (env : Env) : Env := env.map maskS
/-- the def that asks a lambda, told what comes of it -/
def hearC (cl : CallF) (f : Nat) (o : D) (env : Env) : R U := match cl f [.fz o] with
  | .ok r _ => .ok r env
  | .exc x _ => .exc x env
  | .bad => .bad
mutual
/-- no list, dict or object within -/
def noLst : D → Bool
  | .non => true | .bl _ => true | .int _ => true | .str _ => true | .tup xs => noLsts xs | _ => false
def noLsts : List D → Bool
  | [] => true | d :: r => noLst d && noLsts r
end
/-- the names are again what they were -/
def keepC (env : Env) : R U → R U
  | .ok (.d d) _ => if noLst d then .ok (.d d) env else .bad
  | _ => .bad
/-- all that is owned, frozen -/
def frzS : Sl → Sl
  | .ow d => .fz d | s => s
def frzE (env : Env) : Env := env.map frzS
/-- .. they own what they owned -/
def keepV (env : Env) : R U → R U
  | .ok (.nw (.lst ds)) _ => if noLsts ds then .ok (.nw (.lst ds)) env else .bad
  | .ok (.nw d) _ => if noLst d then .ok (.nw d) env else .bad
  | .ok (.d d) _ => if noLst d then .ok (.d d) env else .bad
  | _ => .bad
def askCl (o : D) (cl : CallF) : CallF := fun g as => if g = 999 then match as, o with
    | [], .tup [.non, d] => .ok (.d d) []
    | [], .err c ks vs => .exc (c, ks, vs) []
    | _, _ => .bad
  else cl g as
def askR (r : RC) (env : Env) : R U := match r with
  | .ok (.d d) _ => .ok (.d d) env
  | .exc x _ => .exc x env
  | _ => .bad
def putKD (ks : List Key) (vs : List D) (k : Key) (d : D) : D := .dK ((putKP (ks.zip vs) k d).map (·.1)) ((putKP (ks.zip vs) k d).map (·.2))
def dkS (s : Sl) : Option (List Key × List D) := match rdS s with
  | some (.dK ks vs) => some (ks, vs) | _ => none
def isDk : Sl → Bool
  | .ow (.dK _ _) => true | .io (.dK _ _) => true | _ => false
/-- an own dict -/
def dkW : Sl → Option (List Key × List D)
  | .ow (.dK ks vs) => some (ks, vs) | _ => none
def keyD : Key → D
  | .inl n => .int n | .inr z => .str z
def keyI : D → Option Key
  | .int n => some (.inl n) | _ => none
/-- .. of one whose keys are numbers -/
def dcTurnK (vs : List Nat) (tg : Tg) (key val : Env → R U) (d : D) (env : Env) : R (Key × D) := orBad (storeG tg d (wipeE env vs)) fun env1 =>
  (key env1).bind fun u env2 => orBad (fzU env2 u) fun p => orBad (keyI p.1) fun k => (val p.2).bind fun w env3 => orBad (fzU env3 w) fun q => .ok (k, q.1) q.2
def dcDK (turn : D → Env → R (Key × D)) : List D → Env → List (Key × D) → R (List (Key × D))
  | [], env, acc => .ok acc env
  | d :: r, env, acc => (turn d env).bind fun kv env1 => if acc.length < LIM then dcDK turn r env1 (putKP acc kv.1 kv.2) else .bad
def dcAllK (vs : List Nat) (env : Env) (r : R (List (Key × D))) : R U := if !(vs.all fun i => calmS (getS env i)) then .bad else match r with
  | .ok ps env1 => .ok (.nw (.dK (ps.map (·.1)) (ps.map (·.2)))) (backE env env1 vs)
  | _ => .bad
/-- fields stored one after another -/
def setFs (i : Nat) (cs : List Nat) : List Nat → List D → Env → Option Env
  | [], [], env => some env
  | k :: ks, d :: ds, env => match getS env i with
    | .ow (.obj c fs vs) => if (decide (fs.length < 100) && decide (vs.length = fs.length) && cs.contains c) = true then setFs i cs ks ds (env.set i (setIO (getS env i) (.obj c (putD fs vs k d).1 (putD fs vs k d).2))) else none
    | .io (.obj c fs vs) => if (decide (fs.length < 100) && decide (vs.length = fs.length) && cs.contains c) = true then setFs i cs ks ds (env.set i (setIO (getS env i) (.obj c (putD fs vs k d).1 (putD fs vs k d).2))) else none
    | _ => none
  | _, _, _ => none
def isDtS : Sl → Bool
  | .ow (.dT _ _) => true | .io (.dT _ _) => true | _ => false
def dtS : Sl → Option (List (List Int) × List D)
  | .ow (.dT ks vs) => some (ks, vs) | .io (.dT ks vs) => some (ks, vs) | _ => none
/-- an owned list -/
def isLs : Sl → Bool
  | .ow (.lst _) => true | .io (.lst _) => true | _ => false
mutual
def ev (cl : CallF) : Ex → Env → R U
  | .var i, env => match getS env i with
    | .un => .bad
    | .fz d => .ok (.d d) env
    | _ => .ok (.sl i) env
  | .cst d, env => .ok (.d d) env
  | .op2 o a b, env => (ev cl a env).bind fun u env1 => (ev cl b env1).bind fun w env2 =>
      orBad (rdU env2 (pend u)) fun x => orBad (rdU env2 w) fun y => orBad (op2 o x y) fun z => .ok (.nw z) env2
  | .op1 o a, env => (ev cl a env).bind fun u env1 => orBad (rdU env1 u) fun x => orBad (op1 o x) fun z => .ok (.nw z) env1
  | .chain3 o p r a b c d, env => (ev cl a env).bind fun u env1 => (ev cl b env1).bind fun w env2 =>
      orBad (rdU env2 (pend u)) fun x => orBad (rdU env2 (pend w)) fun y => orBad (op2 o x y) fun z => match z with
        | .bl true => (ev cl c env2).bind fun q env3 => orBad (rdU env3 (pend w)) fun y' => orBad (rdU env3 (pend q)) fun x2 => orBad (op2 p y' x2) fun z2 => match z2 with
          | .bl true => (ev cl d env3).bind fun q2 env4 => orBad (rdU env4 (pend q)) fun y2 => orBad (rdU env4 q2) fun x3 => orBad (op2 r y2 x3) fun z3 => .ok (.nw z3) env4
          | .bl false => .ok (.nw (.bl false)) env3
          | _ => .bad
        | .bl false => .ok (.nw (.bl false)) env2
        | _ => .bad
  | .chain o p a b c, env => (ev cl a env).bind fun u env1 => (ev cl b env1).bind fun w env2 =>
      orBad (rdU env2 (pend u)) fun x => orBad (rdU env2 (pend w)) fun y => orBad (op2 o x y) fun z => match z with
        | .bl true => (ev cl c env2).bind fun q env3 => orBad (rdU env3 (pend w)) fun y' => orBad (rdU env3 q) fun r => orBad (op2 p y' r) fun z' => .ok (.nw z') env3
        | .bl false => .ok (.nw (.bl false)) env2
        | _ => .bad
  | .and a b, env => (ev cl a env).bind fun u env1 => orBad (rdU env1 u) fun x => orBad (truD x) fun t => match t with
        | true => ev cl b env1
        | false => .ok (pend u) env1
  | .or a b, env => (ev cl a env).bind fun u env1 => orBad (rdU env1 u) fun x => orBad (truD x) fun t => match t with
        | true => .ok (pend u) env1
        | false => ev cl b env1
  | .not a, env => (ev cl a env).bind fun u env1 => orBad (rdU env1 u) fun x => orBad (truD x) fun t => .ok (.nw (.bl (!t))) env1
  | .ife c a b, env => (ev cl c env).bind fun u env1 => orBad (rdU env1 u) fun x => orBad (truD x) fun t => match t with
        | true => ev cl a env1
        | false => ev cl b env1
  | .tup es, env => (evF cl es env).bind fun ds env1 => if ds.length ≤ LIM then .ok (.nw (.tup ds)) env1 else .bad
  | .lst es, env => (evF cl es env).bind fun ds env1 => if ds.length ≤ LIM then .ok (.nw (.lst ds)) env1 else .bad
  | .dic, env => .ok (.nw (.dK [] [])) env
  | .call f ms es, env => (evC cl ms es env).bind fun us env1 => orBad (argsOf env1 ms us) fun as =>
      if dupFree (ioSlots us) then match cl f as with
        | .ok r outs => .ok r (putIO env1 (ioSlots us) outs)
        | .exc x outs => .exc x (putIO env1 (ioSlots us) outs)
        | .bad => .bad
      else .bad
  | .callP f ms pm es, env => (evC cl (ms.map fun _ => false) es env).bind fun us env1 => orBad (argsOf env1 ms (permL pm us)) fun as =>
      if dupFree (ioSlots (permL pm us)) && decide (us.length = ms.length) then match cl f as with
        | .ok r outs => .ok r (putIO env1 (ioSlots (permL pm us)) outs)
        | .exc x outs => .exc x (putIO env1 (ioSlots (permL pm us)) outs)
        | .bad => .bad
      else .bad
  | .bi b es, env => (evR cl es env).bind fun us env1 => orBad (rdAll env1 us) fun ds => orBad (biD b ds) fun z => .ok (.nw z) env1
  | .ix a i, env => (ev cl a env).bind fun u env1 => (ev cl i env1).bind fun w env2 =>
      orBad (rdU env2 (pend u)) fun x => orBad (rdU env2 w) fun y => orBad (ixD x y) fun z => .ok (.d z) env2
  | .slice a bl bh lo hi, env => (ev cl a env).bind fun u env1 => (optP bl (ev cl lo) env1).bind fun l env2 => (optP bh (ev cl hi) env2).bind fun h env3 => orBad (rdU env3 (pend u)) fun x => match x with
        | .lst xs => .ok (.nw (.lst (cutD xs l h))) env3
        | .kst xs => .ok (.nw (.lst (cutD xs l h))) env3
        | .tup xs => if HT.sIx xs.length 0 l = 0 ∧ HT.sIx xs.length xs.length h = xs.length then .ok (.d (.tup xs)) env3 else .ok (.nw (.tup (cutD xs l h))) env3
        | .str z => if z.length ≤ LIM then .ok (.nw (.str (cutS z l h))) env3 else .bad
        | _ => .bad
  | .fld a k, env => (ev cl a env).bind fun u env1 => orBad (rdU env1 u) fun x => orBad (fldOf x k) fun z => .ok (.d z) env1
  | .opo o cs ts a b, env => (ev cl a env).bind fun u env1 => orBad (fzU env1 u) fun p => (ev cl b p.2).bind fun w env2 => orBad (fzU env2 w) fun q => ownOp cl o cs ts p.1 q.1 q.2
  | .callD f ms es ds, env => (evC cl ms es env).bind fun us env1 => runC cl f (ms ++ ds.map fun _ => false) (us ++ ds.map .d) env1
  | .mk c ms es ds, env => (evC cl ms es env).bind fun us env1 => orBad (argsOf env1 (ms ++ ds.map fun _ => false) (us ++ ds.map .d)) fun as => if allFz as then makeO cl c as env1 else .bad
  | .mth io a m cs ms es ds, env => (ev cl a env).bind fun u env1 => orBad (recvU io env1 u) fun p => if !cs.contains p.1 then .bad else (evC cl ms es p.2.2).bind fun us env2 =>
      runC cl (spec p.1 m) (io :: (ms ++ ds.map fun _ => false)) (p.2.1 :: (us ++ ds.map .d)) env2
  | .prp a m cs, env => (ev cl a env).bind fun u env1 => orBad (recvU false env1 u) fun p => if !cs.contains p.1 then .bad else orBad (rdU p.2.2 p.2.1) fun x => match cl (spec p.1 m) [.fz x] with
      | .ok r _ => .ok r p.2.2
      | _ => .bad
  | .ino neg cs a b, env => (ev cl a env).bind fun u env1 => orBad (fzU env1 u) fun p => (ev cl b p.2).bind fun w env2 => orBad (fzU env2 w) fun q => ownIn cl neg cs p.1 q.1 q.2
  | .neo cs a b, env => (ev cl a env).bind fun u env1 => orBad (fzU env1 u) fun p => (ev cl b p.2).bind fun w env2 => orBad (fzU env2 w) fun q => ownNe cl cs p.1 q.1 q.2
  | .lc vs tg it hc c e, env => (itD cl it env).bind fun ds env1 => lcAll vs env1 (lcD (lcTurn vs tg hc (ev cl c) (ev cl e)) ds env1 [])
  | .popI i e, env => if !isLs (getS env i) then .bad else (ev cl e env).bind fun u env1 => orBad (rdU env1 u) fun k => match getS env1 i, k with
      | .ow (.lst xs), .int n => orBad (popD xs n) fun p => .ok (.d p.1) (env1.set i (.ow (.lst p.2)))
      | .io (.lst xs), .int n => orBad (popD xs n) fun p => .ok (.d p.1) (env1.set i (.io (.lst p.2)))
      | _, _ => .bad
  | .bm b o e, env => (ev cl o env).bind fun u env1 => orBad (rdU env1 u) fun x0 => if !recvB b x0 then .bad else (ev cl e env1).bind fun w env2 => orBad (rdU env2 (pend u)) fun x => orBad (rdU env2 w) fun y => orBad (biD b [x, y]) fun z => .ok (.nw z) env2
  | .booO cs a, env => (ev cl a env).bind fun u env1 => orBad (recvU false env1 u) fun p => if !cs.contains p.1 then .bad else orBad (rdU p.2.2 p.2.1) fun x => match cl (spec p.1 24) [.fz x] with
      | .ok (.d (.bl b)) _ => .ok (.nw (.bl b)) p.2.2
      | _ => .bad
  | .lenO cs a, env => (ev cl a env).bind fun u env1 => orBad (recvU false env1 u) fun p => if !cs.contains p.1 then .bad else orBad (rdU p.2.2 p.2.1) fun x => match cl (spec p.1 19) [.fz x] with
      | .ok (.d (.int n)) _ => if decide (0 ≤ n) && decide (n < 2 ^ 40) then .ok (.nw (.int n)) p.2.2 else .bad
      | _ => .bad
  | .fstr es, env => (evJ cl es Str.empty env).bind fun z env1 => .ok (.nw (.str z)) env1
  | .strO cs a, env => (ev cl a env).bind fun u env1 => orBad (recvU false env1 u) fun p => if !cs.contains p.1 then .bad else orBad (rdU p.2.2 p.2.1) fun x => match cl (spec p.1 21) [.fz x] with
      | .ok (.d (.str z)) _ => .ok (.nw (.str z)) p.2.2
      | _ => .bad
  | .mkP c pm es, env => (evC cl (pm.map fun _ => false) es env).bind fun us env1 => orBad (argsOf env1 (pm.map fun _ => false) (permL pm us)) fun as => if allFz as && decide (us.length = pm.length) then makeO cl c as env1 else .bad
  | .mkEP c ks pm es, env => (evF cl es env).bind fun ds env1 => if (permL pm ds).length = ks.length ∧ ds.length = ks.length then .ok (.d (.err c ks (permL pm ds).reverse)) env1 else .bad
  | .mkE c ks es, env => (evF cl es env).bind fun ds env1 => if ds.length = ks.length then .ok (.d (.err c ks ds.reverse)) env1 else .bad
  | .heard f vs e, env => orBad (frzAll vs env) fun env1 => match ev cl e (maskE env1) with
      | .ok u env2 => orBad (fzU env2 u) fun p => hearC cl f (.tup [.non, p.1]) env1
      | .exc x _ => hearC cl f (.err x.1 x.2.1 x.2.2) env1
      | .bad => .bad
  | .ixK i k, env => orBad (dkS (getS env i)) fun _ => (ev cl k env).bind fun w env1 => orBad (rdU env1 w) fun y => orBad (dkS (getS env1 i)) fun p => orBad (keyI y) fun n => orBad (getK p.1 p.2 n) fun d => .ok (.d d) env1
  | .dgt i k x, env => orBad (dkS (getS env i)) fun _ => (ev cl k env).bind fun w env1 => (ev cl x env1).bind fun z env2 => orBad (fzU env2 z) fun q => orBad (rdU q.2 (pend w)) fun y => orBad (dkS (getS q.2 i)) fun p => orBad (keyI y) fun n =>
    .ok (.d ((getK p.1 p.2 n).getD q.1)) q.2
  | .heardK f vs e, env => orBad (frzAll vs env) fun env1 => match ev cl e (maskE env1) with
      | .ok u env2 => orBad (fzU env2 u) fun p => keepC env (hearC cl f (.tup [.non, p.1]) env1)
      | .exc x _ => keepC env (hearC cl f (.err x.1 x.2.1 x.2.2) env1)
      | .bad => .bad
  | .ask i, env => match getS env i with
      | .fn => askR (cl 999 []) env
      | _ => .bad
  | .getO cs a b, env => (ev cl a env).bind fun u env1 => orBad (fzU env1 u) fun p => (ev cl b p.2).bind fun w env2 => orBad (fzU env2 w) fun q => ownGet cl cs p.1 q.1 q.2
  | .calO cs n a es, env => (ev cl a env).bind fun u env1 => orBad (fzU env1 u) fun p => if !isObD p.1 then .bad else (evF cl es p.2).bind fun ds env2 => if ds.length = n then ownCal cl cs p.1 ds env2 else .bad
  | .cmt c m n es, env => (evF cl es env).bind fun ds env1 => if ds.length = n then (match cl (spec c m) ((.cls c :: ds).map .fz) with
      | .ok r _ => .ok r env1
      | .exc x _ => .exc x env1
      | .bad => .bad) else .bad
  | .mkL i c n es, env => if !isClsN c (getS env i) then .bad else (evF cl es env).bind fun ds env1 => if ds.length = n then makeO cl c (ds.map .fz) env1 else .bad
  | .mkLS i c es, env => if !isClsN c (getS env i) then .bad else (evF cl es env).bind fun ds env1 => makeO cl c (ds.map .fz) env1
  | .callS f es, env => (evF cl es env).bind fun ds env1 => match cl f (ds.map .fz) with
      | .ok r _ => .ok r env1
      | .exc x _ => .exc x env1
      | .bad => .bad
  | .mkS c es, env => (evF cl es env).bind fun ds env1 => makeO cl c (ds.map .fz) env1
  | .neL cs a b, env => (ev cl a env).bind fun u env1 => orBad (fzU env1 u) fun p => (ev cl b p.2).bind fun w env2 => orBad (fzU env2 w) fun q => if eqLL cl cs p.1 q.1 then .ok (.nw (.bl false)) q.2 else .bad
  | .mkF c n es, env => (evF cl es env).bind fun ds env1 => if ds.length = n then makeO cl c (ds.map .fz) env1 else .bad
  | .callF f n es, env => (evF cl es env).bind fun ds env1 => if ds.length = n then (match cl f (ds.map .fz) with
      | .ok r _ => .ok r env1
      | .exc x _ => .exc x env1
      | .bad => .bad) else .bad
  | .keep a, env => if (frzE env).all calmS then keepV env (ev cl a (frzE env)) else .bad
  | .opu m cs a, env => (ev cl a env).bind fun u env1 => orBad (fzU env1 u) fun p => ownUn cl m cs p.1 p.2
  | .dicT, env => .ok (.nw (.dT [] [])) env
  | .dis1 i j m n, env => .ok (.nw (.dT [[i, j]] [.tup [.int m, .int n]])) env
  | .dgtT a k x, env => (ev cl a env).bind fun u env0 => orBad (fzU env0 u) fun t => if !isDT t.1 then .bad else (ev cl k t.2).bind fun w env1 => orBad (fzU env1 w) fun y => (ev cl x y.2).bind fun z env2 => orBad (fzU env2 z) fun q => match t.1 with
      | .dT ks vs => orBad (keyTI y.1) fun n => .ok (.d ((getDT ks vs n).getD q.1)) q.2
      | _ => .bad
  | .lsI it, env => (itD cl it env).bind fun ds env1 => if ds.length ≤ LIM then .ok (.nw (.lst ds)) env1 else .bad
  | .lcX m cs a es ds, env => (ev cl a env).bind fun u env1 => orBad (fzU env1 u) fun p => match p.1 with
      | .obj c ks vs => if !cs.contains c then .bad else (evF cl es p.2).bind fun xs env2 => excR (cl (spec c m) ((.obj c ks vs :: (xs ++ ds)).map .fz)) env2
      | _ => .bad
  | .dcT vs tg it k e, env => (itD cl it env).bind fun ds env1 => dcAll vs env1 (dcD (dcTurn vs tg (ev cl k) (ev cl e)) ds env1 [])
  | .dgtI i k x, env => orBad (dtR (getS env i)) fun _ => (ev cl k env).bind fun w env1 => orBad (fzU env1 w) fun y => (ev cl x y.2).bind fun z env2 => orBad (fzU env2 z) fun q => orBad (dtR (getS q.2 i)) fun p => orBad (keyTI y.1) fun n =>
      .ok (.d ((getDT p.1 p.2 n).getD q.1)) q.2
  | .cmpT le a b, env => (ev cl a env).bind fun u env1 => (ev cl b env1).bind fun w env2 => orBad (rdU env2 (pend u)) fun x => orBad (rdU env2 w) fun y => orBad (cmpTD le x y) fun c => .ok (.nw (.bl c)) env2
  | .dcK vs tg it k e, env => (itD cl it env).bind fun ds env1 => dcAllK vs env1 (dcDK (dcTurnK vs tg (ev cl k) (ev cl e)) ds env1 [])
  | .popT i k, env => if !isDtS (getS env i) then .bad else (ev cl k env).bind fun w env1 => orBad (fzU env1 w) fun y => orBad (dtS (getS y.2 i)) fun p => orBad (keyTI y.1) fun n => orBad (getDT p.1 p.2 n) fun d =>
      .ok (.d d) (y.2.set i (setIO (getS y.2 i) (mkDT ((p.1.zip p.2).filter fun q => decide (q.1 ≠ n)))))
  | .lsT i, env => orBad (dtR (getS env i)) fun p => if p.1.length ≤ LIM then .ok (.nw (.lst (p.1.map keyTD))) env else .bad
  | .hk g, env => g cl env
  | .emT ne i, env => orBad (dtR (getS env i)) fun p => .ok (.nw (.bl (p.1.isEmpty != ne))) env
  | .isObj cs a, env => (ev cl a env).bind fun u env1 => orBad (rdU env1 u) fun x => if isClsD x then .bad else .ok (.nw (.bl (isObjOf cs x))) env1
/-- all taken for good -/
def evF (cl : CallF) : Exs → Env → R (List D)
  | .nil, env => .ok [] env
  | .cons e es, env => (ev cl e env).bind fun u env1 => orBad (fzU env1 u) fun p => (evF cl es p.2).bind fun ds env2 => .ok (p.1 :: ds) env2
  | .star e es, env => (ev cl e env).bind fun u env1 => orBad (fzU env1 u) fun p => orBad (itemsD p.1) fun xs => (evF cl es p.2).bind fun ds env2 => .ok (xs ++ ds) env2
/-- all read -/
def evR (cl : CallF) : Exs → Env → R (List U)
  | .nil, env => .ok [] env
  | .cons e es, env => (ev cl e env).bind fun u env1 => (evR cl es env1).bind fun us env2 => .ok (pend u :: us) env2
  | .star _ _, _ => .bad
/-- the parts of an f-string -/
def evJ (cl : CallF) : Exs → Str → Env → R Str
  | .nil, acc, env => .ok acc env
  | .cons e es, acc, env => (ev cl e env).bind fun u env1 => orBad (rdU env1 u) fun d => orBad (fmtD d) fun y => if (acc ++ y).length ≤ LIM then evJ cl es (acc ++ y) env1 else .bad
  | .star _ _, _, _ => .bad
/-- a call's: taken for good, or handed in to be changed -/
def evC (cl : CallF) : List Bool → Exs → Env → R (List U)
  | _, .nil, env => .ok [] env
  | m :: ms, .cons e es, env => (ev cl e env).bind fun u env1 => match m with
      | true => match u with
        | .sl i => (evC cl ms es env1).bind fun us env2 => .ok (.sl i :: us) env2
        | _ => .bad
      | false => orBad (fzU env1 u) fun p => (evC cl ms es p.2).bind fun us env2 => .ok (.d p.1 :: us) env2
  | ms, .star e es, env => (ev cl e env).bind fun u env1 => orBad (fzU env1 u) fun p => orBad (itemsD p.1) fun xs => (evC cl ms es p.2).bind fun us env2 => .ok (xs.map .d ++ us) env2
  | [], .cons _ _, _ => .bad
/-- what is walked -/
def itD (cl : CallF) : It → Env → R (List D)
  | .seq e, env => (ev cl e env).bind fun u env1 => orBad (fzU env1 u) fun p => orBad (itemsD p.1) fun xs => .ok xs p.2
  | .rng lo hi, env => (ev cl lo env).bind fun u env1 => (ev cl hi env1).bind fun w env2 => orBad (rdU env2 (pend u)) fun x => orBad (rdU env2 w) fun y => match x, y with
      | .int m, .int n => if b40 m && b40 n then .ok ((List.range (n - m).toNat).map fun (k : Nat) => .int (m + k)) env2 else .bad
      | _, _ => .bad
  | .down lo hi, env => (ev cl lo env).bind fun u env1 => (ev cl hi env1).bind fun w env2 => orBad (rdU env2 (pend u)) fun x => orBad (rdU env2 w) fun y => match x, y with
      | .int m, .int n => if b40 m && b40 n then .ok ((List.range (m - n).toNat).map fun (k : Nat) => .int (m - k)) env2 else .bad
      | _, _ => .bad
  | .enum e, env => (ev cl e env).bind fun u env1 => orBad (fzU env1 u) fun p => orBad (itemsD p.1) fun xs => .ok (enumD 0 xs) p.2
  | .zip a b, env => (ev cl a env).bind fun u env1 => orBad (fzU env1 u) fun p => (ev cl b p.2).bind fun w env2 => orBad (fzU env2 w) fun q => orBad (zipD p.1 q.1) fun xs => .ok xs q.2
  | .str e, env => (ev cl e env).bind fun u env1 => orBad (rdU env1 u) fun x => match x with
      | .str z => .ok (z.cps.toList.map fun c => .str ⟨#[c]⟩) env1
      | _ => .bad
  | .keysT e, env => (ev cl e env).bind fun u env1 => orBad (fzU env1 u) fun p => match p.1 with
      | .dT ks _ => .ok (ks.map keyTD) p.2
      | _ => .bad
  | .keys i, env => orBad (dkW (getS env i)) fun p => .ok (p.1.map keyD) (env.set i (.fz (.dK p.1 p.2)))
  | .gen m cs a es ds, env => (ev cl a env).bind fun u env1 => orBad (fzU env1 u) fun p => match p.1 with
      | .obj c ks vs => if !cs.contains c then .bad else (evF cl es p.2).bind fun xs env2 => genR (cl (spec c m) ((.obj c ks vs :: (xs ++ ds)).map .fz)) env2
      | _ => .bad
  | .genF f es ds, env => (evF cl es env).bind fun xs env1 => genR (cl f ((xs ++ ds).map .fz)) env1
  | .hk g, env => g cl env
  | .zipG i j, env => (itD cl i env).bind fun xs env1 => (itD cl j env1).bind fun ys env2 => .ok ((xs.zip ys).map fun p => .tup [p.1, p.2]) env2
  | .own cs j e, env => (ev cl e env).bind fun u env1 => orBad (recvU false env1 u) fun p => if !cs.contains p.1 then .bad else orBad (rdU p.2.2 p.2.1) fun x => orBad (fldOf x j) fun d => orBad (itemsD d) fun xs => .ok xs p.2.2
end
/-- what is stored at a name: an owned thing, or a frozen one -/
def slOf : U → D → Sl
  | .nw _, .lst ds => .ow (.lst ds)
  | .nw _, .dK ks vs => .ow (.dK ks vs)
  | .nw _, .dT ks vs => .ow (.dT ks vs)
  | .nw _, .obj c ks vs => .ow (.obj c ks vs)
  | _, d => .fz d
def isIO : Sl → Bool
  | .io _ => true | _ => false
/-- name = value -/
def asgU (env : Env) (i : Nat) (u : U) : Option Env :=
  match u with
  | .nw d => some (env.set i (slOf (.nw d) d))
  | .d d => some (env.set i (.fz d))
  | .sl j => (fzU env (.sl j)).map fun p => p.2.set i (.fz p.1)
/-- several names -/
def slSE : SE → Sl
  | .c d => .fz d | .l ds => .ow (.lst ds) | .lt ds => .ow (.lst [.tup ds])
def setSE : List Nat → List SE → Env → Option Env
  | [], [], env => some env
  | i :: is, s :: ss, env => setSE is ss (env.set i (slSE s))
  | _, _, _ => none
def storeAll : List Nat → List D → Env → Option Env
  | [], [], env => some env
  | i :: is, d :: ds, env => storeAll is ds (env.set i (.fz d))
  | _, _, _ => none
def setD (xs : List D) (i : Int) (d : D) : Option (List D) := (ixN xs.length i).map fun j => xs.set j d
/-- the loop over items -/
def forD (body : Env → R Fl) (i : Nat) : List D → Env → R Fl
  | [], env => .ok .next env
  | d :: r, env => (body (env.set i (.fz d))).bind fun fl env1 => match fl with
      | .next => forD body i r env1
      | .cont => forD body i r env1
      | .brk => .ok .next env1
      | .ret u => .ok (.ret u) env1
/-- the loop over items, any target -/
def forG (body : Env → R Fl) (tg : Tg) : List D → Env → R Fl
  | [], env => .ok .next env
  | d :: r, env => orBad (storeG tg d env) fun env0 => (body env0).bind fun fl env1 => match fl with
      | .next => forG body tg r env1
      | .cont => forG body tg r env1
      | .brk => .ok .next env1
      | .ret u => .ok (.ret u) env1
def whD (test : Env → R Bool) (body : Env → R Fl) : Nat → Env → R Fl
  | 0, _ => .bad
  | n + 1, env => (test env).bind fun t env1 => match t with
      | false => .ok .next env1
      | true => (body env1).bind fun fl env2 => match fl with
        | .next => whD test body n env2
        | .cont => whD test body n env2
        | .brk => .ok .next env2
        | .ret u => .ok (.ret u) env2
def evT (cl : CallF) (e : Ex) (env : Env) : R Bool := (ev cl e env).bind fun u env1 => orBad (rdU env1 u) fun x => orBad (truD x) fun t => .ok t env1
def FUEL : Nat := 100000
def retU (env : Env) : U → Option (U × Env)
  | .d x => some (.d x, env) | .nw x => some (.nw x, env)
  | .sl i => match getS env i with
    | .ow x => some (.nw x, env.set i .un) | .fz x => some (.d x, env) | _ => none
mutual
def ex (cl : CallF) : S → Env → R Fl
  | .asg i e, env => (ev cl e env).bind fun u env1 => orBad (asgU env1 i u) fun env2 => .ok .next env2
  | .setK i x e, env => (ev cl e env).bind fun u env1 => orBad (fzU env1 u) fun q => if !isDk (getS q.2 i) then .bad else (ev cl x q.2).bind fun w env3 => orBad (rdU env3 w) fun y => if !isDk (getS env3 i) then .bad else
      orBad (dkS (getS env3 i)) fun p => orBad (keyI y) fun n => if p.1.length < LIM then .ok .next (env3.set i (setIO (getS env3 i) (putKD p.1 p.2 n q.1))) else .bad
  | .hk g, env => g cl env
  | .unpF i cs ks e, env => (ev cl e env).bind fun u env1 => orBad (fzU env1 u) fun p => match p.1 with
      | .tup xs => orBad (setFs i cs ks xs p.2) fun env2 => .ok .next env2
      | _ => .bad
  | .setO i cs x e, env => (ev cl e env).bind fun u env1 => orBad (fzU env1 u) fun q => orBad (recvU true q.2 (.sl i)) fun _ => (ev cl x q.2).bind fun w env3 => orBad (fzU env3 w) fun y => orBad (recvU true y.2 (.sl i)) fun p => if !cs.contains p.1 then .bad else
      (runC cl (spec p.1 25) [true, false, false] [.sl i, .d y.1, .d q.1] y.2).bind fun _ env4 => .ok .next env4
  | .setP i cs m e, env => (ev cl e env).bind fun u env1 => orBad (fzU env1 u) fun q => orBad (recvU true q.2 (.sl i)) fun p => if !cs.contains p.1 then .bad else
      (runC cl (spec p.1 m) [true, false] [.sl i, .d q.1] q.2).bind fun _ env4 => .ok .next env4
  | .setT i x e, env => (ev cl e env).bind fun u env1 => orBad (fzU env1 u) fun q => if !isDtS (getS q.2 i) then .bad else (ev cl x q.2).bind fun w env3 => orBad (fzU env3 w) fun y => orBad (dtS (getS y.2 i)) fun p => orBad (keyTI y.1) fun n =>
      if p.1.length < LIM then .ok .next (y.2.set i (setIO (getS y.2 i) (mkDT (putPT (p.1.zip p.2) n q.1)))) else .bad
  | .setI i x e, env => (ev cl e env).bind fun u env1 => orBad (fzU env1 u) fun p => if !isLs (getS p.2 i) then .bad else (ev cl x p.2).bind fun w env2 =>
      orBad (rdU env2 w) fun k => match getS env2 i, k with
        | .ow (.lst xs), .int n => orBad (setD xs n p.1) fun ys => .ok .next (env2.set i (.ow (.lst ys)))
        | .io (.lst xs), .int n => orBad (setD xs n p.1) fun ys => .ok .next (env2.set i (.io (.lst ys)))
        | _, _ => .bad
  | .app i e, env => if !isLs (getS env i) then .bad else (ev cl e env).bind fun u env1 => orBad (fzU env1 u) fun p => match getS p.2 i with
        | .ow (.lst xs) => if xs.length < LIM then .ok .next (p.2.set i (.ow (.lst (xs ++ [p.1])))) else .bad
        | .io (.lst xs) => if xs.length < LIM then .ok .next (p.2.set i (.io (.lst (xs ++ [p.1])))) else .bad
        | _ => .bad
  | .ext i e, env => if !isLs (getS env i) then .bad else (ev cl e env).bind fun u env1 => orBad (fzU env1 u) fun p => match getS p.2 i, p.1 with
        | .ow (.lst xs), .lst ys => if xs.length + ys.length < LIM then .ok .next (p.2.set i (.ow (.lst (xs ++ ys)))) else .bad
        | .io (.lst xs), .lst ys => if xs.length + ys.length < LIM then .ok .next (p.2.set i (.io (.lst (xs ++ ys)))) else .bad
        | _, _ => .bad
  | .aug i o e, env => match getS env i with
        | .fz (.int n) => (ev cl e env).bind fun u env1 => orBad (rdU env1 u) fun y => match y with
          | .int m => match o with
            | .add => .ok .next (env1.set i (.fz (.int (n + m))))
            | .sub => .ok .next (env1.set i (.fz (.int (n - m))))
            | _ => .bad
          | _ => .bad
        | _ => .bad
  | .ex e, env => (ev cl e env).bind fun _ env1 => .ok .next env1
  | .iff c a b, env => (evT cl c env).bind fun t env1 => match t with
      | true => exs cl a env1
      | false => exs cl b env1
  | .forr i n b, env => (ev cl n env).bind fun u env1 => orBad (rdU env1 u) fun y => match y with
      | .int m => if decide (-(2 ^ 40) ≤ m) && decide (m < 2 ^ 40) then forD (exs cl b) i ((List.range m.toNat).map fun (k : Nat) => .int k) env1 else .bad
      | _ => .bad
  | .forl i l b, env => (ev cl l env).bind fun u env1 => orBad (fzU env1 u) fun p => match p.1 with
      | .lst xs => forD (exs cl b) i xs p.2
      | .tup xs => forD (exs cl b) i xs p.2
      | .kst xs => forD (exs cl b) i xs p.2
      | _ => .bad
  | .fort tg it b, env => (itD cl it env).bind fun ds env1 => forG (exs cl b) tg ds env1
  | .whil c b, env => whD (evT cl c) (exs cl b) FUEL env
  | .ret e, env => (ev cl e env).bind fun u env1 => orBad (retU env1 u) fun r => .ok (.ret r.1) r.2
  | .retN, env => .ok (.ret (.d .non)) env
  | .pass, env => .ok .next env
  | .never, _ => .bad
  | .par is es, env => (evF cl es env).bind fun ds env1 => orBad (storeAll is ds env1) fun env2 => .ok .next env2
  | .parK i j a b, env => (ev cl a env).bind fun u env1 => orBad (fzU env1 u) fun p => (ev cl b p.2).bind fun w env3 => orBad (asgU env3 j w) fun env4 => .ok .next (env4.set i (.fz p.1))
  | .parL i j a d, env => (ev cl a env).bind fun u env1 => orBad (asgU env1 i u) fun env2 => .ok .next (env2.set j (.fz d))
  | .parL3 i j k a d d2, env => (ev cl a env).bind fun u env1 => orBad (asgU env1 i u) fun env2 => .ok .next ((env2.set j (.fz d)).set k (.fz d2))
  | .parN i j a, env => (ev cl a env).bind fun u env1 => orBad (asgU env1 i u) fun env2 => orBad (asgU env2 j (.nw (.lst []))) fun env3 => .ok .next env3
  | .parS is ses, env => orBad (setSE is ses env) fun env2 => .ok .next env2
  | .unp is e, env => (ev cl e env).bind fun u env1 => orBad (rdU env1 u) fun d => match d with
      | .tup ds => orBad (storeAll is ds env1) fun env2 => .ok .next env2
      | .lst ds => orBad (storeAll is ds env1) fun env2 => .ok .next env2
      | .kst ds => orBad (storeAll is ds env1) fun env2 => .ok .next env2
      | _ => .bad
  | .setF i cs k e, env => (ev cl e env).bind fun u env1 => orBad (fzU env1 u) fun p => match getS p.2 i with
      | .ow (.obj c ks vs) => if (decide (ks.length < 100) && decide (vs.length = ks.length) && cs.contains c) = true then .ok .next (p.2.set i (.ow (.obj c (putD ks vs k p.1).1 (putD ks vs k p.1).2))) else .bad
      | .io (.obj c ks vs) => if (decide (ks.length < 100) && decide (vs.length = ks.length) && cs.contains c) = true then .ok .next (p.2.set i (.io (.obj c (putD ks vs k p.1).1 (putD ks vs k p.1).2))) else .bad
      | _ => .bad
  | .brk, env => .ok .brk env
  | .cont, env => .ok .cont env
  | .raise c ks es, env => (evF cl es env).bind fun ds env1 => if ds.length = ks.length then .exc (c, ks, ds.reverse) env1 else .bad
  | .asgT tg e, env => (ev cl e env).bind fun u env1 => orBad (fzU env1 u) fun p => orBad (storeG tg p.1 p.2) fun env2 => .ok .next env2
  | .tryC b cs i j, env => match exs cl b env with
      | .exc x env1 => if cs.contains x.1 then .ok .next (((env1.set i .un).set j (.fz (.err x.1 x.2.1 x.2.2))).set i .un) else .bad
      | r => r
def exs (cl : CallF) : Ss → Env → R Fl
  | .nil, env => .ok .next env
  | .cons s r, env => (ex cl s env).bind fun fl env1 => match fl with
      | .next => exs cl r env1
      | f => .ok f env1
end
def isMutD' : D → Bool
  | .lst _ => true | .dK _ _ => true | .dT _ _ => true | .obj _ _ _ => true | _ => false
/-- yields one after the other; an exception ahead of all -/
def yThen (y : List D) (r : R (List D)) : R (List D) := match r with
  | .ok ys env => .ok (y ++ ys) env
  | .exc x env => if y.isEmpty then .exc x env else .bad
  | .bad => .bad
def loopY (body : Env → R (List D)) (tg : Tg) : List D → Env → R (List D)
  | [], env => .ok [] env
  | d :: ds, env => orBad (storeG tg d env) fun env1 => (body env1).bind fun y env2 => yThen y (loopY body tg ds env2)
def yldU (u : U) (env : Env) : R (List D) := if env.all calmS then match u with
  | .d d => .ok [d] env
  | .nw d => if isMutD' d then .bad else .ok [d] env
  | .sl _ => .bad else .bad
mutual
def gex (cl : CallF) : G → Env → R (List D)
  | .pl s, env => (ex cl s env).bind fun fl env1 => match fl with
      | .next => .ok [] env1
      | _ => .bad
  | .yl e, env => (ev cl e env).bind yldU
  | .fr tg it b, env => (itD cl it env).bind fun ds env1 => loopY (gexs cl b) tg ds env1
  | .ife c a b, env => (evT cl c env).bind fun t env1 => match t with
      | true => gexs cl a env1
      | false => gexs cl b env1
def gexs (cl : CallF) : Gs → Env → R (List D)
  | .nil, env => .ok [] env
  | .cons g r, env => (gex cl g env).bind fun y env1 => yThen y (gexs cl r env1)
end
/-- a def: how many names, its body -/
structure Fn where
  n : Nat
  body : Ss
  star : Option Nat := none
  lam : Bool := false
  gen : Option (Nat × Gs) := none
/-- what is left over is a tuple -/
def restD : List Ar → Option (List D)
  | [] => some []
  | .fz d :: r => (restD r).map (d :: ·)
  | .io _ :: _ => none
def packA : Nat → List Ar → Option (List Ar)
  | 0, as => (restD as).bind fun ds => if ds.length ≤ LIM then some [.fz (.tup ds)] else none
  | n + 1, a :: as => (packA n as).map (a :: ·)
  | _ + 1, [] => none
def startE : Nat → List Ar → Env
  | n + 1, .fz d :: as => .fz d :: startE n as
  | n + 1, .io d :: as => .io d :: startE n as
  | n + 1, [] => .un :: startE n []
  | 0, _ => []
/-- what stands in the slots that were handed in -/
def outsOf : List Ar → Env → Option (List D)
  | [], _ => some []
  | .fz _ :: as, env => outsOf as env.tail
  | .io _ :: as, env => match env.head? with
    | some (.io d) => (outsOf as env.tail).map (d :: ·)
    | _ => none
/-- a result that can't be owned is a plain one -/
def isMutD : D → Bool
  | .lst _ => true | .dK _ _ => true | .dT _ _ => true | .obj _ _ _ => true | _ => false
def nrm (x : D) : U := if isMutD x = true then .nw x else .d x
def finO : Option (List D) → Fl → RC
  | some outs, .next => .ok (.d .non) outs
  | some outs, .ret (.d x) => .ok (.d x) outs
  | some outs, .ret (.nw x) => .ok (nrm x) outs
  | _, _ => .bad
def finX : Option (List D) → Exn → RC
  | some outs, x => .exc x outs
  | none, _ => .bad
def finR (as : List Ar) : R Fl → RC
  | .ok fl env => finO (outsOf as env) fl
  | .exc x env => finX (outsOf as env) x
  | .bad => .bad
def runF (cl : CallF) (F : Fn) (as : List Ar) : RC := finR as (exs cl F.body (startE F.n as))
/-- what the def that asks begins with -/
def lamE (n : Nat) : Env := (startE n []).set 0 .fn
/-- what a generator's first statement raises -/
def firstX (cl : CallF) (b : Gs) (env : Env) : Option Exn := match b with
  | .cons (.pl s) _ => match ex cl s env with
    | .exc x _ => some x
    | _ => none
  | _ => none
/-- a generator def: all that its generator yields -/
def runG (cl : CallF) (n np : Nat) (b : Gs) (as : List Ar) : RC := if (allFz as && as.length == np) = true then match gexs cl b (startE n as) with
    | .ok ys _ => .ok (.d (.kst ys)) []
    | .exc _ _ => match firstX cl b (startE n as) with
      | some x => .exc x []
      | none => .bad
    | .bad => .bad
  else .bad
/-- calls, to a depth -/
def calls (fs : Nat → Option Fn) : Nat → CallF
  | 0, _, _ => .bad
  | k + 1, f, as => match fs f with
    | some F => match F.gen with
     | some b => runG (calls fs k) F.n b.1 b.2 as
     | none => match F.lam with
      | false => match F.star with
        | none => runF (calls fs k) F as
        | some n => match packA n as with
          | some bs => runF (calls fs k) F bs
          | none => .bad
      | true => match as with
        | [.fz o] => finR [] (exs (askCl o (calls fs k)) F.body (lamE F.n))
        | _ => .bad
    | none => .bad
end PP
end
section
set_option maxHeartbeats 1000000
namespace PP
open PySem L2
structure Tbl where
  K : PySem.W.Frag
  cn : Nat → Option Addr
  fn : Nat → Str
  fo : Nat → Nat → Bool
  tt : List (Addr × Str)
  ec : Nat → Bool
/-- the class, where it has such fields -/
def Tbl.ck (T : Tbl) (c : Nat) (ks : List Nat) : Option Addr := if (!T.ec c && ks.all (T.fo c)) = true then T.cn c else none
/-- .. an exception's -/
def Tbl.cx (T : Tbl) (c : Nat) (ks : List Nat) : Option Addr := if (T.ec c && ks.all (T.fo c)) = true then T.cn c else none
abbrev Ext (H H' : Hp) : Prop := ∀ a o, H a = some o → H' a = some o
theorem Ext.rfl' (H : Hp) : Ext H H := fun _ _ h => h
theorem Ext.tr {H H1 H2 : Hp} (a : Ext H H1) (b : Ext H1 H2) : Ext H H2 := fun x o h => b x o (a x o h)
theorem ext_upd {H : Hp} {p : Addr} {o : HO} (h : H p = none) : Ext H (upd H p o) := fun a u e => by
  rw [upd_ne (ne_of_none e h)]; exact e
theorem Ext.sqL {K : PySem.W.Frag} {H H' : Hp} {a : Addr} {xs : List V} (e : Ext H H') (h : SqL K H a xs) : SqL K H' a xs := by
  rcases h with (h | ⟨o, h⟩) | h
  · exact .inl (.inl (e _ _ h))
  · exact .inl (.inr ⟨o, e _ _ h⟩)
  · exact .inr h
theorem Ext.rd {H H' : Hp} {a : Addr} {o : HO} (e : Ext H H') (h : Rd H a o) : Rd H' a o := by
  rcases h with h | ⟨u, h⟩
  · exact .inl (e _ _ h)
  · exact .inr ⟨u, e _ _ h⟩
theorem Ext.sqT {K : PySem.W.Frag} {H H' : Hp} {a : Addr} {xs : List V} (e : Ext H H') (h : SqT K H a xs) : SqT K H' a xs := by
  rcases h with (h | ⟨o, h⟩) | h
  · exact .inl (.inl (e _ _ h))
  · exact .inl (.inr ⟨o, e _ _ h⟩)
  · exact .inr h
theorem Ext.kt3 {K : PySem.W.Frag} {H H' : Hp} {es : List T3} (e : Ext H H') (h : KT3 K H es) : KT3 K H' es := fun x hx => e.sqT (h x hx)
/-- kept, but for a table -/
def Kp (o : HO) (x : Option HO) : Prop := x = some o ∨ ∃ ps ps', o = .tbl ps ∧ x = some (.tbl ps')
theorem Kp.at {o : HO} {x : Option HO} (h : Kp o x) (n : ∀ ps, o ≠ .tbl ps) : x = some o := by
  rcases h with h | ⟨ps, _, h, _⟩
  · exact h
  · exact (n ps h).elim
theorem Kp.some {o : HO} {x : Option HO} (h : Kp o x) : ∃ u, x = .some u := by
  rcases h with h | ⟨_, _, _, h⟩ <;> exact ⟨_, h⟩
theorem Kp.tr {o u : HO} {x y : Option HO} (h : Kp o x) (e : x = .some u) (k : Kp u y) : Kp o y := by
  rcases h with h | ⟨ps, ps', h, h'⟩
  · rw [h] at e; cases e; exact k
  · rw [h'] at e; cases e
    rcases k with k | ⟨qs, qs', k, k'⟩
    · exact .inr ⟨ps, ps', h, k⟩
    · exact .inr ⟨ps, qs', h, k'⟩
def ExtW (H H' : Hp) : Prop := ∀ a o, H a = some o → Kp o (H' a)
theorem ExtW.of {H H' : Hp} (e : Ext H H') : ExtW H H' := fun a o h => .inl (e a o h)
theorem ExtW.tr {H H1 H2 : Hp} (a : ExtW H H1) (b : ExtW H1 H2) : ExtW H H2 := fun x o h => by
  obtain ⟨u, hu⟩ := (a x o h).some
  exact (a x o h).tr hu (b x u hu)
theorem ExtW.no {H H' : Hp} (e : ExtW H H') {a : Addr} (h : H' a = none) : H a = none := by
  cases q : H a with
  | none => rfl
  | some o => obtain ⟨u, hu⟩ := (e a o q).some; rw [h] at hu; cases hu
theorem Ext.tabs {T : List (Addr × Str)} {H H' : Hp} (e : Ext H H') (t : LamX.Tabs T H) : LamX.Tabs T H' := t.ext e
/-- an object that is no table and no code object changes -/
theorem tabs_upd {T : List (Addr × Str)} {H : Hp} {a : Addr} {o u : HO} (h : H a = some u) (n1 : ∀ ps, u ≠ .tbl ps) (n2 : ∀ c q, u ≠ LamX.CodeO c q) (t : LamX.Tabs T H) : LamX.Tabs T (upd H a o) := fun p hp => by
  obtain ⟨ps, h1, h2, h3⟩ := t p hp
  refine ⟨ps, ?_, h2, fun pos cv hc => ?_⟩
  · rw [upd_ne (fun z => by rw [z, h] at h1; exact n1 ps (Option.some.inj h1))]; exact h1
  · obtain ⟨c, e1, e2⟩ := h3 pos cv hc
    refine ⟨c, e1, ?_⟩
    rw [upd_ne (fun z => by rw [z, h] at e2; exact n2 _ _ (Option.some.inj e2))]; exact e2
/-- an exception that is at hand -/
def ErrO (C : Addr) (d : Option Addr) (a : Addr) : HO := .ext fun h => ∃ (oe : Obj) (vs : Array Value), h.get? a = some oe ∧ Zc (.ref C) d oe ∧ oe.data = .fields vs
theorem Ext.no {H H' : Hp} (e : Ext H H') {a : Addr} (h : H' a = none) : H a = none := by
  cases q : H a with
  | none => rfl
  | some o => rw [e a o q] at h; cases h
mutual
/-- the value v stands for the data, in the heap H -/
def Rep (T : Tbl) (H : Hp) : D → V → Prop
  | .non, v => v = .non
  | .bl b, v => v = .bl b
  | .int i, v => v = .int i
  | .str s, v => v = .str s
  | .lst ds, v => ∃ a xs, v = .ref a ∧ Rd H a (.lst xs) ∧ RepAll T H ds xs
  | .tup ds, v => ∃ a xs, v = .ref a ∧ SqT T.K H a xs ∧ RepAll T H ds xs
  | .kst ds, v => ∃ a xs, v = .ref a ∧ SqL T.K H a xs ∧ RepAll T H ds xs
  | .dK ks vs, v => ∃ a xs, v = .ref a ∧ Rd H a (.dK (ks.zip xs)) ∧ xs.length = ks.length ∧ RepAll T H vs xs
  | .dT ks vs, v => ∃ a od es, v = .ref a ∧ Rd H a (dtO a od) ∧ ObjDt a od es ∧ es.map (·.1) = ks ∧ KT3 T.K H es ∧ RepAll T H vs (es.map (·.2.2))
  | .obj c ks vs, v => ∃ a C dx xs, v = .ref a ∧ T.ck c ks = some C ∧ H a = some (.ins C dx ((ks.map T.fn).zip xs)) ∧ xs.length = ks.length ∧ RepAll T H vs xs
  | .cls c, v => ∃ C, T.cn c = some C ∧ v = .ref C
  | .err c ks vs, v => ∃ a C d, v = .ref a ∧ T.cx c ks = some C ∧ H a = some (ErrO C d a) ∧ ((ks = [] ∧ d = none) ∨ ∃ dd xs, d = some dd ∧ H dd = some (.xd ((ks.map T.fn).zip xs)) ∧ xs.length = ks.length ∧ RepAll T H vs xs)
def RepAll (T : Tbl) (H : Hp) : List D → List V → Prop
  | [], vs => vs = []
  | d :: ds, vs => ∃ v r, vs = v :: r ∧ Rep T H d v ∧ RepAll T H ds r
end
/-- an owned thing: its own object isn't frozen, its parts are -/
def RepO (T : Tbl) (H0 H : Hp) : D → V → Prop
  | .lst ds, v => ∃ a xs, v = .ref a ∧ H0 a = none ∧ H a = some (.lst xs) ∧ RepAll T H0 ds xs
  | .dK ks vs, v => ∃ a xs, v = .ref a ∧ H0 a = none ∧ H a = some (.dK (ks.zip xs)) ∧ xs.length = ks.length ∧ RepAll T H0 vs xs
  | .dT ks vs, v => ∃ a od es, v = .ref a ∧ H0 a = none ∧ H a = some (dtO a od) ∧ ObjDt a od es ∧ es.map (·.1) = ks ∧ KT3 T.K H0 es ∧ RepAll T H0 vs (es.map (·.2.2))
  | .obj c ks vs, v => ∃ a C dx xs, v = .ref a ∧ H0 a = none ∧ T.ck c ks = some C ∧ H a = some (.ins C dx ((ks.map T.fn).zip xs)) ∧ xs.length = ks.length ∧ RepAll T H0 vs xs
  | _, _ => False
/-- a value to be read: frozen, or owned -/
def RdV (T : Tbl) (H0 H : Hp) (d : D) (v : V) : Prop := Rep T H0 d v ∨ RepO T H0 H d v
/-- what an operation gives: a new thing (not of H), or a frozen one -/
def RepG (T : Tbl) (H0' H' H : Hp) (d : D) (v : V) : Prop := if isMutD d = true then ∃ a, v = .ref a ∧ H a = none ∧ RepO T H0' H' d v else Rep T H0' d v
mutual
theorem Rep.mono {T : Tbl} {H H' : Hp} (e : Ext H H') : ∀ (d : D) (v : V), Rep T H d v → Rep T H' d v
  | .non, _, h => by simpa only [Rep] using h
  | .bl _, _, h => by simpa only [Rep] using h
  | .int _, _, h => by simpa only [Rep] using h
  | .str _, _, h => by simpa only [Rep] using h
  | .lst ds, _, h => by
    simp only [Rep] at h ⊢
    obtain ⟨a, xs, h1, h2, h3⟩ := h
    exact ⟨a, xs, h1, e.rd h2, RepAll.mono e _ _ h3⟩
  | .tup ds, _, h => by
    simp only [Rep] at h ⊢
    obtain ⟨a, xs, h1, h2, h3⟩ := h
    exact ⟨a, xs, h1, e.sqT h2, RepAll.mono e _ _ h3⟩
  | .kst ds, _, h => by
    simp only [Rep] at h ⊢
    obtain ⟨a, xs, h1, h2, h3⟩ := h
    exact ⟨a, xs, h1, e.sqL h2, RepAll.mono e _ _ h3⟩
  | .dK ks vs, _, h => by
    simp only [Rep] at h ⊢
    obtain ⟨a, xs, h1, h2, hl, h3⟩ := h
    exact ⟨a, xs, h1, e.rd h2, hl, RepAll.mono e _ _ h3⟩
  | .dT ks vs, _, h => by
    simp only [Rep] at h ⊢
    obtain ⟨a, od, es, h1, h2, ho, hk, ht, h3⟩ := h
    exact ⟨a, od, es, h1, e.rd h2, ho, hk, e.kt3 ht, RepAll.mono e _ _ h3⟩
  | .obj c ks vs, _, h => by
    simp only [Rep] at h ⊢
    obtain ⟨a, C, dx, xs, h1, hc, h2, hl, h3⟩ := h
    exact ⟨a, C, dx, xs, h1, hc, e _ _ h2, hl, RepAll.mono e _ _ h3⟩
  | .cls _, _, h => by simpa only [Rep] using h
  | .err c ks vs, _, h => by
    simp only [Rep] at h ⊢
    obtain ⟨a, C, d, h1, hc, h2, h3⟩ := h
    refine ⟨a, C, d, h1, hc, e _ _ h2, ?_⟩
    rcases h3 with h3 | ⟨dd, xs, e1, e2, e3, e4⟩
    · exact .inl h3
    · exact .inr ⟨dd, xs, e1, e _ _ e2, e3, RepAll.mono e _ _ e4⟩
theorem RepAll.mono {T : Tbl} {H H' : Hp} (e : Ext H H') : ∀ (ds : List D) (vs : List V), RepAll T H ds vs → RepAll T H' ds vs
  | [], _, h => by simpa only [RepAll] using h
  | d :: ds, _, h => by
    simp only [RepAll] at h ⊢
    obtain ⟨v, r, h1, h2, h3⟩ := h
    exact ⟨v, r, h1, Rep.mono e _ _ h2, RepAll.mono e _ _ h3⟩
end
theorem RepAll.len {T : Tbl} {H : Hp} : ∀ {ds : List D} {vs : List V}, RepAll T H ds vs → vs.length = ds.length
  | [], _, h => by simp only [RepAll] at h; subst h; rfl
  | d :: ds, _, h => by
    simp only [RepAll] at h
    obtain ⟨v, r, rfl, _, h3⟩ := h
    simp [RepAll.len h3]
theorem RepAll.app {T : Tbl} {H : Hp} : ∀ {ds es : List D} {vs us : List V}, RepAll T H ds vs → RepAll T H es us → RepAll T H (ds ++ es) (vs ++ us)
  | [], _, _, _, h, h' => by simp only [RepAll] at h; subst h; simpa using h'
  | d :: ds, _, _, _, h, h' => by
    simp only [RepAll] at h
    obtain ⟨v, r, rfl, h2, h3⟩ := h
    simp only [List.cons_append, RepAll]
    exact ⟨v, _, rfl, h2, RepAll.app h3 h'⟩
theorem RepAll.get {T : Tbl} {H : Hp} : ∀ {ds : List D} {vs : List V} {i : Nat} {d : D}, RepAll T H ds vs → ds[i]? = some d → ∃ v, vs[i]? = some v ∧ Rep T H d v
  | [], _, _, _, h, e => by simp at e
  | d :: ds, _, 0, _, h, e => by
    simp only [RepAll] at h
    obtain ⟨v, r, rfl, h2, h3⟩ := h
    simp at e; subst e
    exact ⟨v, rfl, h2⟩
  | d :: ds, _, i + 1, _, h, e => by
    simp only [RepAll] at h
    obtain ⟨v, r, rfl, h2, h3⟩ := h
    simpa using RepAll.get h3 (by simpa using e)
theorem RepAll.get' {T : Tbl} {H : Hp} : ∀ {ds : List D} {vs : List V} {i : Nat} {v : V}, RepAll T H ds vs → vs[i]? = some v → ∃ d, ds[i]? = some d ∧ Rep T H d v
  | [], _, _, _, h, e => by simp only [RepAll] at h; subst h; simp at e
  | d :: ds, _, 0, _, h, e => by
    simp only [RepAll] at h
    obtain ⟨v, r, rfl, h2, h3⟩ := h
    simp at e; subst e
    exact ⟨d, rfl, h2⟩
  | d :: ds, _, i + 1, _, h, e => by
    simp only [RepAll] at h
    obtain ⟨v, r, rfl, h2, h3⟩ := h
    simpa using RepAll.get' h3 (by simpa using e)
theorem RepAll.set {T : Tbl} {H : Hp} {d : D} {v : V} (hd : Rep T H d v) : ∀ {ds : List D} {vs : List V} (i : Nat), RepAll T H ds vs → RepAll T H (ds.set i d) (vs.set i v)
  | [], _, _, h => by simp only [RepAll] at h; subst h; simp [RepAll]
  | e :: ds, _, 0, h => by
    simp only [RepAll] at h
    obtain ⟨u, r, rfl, h2, h3⟩ := h
    simp only [List.set_cons_zero, RepAll]
    exact ⟨v, r, rfl, hd, h3⟩
  | e :: ds, _, i + 1, h => by
    simp only [RepAll] at h
    obtain ⟨u, r, rfl, h2, h3⟩ := h
    simp only [List.set_cons_succ, RepAll]
    exact ⟨u, _, rfl, h2, RepAll.set hd i h3⟩
theorem RepAll.take {T : Tbl} {H : Hp} : ∀ {ds : List D} {vs : List V} (n : Nat), RepAll T H ds vs → RepAll T H (ds.take n) (vs.take n)
  | _, _, 0, h => by simp [RepAll]
  | [], _, _ + 1, h => by simp only [RepAll] at h; subst h; simp [RepAll]
  | e :: ds, _, i + 1, h => by
    simp only [RepAll] at h
    obtain ⟨u, r, rfl, h2, h3⟩ := h
    simp only [List.take_succ_cons, RepAll]
    exact ⟨u, _, rfl, h2, RepAll.take i h3⟩
theorem RepAll.drop {T : Tbl} {H : Hp} : ∀ {ds : List D} {vs : List V} (n : Nat), RepAll T H ds vs → RepAll T H (ds.drop n) (vs.drop n)
  | _, _, 0, h => by simpa using h
  | [], _, _ + 1, h => by simp only [RepAll] at h; subst h; simp [RepAll]
  | e :: ds, _, i + 1, h => by
    simp only [RepAll] at h
    obtain ⟨u, r, rfl, h2, h3⟩ := h
    simpa using RepAll.drop i h3
theorem RepAll.atI {T : Tbl} {H : Hp} {ds : List D} {vs : List V} {i : Int} {d : D} (h : RepAll T H ds vs) (e : L2.atI ds i = some d) : ∃ v, L2.atI vs i = some v ∧ Rep T H d v := by
  unfold L2.atI at e ⊢
  rw [h.len]
  cases q : ixN ds.length i with
  | none => rw [q] at e; cases e
  | some j =>
    rw [q] at e
    exact RepAll.get h e
structure Ctx where
  T : Tbl
  H0e : Hp
  He : Hp
  ioAt : List (Option Addr)
  fa : Addr
def Ctx.io (C : Ctx) (a : Addr) : Prop := some a ∈ C.ioAt
structure Ctx.Ok (C : Ctx) : Prop where
  ioNo : ∀ a, C.io a → C.H0e a = none ∧ C.He a ≠ none
  ex : Ext C.H0e C.He
def ownS : Sl → Bool
  | .ow _ => true | .io _ => true | _ => false
def SlOk (C : Ctx) (H0 H : Hp) (i : Nat) (o : Option (Option V)) : Sl → Prop
  | .un => True
  | .fz d => ∃ v, o = some (some v) ∧ Rep C.T H0 d v
  | .ow d => ∃ a, o = some (some (.ref a)) ∧ C.He a = none ∧ RepO C.T H0 H d (.ref a)
  | .io d => ∃ a, o = some (some (.ref a)) ∧ C.ioAt[i]? = some (some a) ∧ RepO C.T H0 H d (.ref a)
  | .fn => o = some (some (.ref C.fa))
structure Sim (C : Ctx) (σ : L2.St) (H0 H : Hp) (env : Env) : Prop where
  ok : C.Ok
  ex : Ext H0 H
  ex0 : Ext C.H0e H0
  fresh : ∀ a, C.H0e a = none → H0 a ≠ none → C.He a = none
  keep : ∀ a o, C.He a = some o → ¬ C.io a → Kp o (H a)
  ioH : ∀ a, C.io a → H a ≠ none
  len : env.length = σ.length
  slots : ∀ i, SlOk C H0 H i (σ[i]?) (getS env i)
  inj : ∀ i j a, i ≠ j → ownS (getS env i) = true → ownS (getS env j) = true → σ[i]? = some (some (.ref a)) → σ[j]? = some (some (.ref a)) → False
  tabs : LamX.Tabs C.T.tt H
  tno : ∀ p ∈ C.T.tt, H0 p.1 = none
/-- a new thing -/
def RepN (C : Ctx) (σ : L2.St) (H0 H : Hp) (env : Env) (d : D) (v : V) : Prop :=
  if isMutD d = true then ∃ a, v = .ref a ∧ C.He a = none ∧ RepO C.T H0 H d v ∧ ∀ i, ownS (getS env i) = true → σ[i]? ≠ some (some (.ref a)) else Rep C.T H0 d v
def UOk (C : Ctx) (σ : L2.St) (H0 H : Hp) (env : Env) : U → V → Prop
  | .d x, v => Rep C.T H0 x v
  | .sl i, v => σ[i]? = some (some v)
  | .nw x, v => RepN C σ H0 H env x v
/-- an exception: its class, its own dict -/
def XOk (T : Tbl) (H0 H : Hp) (x : Exn) (cls : Value) (d : Option Addr) : Prop :=
  ∃ C, T.cx x.1 x.2.1 = some C ∧ cls = .ref C ∧ ((x.2.1 = [] ∧ d = none) ∨ ∃ dd xs, d = some dd ∧ H0 dd = some (.xd ((x.2.1.map T.fn).zip xs)) ∧ xs.length = x.2.1.length ∧ RepAll T H0 x.2.2 xs)
structure Gr (T : Tbl) (H0 H H0' H' : Hp) : Prop where
  e0 : Ext H0 H0'
  e : ExtW H H'
  e01 : Ext H0' H'
  new : ∀ a, H0 a = none → H0' a ≠ none → H a = none
  tb : LamX.Tabs T.tt H → LamX.Tabs T.tt H'
theorem Gr.rfl' {T : Tbl} {H0 H : Hp} (e : Ext H0 H) : Gr T H0 H H0 H := ⟨Ext.rfl' _, .of (Ext.rfl' _), e, fun a h h' => (h' h).elim, fun t => t⟩
theorem Gr.tr {T : Tbl} {H0 H H0' H' H0'' H'' : Hp} (a : Gr T H0 H H0' H') (b : Gr T H0' H' H0'' H'') : Gr T H0 H H0'' H'' :=
  ⟨a.e0.tr b.e0, a.e.tr b.e, b.e01, fun x h h' => by
    cases q : H0' x with
    | none => exact a.e.no (b.new x q h')
    | some o => exact a.new x h (by rw [q]; exact nofun), fun t => b.tb (a.tb t)⟩
/-- a frozen new object -/
theorem Gr.froz {T : Tbl} {H0 H : Hp} {p : Addr} {o : HO} (e : Ext H0 H) (hp : H p = none) : Gr T H0 H (upd H0 p o) (upd H p o) := by
  refine ⟨ext_upd (e.no hp), .of (ext_upd hp), fun a u h => ?_, fun a h h' => ?_, fun t => (ext_upd hp).tabs t⟩
  · by_cases z : a = p
    · subst z; rw [upd_same] at h ⊢; exact h
    · rw [upd_ne z] at h ⊢; exact e _ _ h
  · by_cases z : a = p
    · subst z; exact hp
    · rw [upd_ne z] at h'; exact (h' h).elim
/-- an owned new object -/
theorem Gr.own {T : Tbl} {H0 H : Hp} {p : Addr} {o : HO} (e : Ext H0 H) (hp : H p = none) : Gr T H0 H H0 (upd H p o) :=
  ⟨Ext.rfl' _, .of (ext_upd hp), e.tr (ext_upd hp), fun a h h' => (h' h).elim, fun t => (ext_upd hp).tabs t⟩
section
variable {C : Ctx} {σ : L2.St} {H0 H H0' H' : Hp} {env : Env}
theorem RepO.keep {T : Tbl} {d : D} {a : Addr} (e0 : Ext H0 H0') (hn : H0' a = none) (hk : H' a = H a) (h : RepO T H0 H d (.ref a)) : RepO T H0' H' d (.ref a) := by
  cases d with
  | lst ds =>
    obtain ⟨b, xs, e, h1, h2, h3⟩ := h
    cases e
    exact ⟨a, xs, rfl, hn, hk.trans h2, RepAll.mono e0 _ _ h3⟩
  | dK ks vs =>
    obtain ⟨b, xs, e, h1, h2, hl, h3⟩ := h
    cases e
    exact ⟨a, xs, rfl, hn, hk.trans h2, hl, RepAll.mono e0 _ _ h3⟩
  | dT ks vs =>
    obtain ⟨b, od, es, e, h1, h2, ho, hq, ht, h3⟩ := h
    cases e
    exact ⟨a, od, es, rfl, hn, hk.trans h2, ho, hq, e0.kt3 ht, RepAll.mono e0 _ _ h3⟩
  | obj c ks vs =>
    obtain ⟨b, Ca, dx, xs, e, h1, hc, h2, hl, h3⟩ := h
    cases e
    exact ⟨a, Ca, dx, xs, rfl, hn, hc, hk.trans h2, hl, RepAll.mono e0 _ _ h3⟩
  | _ => exact h.elim
theorem RepO.some {T : Tbl} {d : D} {a : Addr} (h : RepO T H0 H d (.ref a)) : H0 a = none ∧ ∃ o, H a = .some o := by
  cases d with
  | lst ds => obtain ⟨b, xs, e, h1, h2, h3⟩ := h; cases e; exact ⟨h1, _, h2⟩
  | dK ks vs => obtain ⟨b, xs, e, h1, h2, hl, h3⟩ := h; cases e; exact ⟨h1, _, h2⟩
  | dT ks vs => obtain ⟨b, od, es, e, h1, h2, _⟩ := h; cases e; exact ⟨h1, _, h2⟩
  | obj c ks vs => obtain ⟨b, Ca, dx, xs, e, h1, hc, h2, hl, h3⟩ := h; cases e; exact ⟨h1, _, h2⟩
  | _ => exact h.elim
theorem RepO.kind {T : Tbl} {d : D} {a : Addr} {o : HO} (h : RepO T H0 H d (.ref a)) (ho : H a = .some o) : (∀ ps, o ≠ .tbl ps) ∧ ∀ c q, o ≠ LamX.CodeO c q := by
  cases d with
  | lst ds => obtain ⟨b, xs, e, h1, h2, h3⟩ := h; cases e; rw [ho] at h2; cases h2; exact ⟨nofun, fun _ _ z => by cases z⟩
  | dK ks vs => obtain ⟨b, xs, e, h1, h2, hl, h3⟩ := h; cases e; rw [ho] at h2; cases h2; exact ⟨nofun, fun _ _ z => by cases z⟩
  | dT ks vs => obtain ⟨b, od, es, e, h1, h2, hd, _⟩ := h; cases e; rw [ho] at h2; cases h2; exact ⟨nofun, fun c q => dtO_code hd⟩
  | obj c ks vs => obtain ⟨b, Ca, dx, xs, e, h1, hc, h2, hl, h3⟩ := h; cases e; rw [ho] at h2; cases h2; exact ⟨nofun, fun _ _ z => by cases z⟩
  | _ => exact h.elim
theorem RepO.ref {T : Tbl} {d : D} {v : V} (h : RepO T H0 H d v) : isMutD d = true ∧ ∃ a, v = .ref a := by
  cases d with
  | lst ds => obtain ⟨b, xs, e, h1, h2, h3⟩ := h; exact ⟨rfl, b, e⟩
  | dK ks vs => obtain ⟨b, xs, e, h1, h2, hl, h3⟩ := h; exact ⟨rfl, b, e⟩
  | dT ks vs => obtain ⟨b, od, es, e, _⟩ := h; exact ⟨rfl, b, e⟩
  | obj c ks vs => obtain ⟨b, Ca, dx, xs, e, h1, hc, h2, hl, h3⟩ := h; exact ⟨rfl, b, e⟩
  | _ => exact h.elim
/-- an owned thing becomes frozen -/
theorem RepO.kindT {T : Tbl} {d : D} {a : Addr} {o : HO} (h : RepO T H0 H d (.ref a)) (ho : H a = .some o) : (∀ ps, o ≠ .tup ps) ∧ ∀ x u, o ≠ .frz x u := by
  cases d with
  | lst ds => obtain ⟨b, xs, e, h1, h2, h3⟩ := h; cases e; rw [ho] at h2; cases h2; exact ⟨(fun _ z => by cases z), (fun _ _ z => by cases z)⟩
  | dK ks vs => obtain ⟨b, xs, e, h1, h2, hl, h3⟩ := h; cases e; rw [ho] at h2; cases h2; exact ⟨(fun _ z => by cases z), (fun _ _ z => by cases z)⟩
  | dT ks vs => obtain ⟨b, od, es, e, h1, h2, _⟩ := h; cases e; rw [ho] at h2; cases h2; exact ⟨(fun _ z => by cases z), (fun _ _ z => by cases z)⟩
  | obj c ks vs => obtain ⟨b, Ca, dx, xs, e, h1, hc, h2, hl, h3⟩ := h; cases e; rw [ho] at h2; cases h2; exact ⟨(fun _ z => by cases z), (fun _ _ z => by cases z)⟩
  | _ => exact h.elim
theorem RepO.froz {T : Tbl} {d : D} {a : Addr} {o : HO} (ho : H a = .some o) (h : RepO T H0 H d (.ref a)) : Rep T (upd H0 a o) d (.ref a) := by
  have en : Ext H0 (upd H0 a o) := ext_upd h.some.1
  cases d with
  | lst ds =>
    obtain ⟨b, xs, e, h1, h2, h3⟩ := h
    cases e
    rw [ho] at h2; cases h2
    simp only [Rep]
    exact ⟨a, xs, rfl, .inl upd_same, RepAll.mono en _ _ h3⟩
  | dK ks vs =>
    obtain ⟨b, xs, e, h1, h2, hl, h3⟩ := h
    cases e
    rw [ho] at h2; cases h2
    simp only [Rep]
    exact ⟨a, xs, rfl, .inl upd_same, hl, RepAll.mono en _ _ h3⟩
  | dT ks vs =>
    obtain ⟨b, od, es, e, h1, h2, hd, hq, ht, h3⟩ := h
    cases e
    rw [ho] at h2; cases h2
    simp only [Rep]
    exact ⟨a, od, es, rfl, .inl upd_same, hd, hq, en.kt3 ht, RepAll.mono en _ _ h3⟩
  | obj c ks vs =>
    obtain ⟨b, Ca, dx, xs, e, h1, hc, h2, hl, h3⟩ := h
    cases e
    rw [ho] at h2; cases h2
    simp only [Rep]
    exact ⟨a, Ca, dx, xs, rfl, hc, upd_same, hl, RepAll.mono en _ _ h3⟩
  | _ => exact h.elim
/-- the slots are as they were where the owned objects stand as they stood -/
theorem SlOk.step {i : Nat} {o : Option (Option V)} {s : Sl} (e0 : Ext H0 H0') (hk : ∀ a, ownS s = true → o = some (some (.ref a)) → H0' a = none ∧ H' a = H a) (h : SlOk C H0 H i o s) : SlOk C H0' H' i o s := by
  cases s with
  | un => trivial
  | fn => exact h
  | fz d => obtain ⟨v, h1, h2⟩ := h; exact ⟨v, h1, Rep.mono e0 _ _ h2⟩
  | ow d => obtain ⟨a, h1, h2, h3⟩ := h; exact ⟨a, h1, h2, h3.keep e0 (hk a rfl h1).1 (hk a rfl h1).2⟩
  | io d => obtain ⟨a, h1, h2, h3⟩ := h; exact ⟨a, h1, h2, h3.keep e0 (hk a rfl h1).1 (hk a rfl h1).2⟩
theorem Sim.own (S : Sim C σ H0 H env) {i : Nat} {a : Addr} (h : ownS (getS env i) = true) (e : σ[i]? = some (some (.ref a))) : H0 a = none ∧ ∃ o, H a = some o := by
  have q := S.slots i
  cases z : getS env i with
  | un => rw [z] at h; cases h
  | fn => rw [z] at h; cases h
  | fz d => rw [z] at h; cases h
  | ow d => rw [z] at q; obtain ⟨b, h1, h2, h3⟩ := q; rw [e] at h1; cases h1; exact h3.some
  | io d => rw [z] at q; obtain ⟨b, h1, h2, h3⟩ := q; rw [e] at h1; cases h1; exact h3.some
theorem Sim.ownK (S : Sim C σ H0 H env) {i : Nat} {a : Addr} {o : HO} (h : ownS (getS env i) = true) (e : σ[i]? = some (some (.ref a))) (ho : H a = some o) : (∀ ps, o ≠ .tbl ps) ∧ ∀ c q, o ≠ LamX.CodeO c q := by
  have q := S.slots i
  cases z : getS env i with
  | un => rw [z] at h; cases h
  | fn => rw [z] at h; cases h
  | fz d => rw [z] at h; cases h
  | ow d => rw [z] at q; obtain ⟨b, h1, h2, h3⟩ := q; rw [e] at h1; cases h1; exact h3.kind ho
  | io d => rw [z] at q; obtain ⟨b, h1, h2, h3⟩ := q; rw [e] at h1; cases h1; exact h3.kind ho
theorem Sim.he (S : Sim C σ H0 H env) {a : Addr} (h : H a = none) : C.He a = none := by
  cases q : C.He a with
  | none => rfl
  | some o =>
    by_cases z : C.io a
    · exact (S.ioH a z h).elim
    · obtain ⟨u, hu⟩ := (S.keep a o q z).some; rw [h] at hu; cases hu
theorem Sim.gr (S : Sim C σ H0 H env) (g : Gr C.T H0 H H0' H') : Sim C σ H0' H' env where
  ok := S.ok
  ex := g.e01
  ex0 := S.ex0.tr g.e0
  fresh := fun a h h' => by
    cases q : H0 a with
    | none => exact S.he (g.new a q h')
    | some o => exact S.fresh a h (by rw [q]; exact nofun)
  keep := fun a o h h' => by
    obtain ⟨u, hu⟩ := (S.keep a o h h').some
    exact (S.keep a o h h').tr hu (g.e a u hu)
  tabs := g.tb S.tabs
  tno := fun p hp => by
    obtain ⟨ps, h1, _⟩ := S.tabs p hp
    cases q : H0' p.1 with
    | none => rfl
    | some u => rw [g.new p.1 (S.tno p hp) (by rw [q]; exact nofun)] at h1; cases h1
  ioH := fun a h h' => by
    cases q : H a with
    | none => exact S.ioH a h q
    | some o => obtain ⟨u, hu⟩ := (g.e _ _ q).some; rw [h'] at hu; cases hu
  len := S.len
  slots := fun i => (S.slots i).step g.e0 fun a ho e => by
    obtain ⟨h0, o, h1⟩ := S.own ho e
    refine ⟨?_, by rw [(g.e _ _ h1).at (S.ownK ho e h1).1, h1]⟩
    cases q : H0' a with
    | none => rfl
    | some u => rw [g.new a h0 (by rw [q]; exact nofun)] at h1; cases h1
  inj := S.inj
theorem Sim.tnoU (S : Sim C σ H0 H env) {a : Addr} {o o' : HO} (h : H a = some o) (hk : ∀ ps, o ≠ .tbl ps) : ∀ p ∈ C.T.tt, upd H0 a o' p.1 = none := fun p hp => by
  obtain ⟨ps, h1, _⟩ := S.tabs p hp
  rw [upd_ne (fun z => by rw [z, h] at h1; exact hk ps (Option.some.inj h1))]
  exact S.tno p hp
theorem RepG.nw (S : Sim C σ H0 H env) {d : D} {v : V} (h : RepG C.T H0' H' H d v) : RepN C σ H0' H' env d v := by
  unfold RepN; unfold RepG at h
  split
  · rename_i z
    rw [if_pos z] at h
    obtain ⟨a, rfl, h1, h2⟩ := h
    refine ⟨a, rfl, S.he h1, h2, fun i ho e => ?_⟩
    obtain ⟨_, o, q⟩ := S.own ho e
    rw [h1] at q; cases q
  · rename_i z
    rw [if_neg z] at h
    exact h
/-- freezing an object that is owned by no slot -/
theorem Sim.frozN (S : Sim C σ H0 H env) {a : Addr} {o : HO} (hk : ∀ ps, o ≠ .tbl ps) (h0 : H0 a = none) (he : C.He a = none) (h : H a = some o) (hs : ∀ i, ownS (getS env i) = true → σ[i]? ≠ some (some (.ref a))) : Sim C σ (upd H0 a o) H env where
  ok := S.ok
  ex := fun b u q => by
    by_cases z : b = a
    · subst z; rw [upd_same] at q; cases q; exact h
    · rw [upd_ne z] at q; exact S.ex _ _ q
  ex0 := S.ex0.tr (ext_upd h0)
  fresh := fun b q q' => by
    by_cases z : b = a
    · subst z; exact he
    · rw [upd_ne z] at q'; exact S.fresh b q q'
  keep := S.keep
  ioH := S.ioH
  len := S.len
  slots := fun i => (S.slots i).step (ext_upd h0) fun b ho e => by
    have z : b ≠ a := fun z => hs i ho (by rw [← z]; exact e)
    exact ⟨by rw [upd_ne z]; exact (S.own ho e).1, rfl⟩
  inj := S.inj
  tabs := S.tabs
  tno := fun p hp => by
    obtain ⟨ps, h1, _⟩ := S.tabs p hp
    rw [upd_ne (fun z => by rw [z, h] at h1; exact hk ps (Option.some.inj h1))]
    exact S.tno p hp
/-- a value that waits: a new thing is frozen -/
theorem Sim.pend (S : Sim C σ H0 H env) {u : U} {v : V} (h : UOk C σ H0 H env u v) : ∃ H0', Ext H0 H0' ∧ Sim C σ H0' H env ∧ UOk C σ H0' H env (PP.pend u) v := by
  cases u with
  | d x => exact ⟨H0, Ext.rfl' _, S, h⟩
  | sl i => exact ⟨H0, Ext.rfl' _, S, h⟩
  | nw x =>
    have h' : RepN C σ H0 H env x v := h
    unfold RepN at h'
    split at h'
    · obtain ⟨a, rfl, h1, h2, h3⟩ := h'
      obtain ⟨h0, o, ho⟩ := h2.some
      exact ⟨upd H0 a o, ext_upd h0, S.frozN (h2.kind ho).1 h0 h1 ho h3, h2.froz ho⟩
    · exact ⟨H0, Ext.rfl' _, S, h'⟩
/-- what waits, waits on -/
theorem UOk.wait {u : U} {v : V} {env' : Env} {H1 : Hp} (h : UOk C σ H0 H env (PP.pend u) v) (e : Ext H0 H0') : UOk C σ H0' H1 env' (PP.pend u) v := by
  cases u with
  | d x => exact Rep.mono e _ _ h
  | sl i => exact h
  | nw x => exact Rep.mono e _ _ h
/-- reading -/
theorem Sim.rd (S : Sim C σ H0 H env) {u : U} {v : V} {d : D} (h : UOk C σ H0 H env u v) (hr : rdU env u = some d) : RdV C.T H0 H d v := by
  cases u with
  | d x => cases hr; exact .inl h
  | nw x =>
    cases hr
    have h' : RepN C σ H0 H env d v := h
    unfold RepN at h'
    split at h'
    · obtain ⟨a, rfl, h1, h2, h3⟩ := h'
      exact .inr h2
    · exact .inl h'
  | sl i =>
    have q := S.slots i
    have e : σ[i]? = some (some v) := h
    unfold rdU rdS at hr
    cases z : getS env i with
    | un => simp [z] at hr
    | fn => simp [z] at hr
    | fz x => simp [z] at hr; subst hr; rw [z] at q; obtain ⟨w, h1, h2⟩ := q; rw [e] at h1; cases h1; exact .inl h2
    | ow x => simp [z] at hr; subst hr; rw [z] at q; obtain ⟨w, h1, h2, h3⟩ := q; rw [e] at h1; cases h1; exact .inr h3
    | io x => simp [z] at hr; subst hr; rw [z] at q; obtain ⟨w, h1, h2, h3⟩ := q; rw [e] at h1; cases h1; exact .inr h3
end
end PP
end
section
set_option maxHeartbeats 1000000
namespace PP
open PySem L2
/-- what is wanted of a result -/
def RQ {α : Type} (C : Ctx) (W : WX) (σ : L2.St) (K : α → Env → Hp → Hp → Prop) (H0 : Hp) : R α → Prop
  | .ok a env => ∀ H0' H', Ext H0 H0' → Sim C σ H0' H' env → K a env H0' H'
  | .exc x env => ∀ cls d H0' H', Ext H0 H0' → Sim C σ H0' H' env → XOk C.T H0' H' x cls d → W cls d σ H'
  | .bad => False
def KV (C : Ctx) (σ : L2.St) (Q : VK) : U → Env → Hp → Hp → Prop := fun u env H0 H => ∀ v, UOk C σ H0 H env u v → Q v H
/-- an expression of the small syntax, read -/
def tI (C : Ctx) (W : WX) (cl : CallF) (e : Ex) : TE := fun σ H Q => ∃ H0 env, Sim C σ H0 H env ∧ RQ C W σ (KV C σ Q) H0 (ev cl e env)
def tT (C : Ctx) (W : WX) (cl : CallF) (e : Ex) : TT := fun σ H Q => ∃ H0 env, Sim C σ H0 H env ∧ RQ C W σ (fun b _ _ H' => Q b H') H0 (evT cl e env)
theorem RQ.mono {α : Type} {C : Ctx} {W : WX} {σ : L2.St} {K : α → Env → Hp → Hp → Prop} {H0 H1 : Hp} (e : Ext H0 H1) {r : R α} (h : RQ C W σ K H0 r) : RQ C W σ K H1 r := by
  cases r with
  | ok a env => exact fun H0' H' e' s => h H0' H' (e.tr e') s
  | exc x env => exact fun cls d H0' H' e' s x => h cls d H0' H' (e.tr e') s x
  | bad => exact h
theorem RQ.orB {α β : Type} {C : Ctx} {W : WX} {σ : L2.St} {K : β → Env → Hp → Hp → Prop} {H0 : Hp} {o : Option α} {f : α → R β} (h : RQ C W σ K H0 (orBad o f)) : ∃ a, o = some a ∧ RQ C W σ K H0 (f a) := by
  cases o with
  | none => exact h.elim
  | some a => exact ⟨a, rfl, h⟩
section
variable {C : Ctx} {W : WX} {σ : L2.St} {cl : CallF} {H0 H : Hp} {env : Env} {β : Type} {K : β → Env → Hp → Hp → Prop}
/-- an expression, then the rest -/
theorem seqI {a : Ex} {f : U → Env → R β} (S : Sim C σ H0 H env) (h : RQ C W σ K H0 ((ev cl a env).bind f)) {Q : VK}
    (hQ : ∀ u env1 v H01 H1, Ext H0 H01 → Sim C σ H01 H1 env1 → UOk C σ H01 H1 env1 u v → RQ C W σ K H01 (f u env1) → Q v H1) : tI C W cl a σ H Q := by
  refine ⟨H0, env, S, ?_⟩
  cases q : ev cl a env with
  | ok u env1 =>
    rw [q] at h
    exact fun H01 H1 e s v hu => hQ u env1 v H01 H1 e s hu (RQ.mono e h)
  | exc x env1 =>
    rw [q] at h
    exact fun cls d H0' H' e s x => h cls d H0' H' e s x
  | bad => rw [q] at h; exact h
theorem seqT {a : Ex} {f : Bool → Env → R β} (S : Sim C σ H0 H env) (h : RQ C W σ K H0 ((evT cl a env).bind f)) {Q : Bool → Hp → Prop}
    (hQ : ∀ b env1 H01 H1, Ext H0 H01 → Sim C σ H01 H1 env1 → RQ C W σ K H01 (f b env1) → Q b H1) : tT C W cl a σ H Q := by
  refine ⟨H0, env, S, ?_⟩
  cases q : evT cl a env with
  | ok u env1 =>
    rw [q] at h
    exact fun H01 H1 e s => hQ u env1 H01 H1 e s (RQ.mono e h)
  | exc x env1 =>
    rw [q] at h
    exact fun cls d H0' H' e s x => h cls d H0' H' e s x
  | bad => rw [q] at h; exact h
end
theorem peI {X : Cx} {e : Expr} {t t' : TE} (h : PE X e t) (i : ∀ σ H Q, t' σ H Q → t σ H Q) : PE X e t' := ⟨fun pins s σ H Q I q => h.run pins s σ H Q I (i σ H Q q)⟩
theorem ptI {X : Cx} {e : Expr} {t t' : TT} (h : PT X e t) (i : ∀ σ H Q, t' σ H Q → t σ H Q) : PT X e t' := ⟨fun pins s σ H Q I q => h.run pins s σ H Q I (i σ H Q q)⟩
theorem pwI {X : Cx} {e : Expr} {t t' : TT} (h : PW X e t) (i : ∀ σ H Q, t' σ H Q → t σ H Q) : PW X e t' := ⟨fun wh pins s σ H Q I q => h.run wh pins s σ H Q I (i σ H Q q)⟩
theorem orI {X : Cx} {f : Value → Value → Sem Value} {r r' : R2} (h : OpR X f r) (i : ∀ x y H Q, r' x y H Q → r x y H Q) : OpR X f r' := fun pins s σ H x y v u Q I rx ry q => h pins s σ H x y v u Q I rx ry (i x y H Q q)
section
variable {T : Tbl} {H0 H : Hp} {x : V}
theorem rd_non (h : RdV T H0 H .non x) : x = .non := by rcases h with h | h; exact (by simpa only [Rep] using h); exact h.elim
theorem rd_bl {b : Bool} (h : RdV T H0 H (.bl b) x) : x = .bl b := by rcases h with h | h; exact (by simpa only [Rep] using h); exact h.elim
theorem rd_int {i : Int} (h : RdV T H0 H (.int i) x) : x = .int i := by rcases h with h | h; exact (by simpa only [Rep] using h); exact h.elim
theorem rd_str {i : Str} (h : RdV T H0 H (.str i) x) : x = .str i := by rcases h with h | h; exact (by simpa only [Rep] using h); exact h.elim
theorem rd_lst (e : Ext H0 H) {ds : List D} (h : RdV T H0 H (.lst ds) x) : ∃ a xs, x = .ref a ∧ Rd H a (.lst xs) ∧ RepAll T H0 ds xs := by
  rcases h with h | h
  · simp only [Rep] at h
    obtain ⟨a, xs, h1, h2, h3⟩ := h
    exact ⟨a, xs, h1, e.rd h2, h3⟩
  · obtain ⟨a, xs, h1, h0, h2, h3⟩ := h
    exact ⟨a, xs, h1, .inl h2, h3⟩
theorem rd_tup (e : Ext H0 H) {ds : List D} (h : RdV T H0 H (.tup ds) x) : ∃ a xs, x = .ref a ∧ SqT T.K H a xs ∧ RepAll T H0 ds xs := by
  rcases h with h | h
  · simp only [Rep] at h
    obtain ⟨a, xs, h1, h2, h3⟩ := h
    exact ⟨a, xs, h1, e.sqT h2, h3⟩
  · exact h.elim
theorem rd_kst (e : Ext H0 H) {ds : List D} (h : RdV T H0 H (.kst ds) x) : ∃ a xs, x = .ref a ∧ SqL T.K H a xs ∧ RepAll T H0 ds xs := by
  rcases h with h | h
  · simp only [Rep] at h
    obtain ⟨a, xs, h1, h2, h3⟩ := h
    exact ⟨a, xs, h1, e.sqL h2, h3⟩
  · exact h.elim
theorem rd_dK (e : Ext H0 H) {ks : List Key} {ds : List D} (h : RdV T H0 H (.dK ks ds) x) : ∃ a xs, x = .ref a ∧ Rd H a (.dK (ks.zip xs)) ∧ xs.length = ks.length ∧ RepAll T H0 ds xs := by
  rcases h with h | h
  · simp only [Rep] at h
    obtain ⟨a, xs, h1, h2, h3⟩ := h
    exact ⟨a, xs, h1, e.rd h2, h3⟩
  · obtain ⟨a, xs, h1, h0, h2, h3⟩ := h
    exact ⟨a, xs, h1, .inl h2, h3⟩
theorem rd_dT (e : Ext H0 H) {ks : List (List Int)} {ds : List D} (h : RdV T H0 H (.dT ks ds) x) : ∃ a od es, x = .ref a ∧ Rd H a (dtO a od) ∧ ObjDt a od es ∧ es.map (·.1) = ks ∧ KT3 T.K H0 es ∧ RepAll T H0 ds (es.map (·.2.2)) := by
  rcases h with h | h
  · simp only [Rep] at h
    obtain ⟨a, od, es, h1, h2, h3⟩ := h
    exact ⟨a, od, es, h1, e.rd h2, h3⟩
  · obtain ⟨a, od, es, h1, h0, h2, h3⟩ := h
    exact ⟨a, od, es, h1, .inl h2, h3⟩
theorem ints_rep : ∀ {ys : List D} {k : List Int} {xs : List V}, intsD ys = some k → RepAll T H ys xs → xs = k.map V.int
  | [], k, xs, h, r => by cases h; simp only [RepAll] at r; exact r
  | d :: ys, k, xs, h, r => by
    simp only [RepAll] at r
    obtain ⟨v, r', rfl, r1, r2⟩ := r
    cases d with
    | int i =>
      simp only [intsD, Option.map_eq_some_iff] at h
      obtain ⟨k', h1, rfl⟩ := h
      have hv : v = .int i := by simpa only [Rep] using r1
      rw [hv, ints_rep h1 r2]; rfl
    | _ => cases h
theorem rd_key (e : Ext H0 H) {ys : List D} {k : List Int} (hk : intsD ys = some k) (h : RdV T H0 H (.tup ys) x) : ∃ b, x = .ref b ∧ SqT T.K H b (k.map V.int) := by
  obtain ⟨b, xs, rfl, h1, h2⟩ := rd_tup e h
  rw [ints_rep hk h2] at h1
  exact ⟨b, rfl, h1⟩
theorem getDT_rep : ∀ {es : List T3} {ks : List (List Int)} {ds : List D} {k : List Int} {d : D}, es.map (·.1) = ks → RepAll T H ds (es.map (·.2.2)) → getDT ks ds k = some d → ∃ w, getT3 es k = some w ∧ Rep T H d w
  | [], ks, ds, k, d, h, r, g => by subst h; simp [getDT] at g
  | e :: es, ks, ds, k, d, h, r, g => by
    subst h
    cases ds with
    | nil => simp [getDT] at g
    | cons d0 ds =>
      simp only [List.map_cons, RepAll] at r
      obtain ⟨v, r', h1, h2, h3⟩ := r
      cases h1
      by_cases c : e.1 = k
      · have g' : d0 = d := by simpa [getDT, List.find?_cons, c] using g
        subst g'
        exact ⟨e.2.2, by simp [getT3, List.find?_cons, c], h2⟩
      · have g' : getDT (es.map (·.1)) ds k = some d := by simpa [getDT, List.find?_cons, c] using g
        obtain ⟨w, h4, h5⟩ := getDT_rep rfl h3 g'
        exact ⟨w, by simpa [getT3, List.find?_cons, c] using h4, h5⟩
theorem getDT_some : ∀ {es : List T3} {ks : List (List Int)} {ds : List D} {k : List Int}, es.map (·.1) = ks → RepAll T H ds (es.map (·.2.2)) → (getDT ks ds k).isSome = (getT3 es k).isSome
  | [], ks, ds, k, h, r => by subst h; simp [getDT, getT3]
  | e :: es, ks, ds, k, h, r => by
    subst h
    cases ds with
    | nil => simp only [List.map_cons, RepAll] at r; cases r
    | cons d0 ds =>
      simp only [List.map_cons, RepAll] at r
      obtain ⟨v, r', h1, h2, h3⟩ := r
      cases h1
      have ih := getDT_some (k := k) rfl h3
      by_cases c : e.1 = k
      · simp [getDT, getT3, List.find?_cons, c]
      · have a1 : getDT ((e :: es).map (·.1)) (d0 :: ds) k = getDT (es.map (·.1)) ds k := by simp [getDT, List.find?_cons, c]
        have a2 : getT3 (e :: es) k = getT3 es k := by simp [getT3, List.find?_cons, c]
        rw [a1, a2]; exact ih
theorem lim_line : LIM ≤ sizeLine := by rw [PySem.sizeLine_eq]; decide
theorem rd_truth (e : Ext H0 H) {d : D} {b : Bool} (h : RdV T H0 H d x) (ht : truD d = some b) : TruV T.K x H b := by
  cases d with
  | non => cases rd_non h; cases ht; rfl
  | bl c => cases rd_bl h; cases ht; rfl
  | int i => cases rd_int h; cases ht; rfl
  | str z =>
    cases rd_str h
    simp only [truD] at ht
    split at ht
    · rename_i hl
      cases ht
      exact ⟨Nat.le_trans hl lim_line, rfl⟩
    · cases ht
  | lst ds =>
    obtain ⟨a, xs, rfl, h1, h2⟩ := rd_lst e h
    cases ht
    refine .inl ⟨xs, .inl h1, ?_⟩
    have := h2.len
    cases ds <;> cases xs <;> simp_all
  | tup ds =>
    obtain ⟨a, xs, rfl, h1, h2⟩ := rd_tup e h
    cases ht
    refine .inr (.inl ⟨xs, h1, ?_⟩)
    have := h2.len
    cases ds <;> cases xs <;> simp_all
  | kst ds =>
    obtain ⟨a, xs, rfl, h1, h2⟩ := rd_kst e h
    cases ht
    refine .inl ⟨xs, h1, ?_⟩
    have := h2.len
    cases ds <;> cases xs <;> simp_all
  | dK ks ds => cases ht
  | dT ks ds => cases ht
  | obj c ks ds => cases ht
  | cls c => cases ht
  | err c ks ds => cases ht
end
theorem RepG.flat {T : Tbl} {H0' H' H : Hp} {d : D} {v : V} (hf : isMutD d = false) (h : Rep T H0' d v) : RepG T H0' H' H d v := by
  unfold RepG
  rw [if_neg (by rw [hf]; decide)]
  exact h
theorem RepG.lst {T : Tbl} {H0 H : Hp} {ds : List D} {xs : List V} {p : Addr} (e : Ext H0 H) (hp : H p = none) (h : RepAll T H0 ds xs) : RepG T H0 (upd H p (.lst xs)) H (.lst ds) (.ref p) := by
  show (if true = true then _ else _)
  rw [if_pos rfl]
  exact ⟨p, rfl, hp, p, xs, rfl, e.no hp, upd_same, h⟩
/-- an operation by the data -/
def rD (T : Tbl) (g : D → D → Option D) : R2 := fun x y H Q => ∃ H0 dx dy d, Ext H0 H ∧ RdV T H0 H dx x ∧ RdV T H0 H dy y ∧ g dx dy = some d ∧ ∀ v H0' H', Gr T H0 H H0' H' → RepG T H0' H' H d v → Q v H'
def rD1 (T : Tbl) (g : D → Option D) : V → Hp → VK → Prop := fun x H Q => ∃ H0 dx d, Ext H0 H ∧ RdV T H0 H dx x ∧ g dx = some d ∧ ∀ v H0' H', Gr T H0 H H0' H' → RepG T H0' H' H d v → Q v H'
section
variable {X : Cx} {T : Tbl}
/-- two ints in -/
theorem opInts {f : Value → Value → Sem Value} {o : O2} {c : Int → Int → Prop} {g : Int → Int → V} {gd : Int → Int → D} (h : OpR X f (rI c g)) (hf : ∀ i j, isMutD (gd i j) = false) (hr : ∀ T H i j, Rep T H (gd i j) (g i j))
    (inv : ∀ dx dy d, op2 o dx dy = some d → ∃ i j, dx = .int i ∧ dy = .int j ∧ c i j ∧ d = gd i j) : OpR X f (rD T (op2 o)) :=
  orI h fun x y H Q ⟨H0, dx, dy, d, e, hx, hy, hg, q⟩ => by
    obtain ⟨i, j, rfl, rfl, hc, rfl⟩ := inv dx dy d hg
    exact ⟨i, j, rd_int hx, rd_int hy, hc, q _ _ _ (Gr.rfl' e) (.flat (hf i j) (hr _ _ i j))⟩
theorem rI0I {g : Int → Int → V} {f : Value → Value → Sem Value} (h : OpR X f (rI0 g)) : OpR X f (rI (fun _ _ => True) g) := orI h fun x y H Q ⟨i, j, h1, h2, _, q⟩ => ⟨i, j, h1, h2, q⟩
theorem r_int (T : Tbl) (H : Hp) (i : Int) : Rep T H (.int i) (.int i) := by simp only [Rep]
theorem r_bl (T : Tbl) (H : Hp) (i : Bool) : Rep T H (.bl i) (.bl i) := by simp only [Rep]
theorem r_str (T : Tbl) (H : Hp) (i : Str) : Rep T H (.str i) (.str i) := by simp only [Rep]
theorem r_non (T : Tbl) (H : Hp) : Rep T H .non .non := by simp only [Rep]
theorem o_sub : OpR X (binaryOp .Sub) (rD T (op2 .sub)) := opInts (gd := fun i j => .int (i - j)) (rI0I op_sub) (fun _ _ => rfl) (fun T H i j => r_int T H _) (by
  intro dx dy d h
  cases dx <;> first | (cases h; done) | (cases dy <;> first | (cases h; done) | (cases h; exact ⟨_, _, rfl, rfl, trivial, rfl⟩)))
theorem op_fdivA : OpR X (binaryOp .FloorDiv) (rI CDivW fun i j => .int (i / j)) := op_fdivW
def CMulA (i j : Int) : Prop := CMul i j ∨ CMulW i j
theorem op_mulA : OpR X (binaryOp .Mult) (rI CMulA fun i j => .int (i * j)) := opI fun _ _ _ _ _ _ _ hc q => PyProof.Rows.mul_int q (hc.elim CMul.ok CMulW.ok)
theorem o_fdiv : OpR X (binaryOp .FloorDiv) (rD T (op2 .fdiv)) := opInts (gd := fun i j => .int (i / j)) op_fdivA (fun _ _ => rfl) (fun T H i j => r_int T H _) (by
  intro dx dy d h
  cases dx <;> first | (cases h; done) | (cases dy <;> first | (cases h; done) | skip)
  simp only [op2] at h
  split at h
  · rename_i z
    cases h
    refine ⟨_, _, rfl, rfl, ?_, rfl⟩
    simpa [divOk, CDivW] using z
  · cases h)
theorem o_mod : OpR X (binaryOp .Mod) (rD T (op2 .mod)) := opInts (gd := fun i j => .int (i % j)) op_mod (fun _ _ => rfl) (fun T H i j => r_int T H _) (by
  intro dx dy d h
  cases dx <;> first | (cases h; done) | (cases dy <;> first | (cases h; done) | skip)
  simp only [op2] at h
  split at h
  · rename_i z
    cases h
    exact ⟨_, _, rfl, rfl, z, rfl⟩
  · cases h)
theorem o_pow : OpR X (binaryOp .Pow) (rD T (op2 .pow)) := opInts (gd := fun i j => .int (i ^ j.toNat)) op_pow (fun _ _ => rfl) (fun T H i j => r_int T H _) (by
  intro dx dy d h
  cases dx <;> first | (cases h; done) | (cases dy <;> first | (cases h; done) | skip)
  simp only [op2] at h
  split at h
  · rename_i z
    cases h
    refine ⟨_, _, rfl, rfl, ?_, rfl⟩
    simpa [powOk, CPow, and_assoc] using z
  · cases h)
theorem o_lt : OpR X (compareOp .Lt) (rD T (op2 .lt)) := opInts (gd := fun i j => .bl (decide (i < j))) (rI0I op_lt) (fun _ _ => rfl) (fun T H i j => r_bl T H _) (by
  intro dx dy d h
  cases dx <;> first | (cases h; done) | (cases dy <;> first | (cases h; done) | (cases h; exact ⟨_, _, rfl, rfl, trivial, rfl⟩)))
theorem o_gt : OpR X (compareOp .Gt) (rD T (op2 .gt)) := opInts (gd := fun i j => .bl (decide (j < i))) (rI0I op_gt) (fun _ _ => rfl) (fun T H i j => r_bl T H _) (by
  intro dx dy d h
  cases dx <;> first | (cases h; done) | (cases dy <;> first | (cases h; done) | (cases h; exact ⟨_, _, rfl, rfl, trivial, rfl⟩)))
theorem o_ge : OpR X (compareOp .GtE) (rD T (op2 .ge)) := opInts (gd := fun i j => .bl (decide (j ≤ i))) (rI0I op_ge) (fun _ _ => rfl) (fun T H i j => r_bl T H _) (by
  intro dx dy d h
  cases dx <;> first | (cases h; done) | (cases dy <;> first | (cases h; done) | (cases h; exact ⟨_, _, rfl, rfl, trivial, rfl⟩)))
/-- a readable list, as the machine has it -/
theorem rdM {pins : List (Addr × Obj)} {s : Shared} {σ : L2.St} {H : Hp} {l : Addr} {xs : List V} (I : Inv X pins σ H s) (h : Rd H l (.lst xs)) :
    ∃ (its : List Value) (n : Nat), Vals xs its ∧ xs.length = its.length ∧ xs.length ≤ sizeLine ∧ s.heap.get? l = some { cls := .type "list", data := .seq its.toArray n } := by
  obtain ⟨z, its, n, r, e⟩ := h.ok I.hok
  exact ⟨its, n, r, r.length, z, e⟩
/-- list + list, wherever they stand -/
theorem o_cat : OpR X (binaryOp .Add) (fun x y H Q => ∃ l b xs zs, x = .ref l ∧ y = .ref b ∧ Rd H l (.lst xs) ∧ Rd H b (.lst zs) ∧ xs.length + zs.length ≤ sizeLine ∧ ∀ p, H p = none → Q (.ref p) (upd H p (.lst (xs ++ zs)))) := by
  intro pins s σ H x y v u Q I rx ry h
  obtain ⟨l, b, xs, zs, rfl, rfl, hl, hb, hz, q⟩ := h
  cases rx
  cases ry
  obtain ⟨its, n, r, hh1, _, e⟩ := rdM I hl
  obtain ⟨its2, n2, r2, hh2, _, e2⟩ := rdM I hb
  refine PySem.P.add_list e e2 ?_ (by simp only [List.size_toArray]; omega)
  simp only [List.append_toArray]
  exact ⟨.ref _, _, I.lnew (t' := s.toks) (r.append r2) (by rw [List.length_append]; omega), rfl, q _ I.fresh⟩
section
open PySem.Spec PyProof.Rows
theorem o_rep : OpR X (binaryOp .Mult) (fun x y H Q => ∃ l k xs, x = .ref l ∧ y = .int k ∧ Rd H l (.lst xs) ∧ -(2 ^ 63) ≤ k ∧ k < 2 ^ 63 ∧ xs.length * k.toNat ≤ sizeLine ∧ ∀ p, H p = none → Q (.ref p) (upd H p (.lst (List.replicate k.toNat xs).flatten))) := by
  intro pins s σ H x y v u Q I rx ry h
  obtain ⟨l, k, xs, rfl, rfl, hH, h1, h2, hz, q⟩ := h
  cases rx
  obtain ⟨t, rfl⟩ := ry
  obtain ⟨its, n, r, hl, z, e⟩ := rdM I hH
  have hlen : its.toArray.size * k.toNat ≤ sizeLine := by rw [List.size_toArray, ← hl]; exact hz
  have hcap : ¬ its.toArray.size * k.toNat > (2 ^ 63 - 1) / 8 := by
    have : (sizeLine : Nat) ≤ (2 ^ 63 - 1) / 8 := by decide
    omega
  have hfit : ¬ (!Builtin.List.listFitsIndex k) = true := by
    rw [fitsIndex_both h1 h2]
    exact Bool.false_ne_true
  have hlong : ¬ Builtin.List.listTooLong (its.toArray.size * k.toNat) = true := by
    rw [notLongL hlen]
    exact Bool.false_ne_true
  have hnew : List.foldl (fun x1 x2 => x1 ++ x2) #[] (List.replicate (if its.toArray.isEmpty = true then 0 else k.toNat) its.toArray) = (List.replicate k.toNat its).flatten.toArray := by
    have f0 : ∀ m : Nat, List.foldl (fun x1 x2 => x1 ++ x2) #[] (List.replicate m its.toArray) = (List.replicate m its).flatten.toArray := fun m => by
      have := foldl_rep its m []
      rw [List.nil_append] at this
      exact this
    rw [f0]
    cases its with
    | nil => simp
    | cons a r' => rw [if_neg (by simp)]
  refine wpAny_binaryOp_repeat_ref (T := "list") (U := "int") (by decide) ⟨_, e, rfl⟩ (fun s' => typeIs_int s' k t) noFill_list_mul F.fills_int_mul F.slot_int_rmul repeat_list F.slot_int_index.lookup
    (call_meets F.slot_int_rmul (typeIs_int s k t) F.entry_int_rmul (F.args_int_rmul_2 _ _) (int___rmul___int_list k t l its.toArray n)
      ⟨e, rfl, ⟨_, e, rfl⟩, call_meets F.slot_list_mul ⟨_, e, rfl⟩ F.entry_list_mul (F.args_list_mul_2 _ _) (AutoListH.list___mul___list_int_3 l its.toArray n k t hfit hcap hlong) ⟨e, ?_⟩⟩)
  rw [hnew]
  exact ⟨.ref _, _, I.lnew (t' := s.toks) (r.rep k.toNat) (by rw [PyProof.Rows.lm_len_rep_flat, Nat.mul_comm]; exact hz), rfl, q _ I.fresh⟩
end
theorem RepAll.rep {T : Tbl} {H : Hp} {ds : List D} {vs : List V} (h : RepAll T H ds vs) : ∀ n : Nat, RepAll T H (List.replicate n ds).flatten (List.replicate n vs).flatten
  | 0 => by simp [RepAll]
  | n + 1 => by
    rw [List.replicate_succ, List.replicate_succ, List.flatten_cons, List.flatten_cons]
    exact h.app (RepAll.rep h n)
theorem o_reps : OpR X (binaryOp .Mult) (fun x y H Q => ∃ z n, x = .str z ∧ y = .int n ∧ 2 ≤ n ∧ n ≤ 1000 ∧ 1 ≤ z.length ∧ z.length * n.toNat ≤ sizeLine ∧ Q (.str (repS z n.toNat)) H) := by
  intro pins s σ H x y v u Q I rx ry h
  obtain ⟨z, n, rfl, rfl, h1, h2, h3, h4, q⟩ := h
  obtain ⟨t, rfl⟩ := rx
  obtain ⟨t', rfl⟩ := ry
  have hl : Builtin.Str.tooLong (z.length * n.toNat) = false := by unfold Builtin.Str.tooLong; rw [decide_eq_false_iff_not]; omega
  have hz : z.length ≤ sizeLine := Nat.le_trans (Nat.le_mul_of_pos_right _ (by omega)) h4
  refine P.mul_str (by rw [decide_eq_false (by omega), decide_eq_false (by omega)]; rfl) (fun _ _ => ?_) (fun _ _ => hl) ?_
  · rw [PySem.sizeLine_eq] at hz
    have hz' : (z.length : Int) ≤ 2 ^ 40 := by omega
    refine Int.not_lt.mpr ((Int.le_ediv_iff_mul_le (by omega)).mpr (Int.le_trans (Int.mul_le_mul hz' h2 (by omega) (by decide)) (by decide)))
  · rw [if_neg (by omega), if_neg (by simp <;> omega)]
    exact ⟨fits_reps hl, .str (repS z n.toNat), H, I.tok _, ⟨_, rfl⟩, q⟩
theorem o_mul : OpR X (binaryOp .Mult) (rD T (op2 .mul)) :=
  orI ((op_mulA.or o_rep).or o_reps) fun x y H Q ⟨H0, dx, dy, d, e, hx, hy, hg, q⟩ => by
    cases dx with
    | int i =>
      cases dy with
      | int j =>
        simp only [op2] at hg
        split at hg
        · rename_i z
          cases hg
          exact .inl (.inl ⟨i, j, rd_int hx, rd_int hy, by simpa [mulOk, bnd64, CMulA, CMul, CMulW] using z, q _ _ _ (Gr.rfl' e) (.flat rfl (r_int _ _ _))⟩)
        · cases hg
      | _ => cases hg
    | lst xs =>
      cases dy with
      | int j =>
        simp only [op2] at hg
        split at hg
        · rename_i z
          cases hg
          simp only [Bool.and_eq_true, decide_eq_true_eq] at z
          obtain ⟨a, us, rfl, h1, h2⟩ := rd_lst e hx
          refine .inl (.inr ⟨a, j, us, rfl, rd_int hy, h1, by omega, by omega, ?_, fun p hp => ?_⟩)
          · rw [h2.len]; exact Nat.le_trans z.2 lim_line
          · exact q _ _ _ (Gr.own e hp) (.lst e hp (h2.rep _))
        · cases hg
      | _ => cases hg
    | str z =>
      cases dy with
      | int j =>
        simp only [op2] at hg
        split at hg
        · rename_i w
          cases hg
          simp only [Bool.and_eq_true, decide_eq_true_eq] at w
          exact .inr ⟨z, j, rd_str hx, rd_int hy, w.1.1.1, w.1.1.2, w.1.2, Nat.le_trans w.2 lim_line, q _ _ _ (Gr.rfl' e) (.flat rfl (r_str _ _ _))⟩
        · cases hg
      | _ => cases hg
    | _ => cases hg
theorem o_add : OpR X (binaryOp .Add) (rD T (op2 .add)) :=
  orI ((op_add.or (o_cat (X := X))).or op_add_str) fun x y H Q ⟨H0, dx, dy, d, e, hx, hy, hg, q⟩ => by
    cases dx with
    | int i =>
      cases dy with
      | int j =>
        cases hg
        exact .inl (.inl ⟨i, j, rd_int hx, rd_int hy, q _ _ _ (Gr.rfl' e) (.flat rfl (r_int _ _ _))⟩)
      | _ => cases hg
    | str i =>
      cases dy with
      | str j =>
        simp only [op2] at hg
        split at hg
        · rename_i hl
          cases hg
          exact .inr ⟨i, j, rd_str hx, rd_str hy, Nat.le_trans hl lim_line, q _ _ _ (Gr.rfl' e) (.flat rfl (r_str _ _ _))⟩
        · cases hg
      | _ => cases hg
    | lst xs =>
      cases dy with
      | lst ys =>
        simp only [op2] at hg
        split at hg
        · rename_i hl
          cases hg
          obtain ⟨a, us, rfl, h1, h2⟩ := rd_lst e hx
          obtain ⟨b, ws, rfl, h3, h4⟩ := rd_lst e hy
          refine .inl (.inr ⟨a, b, us, ws, rfl, rfl, h1, h3, ?_, fun p hp => ?_⟩)
          · rw [h2.len, h4.len]; exact Nat.le_trans hl lim_line
          · exact q _ _ _ (Gr.own e hp) (.lst e hp (h2.app h4))
        · cases hg
      | _ => cases hg
    | _ => cases hg
end
section
variable {X : Cx} {T : Tbl}
mutual
theorem dp_of {H0 H : Hp} (hK : X.K = T.K) (e : Ext H0 H) : ∀ (d : D) (p : PyData) (v : V), toPy d = some p → Rep T H0 d v → Dp X.K H v p
  | .non, p, v, h, r => by simp only [toPy] at h; cases h; simp only [Rep] at r; subst r; exact .non
  | .bl b, p, v, h, r => by simp only [toPy] at h; cases h; simp only [Rep] at r; subst r; exact .bl b
  | .int b, p, v, h, r => by simp only [toPy] at h; cases h; simp only [Rep] at r; subst r; exact .int b
  | .str b, p, v, h, r => by simp only [toPy] at h; cases h; simp only [Rep] at r; subst r; exact .str b
  | .lst ds, p, v, h, r => by
    simp only [toPy, Option.map_eq_some_iff] at h
    obtain ⟨ps, h1, rfl⟩ := h
    simp only [Rep] at r
    obtain ⟨a, xs, rfl, r1, r2⟩ := r
    exact .lst (.inl (e.rd r1)) (dpAll_of hK e ds ps xs h1 r2)
  | .tup ds, p, v, h, r => by
    simp only [toPy, Option.map_eq_some_iff] at h
    obtain ⟨ps, h1, rfl⟩ := h
    simp only [Rep] at r
    obtain ⟨a, xs, rfl, r1, r2⟩ := r
    exact .tup (hK ▸ e.sqT r1) (dpAll_of hK e ds ps xs h1 r2)
  | .kst ds, p, v, h, r => by
    simp only [toPy, Option.map_eq_some_iff] at h
    obtain ⟨ps, h1, rfl⟩ := h
    simp only [Rep] at r
    obtain ⟨a, xs, rfl, r1, r2⟩ := r
    exact .lst (hK ▸ e.sqL r1) (dpAll_of hK e ds ps xs h1 r2)
  | .dK _ _, p, v, h, r => by simp only [toPy] at h; cases h
  | .dT _ _, p, v, h, r => by simp only [toPy] at h; cases h
  | .obj _ _ _, p, v, h, r => by simp only [toPy] at h; cases h
  | .cls _, p, v, h, r => by simp only [toPy] at h; cases h
  | .err _ _ _, p, v, h, r => by simp only [toPy] at h; cases h
theorem dpAll_of {H0 H : Hp} (hK : X.K = T.K) (e : Ext H0 H) : ∀ (ds : List D) (ps : List PyData) (vs : List V), toPyAll ds = some ps → RepAll T H0 ds vs → DpAll X.K H vs ps
  | [], ps, vs, h, r => by simp only [toPyAll] at h; cases h; simp only [RepAll] at r; subst r; exact .nil
  | d :: ds, ps, vs, h, r => by
    simp only [toPyAll] at h
    simp only [RepAll] at r
    obtain ⟨v, r', rfl, r1, r2⟩ := r
    split at h
    · rename_i p ps' q1 q2
      cases h
      exact .cons (dp_of hK e d p v q1 r1) (dpAll_of hK e ds ps' r' q2 r2)
    · cases h
end
theorem dp_rd {H0 H : Hp} (hK : X.K = T.K) (e : Ext H0 H) {d : D} {p : PyData} {v : V} (h : toPy d = some p) (r : RdV T H0 H d v) : Dp X.K H v p := by
  rcases r with r | r
  · exact dp_of hK e d p v h r
  · cases d with
    | lst ds =>
      simp only [toPy, Option.map_eq_some_iff] at h
      obtain ⟨ps, h1, rfl⟩ := h
      obtain ⟨a, xs, rfl, h0, h2, h3⟩ := r
      exact .lst (SqL.of h2) (dpAll_of hK e ds ps xs h1 h3)
    | dK _ _ => cases h
    | dT _ _ => cases h
    | obj _ _ _ => cases h
    | _ => exact r.elim
theorem eqP_inv {x y : D} {b : Bool} (h : eqP x y = some b) : ∃ p q, toPy x = some p ∧ toPy y = some q ∧ SeqAt.shaped p = true ∧ SeqAt.shaped q = true ∧ b = PyData.eqv p q := by
  unfold eqP at h
  split at h
  · rename_i p q h1 h2
    split at h
    · rename_i z
      cases h
      rw [Bool.and_eq_true] at z
      exact ⟨p, q, h1, h2, z.1, z.2, rfl⟩
    · cases h
  · cases h
theorem eqD_inv {x y : D} {b : Bool} (h : eqD x y = some b) : (∃ u v, x = .str u ∧ y = .str v ∧ b = decide (u = v)) ∨ eqP x y = some b := by
  unfold eqD at h
  split at h
  · cases h; exact .inl ⟨_, _, rfl, rfl, rfl⟩
  · exact .inr h
theorem dec_strV (u v : Str) : decide (V.str u = V.str v) = decide (u = v) := decide_eq_decide.mpr ⟨fun h => by cases h; rfl, fun h => by rw [h]⟩
theorem o_eq (hK : X.K = T.K) (hu : X.A.units + 64 < cLine) : OpR X (compareOp .Eq) (rD T (op2 .eq)) :=
  orI ((op_eqD hu).or op_eq) fun x y H Q ⟨H0, dx, dy, d, e, hx, hy, hg, q⟩ => by
    have hg' : (eqD dx dy).map D.bl = some d := by cases dx <;> cases dy <;> exact hg
    rw [Option.map_eq_some_iff] at hg'
    obtain ⟨b, h1, rfl⟩ := hg'
    rcases eqD_inv h1 with ⟨u, v, rfl, rfl, rfl⟩ | h1
    · cases rd_str hx
      cases rd_str hy
      exact .inr ⟨rfl, by rw [dec_strV]; exact q _ _ _ (Gr.rfl' e) (.flat rfl (r_bl _ _ _))⟩
    · obtain ⟨p, p', h2, h3, s1, s2, rfl⟩ := eqP_inv h1
      exact .inl ⟨p, p', dp_rd hK e h2 hx, dp_rd hK e h3 hy, s1, s2, q _ _ _ (Gr.rfl' e) (.flat rfl (r_bl _ _ _))⟩
theorem o_ne (hK : X.K = T.K) (hu : X.A.units + 64 < cLine) : OpR X (compareOp .NotEq) (rD T (op2 .ne)) :=
  orI ((op_neD hu).or op_ne) fun x y H Q ⟨H0, dx, dy, d, e, hx, hy, hg, q⟩ => by
    have hg' : ((eqD dx dy).map fun b => D.bl (!b)) = some d := by cases dx <;> cases dy <;> exact hg
    rw [Option.map_eq_some_iff] at hg'
    obtain ⟨b, h1, rfl⟩ := hg'
    rcases eqD_inv h1 with ⟨u, v, rfl, rfl, rfl⟩ | h1
    · cases rd_str hx
      cases rd_str hy
      exact .inr ⟨rfl, by rw [dec_strV]; exact q _ _ _ (Gr.rfl' e) (.flat rfl (r_bl _ _ _))⟩
    · obtain ⟨p, p', h2, h3, s1, s2, rfl⟩ := eqP_inv h1
      exact .inl ⟨p, p', dp_rd hK e h2 hx, dp_rd hK e h3 hy, s1, s2, q _ _ _ (Gr.rfl' e) (.flat rfl (r_bl _ _ _))⟩
variable {C : Ctx} {W : WX} {cl : CallF} {e a b c : Expr} {e' a' b' c' : Ex} {pos : Pos}
theorem c_var {i : Nat} (h : PE X e (tVar i)) : PE X e (tI C W cl (.var i)) := peI h fun σ H Q ⟨H0, env, S, q⟩ => by
  have z := S.slots i
  simp only [ev] at q
  split at q
  · exact q.elim
  · rename_i d hd
    rw [hd] at z
    obtain ⟨v, h1, h2⟩ := z
    exact ⟨v, h1, q H0 H (Ext.rfl' _) S v h2⟩
  · rename_i n1 n2
    have : ∃ v, σ[i]? = some (some v) := by
      cases hs : getS env i with
      | un => exact (n1 hs).elim
      | fn => rw [hs] at z; exact ⟨_, z⟩
      | fz d => exact (n2 d hs).elim
      | ow d => rw [hs] at z; obtain ⟨x, h1, _⟩ := z; exact ⟨_, h1⟩
      | io d => rw [hs] at z; obtain ⟨x, h1, _⟩ := z; exact ⟨_, h1⟩
    obtain ⟨v, h1⟩ := this
    exact ⟨v, h1, q H0 H (Ext.rfl' _) S v h1⟩
theorem c_cst {d : D} {v : V} (h : PE X e (tC v)) (hr : ∀ H, Rep C.T H d v) : PE X e (tI C W cl (.cst d)) := peI h fun σ H Q ⟨H0, env, S, q⟩ => by
  simp only [ev] at q
  exact q H0 H (Ext.rfl' _) S v (hr H0)
/-- behind an operation -/
theorem fin_nw {σ : L2.St} {H0 H H0' H' : Hp} {env : Env} {Q : VK} {z : D} {v : V} (S : Sim C σ H0 H env) (h : RQ C W σ (KV C σ Q) H0 (.ok (.nw z) env)) (g : Gr C.T H0 H H0' H') (r : RepG C.T H0' H' H z v) : Q v H' :=
  h H0' H' g.e0 (S.gr g) v (r.nw S)
theorem two {σ : L2.St} {H0 H : Hp} {env : Env} {o : O2} {Q : VK} (S : Sim C σ H0 H env) (q : RQ C W σ (KV C σ Q) H0 (ev cl (.op2 o a' b') env)) : tOp (rD C.T (op2 o)) (tI C W cl a') (tI C W cl b') σ H Q := by
  simp only [ev] at q
  refine seqI S q fun u env1 x H1 H1' e1 S1 u1 q1 => ?_
  obtain ⟨H1f, e1f, S1f, u1f⟩ := S1.pend u1
  refine seqI S1f (RQ.mono e1f q1) fun w env2 y H2 H2' e2 S2 u2 q2 => ?_
  obtain ⟨dx, hx, q2⟩ := q2.orB
  obtain ⟨dy, hy, q2⟩ := q2.orB
  obtain ⟨z, hz, q2⟩ := q2.orB
  exact ⟨H2, dx, dy, z, S2.ex, S2.rd (u1f.wait e2) hx, S2.rd u2 hy, hz, fun v H0' H' g r => fin_nw S2 q2 g r⟩
theorem c_bin {op : Operator} {o : O2} (ho : OpR X (binaryOp op) (rD C.T (op2 o))) (ha : PE X a (tI C W cl a')) (hb : PE X b (tI C W cl b')) : PE X (.BinOp a op b pos) (tI C W cl (.op2 o a' b')) :=
  peI (pe_op ho ha hb) fun σ H Q ⟨H0, env, S, q⟩ => two S q
theorem c_cmp {op : CmpOp} {o : O2} (ho : OpR X (compareOp op) (rD C.T (op2 o))) (ha : PE X a (tI C W cl a')) (hb : PE X b (tI C W cl b')) (hm : behindInMarks op b = false) : PE X (.Compare a [op] [b] pos) (tI C W cl (.op2 o a' b')) :=
  peI (pe_cmpR ho ha hb hm) fun σ H Q ⟨H0, env, S, q⟩ => two S q
theorem c_un {op : UnaryOp} {o : O1} (ho : UnR X (unaryOp op) (rD1 C.T (op1 o))) (ha : PE X a (tI C W cl a')) : PE X (.UnaryOp op a pos) (tI C W cl (.op1 o a')) :=
  peI (pe_un ho ha) fun σ H Q ⟨H0, env, S, q⟩ => by
    simp only [ev] at q
    refine seqI S q fun u env1 x H1 H1' e1 S1 u1 q1 => ?_
    obtain ⟨dx, hx, q1⟩ := q1.orB
    obtain ⟨z, hz, q1⟩ := q1.orB
    exact ⟨H1, dx, z, S1.ex, S1.rd u1 hx, hz, fun v H0' H' g r => fin_nw S1 q1 g r⟩
theorem o_neg {T : Tbl} : UnR X (unaryOp .USub) (rD1 T (op1 .neg)) := fun pins s σ H x v Q I rx ⟨H0, dx, d, e, hx, hg, q⟩ => by
  cases dx with
  | int i => cases hg; exact un_neg pins s σ H x v Q I rx ⟨i, rd_int hx, q _ _ _ (Gr.rfl' e) (.flat rfl (r_int _ _ _))⟩
  | _ => cases hg
/-- a test -/
theorem t_tru (hK : X.K = C.T.K) (ha : PE X a (tI C W cl a')) (he : ∀ whole, isTrue a X.env whole = (do let v ← whole; standAt a.pos; holding [v] (truthy v)) := by intro _; rfl) : PT X a (tT C W cl a') :=
  ptI (pt_truth ha he) fun σ H Q ⟨H0, env, S, q⟩ => by
    simp only [evT] at q
    refine seqI S q fun u env1 x H1 H1' e1 S1 u1 q1 => ?_
    obtain ⟨dx, hx, q1⟩ := q1.orB
    obtain ⟨t, ht, q1⟩ := q1.orB
    exact ⟨t, hK ▸ rd_truth S1.ex (S1.rd u1 hx) ht, q1 H1 H1' (Ext.rfl' _) S1⟩
end
end PP
end
section
set_option maxHeartbeats 1000000
namespace PP
open PySem L2
def tAF (C : Ctx) (W : WX) (cl : CallF) (es : Exs) : TA := fun σ H Q => ∃ H0 env, Sim C σ H0 H env ∧ RQ C W σ (fun ds _ H0' H' => ∀ vs, RepAll C.T H0' ds vs → Q vs H') H0 (evF cl es env)
def UsOk (C : Ctx) (σ : L2.St) (H0 H : Hp) (env : Env) : List U → List V → Prop
  | [], vs => vs = []
  | u :: us, vs => ∃ v r, vs = v :: r ∧ (∃ u', u = pend u' ∧ UOk C σ H0 H env (pend u') v) ∧ UsOk C σ H0 H env us r
def tAR (C : Ctx) (W : WX) (cl : CallF) (es : Exs) : TA := fun σ H Q => ∃ H0 env, Sim C σ H0 H env ∧ RQ C W σ (fun us env' H0' H' => ∀ vs, UsOk C σ H0' H' env' us vs → Q vs H') H0 (evR cl es env)
def RdAll (T : Tbl) (H0 H : Hp) : List D → List V → Prop
  | [], vs => vs = []
  | d :: ds, vs => ∃ v r, vs = v :: r ∧ RdV T H0 H d v ∧ RdAll T H0 H ds r
section
variable {C : Ctx} {W : WX} {σ : L2.St} {cl : CallF} {H0 H H0' H' : Hp} {env : Env}
theorem Sim.takeK (S : Sim C σ H0 H env) {i : Nat} {v : V} {d : D} {env' : Env} (e : σ[i]? = some (some v)) (hf : fzU env (.sl i) = some (d, env')) : ∃ H0', Ext H0 H0' ∧ Sim C σ H0' H env' ∧ Rep C.T H0' d v ∧ ∀ a, H0 a = none → ∀ o, H0' a = some o → (∀ ps, o ≠ .tup ps) ∧ ∀ x u, o ≠ .frz x u := by
  have q := S.slots i
  cases z : getS env i with
  | un => simp [fzU, z] at hf
  | fn => simp [fzU, z] at hf
  | io x => simp [fzU, z] at hf
  | fz x =>
    simp [fzU, z] at hf
    obtain ⟨rfl, rfl⟩ := hf
    rw [z] at q
    obtain ⟨w, h1, h2⟩ := q
    rw [e] at h1; cases h1
    exact ⟨H0, Ext.rfl' _, S, h2, fun a h o h' => by rw [h] at h'; cases h'⟩
  | ow x =>
    simp [fzU, z] at hf
    obtain ⟨rfl, rfl⟩ := hf
    rw [z] at q
    obtain ⟨a, h1, h2, h3⟩ := q
    rw [e] at h1; cases h1
    obtain ⟨h0, o, ho⟩ := h3.some
    have hi : i < env.length := by
      rw [S.len]
      exact (List.getElem?_eq_some_iff.mp e).1
    have gs : ∀ j, getS (env.set i (.fz x)) j = if i = j then .fz x else getS env j := fun j => by
      unfold getS
      simp only [List.getD_eq_getElem?_getD, List.getElem?_set]
      split
      · rename_i z2; subst z2; simp [hi]
      · rfl
    refine ⟨upd H0 a o, ext_upd h0, ?_, h3.froz ho, fun b hb o' ho' => by
      by_cases z : b = a
      · subst z; rw [upd_same] at ho'; cases ho'; exact h3.kindT ho
      · rw [upd_ne z, hb] at ho'; cases ho'⟩
    exact {
      ok := S.ok
      ex := fun b u q => by
        by_cases z : b = a
        · subst z; rw [upd_same] at q; cases q; exact ho
        · rw [upd_ne z] at q; exact S.ex _ _ q
      ex0 := S.ex0.tr (ext_upd h0)
      fresh := fun b q q' => by
        by_cases z : b = a
        · subst z; exact h2
        · rw [upd_ne z] at q'; exact S.fresh b q q'
      keep := S.keep
      tabs := S.tabs
      tno := S.tnoU ho (h3.kind ho).1
      ioH := S.ioH
      len := by rw [List.length_set]; exact S.len
      slots := fun j => by
        rw [gs j]
        split
        · rename_i z2
          subst z2
          exact ⟨_, e, h3.froz ho⟩
        · rename_i z2
          refine (S.slots j).step (ext_upd h0) fun b hb eb => ?_
          have zb : b ≠ a := fun zb => S.inj i j a z2 (by rw [z]; rfl) hb e (by rw [← zb]; exact eb)
          exact ⟨by rw [upd_ne zb]; exact (S.own hb eb).1, rfl⟩
      inj := fun j k b hjk hj hk ej ek => by
        rw [gs j] at hj
        rw [gs k] at hk
        split at hj
        · cases hj
        · split at hk
          · cases hk
          · exact S.inj j k b hjk hj hk ej ek }
/-- taken for good -/
theorem Sim.take (S : Sim C σ H0 H env) {u : U} {v : V} {d : D} {env' : Env} (h : UOk C σ H0 H env u v) (hf : fzU env u = some (d, env')) : ∃ H0', Ext H0 H0' ∧ Sim C σ H0' H env' ∧ Rep C.T H0' d v := by
  cases u with
  | d x => cases hf; exact ⟨H0, Ext.rfl' _, S, h⟩
  | nw x =>
    cases hf
    obtain ⟨H0', e, S', h'⟩ := S.pend h
    exact ⟨H0', e, S', h'⟩
  | sl i =>
    obtain ⟨H0', a, b, c, _⟩ := S.takeK h hf
    exact ⟨H0', a, b, c⟩
theorem UsOk.mono (e : Ext H0 H0') : ∀ {us : List U} {vs : List V} {env' : Env}, UsOk C σ H0 H env us vs → UsOk C σ H0' H' env' us vs
  | [], _, _, h => h
  | u :: us, _, _, h => by
    obtain ⟨v, r, rfl, ⟨u', rfl, h1⟩, h2⟩ := h
    exact ⟨v, r, rfl, ⟨u', rfl, h1.wait e⟩, UsOk.mono e h2⟩
theorem UsOk.rd (S : Sim C σ H0 H env) : ∀ {us : List U} {vs : List V} {ds : List D}, UsOk C σ H0 H env us vs → rdAll env us = some ds → RdAll C.T H0 H ds vs
  | [], _, _, h, q => by cases q; exact h
  | u :: us, _, _, h, q => by
    obtain ⟨v, r, rfl, ⟨u', rfl, h1⟩, h2⟩ := h
    unfold rdAll at q
    split at q
    · rename_i d ds q1 q2
      cases q
      exact ⟨v, r, rfl, S.rd h1 q1, UsOk.rd S h2 q2⟩
    · cases q
end
theorem paI {X : Cx} {es : List Expr} {t t' : TA} (h : PA X es t) (i : ∀ σ H Q, t' σ H Q → t σ H Q) : PA X es t' := ⟨fun pos pins s σ H Q I q => h.run pos pins s σ H Q I (i σ H Q q)⟩
section
variable {X : Cx} {C : Ctx} {W : WX} {cl : CallF} {e a b c : Expr} {es : List Expr} {e' a' b' c' : Ex} {es' : Exs} {pos : Pos}
theorem f_nil : PA X [] (tAF C W cl .nil) := paI pa_nil fun σ H Q ⟨H0, env, S, q⟩ => q H0 H (Ext.rfl' _) S [] (by simp only [RepAll])
theorem f_cons (ha : PE X e (tI C W cl e')) (hr : PA X es (tAF C W cl es')) (hs : starEach (e :: es) X.env = (false, eval e X.env) :: starEach es X.env := by rfl) : PA X (e :: es) (tAF C W cl (.cons e' es')) :=
  paI (pa_cons ha hr hs) fun σ H Q ⟨H0, env, S, q⟩ => by
    simp only [evF] at q
    refine seqI S q fun u env1 x H1 H1' e1 S1 u1 q1 => ?_
    obtain ⟨⟨d, env2⟩, hf, q1⟩ := q1.orB
    obtain ⟨H2, e2, S2, r2⟩ := S1.take u1 hf
    have q2 := RQ.mono e2 q1
    refine ⟨H2, env2, S2, ?_⟩
    cases z : evF cl es' env2 with
    | ok ds env3 =>
      simp only [z] at q2
      exact fun H3 H3' e3 S3 vs hv => q2 H3 H3' e3 S3 (x :: vs) (by simp only [RepAll]; exact ⟨x, vs, rfl, Rep.mono e3 _ _ r2, hv⟩)
    | exc x env3 => simp only [z] at q2; exact q2
    | bad => simp only [z] at q2; exact q2
theorem r_nil : PA X [] (tAR C W cl .nil) := paI pa_nil fun σ H Q ⟨H0, env, S, q⟩ => q H0 H (Ext.rfl' _) S [] rfl
theorem r_cons (ha : PE X e (tI C W cl e')) (hr : PA X es (tAR C W cl es')) (hs : starEach (e :: es) X.env = (false, eval e X.env) :: starEach es X.env := by rfl) : PA X (e :: es) (tAR C W cl (.cons e' es')) :=
  paI (pa_cons ha hr hs) fun σ H Q ⟨H0, env, S, q⟩ => by
    simp only [evR] at q
    refine seqI S q fun u env1 x H1 H1' e1 S1 u1 q1 => ?_
    obtain ⟨H2, e2, S2, r2⟩ := S1.pend u1
    have q2 := RQ.mono e2 q1
    refine ⟨H2, env1, S2, ?_⟩
    cases z : evR cl es' env1 with
    | ok ds env3 =>
      simp only [z] at q2
      exact fun H3 H3' e3 S3 vs hv => q2 H3 H3' e3 S3 (x :: vs) ⟨x, vs, rfl, ⟨u, rfl, r2.wait e3⟩, hv⟩
    | exc x env3 => simp only [z] at q2; exact q2
    | bad => simp only [z] at q2; exact q2
theorem c_tup {k : Nat} (h : PA X es (tAF C W cl es')) : PE X (.Tuple es k pos) (tI C W cl (.tup es')) :=
  peI (pe_tup h) fun σ H Q ⟨H0, env, S, q⟩ => by
    simp only [ev] at q
    refine ⟨H0, env, S, ?_⟩
    cases z : evF cl es' env with
    | ok ds env3 =>
      simp only [z, R.bind_ok] at q
      split at q
      · rename_i hl
        intro H1 H1' e1 S1 vs hv
        refine ⟨by rw [hv.len]; exact Nat.le_trans hl lim_line, fun p hp => ?_⟩
        refine fin_nw S1 (RQ.mono e1 q) (Gr.froz S1.ex hp) (.flat rfl ?_)
        simp only [Rep]
        exact ⟨p, vs, rfl, SqT.of upd_same, RepAll.mono (ext_upd (S1.ex.no hp)) _ _ hv⟩
      · exact q.elim
    | exc x env3 => simp only [z] at q; exact q
    | bad => simp only [z] at q; exact q
theorem c_lst (h : PA X es (tAF C W cl es')) : PE X (.List es pos) (tI C W cl (.lst es')) :=
  peI (pe_lst h) fun σ H Q ⟨H0, env, S, q⟩ => by
    simp only [ev] at q
    refine ⟨H0, env, S, ?_⟩
    cases z : evF cl es' env with
    | ok ds env3 =>
      simp only [z, R.bind_ok] at q
      split at q
      · rename_i hl
        intro H1 H1' e1 S1 vs hv
        refine ⟨by rw [hv.len]; exact Nat.le_trans hl lim_line, fun p hp => ?_⟩
        exact fin_nw S1 (RQ.mono e1 q) (Gr.own S1.ex hp) (.lst S1.ex hp hv)
      · exact q.elim
    | exc x env3 => simp only [z] at q; exact q
    | bad => simp only [z] at q; exact q
theorem x_lst (hK : X.K = C.T.K) (hu : X.A.units + 1 < cLine) : IxR X (fun x y H Q => ∃ H0 dx dy d, Ext H0 H ∧ RdV C.T H0 H dx x ∧ RdV C.T H0 H dy y ∧ ixD dx dy = some d ∧ ∀ v, Rep C.T H0 d v → Q v H) :=
  fun value slice pins s σ H x y v u Q I rx ry ⟨H0, dx, dy, d, e, hx, hy, hg, q⟩ hsub => by
    refine ((ix_list.or (ix_tup.or ix_str)).or (ix_dt hu)) value slice pins s σ H x y v u Q I rx ry ?_ hsub
    cases dx with
    | lst ds =>
      cases dy with
      | int i =>
        obtain ⟨a, xs, rfl, h1, h2⟩ := rd_lst e hx
        obtain ⟨w, h3, h4⟩ := h2.atI hg
        exact .inl (.inl ⟨a, xs, i, w, rfl, rd_int hy, .inl h1, h3, q w h4⟩)
      | _ => cases hg
    | tup ds =>
      cases dy with
      | int i =>
        obtain ⟨a, xs, rfl, h1, h2⟩ := rd_tup e hx
        obtain ⟨w, h3, h4⟩ := h2.atI hg
        exact .inl (.inr (.inl ⟨a, xs, i, w, rfl, rd_int hy, hK ▸ h1, h3, q w h4⟩))
      | _ => cases hg
    | kst ds =>
      cases dy with
      | int i =>
        obtain ⟨a, xs, rfl, h1, h2⟩ := rd_kst e hx
        obtain ⟨w, h3, h4⟩ := h2.atI hg
        exact .inl (.inl ⟨a, xs, i, w, rfl, rd_int hy, hK ▸ h1, h3, q w h4⟩)
      | _ => cases hg
    | str z =>
      cases dy with
      | int i =>
        simp only [ixD] at hg
        split at hg
        · rename_i hl
          rw [Option.map_eq_some_iff] at hg
          obtain ⟨c, hc, rfl⟩ := hg
          exact .inl (.inr (.inr ⟨z, i, c, rd_str hx, rd_int hy, Nat.le_trans hl lim_line, hc, q _ (r_str _ _ _)⟩))
        · cases hg
      | _ => cases hg
    | dT ks ds =>
      cases dy with
      | tup ys =>
        simp only [ixD] at hg
        rw [Option.bind_eq_some_iff] at hg
        obtain ⟨k, hk, hg⟩ := hg
        obtain ⟨a, od, es, rfl, h1, h2, h3, h4, h5⟩ := rd_dT e hx
        obtain ⟨b, rfl, h6⟩ := rd_key e hk hy
        obtain ⟨w, h7, h8⟩ := getDT_rep h3 h5 hg
        exact .inr ⟨a, b, od, es, k, w, rfl, rfl, h1, h2, hK ▸ e.kt3 h4, hK ▸ h6, h7, q w h8⟩
      | _ => cases hg
    | _ => cases hg
theorem c_ix (hK : X.K = C.T.K) (hu : X.A.units + 64 < cLine) (ha : PE X a (tI C W cl a')) (hb : PE X b (tI C W cl b')) (hs : PlainIx b := by exact fun _ _ => rfl) : PE X (.Subscript a b pos) (tI C W cl (.ix a' b')) :=
  peI (pe_ix (x_lst hK (by omega)) ha hb hs) fun σ H Q ⟨H0, env, S, q⟩ => by
    simp only [ev] at q
    refine seqI S q fun u env1 x H1 H1' e1 S1 u1 q1 => ?_
    obtain ⟨H1f, e1f, S1f, u1f⟩ := S1.pend u1
    refine seqI S1f (RQ.mono e1f q1) fun w env2 y H2 H2' e2 S2 u2 q2 => ?_
    obtain ⟨dx, hx, q2⟩ := q2.orB
    obtain ⟨dy, hy, q2⟩ := q2.orB
    obtain ⟨z, hz, q2⟩ := q2.orB
    exact ⟨H2, dx, dy, z, S2.ex, S2.rd (u1f.wait e2) hx, S2.rd u2 hy, hz, fun v r => q2 H2 H2' (Ext.rfl' _) S2 v r⟩
def rDn (T : Tbl) (g : List D → Option D) : List V → Hp → VK → Prop := fun vs H Q => ∃ H0 ds d, Ext H0 H ∧ RdAll T H0 H ds vs ∧ g ds = some d ∧ ∀ v H0' H', Gr T H0 H H0' H' → RepG T H0' H' H d v → Q v H'
theorem readB {σ : L2.St} {H : Hp} {Q : VK} {B : B} (h : tI C W cl (.bi B es') σ H Q) : tCB (rDn C.T (biD B)) (tAR C W cl es') σ H Q := by
  obtain ⟨H0, env, S, q⟩ := h
  simp only [ev] at q
  refine ⟨H0, env, S, ?_⟩
  cases z : evR cl es' env with
  | ok us env3 =>
    simp only [z, R.bind_ok] at q
    intro H1 H1' e1 S1 vs hv
    obtain ⟨ds, hd, q1⟩ := (RQ.mono e1 q).orB
    obtain ⟨d, hg, q1⟩ := q1.orB
    exact ⟨H1, ds, d, S1.ex, hv.rd S1 hd, hg, fun v H0' H' g r => fin_nw S1 q1 g r⟩
  | exc x env3 => simp only [z] at q; exact q
  | bad => simp only [z] at q; exact q
theorem c_biB {x : Str} {p : Pos} {id : String} {B : B} (hc : CallR X (.builtin id) (rDn C.T (biD B))) (hg : Gl X x) (hm : X.mg x = none) (hv : bootBuiltins x = some (.builtin id)) (ha : PA X (e :: es) (tAR C W cl es')) (hn : x ≠ "__name__" := by decide) (hdb : (x == ("__debug__" : Str)) = false := by decide)
    (he : starEach (e :: es) X.env = (false, eval e X.env) :: starEach es X.env := by rfl) (hpl : (backTo pos (starEach es X.env)).any (·.1) = false := by rfl) : PE X (.Call (.Name x p) (e :: es) [] pos) (tI C W cl (.bi B es')) :=
  peI (pe_callB hc hg hm hv ha hn hdb he hpl) fun _ _ _ q => readB q
theorem c_biT {x : Str} {p : Pos} {id : String} {B : B} (hc : CallR X (.type id) (rDn C.T (biD B))) (hg : Gl X x) (hm : X.mg x = none) (hv : bootBuiltins x = some (.type id)) (ha : PA X (e :: es) (tAR C W cl es')) (hn : x ≠ "__name__" := by decide) (hdb : (x == ("__debug__" : Str)) = false := by decide)
    (he : starEach (e :: es) X.env = (false, eval e X.env) :: starEach es X.env := by rfl) (hpl : (backTo pos (starEach es X.env)).any (·.1) = false := by rfl) : PE X (.Call (.Name x p) (e :: es) [] pos) (tI C W cl (.bi B es')) :=
  peI (pe_callTy hc hg hm hv ha hn hdb he hpl) fun _ _ _ q => readB q
theorem callI {f : Value} {r r' : List V → Hp → VK → Prop} (h : CallR X f r) (i : ∀ xs H Q, r' xs H Q → r xs H Q) : CallR X f r' := fun pins s σ H xs us Q I rx q => h pins s σ H xs us Q I rx (i xs H Q q)
theorem rd1 {T : Tbl} {H0 H : Hp} {d : D} {vs : List V} (h : RdAll T H0 H [d] vs) : ∃ v, vs = [v] ∧ RdV T H0 H d v := by
  obtain ⟨v, r, rfl, h1, h2⟩ := h
  cases h2
  exact ⟨v, rfl, h1⟩
theorem b_len (hK : X.K = C.T.K) : CallR X (.builtin "len") (rDn C.T (biD .len)) := callI (call_len_seq.or call_len_str) fun xs H Q ⟨H0, ds, d, e, hr, hg, q⟩ => by
  match ds, hg with
  | [.lst ys], hg =>
    cases hg
    obtain ⟨v, rfl, h1⟩ := rd1 hr
    obtain ⟨a, us, rfl, h2, h3⟩ := rd_lst e h1
    exact .inl ⟨a, us, rfl, .inl (.inl h2), q _ _ _ (Gr.rfl' e) (.flat rfl (by rw [h3.len]; exact r_int _ _ _))⟩
  | [.tup ys], hg =>
    cases hg
    obtain ⟨v, rfl, h1⟩ := rd1 hr
    obtain ⟨a, us, rfl, h2, h3⟩ := rd_tup e h1
    exact .inl ⟨a, us, rfl, .inr (hK ▸ h2), q _ _ _ (Gr.rfl' e) (.flat rfl (by rw [h3.len]; exact r_int _ _ _))⟩
  | [.kst ys], hg =>
    cases hg
    obtain ⟨v, rfl, h1⟩ := rd1 hr
    obtain ⟨a, us, rfl, h2, h3⟩ := rd_kst e h1
    exact .inl ⟨a, us, rfl, .inl (hK ▸ h2), q _ _ _ (Gr.rfl' e) (.flat rfl (by rw [h3.len]; exact r_int _ _ _))⟩
  | [.str z], hg =>
    simp only [biD] at hg
    split at hg
    · rename_i hl
      cases hg
      obtain ⟨v, rfl, h1⟩ := rd1 hr
      cases rd_str h1
      exact .inr ⟨z, rfl, Nat.le_trans hl lim_line, q _ _ _ (Gr.rfl' e) (.flat rfl (r_int _ _ _))⟩
    · cases hg
theorem b_int : CallR X (.type "int") (rDn C.T (biD .int)) := callI (call_int1.or call_int_str) fun xs H Q ⟨H0, ds, d, e, hr, hg, q⟩ => by
  match ds, hg with
  | [.int i], hg =>
    cases hg
    obtain ⟨v, rfl, h1⟩ := rd1 hr
    cases rd_int h1
    exact .inl (.inl ⟨i, rfl, q _ _ _ (Gr.rfl' e) (.flat rfl (r_int _ _ _))⟩)
  | [.bl i], hg =>
    cases hg
    obtain ⟨v, rfl, h1⟩ := rd1 hr
    cases rd_bl h1
    exact .inl (.inr ⟨i, rfl, q _ _ _ (Gr.rfl' e) (.flat rfl (r_int _ _ _))⟩)
  | [.str z], hg =>
    simp only [biD] at hg
    split at hg
    · rename_i hl
      rw [Option.map_eq_some_iff] at hg
      obtain ⟨n, hn, rfl⟩ := hg
      obtain ⟨v, rfl, h1⟩ := rd1 hr
      cases rd_str h1
      exact .inr ⟨z, n, rfl, hn, hl, q _ _ _ (Gr.rfl' e) (.flat rfl (r_int _ _ _))⟩
    · cases hg
theorem b_abs : CallR X (.builtin "abs") (rDn C.T (biD .abs)) := callI call_abs fun xs H Q ⟨H0, ds, d, e, hr, hg, q⟩ => by
  match ds, hg with
  | [.int i], hg =>
    cases hg
    obtain ⟨v, rfl, h1⟩ := rd1 hr
    cases rd_int h1
    exact ⟨i, rfl, q _ _ _ (Gr.rfl' e) (.flat rfl (r_int _ _ _))⟩
theorem b_list (hK : X.K = C.T.K) : CallR X (.type "list") (rDn C.T (biD .list)) := callI call_list_of fun xs H Q ⟨H0, ds, d, e, hr, hg, q⟩ => by
  match ds, hg with
  | [.lst ys], hg =>
    cases hg
    obtain ⟨v, rfl, h1⟩ := rd1 hr
    obtain ⟨a, us, rfl, h2, h3⟩ := rd_lst e h1
    exact ⟨a, us, rfl, .inl (.inl h2), fun l hl => q _ _ _ (Gr.own e hl) (.lst e hl h3)⟩
  | [.tup ys], hg =>
    cases hg
    obtain ⟨v, rfl, h1⟩ := rd1 hr
    obtain ⟨a, us, rfl, h2, h3⟩ := rd_tup e h1
    exact ⟨a, us, rfl, .inr (hK ▸ h2), fun l hl => q _ _ _ (Gr.own e hl) (.lst e hl h3)⟩
  | [.kst ys], hg =>
    cases hg
    obtain ⟨v, rfl, h1⟩ := rd1 hr
    obtain ⟨a, us, rfl, h2, h3⟩ := rd_kst e h1
    exact ⟨a, us, rfl, .inl (hK ▸ h2), fun l hl => q _ _ _ (Gr.own e hl) (.lst e hl h3)⟩
end
end PP
end
section
namespace PP
open PySem L2
end PP
end
section
namespace GF
open PySem
open Sem (wp)
def isRet : Frame → Bool
  | .ret .. => true
  | .gen .. => false
def noGen (fs : List Frame) : Bool := fs.all isRet
def ngS : GenState → Bool
  | .suspended _ _ _ _ fs _ => noGen fs
  | _ => true
def stuck : Resume → Sem PySem.Fin := fun _ => .unsupported ""
/-- the same, but it can't be woken -/
def kill : GenState → GenState
  | .suspended _ l c p fs cl => .suspended stuck l c p fs cl
  | x => x
def dead (x : GenState) : Prop := ∃ l c p fs cl, x = .suspended stuck l c p fs cl
/-- D: the table in which those that sleep can't be woken; G: the true one -/
def Rl (D G : Array GenState) : Prop := D.size = G.size ∧ ∀ (j : Nat) (x : GenState), D[j]? = some x → ∃ y, G[j]? = some y ∧ ((x = y ∧ ngS y = true) ∨ (dead x ∧ x = kill y))
def Kp (D G D' G' : Array GenState) : Prop := ∀ (j : Nat) (x : GenState), D[j]? = some x → dead x → D'[j]? = some x ∧ G'[j]? = G[j]?
theorem Kp.tr {D G D1 G1 D2 G2 : Array GenState} (a : Kp D G D1 G1) (b : Kp D1 G1 D2 G2) : Kp D G D2 G2 := fun j x h d =>
  ⟨(b j x (a j x h d).1 d).1, (b j x (a j x h d).1 d).2.trans (a j x h d).2⟩
theorem set_get {α : Type} (D : Array α) (g j : Nat) (x : α) : (D.setIfInBounds g x)[j]? = if g = j then (if g < D.size then some x else none) else D[j]? := by
  rw [Array.getElem?_setIfInBounds]
theorem Rl.set {D G : Array GenState} (h : Rl D G) (g : Nat) {x : GenState} (hx : ngS x = true) : Rl (D.setIfInBounds g x) (G.setIfInBounds g x) := by
  refine ⟨by simp only [Array.size_setIfInBounds]; exact h.1, fun j y hy => ?_⟩
  rw [set_get] at hy ⊢
  by_cases hj : g = j
  · rw [if_pos hj] at hy ⊢
    rw [← h.1]
    split at hy
    · rename_i hl
      cases hy
      exact ⟨x, by rw [if_pos hl], .inl ⟨rfl, hx⟩⟩
    · cases hy
  · rw [if_neg hj] at hy ⊢
    exact h.2 j y hy
theorem Rl.push {D G : Array GenState} (h : Rl D G) {x : GenState} (hx : ngS x = true) : Rl (D.push x) (G.push x) := by
  refine ⟨by simp only [Array.size_push, h.1], fun j y hy => ?_⟩
  rw [Array.getElem?_push] at hy ⊢
  rw [← h.1]
  split at hy
  · rename_i hl
    rw [if_pos hl]
    cases hy
    exact ⟨x, rfl, .inl ⟨rfl, hx⟩⟩
  · rename_i hl
    rw [if_neg hl]
    exact h.2 j y hy
theorem Kp.push {D G : Array GenState} (hs : D.size = G.size) (x : GenState) : Kp D G (D.push x) (G.push x) := fun j y h _ => by
  have hl : j < D.size := (Array.getElem?_eq_some_iff.mp h).1
  rw [Array.getElem?_push, Array.getElem?_push, if_neg (by omega), if_neg (by omega)]
  exact ⟨h, rfl⟩
theorem Kp.set {D G : Array GenState} {g : Nat} {z : GenState} (hz : D[g]? = some z) (nz : ¬ dead z) (x : GenState) : Kp D G (D.setIfInBounds g x) (G.setIfInBounds g x) := fun j y h d => by
  have hj : ¬ g = j := fun e => by
    subst e
    rw [hz] at h; cases h
    exact nz d
  rw [set_get, set_get, if_neg hj, if_neg hj]
  exact ⟨h, rfl⟩
theorem Rl.at {D G : Array GenState} (h : Rl D G) {j : Nat} {x : GenState} (e : D[j]? = some x) (n : ¬ dead x) : G[j]? = some x ∧ ngS x = true := by
  obtain ⟨y, h1, h2 | h2⟩ := h.2 j x e
  · obtain ⟨rfl, h3⟩ := h2
    exact ⟨h1, h3⟩
  · exact (n h2.1).elim
end GF
end
section
namespace GF
open PySem
open Sem (wp)
def SX (M : Model) (A : Around) (Φ : End → Shared → Prop) (c : Code) (t : Sem PySem.Fin) (fs : List Frame) (s : Shared) : Prop :=
  ∀ (Γ : PySem.Ctx) (p : Pos), Γ.code = c → Γ.Woken A → ∃ e s', Runs M Γ p t fs s e s' ∧ Φ e s'
section
variable {M : Model} {A : Around} {Φ : End → Shared → Prop} {c : Code} {fs : List Frame} {s : Shared} {env : Env}
  {K : Flow → Sem PySem.Fin} {J : Value → Sem PySem.Fin} {gd : Bool → Bool} {lv : List Value → List Value}
theorem SX.imp {t : Sem PySem.Fin} {Ψ : End → Shared → Prop} (h : SX M A Φ c t fs s) (k : ∀ e s', Φ e s' → Ψ e s') : SX M A Ψ c t fs s := fun Γ p hc hΓ => by
  obtain ⟨e, s', hr, he⟩ := h Γ p hc hΓ
  exact ⟨e, s', hr, k e s' he⟩
end
/-- woken so, the generator comes to Φ -/
def GoX (M : Model) (A : Around) (Φ : End → Shared → Prop) (gs : GenState) (r : Resume) (s : Shared) : Prop :=
  match gs with
  | .fresh c => r = .send .none ∧ SX M A Φ c (M.den c) [] s
  | .suspended k _ c _ fs _ => SX M A Φ c (k r) fs s
  | _ => False
end GF
end
section
set_option maxHeartbeats 1000000
namespace GF
open PySem PySem.Spec PyProof.Rows L2
/-- the heap below L -/
def tr (L : Nat) (h : Heap) : Heap := { h with objs := h.objs.extract 0 L }
/-- the generator's context at a resume -/
def nx (X : Cx) (A : Around) (s : Shared) (H : Hp) (pn : List (Addr × Obj)) : Cx :=
  { X with A := A.deeper X.env, s_0 := { s with heap := tr X.env.locals s.heap }, H_0 := H, ex := [], calm := true, pn := pn, xe := fun _ _ => False }
end GF
end
section
set_option maxHeartbeats 1000000
namespace GF
open PySem PySem.Spec PyProof.Rows L2 PP
/-- what a generator is woken in -/
structure RF (T : Tbl) (P : Program) (w : World) (K : PySem.W.Frag) (mg : Str → Option Value) (base : Heap) (outer : List PySem.Env) (k : Nat) (L : Nat) (own : List (Addr × Obj)) (H0y : Hp) (A : Around) (s : Shared) (H0 H : Hp) (pn : List (Addr × Obj)) : Prop where
  e0 : Env0 P w K mg base A outer s H
  room : Room k A
  gd : A.guards = some []
  ey : PP.Ext H0y H0
  ex : PP.Ext H0 H
  tabs : LamX.Tabs T.tt H
  tno : ∀ p ∈ T.tt, H0 p.1 = none
  ow : ∀ p ∈ own, s.heap.get? p.1 = some p.2 ∧ H p.1 = none
  pk : ∀ p ∈ pn, s.heap.get? p.1 = some p.2 ∧ H p.1 = none ∧ (∀ q ∈ own, p.1 ≠ q.1) ∧ p.1 ∉ frs outer ∧ ∀ v, p.2.data ≠ .cell v
/-- what stands behind its run -/
structure AF (T : Tbl) (P : Program) (w : World) (outer : List PySem.Env) (L : Nat) (s : Shared) (H0 H : Hp) (pn : List (Addr × Obj)) (s₁ : Shared) (H0' H' : Hp) : Prop where
  os : s₁.os = s.os
  bare : AllBare s₁.gens
  un : Un (frs outer) [] H H' (tr L s.heap) s₁.heap
  hok : HOk P w H' s₁.heap
  gr : Gr T H0 H H0' H'
  pk : ∀ p ∈ pn, s₁.heap.get? p.1 = some p.2 ∧ H' p.1 = none
def OwnOk (L : Nat) (outer : List PySem.Env) (pn own : List (Addr × Obj)) (H' : Hp) (s₁ : Shared) : Prop :=
  ∀ p ∈ own, s₁.heap.get? p.1 = some p.2 ∧ H' p.1 = none ∧ L ≤ p.1 ∧ p.1 ∉ frs outer ∧ (∀ q ∈ pn, q.1 ≠ p.1) ∧ ∀ v, p.2.data ≠ .cell v
section
variable (T : Tbl) (P : Program) (w : World) (K : PySem.W.Frag) (mg : Str → Option Value) (base : Heap) (outer : List PySem.Env) (k : Nat) (L : Nat)
/-- it still yields ds, then it ends -/
def StrG : List D → GenState → List (Addr × Obj) → Hp → Prop
  | [], gs, own, H0y => ngS gs = true ∧ ∀ (A : Around) (g : Nat) (s : Shared) (H0 H : Hp) (pn : List (Addr × Obj)), RF T P w K mg base outer k L own H0y A s H0 H pn → s.gens[g]? = some gs →
      GoX (model P w) A (fun e s₁ => (e = .ret (.ok .next) ∨ e = .ret (.ok (.ret .none))) ∧ ∃ H0' H', AF T P w outer L s H0 H pn s₁ H0' H') gs (.send .none) (s.setGen g .running)
  | d :: r, gs, own, H0y => ngS gs = true ∧ ∀ (A : Around) (g : Nat) (s : Shared) (H0 H : Hp) (pn : List (Addr × Obj)), RF T P w K mg base outer k L own H0y A s H0 H pn → s.gens[g]? = some gs →
      GoX (model P w) A (fun e s₁ => ∃ v l c kk p fs x own' H0' H', e = .susp v false l kk c p fs ∧ e.quiet = true ∧ AF T P w outer L s H0 H pn s₁ H0' H' ∧ OwnOk L outer pn own' H' s₁ ∧ RelV x v ∧ Rep T H0' d x ∧ StrG r e.genState own' H0')
        gs (.send .none) (s.setGen g .running)
end
end GF
end
section
set_option maxHeartbeats 1000000
namespace HT
open PySem PySem.Spec PyProof.Rows L2
section
variable {prog : Program} {w : World} {A : Around} {E : Value → Shared → Prop} {s : Shared}
theorem whole_tuple {t sl : Addr} {items : Array Value} {vl vu : Value} {lo hi : Option Int} {Q : Value → Shared → Prop} (ht : IsTup s.heap t items) (hs : s.heap.IsSliceOf sl vl vu .none) (pl : IsPart vl lo) (pu : IsPart vu hi)
    (hw : sIx items.size 0 lo = 0 ∧ sIx items.size items.size hi = items.size) (h : Q (.ref t) s) : wpAny (model prog w) A (getItem (.ref t) (.ref sl)) Q E s := by
  obtain ⟨os, hos, hcs, hds⟩ := id hs
  have isS : s.TypeIs (.ref sl) "slice" := ⟨os, hos, hcs⟩
  unfold getItem
  try with_reducible refine wpAny_holding ?_
  first | refine wpAny_bind (wpAny_pure ?_) | skip
  refine wpAny_bind (wpAny_sequenceKey ht.typeIs (by decide) (wpAny_bind (wpAny_callSpecial?_slot (name := Str.ofString "__getitem__") ht.typeIs slot_tuple_getitem (wpAny_call_entry slot_tuple_getitem ht.typeIs entry_tuple_getitem ?_ (args_tuple_getitem _ _)))))
  show wpAny _ _ (Builtin.Tuple.tupleItemsOf (.ref t) >>= _) _ _ s
  refine wpAny_bind (tupleItemsOf_ ht (wpAny_bind (wpAny_typeOf isS ?_)))
  rw [if_pos (by decide)]
  refine wpAny_bind (sliceApplied_gen hs pl pu ?_)
  have yes : (((sIx items.size 0 lo : Nat) : Int) == 0 && (1 : Int) == 1 && (sIx items.size items.size hi - sIx items.size 0 lo) == items.size) = true := by
    rw [hw.1, hw.2]
    simp
  show wpAny _ _ (if (((sIx items.size 0 lo : Nat) : Int) == 0 && (1 : Int) == 1 && (sIx items.size items.size hi - sIx items.size 0 lo) == items.size) = true then _ else _) _ _ s
  rw [if_pos yes]
  refine wpAny_bind ?_
  unfold Builtin.Tuple.tupleIsExact
  refine wpAny_bind (wpAny_typeOf ht.typeIs ?_)
  refine wpAny_pure ?_
  rw [if_pos (by decide)]
  exact wpAny_bind (wpAny_rule (wpAny_pure ⟨_, rfl, wpAny_pure h⟩))
end
end HT
namespace L2
open PySem PySem.Spec PyProof.Rows
section
variable {X : Cx}
def rSlW (K : PySem.W.Frag) : V → Option Int → Option Int → Hp → VK → Prop := fun x lo hi H Q => ∃ a xs, x = .ref a ∧ SqT K H a xs ∧ (HT.sIx xs.length 0 lo = 0 ∧ HT.sIx xs.length xs.length hi = xs.length) ∧ Q (.ref a) H
theorem sl_tupW : SlR X (rSlW X.K) := by
  intro pins s σ H x v vl vu lo hi sl Q I rx hs pl pu h
  obtain ⟨a, xs, rfl, hx, hw, q⟩ := h
  cases rx
  obtain ⟨its, r, ht, hz⟩ := I.tuple hx
  have hlen : its.toArray.size = xs.length := by rw [List.size_toArray]; exact r.length.symm
  refine ⟨"tuple", _, PyProof.Rows.slot_tuple_getitem.lookup, ht.typeIs, HT.whole_tuple ht hs pl pu (by rw [hlen]; exact hw) ⟨.ref a, H, I, rfl, q⟩⟩
end
end L2
end
section
set_option maxHeartbeats 1000000
namespace PP
open PySem L2
section
variable {X : Cx} {C : Ctx} {W : WX} {cl : CallF} {e a b c : Expr} {es : List Expr} {e' a' b' c' : Ex} {es' : Exs} {pos : Pos}
def tyN : D → String
  | .non => "NoneType" | .bl _ => "bool" | .int _ => "int" | .str _ => "str" | .lst _ => "list" | .tup _ => "tuple" | .kst _ => "list" | .dK _ _ => "dict" | .dT _ _ => "dict" | .obj _ _ _ => "object" | .cls _ => "type" | .err _ _ _ => "exception"
def isObjD : D → Bool
  | .obj _ _ _ => true | .cls _ => true | .err _ _ _ => true | .dT _ _ => true | _ => false
theorem tyx {T : Tbl} {H0 H : Hp} {d : D} {v : V} (hK : X.K = T.K) (e : Ext H0 H) (h : RdV T H0 H d v) (ho : isObjD d = false) : TyX X.K H v (.type (tyN d)) := by
  cases d with
  | non => cases rd_non h; exact .base .non
  | bl b => cases rd_bl h; exact .base (.bl _)
  | int b => cases rd_int h; exact .base (.int _)
  | str b => cases rd_str h; exact .base (.str _)
  | lst ds =>
    obtain ⟨a, xs, rfl, h1, h2⟩ := rd_lst e h
    rcases h1 with h1 | ⟨o, h1⟩
    · exact .base (.lst h1)
    · exact .base (.frz h1)
  | tup ds =>
    obtain ⟨a, xs, rfl, h1, h2⟩ := rd_tup e h
    rcases h1 with (h1 | ⟨o, h1⟩) | ⟨o, its, n, h1, h3, _⟩
    · exact .base (.tup h1)
    · exact .fTuple h1
    · exact .kTuple (hK ▸ h1) h3
  | kst ds =>
    obtain ⟨a, xs, rfl, h1, h2⟩ := rd_kst e h
    rcases h1 with (h1 | ⟨o, h1⟩) | ⟨o, its, n, h1, h3, _⟩
    · exact .base (.lst h1)
    · exact .base (.frz h1)
    · exact .kList (hK ▸ h1) h3
  | dK ks ds =>
    obtain ⟨a, xs, rfl, h1, h2⟩ := rd_dK e h
    rcases h1 with h1 | ⟨o, h1⟩
    · exact .base (.dK h1)
    · exact .fDict h1
  | dT ks ds => cases ho
  | obj c ks ds => cases ho
  | cls c => cases ho
  | err c ks ds => cases ho
theorem is_inv {x y d : D} (h : op2 .is x y = some d) : (y = .non ∧ d = .bl (decide (tyN x = "NoneType"))) ∨ ∃ b, y = .bl b ∧ ∃ r, d = .bl r ∧ (r = true ↔ x = .bl b) := by
  cases y with
  | non => refine .inl ⟨rfl, ?_⟩; cases x <;> cases h <;> rfl
  | bl b => refine .inr ⟨b, rfl, ?_⟩; cases x <;> cases h <;> exact ⟨_, rfl, by first | (simp; done) | (simp; exact eq_comm)⟩
  | _ => cases x <;> cases h
theorem isnot_inv {x y d : D} (h : op2 .isnot x y = some d) : (y = .non ∧ d = .bl (!decide (tyN x = "NoneType"))) ∨ ∃ b, y = .bl b ∧ ∃ r, d = .bl (!r) ∧ (r = true ↔ x = .bl b) := by
  cases y with
  | non => refine .inl ⟨rfl, ?_⟩; cases x <;> cases h <;> rfl
  | bl b => refine .inr ⟨b, rfl, ?_⟩; cases x <;> cases h <;> first | exact ⟨false, rfl, by simp⟩ | exact ⟨_, rfl, by first | (simp; done) | (simp; exact eq_comm)⟩
  | _ => cases x <;> cases h
theorem repAll_cut {T : Tbl} {H : Hp} {ds : List D} {vs : List V} (h : RepAll T H ds vs) (lo hi : Option Int) : RepAll T H (cutD ds lo hi) (cutV vs lo hi) := by
  unfold cutD cutV
  rw [h.len]
  exact (h.drop _).take _
def tP (C : Ctx) (W : WX) (cl : CallF) (b : Bool) (e : Ex) : TO := fun σ H Q => ∃ H0 env, Sim C σ H0 H env ∧ RQ C W σ (fun b _ _ H' => Q b H') H0 (optP b (ev cl e) env)
theorem so_none {e' : Ex} : PO X none (tP C W cl false e') := ⟨fun pins s σ H Q I ⟨H0, env, S, q⟩ => po_none.run pins s σ H Q I (q H0 H (Ext.rfl' _) S)⟩
theorem so_some (h : PE X e (tI C W cl e')) : PO X (some e) (tP C W cl true e') :=
  ⟨fun pins s σ H Q I ⟨H0, env, S, q⟩ => (po_some h).run pins s σ H Q I (seqI S q fun u env1 x H1 H1' e1 S1 u1 q1 => by
    obtain ⟨d, hd, q1⟩ := q1.orB
    cases d with
    | int i =>
      cases rd_int (S1.rd u1 hd)
      exact ⟨i, rfl, q1 H1 H1' (Ext.rfl' _) S1⟩
    | _ => exact q1.elim)⟩
theorem seqP {σ : L2.St} {H0 H : Hp} {env : Env} {bb : Bool} {β : Type} {K : β → Env → Hp → Hp → Prop} {f : Option Int → Env → R β} (S : Sim C σ H0 H env) (h : RQ C W σ K H0 ((optP bb (ev cl a') env).bind f)) {Q : Option Int → Hp → Prop}
    (hQ : ∀ b env1 H01 H1, Ext H0 H01 → Sim C σ H01 H1 env1 → RQ C W σ K H01 (f b env1) → Q b H1) : tP C W cl bb a' σ H Q := by
  refine ⟨H0, env, S, ?_⟩
  cases q : optP bb (ev cl a') env with
  | ok u env1 =>
    rw [q] at h
    exact fun H01 H1 e s => hQ u env1 H01 H1 e s (RQ.mono e h)
  | exc x env1 =>
    rw [q] at h
    exact fun cls d H0' H' e s x => h cls d H0' H' e s x
  | bad => rw [q] at h; exact h
theorem c_slice {lo hi : Option Expr} {bl bh : Bool} {l h : Ex} {p2 : Pos} (hK : X.K = C.T.K) (ha : PE X a (tI C W cl a')) (hl : PO X lo (tP C W cl bl l)) (hh : PO X hi (tP C W cl bh h)) : PE X (.Subscript a (.Slice lo hi none p2) pos) (tI C W cl (.slice a' bl bh l h)) :=
  peI (pe_slice (((sl_list.or sl_tup).or sl_str).or sl_tupW) ha hl hh) fun σ H Q ⟨H0, env, S, q⟩ => by
    simp only [ev] at q
    refine seqI S q fun u env1 x H1 H1' e1 S1 u1 q1 => ?_
    obtain ⟨H1f, e1f, S1f, u1f⟩ := S1.pend u1
    refine seqP S1f (RQ.mono e1f q1) fun lv env2 H2 H2' e2 S2 q2 => ?_
    refine seqP S2 q2 fun hv env3 H3 H3' e3 S3 q3 => ?_
    obtain ⟨dx, hx, q3⟩ := q3.orB
    cases dx with
    | lst xs =>
      obtain ⟨a, us, rfl, h1, h2⟩ := rd_lst S3.ex (S3.rd (u1f.wait (e2.tr e3)) hx)
      exact .inl (.inl (.inl ⟨a, us, rfl, .inl h1, fun p hp => fin_nw S3 q3 (Gr.own S3.ex hp) (.lst S3.ex hp (repAll_cut h2 _ _))⟩))
    | kst xs =>
      obtain ⟨a, us, rfl, h1, h2⟩ := rd_kst S3.ex (S3.rd (u1f.wait (e2.tr e3)) hx)
      exact .inl (.inl (.inl ⟨a, us, rfl, hK ▸ h1, fun p hp => fin_nw S3 q3 (Gr.own S3.ex hp) (.lst S3.ex hp (repAll_cut h2 _ _))⟩))
    | tup xs =>
      simp only at q3
      split at q3
      · rename_i hw
        rcases S3.rd (u1f.wait (e2.tr e3)) hx with h1 | h1
        · have h0 := h1
          simp only [Rep] at h1
          obtain ⟨a, us, rfl, h2, h3⟩ := h1
          rw [← RepAll.len h3] at hw
          exact .inr ⟨a, us, rfl, hK ▸ S3.ex.sqT h2, hw, q3 H3 H3' (Ext.rfl' _) S3 _ h0⟩
        · exact h1.elim
      rename_i hw
      rcases S3.rd (u1f.wait (e2.tr e3)) hx with h1 | h1
      · simp only [Rep] at h1
        obtain ⟨a, us, rfl, h2, h3⟩ := h1
        rw [← RepAll.len h3] at hw
        exact .inl (.inl (.inr ⟨a, us, rfl, hK ▸ S3.ex.sqT h2, hw, fun p hp => fin_nw S3 q3 (Gr.froz S3.ex hp) (.flat rfl (by simp only [Rep]; exact ⟨p, _, rfl, SqT.of upd_same, RepAll.mono (ext_upd (S3.ex.no hp)) _ _ (repAll_cut h3 _ _)⟩))⟩))
      · exact h1.elim
    | str z =>
      simp only at q3
      split at q3
      · rename_i hz
        refine .inl (.inr ⟨z, rd_str (S3.rd (u1f.wait (e2.tr e3)) hx), Nat.le_trans hz (by decide), fin_nw S3 q3 (Gr.rfl' S3.ex) (.flat rfl (r_str _ _ _))⟩)
      · exact q3.elim
    | _ => exact q3.elim
end
end PP
end
section
set_option maxHeartbeats 1000000
namespace PP
open PySem L2
theorem getS_set (env : Env) (i j : Nat) (s : Sl) : getS (env.set i s) j = if i = j ∧ i < env.length then s else getS env j := by
  unfold getS
  simp only [List.getD_eq_getElem?_getD, List.getElem?_set]
  by_cases h : i = j
  · subst h
    by_cases l : i < env.length <;> simp [l]
  · simp [h]
section
variable {C : Ctx} {W : WX} {σ : L2.St} {cl : CallF} {H0 H H0' H' : Hp} {env : Env}
theorem Sim.store (S : Sim C σ H0 H env) {i : Nat} {v : V} {s : Sl} (hs : isIO s = false) (h : SlOk C H0 H i (some (some v)) s)
    (hd : ∀ a, v = .ref a → ownS s = true → ∀ j, j ≠ i → ownS (getS env j) = true → σ[j]? ≠ some (some (.ref a))) : Sim C (σ.set i (some v)) H0 H (env.set i s) := by
  by_cases hl : i < env.length
  · have hl' : i < σ.length := by rw [← S.len]; exact hl
    refine { ok := S.ok, ex := S.ex, ex0 := S.ex0, fresh := S.fresh, keep := S.keep, tabs := S.tabs, tno := S.tno, ioH := S.ioH, len := by simp only [List.length_set]; exact S.len, slots := fun j => ?_, inj := fun j k a hjk hj hk ej ek => ?_ }
    · rw [getS_set, List.getElem?_set]
      by_cases z : i = j
      · subst z; simpa [hl, hl'] using h
      · simpa [z] using S.slots j
    · rw [getS_set] at hj hk
      rw [List.getElem?_set] at ej ek
      by_cases z : i = j
      · subst z
        simp only [hl, hl', and_self, if_true, true_and, if_pos] at hj ej
        have zk : ¬ i = k := hjk
        simp only [zk, false_and, if_false] at hk ek
        simp only [Option.some.injEq] at ej
        exact hd a ej hj k (fun q => zk q.symm) hk ek
      · simp only [z, false_and, if_false] at hj ej
        by_cases zk : i = k
        · subst zk
          simp only [hl, hl', and_self, if_true, true_and, if_pos] at hk ek
          simp only [Option.some.injEq] at ek
          exact hd a ek hk j (fun q => z q.symm) hj ej
        · simp only [zk, false_and, if_false] at hk ek
          exact S.inj j k a hjk hj hk ej ek
  · have e1 : env.set i s = env := List.set_eq_of_length_le (by omega)
    have e2 : σ.set i (some v) = σ := List.set_eq_of_length_le (by rw [← S.len]; omega)
    rw [e1, e2]
    exact S
/-- name = value -/
theorem Sim.asg (S : Sim C σ H0 H env) {i : Nat} {u : U} {v : V} {env2 : Env} (h : UOk C σ H0 H env u v) (ha : asgU env i u = some env2) : ∃ H0', Ext H0 H0' ∧ Sim C (σ.set i (some v)) H0' H env2 := by
  unfold asgU at ha
  · cases u with
    | d x =>
      cases ha
      exact ⟨H0, Ext.rfl' _, S.store rfl ⟨v, rfl, h⟩ fun _ _ q => by cases q⟩
    | nw x =>
      simp only [Option.some.injEq] at ha
      subst ha
      have h' : RepN C σ H0 H env x v := h
      unfold RepN at h'
      split at h'
      · rename_i hm
        obtain ⟨a, rfl, h1, h2, h3⟩ := h'
        have e : slOf (.nw x) x = .ow x := by cases x <;> first | rfl | cases hm
        rw [e]
        exact ⟨H0, Ext.rfl' _, S.store rfl ⟨a, rfl, h1, h2⟩ fun b hb _ j _ hj => by cases hb; exact h3 j hj⟩
      · rename_i hm
        have e : slOf (.nw x) x = .fz x := by cases x <;> first | rfl | exact (hm rfl).elim
        rw [e]
        exact ⟨H0, Ext.rfl' _, S.store rfl ⟨v, rfl, h'⟩ fun _ _ q => by cases q⟩
    | sl j =>
      simp only [Option.map_eq_some_iff] at ha
      obtain ⟨⟨d, env1⟩, hf, rfl⟩ := ha
      obtain ⟨H1, e1, S1, r1⟩ := S.take h hf
      exact ⟨H1, e1, S1.store rfl ⟨v, rfl, r1⟩ fun _ _ q => by cases q⟩
/-- an owned list at a slot -/
theorem Sim.ls (S : Sim C σ H0 H env) {i : Nat} (h : isLs (getS env i) = true) : ∃ a ds, σ[i]? = some (some (.ref a)) ∧ rdS (getS env i) = some (.lst ds) ∧ ownS (getS env i) = true ∧ RepO C.T H0 H (.lst ds) (.ref a) := by
  have hi := S.slots i
  cases z : getS env i with
  | un => rw [z] at h; cases h
  | fn => rw [z] at h; cases h
  | fz d => rw [z] at h; cases h
  | ow d =>
    rw [z] at h hi
    obtain ⟨a, h1, _, h3⟩ := hi
    cases d <;> first | (cases h; done) | exact ⟨a, _, h1, rfl, rfl, h3⟩
  | io d =>
    rw [z] at h hi
    obtain ⟨a, h1, _, h3⟩ := hi
    cases d <;> first | (cases h; done) | exact ⟨a, _, h1, rfl, rfl, h3⟩
theorem own_setIO {s : Sl} {d : D} : ownS (setIO s d) = ownS s := by cases s <;> rfl
/-- an owned thing changes -/
theorem Sim.mut (S : Sim C σ H0 H env) {i : Nat} {a : Addr} {o : HO} {d : D} (ho : ownS (getS env i) = true) (e : σ[i]? = some (some (.ref a))) (h : RepO C.T H0 (upd H a o) d (.ref a)) : Sim C σ H0 (upd H a o) (env.set i (setIO (getS env i) d)) := by
  have hl : i < env.length := by rw [S.len]; exact (List.getElem?_eq_some_iff.mp e).1
  have hi := S.slots i
  have hw : C.He a = none ∨ C.io a := by
    cases z : getS env i with
    | un => rw [z] at ho; cases ho
    | fn => rw [z] at ho; cases ho
    | fz x => rw [z] at ho; cases ho
    | ow x => rw [z] at hi; obtain ⟨b, h1, h2, _⟩ := hi; rw [e] at h1; cases h1; exact .inl h2
    | io x => rw [z] at hi; obtain ⟨b, h1, h2, _⟩ := hi; rw [e] at h1; cases h1; exact .inr (List.mem_of_getElem? h2)
  refine { ok := S.ok, ex := fun b u q => ?_, ex0 := S.ex0, fresh := S.fresh, keep := fun b u q z => ?_, tno := S.tno, tabs := (by obtain ⟨_, u, hu⟩ := S.own ho e; exact tabs_upd hu (S.ownK ho e hu).1 (S.ownK ho e hu).2 S.tabs), ioH := fun b z q => ?_, len := by simp only [List.length_set]; exact S.len, slots := fun j => ?_, inj := fun j k b hjk hj hk ej ek => ?_ }
  · have z : b ≠ a := fun z => by subst z; rw [(S.own ho e).1] at q; cases q
    rw [upd_ne z]; exact S.ex _ _ q
  · have z2 : b ≠ a := fun z2 => by
      subst z2
      rcases hw with w | w
      · rw [w] at q; cases q
      · exact z w
    rw [upd_ne z2]; exact S.keep _ _ q z
  · by_cases z2 : b = a
    · subst z2; rw [upd_same] at q; cases q
    · rw [upd_ne z2] at q; exact S.ioH b z q
  · rw [getS_set]
    by_cases z : i = j
    · subst z
      simp only [hl, and_self, if_true]
      cases z : getS env i with
      | un => rw [z] at ho; cases ho
      | fn => rw [z] at ho; cases ho
      | fz x => rw [z] at ho; cases ho
      | ow x => rw [z] at hi; obtain ⟨b, h1, h2, _⟩ := hi; rw [e] at h1; cases h1; exact ⟨a, e, h2, h⟩
      | io x => rw [z] at hi; obtain ⟨b, h1, h2, _⟩ := hi; rw [e] at h1; cases h1; exact ⟨a, e, h2, h⟩
    · simp only [z, false_and, if_false]
      refine (S.slots j).step (Ext.rfl' _) fun b hb eb => ⟨(S.own hb eb).1, ?_⟩
      exact upd_ne fun zb => S.inj i j a z ho hb e (by rw [← zb]; exact eb)
  · rw [getS_set] at hj hk
    have hj' : ownS (getS env j) = true := by
      split at hj
      · rename_i z; rw [← z.1]; exact ho
      · exact hj
    have hk' : ownS (getS env k) = true := by
      split at hk
      · rename_i z; rw [← z.1]; exact ho
      · exact hk
    exact S.inj j k b hjk hj' hk' ej ek
/-- a name is let go -/
theorem Sim.drop (S : Sim C σ H0 H env) (i : Nat) : Sim C σ H0 H (env.set i .un) := by
  refine { ok := S.ok, ex := S.ex, ex0 := S.ex0, fresh := S.fresh, keep := S.keep, tabs := S.tabs, tno := S.tno, ioH := S.ioH, len := by simp only [List.length_set]; exact S.len, slots := fun j => ?_, inj := fun j k a hjk hj hk ej ek => ?_ }
  · rw [getS_set]
    split
    · trivial
    · exact S.slots j
  · rw [getS_set] at hj hk
    split at hj
    · cases hj
    · split at hk
      · cases hk
      · exact S.inj j k a hjk hj hk ej ek
end
/-- what is wanted behind a statement; H0: what is frozen ahead of it -/
def RS (C : Ctx) (W : WX) (E : Ends) (G : Hp) : R Fl → Prop
  | .ok .next env => ∀ σ H0 H, Ext G H0 → Sim C σ H0 H env → E.nx σ H
  | .ok .brk env => ∀ σ H0 H, Ext G H0 → Sim C σ H0 H env → E.bk σ H
  | .ok .cont env => ∀ σ H0 H, Ext G H0 → Sim C σ H0 H env → E.ct σ H
  | .ok (.ret u) env => ∀ σ H0 H v, Ext G H0 → Sim C σ H0 H env → UOk C σ H0 H env u v → E.rt v H
  | .exc x env => ∀ σ cls d H0 H, Ext G H0 → Sim C σ H0 H env → XOk C.T H0 H x cls d → W cls d σ H
  | .bad => False
def tS (C : Ctx) (W : WX) (cl : CallF) (s : S) : TS := fun E σ H => ∃ H0 env, Sim C σ H0 H env ∧ RS C W E H0 (ex cl s env)
def tSs (C : Ctx) (W : WX) (cl : CallF) (s : Ss) : TS := fun E σ H => ∃ H0 env, Sim C σ H0 H env ∧ RS C W E H0 (exs cl s env)
theorem RS.orB {α : Type} {C : Ctx} {W : WX} {E : Ends} {G : Hp} {o : Option α} {f : α → R Fl} (h : RS C W E G (orBad o f)) : ∃ a, o = some a ∧ RS C W E G (f a) := by
  cases o with
  | none => exact h.elim
  | some a => exact ⟨a, rfl, h⟩
theorem RS.mono {C : Ctx} {W : WX} {E : Ends} {G G' : Hp} (e : Ext G G') {r : R Fl} (h : RS C W E G r) : RS C W E G' r := by
  cases r with
  | ok a env =>
    cases a with
    | next => exact fun σ H0' H' e' s => h σ H0' H' (e.tr e') s
    | brk => exact fun σ H0' H' e' s => h σ H0' H' (e.tr e') s
    | cont => exact fun σ H0' H' e' s => h σ H0' H' (e.tr e') s
    | ret u => exact fun σ H0' H' v e' s => h σ H0' H' v (e.tr e') s
  | exc x env => exact fun σ cls d H0' H' e' s x => h σ cls d H0' H' (e.tr e') s x
  | bad => exact h
section
variable {C : Ctx} {W : WX} {σ : L2.St} {cl : CallF} {H0 H : Hp} {env : Env} {E : Ends}
theorem seqE {a : Ex} {f : U → Env → R Fl} (S : Sim C σ H0 H env) (h : RS C W E H0 ((ev cl a env).bind f)) {Q : VK}
    (hQ : ∀ u env1 v H01 H1, Ext H0 H01 → Sim C σ H01 H1 env1 → UOk C σ H01 H1 env1 u v → RS C W E H01 (f u env1) → Q v H1) : tI C W cl a σ H Q := by
  refine ⟨H0, env, S, ?_⟩
  cases q : ev cl a env with
  | ok u env1 =>
    rw [q] at h
    exact fun H01 H1 e s v hu => hQ u env1 v H01 H1 e s hu (RS.mono e h)
  | exc x env1 =>
    rw [q] at h
    exact fun cls d H0' H' e s x => h σ cls d H0' H' e s x
  | bad => rw [q] at h; exact h
theorem seqTE {a : Ex} {f : Bool → Env → R Fl} (S : Sim C σ H0 H env) (h : RS C W E H0 ((evT cl a env).bind f)) {Q : Bool → Hp → Prop}
    (hQ : ∀ b env1 H01 H1, Ext H0 H01 → Sim C σ H01 H1 env1 → RS C W E H01 (f b env1) → Q b H1) : tT C W cl a σ H Q := by
  refine ⟨H0, env, S, ?_⟩
  cases q : evT cl a env with
  | ok u env1 =>
    rw [q] at h
    exact fun H01 H1 e s => hQ u env1 H01 H1 e s (RS.mono e h)
  | exc x env1 =>
    rw [q] at h
    exact fun cls d H0' H' e s x => h σ cls d H0' H' e s x
  | bad => rw [q] at h; exact h
end
theorem psI {X : Cx} {st : Stmt} {t t' : TS} (h : PS X st t) (i : ∀ E σ H, t' E σ H → t E σ H) : PS X st t' := ⟨fun pins s σ H D I q => h.run pins s σ H D I (i D σ H q)⟩
theorem pssI {X : Cx} {st : List Stmt} {t t' : TS} (h : PSs X st t) (i : ∀ E σ H, t' E σ H → t E σ H) : PSs X st t' := ⟨fun pins s σ H D I q => h.run pins s σ H D I (i D σ H q)⟩
section
variable {X : Cx} {C : Ctx} {W : WX} {cl : CallF} {st : Stmt} {rest : List Stmt} {s' : S} {r' : Ss} {e : Expr} {e' : Ex} {pos : Pos}
theorem ss_nil : PSs X [] (tSs C W cl .nil) := pssI pss_nil fun E σ H ⟨H0, env, S, q⟩ => q σ H0 H (Ext.rfl' _) S
theorem ss_cons (h1 : PS X st (tS C W cl s')) (h2 : PSs X rest (tSs C W cl r')) : PSs X (st :: rest) (tSs C W cl (.cons s' r')) := pssI (pss_cons h1 h2) fun E σ H ⟨H0, env, S, q⟩ => by
  refine ⟨H0, env, S, ?_⟩
  simp only [exs] at q
  cases z : ex cl s' env with
  | ok fl env1 =>
    rw [z] at q
    cases fl with
    | next => exact fun σ' H0' H' e' S' => ⟨H0', env1, S', RS.mono e' q⟩
    | brk => exact q
    | cont => exact q
    | ret u => exact q
  | exc x env1 => rw [z] at q; exact q
  | bad => rw [z] at q; exact q
theorem s_asg {i : Nat} (h : PS X st (tAsg (tI C W cl e') (gName i))) : PS X st (tS C W cl (.asg i e')) := psI h fun E σ H ⟨H0, env, S, q⟩ => by
  simp only [ex] at q
  refine seqE S q fun u env1 v H1 H1' e1 S1 u1 q1 => ?_
  obtain ⟨env2, ha, q1⟩ := q1.orB
  obtain ⟨H2, e2, S2⟩ := S1.asg u1 ha
  exact q1 _ H2 H1' e2 S2
theorem s_ret (h : PE X e (tI C W cl e')) : PS X (.Return (some e) pos) (tS C W cl (.ret e')) := psI (ps_ret h) fun E σ H ⟨H0, env, S, q⟩ => by
  simp only [ex] at q
  refine seqE S q fun u env1 v H1 H1' e1 S1 u1 q1 => ?_
  obtain ⟨⟨r, env2⟩, hr, q1⟩ := q1.orB
  cases u with
  | d x => cases hr; exact q1 σ H1 H1' v (Ext.rfl' _) S1 u1
  | nw x => cases hr; exact q1 σ H1 H1' v (Ext.rfl' _) S1 u1
  | sl i =>
    have ei : σ[i]? = some (some v) := u1
    have hi := S1.slots i
    cases z : getS env1 i with
    | un => simp [retU, z] at hr
    | fn => simp [retU, z] at hr
    | io d => simp [retU, z] at hr
    | fz d =>
      simp [retU, z] at hr
      obtain ⟨rfl, rfl⟩ := hr
      rw [z] at hi
      obtain ⟨w, h1, h2⟩ := hi
      rw [ei] at h1; cases h1
      exact q1 σ H1 H1' v (Ext.rfl' _) S1 h2
    | ow d =>
      simp [retU, z] at hr
      obtain ⟨rfl, rfl⟩ := hr
      rw [z] at hi
      obtain ⟨a, h1, h2, h3⟩ := hi
      rw [ei] at h1; cases h1
      refine q1 σ H1 H1' _ (Ext.rfl' _) (S1.drop i) ?_
      show RepN _ _ _ _ _ _ _
      unfold RepN
      rw [if_pos h3.ref.1]
      have hl : i < env1.length := by rw [S1.len]; exact (List.getElem?_eq_some_iff.mp ei).1
      refine ⟨a, rfl, h2, h3, fun j hj ej => ?_⟩
      rw [getS_set] at hj
      split at hj
      · cases hj
      · rename_i zz
        have zj : ¬ i = j := fun w => zz ⟨w, hl⟩
        exact S1.inj i j a zj (by rw [z]; rfl) hj ei ej
theorem s_iff {c : Expr} {c' : Ex} {a b : List Stmt} {a' b' : Ss} (hc : PT X c (tT C W cl c')) (ha : PSs X a (tSs C W cl a')) (hb : PSs X b (tSs C W cl b')) : PS X (.If c a b pos) (tS C W cl (.iff c' a' b')) :=
  psI (ps_if hc ha hb) fun E σ H ⟨H0, env, S, q⟩ => by
    simp only [ex] at q
    refine seqTE S q fun t env1 H1 H1' e1 S1 q1 => ?_
    cases t with
    | true => rw [if_pos rfl]; exact ⟨H1, env1, S1, q1⟩
    | false => rw [if_neg Bool.false_ne_true]; exact ⟨H1, env1, S1, q1⟩
/-- slot[x] = e -/
theorem s_setI {i : Nat} {x' : Ex} (h : PS X st (tAsg (tI C W cl e') (gSub (tVar i) (tI C W cl x') rSetL))) : PS X st (tS C W cl (.setI i x' e')) := psI h fun E σ H ⟨H0, env, S, q⟩ => by
  simp only [ex] at q
  refine seqE S q fun u env1 v H1 H1' e1 S1 u1 q1 => ?_
  obtain ⟨⟨d, env2⟩, hf, q1⟩ := q1.orB
  obtain ⟨H2, e2, S2, r2⟩ := S1.take u1 hf
  split at q1
  · exact q1.elim
  rename_i hl
  simp only [Bool.not_eq_true, Bool.not_eq_false'] at hl
  obtain ⟨a, ds, ha, hs, ho, hr0⟩ := S2.ls hl
  refine ⟨.ref a, ha, seqE S2 (RS.mono e2 q1) fun w env3 k H3 H3' e3 S3 u3 q3 => ?_⟩
  obtain ⟨dk, hk, q3⟩ := q3.orB
  have fin : ∀ xs n, dk = .int n → isLs (getS env3 i) = true → rdS (getS env3 i) = some (.lst xs) → RS C W E H3 (orBad (setD xs n d) fun ys => .ok .next (env3.set i (setIO (getS env3 i) (.lst ys)))) → rSetL (.ref a) k v H3' fun H4 => E.nx σ H4 := by
    intro xs n hdk hg hx q4
    subst hdk
    obtain ⟨ys, hy, q4⟩ := q4.orB
    obtain ⟨b, ds3, hb, hs3, ho3, hr3⟩ := S3.ls hg
    rw [ha] at hb; cases hb
    rw [hs3] at hx; cases hx
    obtain ⟨b, us, eb, hn, hu, hr⟩ := hr3
    cases eb
    unfold setD at hy
    simp only [Option.map_eq_some_iff] at hy
    obtain ⟨j, hj, rfl⟩ := hy
    refine ⟨a, us, n, j, rfl, rd_int (S3.rd u3 hk), hu, by rw [hr.len]; exact hj, ?_⟩
    exact q4 _ H3 _ (Ext.rfl' _) (S3.mut ho3 ha ⟨a, _, rfl, hn, upd_same, hr.set (Rep.mono e3 _ _ r2) j⟩)
  split at q3
  · rename_i xs n hg; exact fin xs n rfl (by rw [hg]; rfl) (by rw [hg]; rfl) (by rw [hg]; exact q3)
  · rename_i xs n hg; exact fin xs n rfl (by rw [hg]; rfl) (by rw [hg]; rfl) (by rw [hg]; exact q3)
  · exact q3.elim
/-- slot.append(e) -/
theorem s_app {i : Nat} (h : PS X st (tDrop (tBM X.K "list" rAppend (tVar i) (tCons (tI C W cl e') tNil)))) : PS X st (tS C W cl (.app i e')) := psI h fun E σ H ⟨H0, env, S, q⟩ => by
  simp only [ex] at q
  split at q
  · exact q.elim
  rename_i hl
  simp only [Bool.not_eq_true, Bool.not_eq_false'] at hl
  obtain ⟨a, ds, ha, hs, ho, b, us, eb, hn, hu, hr⟩ := S.ls hl
  cases eb
  refine ⟨.ref a, ha, .inl ⟨rfl, us, SqL.of hu⟩, seqE S q fun u env1 v H1 H1' e1 S1 u1 q1 => ?_⟩
  obtain ⟨⟨d, env2⟩, hf, q1⟩ := q1.orB
  obtain ⟨H2, e2, S2, r2⟩ := S1.take u1 hf
  have fin : ∀ xs, isLs (getS env2 i) = true → rdS (getS env2 i) = some (.lst xs) → RS C W E H1 (if xs.length < LIM then .ok .next (env2.set i (setIO (getS env2 i) (.lst (xs ++ [d])))) else .bad) → rAppend (.ref a) [v] H1' fun _ H4 => E.nx σ H4 := by
    intro xs hg hx q4
    split at q4
    · rename_i hz
      obtain ⟨b, ds3, hb, hs3, ho3, hr3⟩ := S2.ls hg
      rw [ha] at hb; cases hb
      rw [hs3] at hx; cases hx
      obtain ⟨b, us3, eb, hn3, hu3, hr3⟩ := hr3
      cases eb
      refine ⟨a, us3, v, rfl, rfl, hu3, by rw [hr3.len]; exact Nat.lt_of_lt_of_le hz lim_line, ?_⟩
      exact q4 _ H2 _ e2 (S2.mut ho3 ha ⟨a, _, rfl, hn3, upd_same, hr3.app (by simp only [RepAll]; exact ⟨v, [], rfl, r2, rfl⟩)⟩)
    · exact q4.elim
  split at q1
  · rename_i xs hg; exact fin xs (by rw [hg]; rfl) (by rw [hg]; rfl) (by rw [hg]; exact q1)
  · rename_i xs hg; exact fin xs (by rw [hg]; rfl) (by rw [hg]; rfl) (by rw [hg]; exact q1)
  · exact q1.elim
def forPv (C : Ctx) (W : WX) (E : Ends) (G : Hp) (body : Env → R Fl) (j : Nat) (items : List D) : Nat → L2.St → Hp → Prop := fun i σ H => ∃ H0 env, Ext G H0 ∧ Sim C σ H0 H env ∧ RS C W E H0 (forD body j (items.drop i) env)
/-- one turn -/
theorem turnF {E : Ends} {G : Hp} {b : Ss} {j : Nat} {items : List D} {i : Nat} {d : D} {v : V} {σ : L2.St} {H : Hp} (hd : items[i]? = some d) (hr : ∀ H0, Ext G H0 → Rep C.T H0 d v)
    (h : forPv C W E G (exs cl b) j items i σ H) : tSs C W cl b { E with nx := forPv C W E G (exs cl b) j items (i + 1), ct := forPv C W E G (exs cl b) j items (i + 1), bk := E.nx } (σ.set j (some v)) H := by
  obtain ⟨H0, env, eG, S, q⟩ := h
  have rv := hr H0 eG
  have hdrop : items.drop i = d :: items.drop (i + 1) := by
    have hi := (List.getElem?_eq_some_iff.mp hd)
    rw [List.drop_eq_getElem_cons hi.1, hi.2]
  rw [hdrop] at q
  simp only [forD] at q
  refine ⟨H0, env.set j (.fz d), S.store rfl ⟨v, rfl, rv⟩ fun _ _ z => (by cases z), ?_⟩
  cases z : exs cl b (env.set j (.fz d)) with
  | bad => rw [z] at q; exact q
  | exc x env1 => rw [z] at q; exact q
  | ok fl env1 =>
    rw [z] at q
    cases fl with
    | next => exact fun σ' H0' H' e' S' => ⟨H0', env1, eG.tr e', S', RS.mono e' q⟩
    | cont => exact fun σ' H0' H' e' S' => ⟨H0', env1, eG.tr e', S', RS.mono e' q⟩
    | brk => exact q
    | ret u => exact q
theorem s_forr {n' : Ex} {b : Ss} {j : Nat} (h : PS X st (tFor (iRng1 (tCons (tI C W cl n') tNil)) (gName j) (tSs C W cl b))) : PS X st (tS C W cl (.forr j n' b)) := psI h fun E σ H ⟨H0, env, S, q⟩ => by
  simp only [ex] at q
  refine seqE S q fun u env1 v H1 H1' e1 S1 u1 q1 => ?_
  obtain ⟨d, hd, q1⟩ := q1.orB
  split at q1
  rotate_left
  · exact q1.elim
  rename_i m
  split at q1
  rotate_left
  · exact q1.elim
  rename_i hb
  simp only [Bool.and_eq_true, decide_eq_true_eq] at hb
  cases rd_int (S1.rd u1 hd)
  refine ⟨m, rfl, by omega, by omega, for_range (lo := 0) (n := m.toNat) (forPv C W E H1 (exs cl b) j ((List.range m.toNat).map fun (k : Nat) => .int k)) ⟨H1, env1, Ext.rfl' _, S1, q1⟩ (fun i σ' H' hi p => ?_) (fun σ' H' p => ?_)⟩
  · have hz : ((0 : Int) + (i : Nat)) = (i : Nat) := by omega
    show tSs C W cl b _ (σ'.set j (some (.int ((0 : Int) + (i : Nat))))) H'
    rw [hz]
    exact turnF (d := .int i) (by simp [hi]) (fun H0 _ => r_int _ _ _) p
  · obtain ⟨H2, env2, _, S2, q2⟩ := p
    rw [List.drop_eq_nil_of_le (by simp)] at q2
    exact q2 σ' H2 H' (Ext.rfl' _) S2
/-- what a for walks: a list or a tuple -/
def itemsU (u : U) (env : Env) : R (List D) := orBad (fzU env u) fun p => match p.1 with
  | .lst xs => .ok xs p.2
  | .tup xs => .ok xs p.2
  | .kst xs => .ok xs p.2
  | _ => .bad
def tIt (C : Ctx) (W : WX) (cl : CallF) (e : Ex) : TI := fun σ H R => ∃ H0 env, Sim C σ H0 H env ∧
  RQ C W σ (fun (ds : List D) env' H0' H' => ∀ a xs, RepAll C.T H0' ds xs → (SqL C.T.K H0' a xs → R (Itl C.T.K a) H') ∧ (SqT C.T.K H0' a xs → R (Itt C.T.K a) H')) H0 ((ev cl e env).bind itemsU)
theorem i_any {tg l : Expr} {l' : Ex} (hK : X.K = C.T.K) (h : PE X l (tI C W cl l')) : PI X tg l (tIt C W cl l') := ⟨fun pins s σ H R I ⟨H0, env, S, q⟩ => by
  cases z : ev cl l' env with
  | bad => rw [z] at q; exact q.elim
  | exc x env1 => exact (pi_list h).run pins s σ H R I ⟨H0, env, S, by rw [z] at q ⊢; exact q⟩
  | ok u env1 =>
    rw [z] at q
    simp only [PP.R.bind_ok, itemsU] at q
    obtain ⟨⟨d, env2⟩, hf, q⟩ := q.orB
    have key : ∀ (Q : VK), (∀ H2 H1' v, Ext H0 H2 → Sim C σ H2 H1' env2 → Rep C.T H2 d v → Q v H1') → tI C W cl l' σ H Q := fun Q hQ => ⟨H0, env, S, by
      rw [z]
      intro H1 H1' e1 S1 v u1
      obtain ⟨H2, e2, S2, r2⟩ := S1.take u1 hf
      exact hQ H2 H1' v (e1.tr e2) S2 r2⟩
    cases d with
    | lst ds =>
      exact (pi_list h).run pins s σ H R I (key _ fun H2 H1' v e S2 r => by
        simp only [Rep] at r
        obtain ⟨a, xs, rfl, r1, r2⟩ := r
        exact ⟨a, rfl, ⟨xs, .inl (S2.ex.rd r1)⟩, hK ▸ ((q H2 H1' e S2) a xs r2).1 (.inl r1)⟩)
    | kst ds =>
      exact (pi_list h).run pins s σ H R I (key _ fun H2 H1' v e S2 r => by
        simp only [Rep] at r
        obtain ⟨a, xs, rfl, r1, r2⟩ := r
        exact ⟨a, rfl, ⟨xs, hK ▸ S2.ex.sqL r1⟩, hK ▸ ((q H2 H1' e S2) a xs r2).1 r1⟩)
    | tup ds =>
      exact (pi_tup h).run pins s σ H R I (key _ fun H2 H1' v e S2 r => by
        simp only [Rep] at r
        obtain ⟨a, xs, rfl, r1, r2⟩ := r
        exact ⟨a, rfl, ⟨xs, hK ▸ S2.ex.sqT r1⟩, hK ▸ ((q H2 H1' e S2) a xs r2).2 r1⟩)
    | _ => exact q.elim⟩
theorem s_forl {l' : Ex} {b : Ss} {j : Nat} (h : PS X st (tFor (tIt C W cl l') (gName j) (tSs C W cl b))) : PS X st (tS C W cl (.forl j l' b)) := psI h fun E σ H ⟨H0, env, S, q⟩ => by
  simp only [ex] at q
  refine ⟨H0, env, S, ?_⟩
  have fin : ∀ (ds : List D) env2, RS C W E H0 (forD (exs cl b) j ds env2) → ∀ H2 H1', Ext H0 H2 → Sim C σ H2 H1' env2 → ∀ a xs, RepAll C.T H2 ds xs →
      (SqL C.T.K H2 a xs → ∃ W' : Nat → Nat → L2.St → Hp → Prop, (∃ m, W' 0 m σ H1') ∧ ∀ i m σ H, W' i m σ H → ((Itl C.T.K a).stop i H ∧ E.nx σ H) ∨ ((Itl C.T.K a).go i H ∧ ∃ N : L2.St → Hp → Prop, (∀ σ' H', N σ' H' → ∃ m', m' < m ∧ W' (i + 1) m' σ' H') ∧ ∀ x H', (Itl C.T.K a).yld i H x H' → gName j x σ H' fun σ2 H2 => tSs C W cl b { E with nx := N, ct := N, bk := E.nx } σ2 H2)) ∧
      (SqT C.T.K H2 a xs → ∃ W' : Nat → Nat → L2.St → Hp → Prop, (∃ m, W' 0 m σ H1') ∧ ∀ i m σ H, W' i m σ H → ((Itt C.T.K a).stop i H ∧ E.nx σ H) ∨ ((Itt C.T.K a).go i H ∧ ∃ N : L2.St → Hp → Prop, (∀ σ' H', N σ' H' → ∃ m', m' < m ∧ W' (i + 1) m' σ' H') ∧ ∀ x H', (Itt C.T.K a).yld i H x H' → gName j x σ H' fun σ2 H2 => tSs C W cl b { E with nx := N, ct := N, bk := E.nx } σ2 H2)) := by
    intro ds env2 q2 H2 H1' e S2 a xs hr
    have hend : ∀ σ' H', forPv C W E H2 (exs cl b) j ds xs.length σ' H' → E.nx σ' H' := fun σ' H' p => by
      obtain ⟨H3, env3, _, S3, q3⟩ := p
      rw [List.drop_eq_nil_of_le (by rw [hr.len]; exact Nat.le_refl _)] at q3
      exact q3 σ' H3 H' (Ext.rfl' _) S3
    have hturn : ∀ i x σ' H', xs[i]? = some x → forPv C W E H2 (exs cl b) j ds i σ' H' → gName j x σ' H' fun σ2 H2' => tSs C W cl b { E with nx := forPv C W E H2 (exs cl b) j ds (i + 1), ct := forPv C W E H2 (exs cl b) j ds (i + 1), bk := E.nx } σ2 H2' := fun i x σ' H' hx p => by
      obtain ⟨d, hd, rd⟩ := hr.get' hx
      exact turnF hd (fun H0 e0 => Rep.mono e0 _ _ rd) p
    exact ⟨fun hs => for_list (forPv C W E H2 (exs cl b) j ds) ⟨H2, env2, Ext.rfl' _, S2, RS.mono e q2⟩ (fun i σ' H' _ p => by obtain ⟨H3, env3, e3, S3, _⟩ := p; exact (e3.tr S3.ex).sqL hs) hturn hend,
      fun hs => for_tup (forPv C W E H2 (exs cl b) j ds) ⟨H2, env2, Ext.rfl' _, S2, RS.mono e q2⟩ (fun i σ' H' _ p => by obtain ⟨H3, env3, e3, S3, _⟩ := p; exact (e3.tr S3.ex).sqT hs) hturn hend⟩
  cases z : ev cl l' env with
  | bad => rw [z] at q; exact q.elim
  | exc x env1 => rw [z] at q; exact fun cls d H0' H' e s x => q σ cls d H0' H' e s x
  | ok u env1 =>
    rw [z] at q
    simp only [R.bind_ok] at q ⊢
    obtain ⟨⟨d, env2⟩, hf, q⟩ := q.orB
    unfold itemsU
    rw [hf]
    cases d with
    | lst ds => exact fun H2 H1' e S2 a xs hr => fin ds env2 q H2 H1' e S2 a xs hr
    | kst ds => exact fun H2 H1' e S2 a xs hr => fin ds env2 q H2 H1' e S2 a xs hr
    | tup ds => exact fun H2 H1' e S2 a xs hr => fin ds env2 q H2 H1' e S2 a xs hr
    | _ => exact q.elim
end
end PP
end
section
set_option maxHeartbeats 1000000
namespace PP
open PySem L2
def ArOk (T : Tbl) (H0 H : Hp) : List Ar → List V → Prop
  | [], vs => vs = []
  | .fz d :: as, vs => ∃ v r, vs = v :: r ∧ Rep T H0 d v ∧ ArOk T H0 H as r
  | .io d :: as, vs => ∃ a r, vs = .ref a :: r ∧ RepO T H0 H d (.ref a) ∧ ArOk T H0 H as r
/-- the addresses that are handed in to be changed, place by place -/
def ioL : List Ar → List V → List (Option Addr)
  | .io _ :: as, .ref a :: vs => some a :: ioL as vs
  | _ :: as, _ :: vs => none :: ioL as vs
  | _, _ => []
def OutsOk (T : Tbl) (H0 H : Hp) : List (Option Addr) → List D → Prop
  | [], ds => ds = []
  | none :: r, ds => OutsOk T H0 H r ds
  | some a :: r, ds => ∃ d ds', ds = d :: ds' ∧ RepO T H0 H d (.ref a) ∧ OutsOk T H0 H r ds'
def NoDup (l : List (Option Addr)) : Prop := ∀ (i j : Nat) (a : Addr), l[i]? = some (some a) → l[j]? = some (some a) → i = j
def TbOk (T : Tbl) (H0 H : Hp) : Prop := LamX.Tabs T.tt H ∧ ∀ p ∈ T.tt, H0 p.1 = none
theorem Sim.tb {C : Ctx} {σ : L2.St} {H0 H : Hp} {env : Env} (S : Sim C σ H0 H env) : TbOk C.T H0 H := ⟨S.tabs, S.tno⟩
structure GrC (T : Tbl) (L : List (Option Addr)) (H0 H H0' H' : Hp) : Prop where
  e0 : Ext H0 H0'
  e01 : Ext H0' H'
  new : ∀ a, H0 a = none → H0' a ≠ none → H a = none
  keep : ∀ a o, some a ∉ L → H a = some o → Kp o (H' a)
  tb : LamX.Tabs T.tt H → LamX.Tabs T.tt H'
def RetOk (T : Tbl) (H0' H' H : Hp) : U → V → Prop
  | .d d, v => Rep T H0' d v
  | .nw d, v => RepG T H0' H' H d v
  | .sl _, _ => False
/-- the promise of a def: it does what the interpreter does -/
def spF (T : Tbl) (cl : CallF) (f n : Nat) : Sp := fun vs H Q E => ∃ H0 as, Ext H0 H ∧ ArOk T H0 H as vs ∧ NoDup (ioL as vs) ∧ as.length = n ∧ TbOk T H0 H ∧
  match cl f as with
  | .ok r outs => ∀ v H0' H', GrC T (ioL as vs) H0 H H0' H' → RetOk T H0' H' H r v → OutsOk T H0' H' (ioL as vs) outs → Q v H'
  | .exc x outs => ∀ cls d H0' H', GrC T (ioL as vs) H0 H H0' H' → OutsOk T H0' H' (ioL as vs) outs → XOk T H0' H' x cls d → E cls d H'
  | .bad => False
theorem ArOk.len {T : Tbl} {H0 H : Hp} : ∀ {as : List Ar} {vs : List V}, ArOk T H0 H as vs → vs.length = as.length
  | [], _, h => by cases h; rfl
  | .fz d :: as, _, h => by obtain ⟨v, r, rfl, _, h⟩ := h; simp [ArOk.len h]
  | .io d :: as, _, h => by obtain ⟨v, r, rfl, _, h⟩ := h; simp [ArOk.len h]
theorem ArOk.ioLen {T : Tbl} {H0 H : Hp} : ∀ {as : List Ar} {vs : List V}, ArOk T H0 H as vs → (ioL as vs).length = as.length
  | [], _, h => by cases h; rfl
  | .fz d :: as, _, h => by obtain ⟨v, r, rfl, _, h⟩ := h; simp [ioL, ArOk.ioLen h]
  | .io d :: as, _, h => by obtain ⟨v, r, rfl, _, h⟩ := h; simp [ioL, ArOk.ioLen h]
theorem ArOk.at {T : Tbl} {H0 H : Hp} : ∀ {as : List Ar} {vs : List V} (i : Nat), ArOk T H0 H as vs → match as[i]? with
    | none => True
    | some (.fz d) => (∃ v, vs[i]? = some v ∧ Rep T H0 d v) ∧ (ioL as vs)[i]? = some none
    | some (.io d) => ∃ a, vs[i]? = some (.ref a) ∧ RepO T H0 H d (.ref a) ∧ (ioL as vs)[i]? = some (some a)
  | [], _, i, h => by simp
  | .fz d :: as, _, 0, h => by obtain ⟨v, r, rfl, h1, h⟩ := h; exact ⟨⟨v, rfl, h1⟩, rfl⟩
  | .io d :: as, _, 0, h => by obtain ⟨v, r, rfl, h1, h⟩ := h; exact ⟨v, rfl, h1, rfl⟩
  | .fz d :: as, _, i + 1, h => by obtain ⟨v, r, rfl, h1, h⟩ := h; simpa [ioL] using ArOk.at i h
  | .io d :: as, _, i + 1, h => by obtain ⟨v, r, rfl, h1, h⟩ := h; simpa [ioL] using ArOk.at i h
theorem ArOk.ioAt {T : Tbl} {H0 H : Hp} {as : List Ar} {vs : List V} (h : ArOk T H0 H as vs) {a : Addr} {i : Nat} (hi : (ioL as vs)[i]? = some (some a)) : ∃ d, as[i]? = some (.io d) ∧ vs[i]? = some (.ref a) ∧ RepO T H0 H d (.ref a) := by
  have q := h.at i
  cases z : as[i]? with
  | none =>
    rw [List.getElem?_eq_none_iff, ← h.ioLen, ← List.getElem?_eq_none_iff] at z
    rw [z] at hi; cases hi
  | some x =>
    rw [z] at q
    cases x with
    | fz d => rw [q.2] at hi; cases hi
    | io d => obtain ⟨b, h1, h2, h3⟩ := q; rw [h3] at hi; cases hi; exact ⟨d, rfl, h1, h2⟩
theorem startE_len : ∀ {n : Nat} {as : List Ar}, (startE n as).length = n
  | 0, [] => rfl
  | 0, _ :: _ => rfl
  | n + 1, [] => by simp only [startE, List.length_cons, startE_len]
  | n + 1, .fz d :: as => by simp only [startE, List.length_cons, startE_len]
  | n + 1, .io d :: as => by simp only [startE, List.length_cons, startE_len]
theorem getS_start : ∀ {n : Nat} {as : List Ar} (hn : as.length ≤ n) (i : Nat), getS (startE n as) i = match as[i]? with
    | none => .un
    | some (.fz d) => .fz d
    | some (.io d) => .io d
  | 0, [], _, i => by simp [startE, getS]
  | 0, _ :: _, h, i => by simp at h
  | n + 1, [], _, 0 => by simp [startE, getS]
  | n + 1, [], _, i + 1 => by
    have := getS_start (n := n) (as := []) (Nat.zero_le _) i
    simpa [startE, getS] using this
  | n + 1, .fz d :: as, _, 0 => by simp [startE, getS]
  | n + 1, .io d :: as, _, 0 => by simp [startE, getS]
  | n + 1, .fz d :: as, h, i + 1 => by
    have := getS_start (n := n) (as := as) (by simpa using h) i
    simpa [startE, getS] using this
  | n + 1, .io d :: as, h, i + 1 => by
    have := getS_start (n := n) (as := as) (by simpa using h) i
    simpa [startE, getS] using this
theorem sim_start {T : Tbl} {H0 H : Hp} {as : List Ar} {vs : List V} {N : List Str} (e : Ext H0 H) (h : ArOk T H0 H as vs) (nd : NoDup (ioL as vs)) (hn : as.length ≤ N.length) (tb : TbOk T H0 H) : Sim ⟨T, H0, H, ioL as vs, 0⟩ (L2.start N vs) H0 H (startE N.length as) := by
  have hl := h.len
  have sv : ∀ (i : Nat) (v : V), vs[i]? = some v → (L2.start N vs)[i]? = some (some v) := fun i v hv => by
    have hi := (List.getElem?_eq_some_iff.mp hv).1
    unfold L2.start
    rw [List.getElem?_append_left (by simpa using hi), List.getElem?_map, hv]; rfl
  have io : ∀ a, Ctx.io ⟨T, H0, H, ioL as vs, 0⟩ a → H0 a = none ∧ ∃ o, H a = some o := fun a ha => by
    obtain ⟨i, hi⟩ := List.getElem?_of_mem (show some a ∈ ioL as vs from ha)
    obtain ⟨d, _, _, hr⟩ := h.ioAt hi
    exact hr.some
  have own : ∀ i, ownS (getS (startE N.length as) i) = true → ∃ d a, as[i]? = some (.io d) ∧ vs[i]? = some (.ref a) ∧ (ioL as vs)[i]? = some (some a) := fun i hi => by
    rw [getS_start hn] at hi
    have q := h.at i
    cases z : as[i]? with
    | none => rw [z] at hi; cases hi
    | some x =>
      rw [z] at hi q
      cases x with
      | fz d => cases hi
      | io d => obtain ⟨a, h1, h2, h3⟩ := q; exact ⟨d, a, rfl, h1, h3⟩
  have hio : ∀ a, Ctx.io ⟨T, H0, H, ioL as vs, 0⟩ a → H a ≠ none := fun a ha q => by
    obtain ⟨o, z⟩ := (io a ha).2
    rw [q] at z; cases z
  refine { ok := ⟨fun a ha => ⟨(io a ha).1, hio a ha⟩, e⟩, ex := e, ex0 := Ext.rfl' _, fresh := fun a q q' => (q' q).elim, keep := fun a o q _ => .inl q, tabs := tb.1, tno := tb.2, ioH := hio, len := ?_, slots := fun i => ?_, inj := fun i j a hij hi hj ei ej => ?_ }
  · rw [startE_len]
    unfold L2.start
    simp only [List.length_append, List.length_map, List.length_replicate]
    omega
  · rw [getS_start hn]
    have q := h.at i
    cases z : as[i]? with
    | none => trivial
    | some x =>
      rw [z] at q
      cases x with
      | fz d => obtain ⟨⟨v, h1, h2⟩, _⟩ := q; exact ⟨v, sv i v h1, h2⟩
      | io d => obtain ⟨a, h1, h2, h3⟩ := q; exact ⟨a, sv i _ h1, h3, h2⟩
  · obtain ⟨d, b, h1, h2, h3⟩ := own i hi
    obtain ⟨d', b', h1', h2', h3'⟩ := own j hj
    rw [sv i _ h2] at ei; cases ei
    rw [sv j _ h2'] at ej; cases ej
    exact hij (nd i j _ h3 h3')
/-- what stands in the slots that were handed in -/
theorem outs_ok {T : Tbl} {σ : L2.St} {H0 H : Hp} {L : List (Option Addr)} {C : Ctx} : ∀ {as : List Ar} {L' : List (Option Addr)} {env : Env} {outs : List D} (k : Nat), outsOf as env = some outs → as.length ≤ L'.length →
    (∀ (i : Nat) (d : D), as[i]? = some (Ar.fz d) → L'[i]? = some none) → (∀ (i : Nat) (d : D), as[i]? = some (Ar.io d) → ∀ x : D, env[i]? = some (Sl.io x) → ∃ a, L'[i]? = some (some a) ∧ RepO T H0 H x (.ref a)) → L'.length = as.length → OutsOk T H0 H L' outs
  | [], L', env, outs, k, h, _, _, _, hl => by
    cases h
    cases L' with
    | nil => rfl
    | cons a b => simp at hl
  | .fz d :: as, L', env, outs, k, h, hle, hf, hi, hl => by
    cases L' with
    | nil => simp at hl
    | cons a b =>
      have := hf 0 d rfl
      simp at this
      subst this
      simp only [outsOf] at h
      show OutsOk T H0 H b outs
      refine outs_ok (L := L) (C := C) (σ := σ) (k + 1) h (by simpa using hle) (fun i d hd => by simpa using hf (i + 1) d (by simpa using hd)) (fun i d hd x hx => ?_) (by simpa using hl)
      have := hi (i + 1) d (by simpa using hd) x (by cases env with | nil => simp at hx | cons s r => simpa using hx)
      simpa using this
  | .io d :: as, L', env, outs, k, h, hle, hf, hi, hl => by
    cases L' with
    | nil => simp at hl
    | cons a b =>
      cases env with
      | nil => simp [outsOf] at h
      | cons s r =>
        cases s with
        | io x =>
          simp only [outsOf, List.head?_cons, List.tail_cons, Option.map_eq_some_iff] at h
          obtain ⟨o', h1, rfl⟩ := h
          obtain ⟨a', e1, e2⟩ := hi 0 d rfl x rfl
          simp at e1
          subst e1
          refine ⟨x, o', rfl, e2, outs_ok (L := L) (C := C) (σ := σ) (k + 1) h1 (by simpa using hle) (fun i d hd => by simpa using hf (i + 1) d (by simpa using hd)) (fun i d hd x hx => ?_) (by simpa using hl)⟩
          have := hi (i + 1) d (by simpa using hd) x (by simpa using hx)
          simpa using this
        | un => simp [outsOf] at h
        | fn => simp [outsOf] at h
        | fz x => simp [outsOf] at h
        | ow x => simp [outsOf] at h
/-- behind the body -/
theorem Sim.outs {T : Tbl} {H0e He H0 H : Hp} {σ : L2.St} {env : Env} {as : List Ar} {vs : List V} {outs : List D} (hA : ArOk T H0e He as vs) (S : Sim ⟨T, H0e, He, ioL as vs, 0⟩ σ H0 H env) (h : outsOf as env = some outs) :
    GrC T (ioL as vs) H0e He H0 H ∧ OutsOk T H0 H (ioL as vs) outs := by
  refine ⟨⟨S.ex0, S.ex, S.fresh, fun a o q z => S.keep a o z q, fun _ => S.tabs⟩, ?_⟩
  refine outs_ok (L := []) (C := ⟨T, H0e, He, [], 0⟩) (σ := σ) 0 h (Nat.le_of_eq hA.ioLen.symm) (fun i d hd => ?_) (fun i d hd x hx => ?_) hA.ioLen
  · have q := hA.at i
    rw [hd] at q
    exact q.2
  · have q := hA.at i
    rw [hd] at q
    obtain ⟨a, h1, h2, h3⟩ := q
    have z := S.slots i
    have gx : getS env i = .io x := by unfold getS; rw [List.getD_eq_getElem?_getD, hx]; rfl
    rw [gx] at z
    obtain ⟨b, e1, e2, e3⟩ := z
    rw [show (ioL as vs)[i]? = some (some b) from e2] at h3
    exact ⟨b, e2, e3⟩
/-- the body does what the def promises -/
theorem body_ok {T : Tbl} {cl : CallF} {fs : CallF} {F : Fn} {f n : Nat} {vs : List V} {H : Hp} {Q : VK} {E : XK} {N : List Str} {X : Cx} {body : List Stmt} (hN : N.length = F.n) (hn : n ≤ F.n) (hf : ∀ as, fs f as = runF cl F as)
    (hb : ∀ C : Ctx, C.T = T → PSs X body (tSs C (fun cls d _ H => E cls d H) cl F.body)) (h : spF T fs f n vs H Q E) : ∃ t, PSs X body t ∧ t { nx := fun _ H' => Q .non H', rt := Q } (L2.start N vs) H := by
  obtain ⟨H0, as, e, hA, nd, hl, tb, h⟩ := h
  refine ⟨_, hb ⟨T, H0, H, ioL as vs, 0⟩ rfl, H0, startE F.n as, by rw [← hN]; exact sim_start e hA nd (by rw [hl, hN]; exact hn) tb, ?_⟩
  rw [hf, runF] at h
  unfold finR at h
  cases z : exs cl F.body (startE F.n as) with
  | bad => rw [z] at h; exact h
  | exc x env =>
    simp only [z] at h
    cases zo : outsOf as env with
    | none => simp only [zo, finX, finO] at h
    | some outs =>
      simp only [zo, finX, finO] at h
      intro σ cls d H0' H' _ S hx
      obtain ⟨g, o⟩ := S.outs hA zo
      exact h cls d H0' H' g o hx
  | ok fl env =>
    simp only [z] at h
    cases zo : outsOf as env with
    | none => simp only [zo, finX, finO] at h
    | some outs =>
      simp only [zo, finX, finO] at h
      cases fl with
      | next =>
        intro σ H0' H' _ S
        obtain ⟨g, o⟩ := S.outs hA zo
        exact h .non H0' H' g (by show Rep _ _ _ _; simp only [Rep]) o
      | brk => exact h.elim
      | cont => exact h.elim
      | ret u =>
        intro σ H0' H' v _ S hu
        obtain ⟨g, o⟩ := S.outs hA zo
        cases u with
        | d x => exact h v H0' H' g hu o
        | sl i => exact h.elim
        | nw x =>
          refine h v H0' H' g ?_ o
          rw [show (nrm x) = if isMutD x = true then U.nw x else U.d x from rfl]
          have h' : RepN ⟨T, H0, H, ioL as vs, 0⟩ σ H0' H' env x v := hu
          unfold RepN at h'
          by_cases hm : isMutD x = true
          · rw [if_pos hm] at h' ⊢
            show RepG T H0' H' H x v
            unfold RepG
            rw [if_pos hm]
            obtain ⟨a, rfl, h1, h2, _⟩ := h'
            exact ⟨a, rfl, h1, h2⟩
          · rw [if_neg hm] at h' ⊢
            exact h'
end PP
end
section
set_option maxHeartbeats 1000000
namespace PP
open PySem PySem.Spec PyProof.Rows L2
structure FnG (P : Program) (w : World) (K : PySem.W.Frag) (mg : Str → Option Value) (base : Heap) (k : Nat) (f : Addr) (fd : FuncData) (ps : List Str) (sp : Sp) : Prop where
  len : ∀ vs H Q E, sp vs H Q E → vs.length = ps.length
  run : ∀ (A : Around) (outer : List PySem.Env) (s : Shared) (H : Hp) (args : Args) (us : List Value) (vs : List V) (Q : VK) (E : XK), A.guards = some [] → Room k A → Env0 P w K mg base A outer s H →
    BindsTo s fd args (ps.zip us) → Vals vs us → sp vs H Q E → codeAny (model P w) A (.call (.ref f) args) (CR (L2.CX P w) outer P w H s Q E) s
theorem FnG.up {P : Program} {w : World} {K : PySem.W.Frag} {mg : Str → Option Value} {base : Heap} {j k : Nat} {f : Addr} {fd : FuncData} {ps : List Str} {sp : Sp} (F : FnG P w K mg base j f fd ps sp) (h : j ≤ k) : FnG P w K mg base k f fd ps sp :=
  ⟨F.len, fun A outer s H args us vs Q E hg hr => F.run A outer s H args us vs Q E hg (hr.mono h)⟩
/-- a def of the text, its defaults anywhere -/
structure FunV (K : PySem.W.Frag) (x qual : Str) (st : Stmt) (f : Addr) (fd : FuncData) : Prop where
  ex : ∃ (oc : Value) (od : Option Addr) (dV kV doc pm : Value) (an : Option Addr) (cdv ct : Value) (osl : Array (Option Value)),
    fd = PySem.W.fnOf x qual (defArgs st) (defBody st) (defScope st) dV kV doc pm an cdv ct ∧ K.lookup f = some ⟨oc, od, .func fd, osl⟩ ∧ PySem.W.codeIn K cdv qual = true
  kp : PySem.W.keepIn K (.ref f) = true
theorem funV {K : PySem.W.Frag} {x qual : Str} {st : Stmt} {f : Addr} {fd : FuncData} (F : Fun K x qual st f fd) : FunV K x qual st f fd := by
  obtain ⟨oc, od, kV, doc, pm, an, cdv, ct, osl, e, l, c⟩ := F.ex
  exact ⟨⟨oc, od, .none, kV, doc, pm, an, cdv, ct, osl, e, l, c⟩, F.kp⟩
theorem FnG.of {P : Program} {w : World} {K : PySem.W.Frag} {mg : Str → Option Value} {base : Heap} {x qual : Str} {st : Stmt} {f : Addr} {fd : FuncData} {N ps : List Str} {k : Nat} {sp : Sp} (F : FunV K x qual st f fd) (S : FnScope N ps (defScope st))
    (len : ∀ vs H Q E, sp vs H Q E → vs.length = ps.length)
    (hb : ∀ (cdv : Value), fd.code = cdv → ∀ (A : Around) (outer : List PySem.Env) (s : Shared) (H : Hp) (vs : List V) (Q : VK) (E : XK), A.guards = some [] → Room k (A.deeper (envOfC qual (defScope st) s.heap.objs.size f cdv)) → sp vs H Q E →
      ∃ t, PSs (cxOf (L2.CX P w) P w K mg base N qual (defScope st) f cdv A outer s H E) (defBody st) t ∧ t { nx := fun _ H' => Q .non H', rt := Q } (L2.start N vs) H) : FnG P w K mg base (k + 1) f fd ps sp := by
  obtain ⟨oc, od, dV, kV, doc, pm, an, cdv, ct, osl, rfl, lk, hcd⟩ := F.ex
  refine ⟨len, fun A outer s H args us vs Q E hgd hr e0 hbi rv hsp => ?_⟩
  have hkin : K.In s.heap := e0.mod.kin.keeps fun y z q => (e0.bs y z q).1
  have hlim : s.heap.NoLimit := e0.mod.nolimit.keeps fun y z q => (e0.bs y z q).1
  have kinds : ∀ y ∈ ps.zip us, (defScope st).names.lookup y.1 = some .local ∨ ((defScope st).names.lookup y.1 = some .cell ∧ ((cellsFrom (s.heap.objs.size + 1) (defScope st).names []).lookup y.1).isSome = true) := by
    rintro ⟨nm, val⟩ hy
    cases S.par nm (List.of_mem_zip hy).1 with
    | inl q => exact .inl q
    | inr q => exact .inr ⟨q, PySem.W.cellsFrom_some _ _ _ (.inl q)⟩
  refine codeAny_call_function hr.depth (hkin _ _ lk) rfl S.co S.gen rfl (PySem.W.codeRec_of hkin hcd) (hbi _ _ _ _ ?_)
  refine wpAny_newFunctionEnv_cells S.kind kinds fun env henv s1 hin => ?_
  subst henv
  refine ⟨hlim.keeps hin.toInCall.keep, codeAny_func ?_⟩
  obtain ⟨t, hder, hread⟩ := hb cdv rfl A outer s H vs Q E hgd (hr.deeper _) hsp
  have I0 := inv_start (CX := L2.CX P w) (E := E) S hr.hd e0 (len _ _ _ _ hsp) rv hin
  refine wpAny_mono (hder.run [] s1 _ H _ I0 hread) (fun fl s' hfl => ?_) fun e s' he => he
  cases fl with
  | ret u => obtain ⟨v, σ', H', J, r, q⟩ := hfl; exact ⟨v, H', J.os, J.bare, J.base, J.hok, r, q⟩
  | next => obtain ⟨σ', H', J, q⟩ := hfl; exact ⟨V.non, H', J.os, J.bare, J.base, J.hok, rfl, q⟩
  | brk => obtain ⟨_, _, _, q⟩ := hfl; exact q.elim
  | cont => obtain ⟨_, _, _, q⟩ := hfl; exact q.elim
section
variable {X : Cx} {C : Ctx} {W : WX} {cl : CallF} {e a b c : Expr} {es : List Expr} {e' a' b' c' : Ex} {es' : Exs} {pos : Pos}
/-- the def at f runs -/
theorem FnG.goA {k : Nat} {f : Addr} {fd : FuncData} {ps : List Str} {sp : Sp} {pins : List (Addr × Obj)} {σ : L2.St} {H : Hp} {s : Shared} {Q : VK} {args : Args} {us : List Value} {vs : List V} {E : XK}
    (F : FnG X.prog X.w X.K X.mg X.base k f fd ps sp) (hgd : X.A.guards = some []) (hr : Room k X.A) (hb : BindsTo s fd args (ps.zip us)) (tk : Takes X W) (hE : ∀ cls d H', E cls d H' → W cls d σ H')
    (I : Inv X pins σ H s) (r : Vals vs us) (h : sp vs H Q E) : wpAny (model X.prog X.w) X.A (call (.ref f) args.pos args.kw) (EP X pins σ Q) X.xe s := by
  refine wpAny_call (codeAny_mono (F.run X.A X.stack s H args us vs Q E hgd hr I.env0 hb r h) fun res s' hq => ?_)
  cases res with
  | error ee => exact tk _ _ (XE.of_call I hE hq)
  | ok fl =>
    cases fl with
    | ret u => exact I.after hq
    | next => exact hq.elim
    | brk => exact hq.elim
    | cont => exact hq.elim
theorem FnG.go {k : Nat} {f : Addr} {fd : FuncData} {ps : List Str} {sp : Sp} {ds : List Value} {dvs : List V} {pins : List (Addr × Obj)} {σ : L2.St} {H : Hp} {s : Shared} {Q : VK} {us : List Value} {vs : List V} {E : XK}
    (F : FnG X.prog X.w X.K X.mg X.base k f fd ps sp) (hgd : X.A.guards = some []) (hr : Room k X.A) (hb : Binds X.K fd ps ds) (hd : Vals dvs ds) (tk : Takes X W) (hE : ∀ cls d H', E cls d H' → W cls d σ H')
    (I : Inv X pins σ H s) (r : Vals vs us) (h : sp (vs ++ dvs) H Q E) : wpAny (model X.prog X.w) X.A (call (.ref f) us) (EP X pins σ Q) X.xe s := by
  have r2 := r.append hd
  have hlen : (us ++ ds).length = ps.length := r2.length ▸ F.len _ _ _ _ h
  exact F.goA (args := ⟨us, []⟩) hgd hr (hb s us I.kIn hlen) tk hE I r2 h
def UcOk (C : Ctx) (σ : L2.St) (H0 : Hp) : List U → List V → Prop
  | [], vs => vs = []
  | .d x :: us, vs => ∃ v r, vs = v :: r ∧ Rep C.T H0 x v ∧ UcOk C σ H0 us r
  | .sl i :: us, vs => ∃ v r, vs = v :: r ∧ σ[i]? = some (some v) ∧ UcOk C σ H0 us r
  | .nw _ :: _, _ => False
theorem UcOk.mono {σ : L2.St} {H0 H0' : Hp} (e : Ext H0 H0') : ∀ {us : List U} {vs : List V}, UcOk C σ H0 us vs → UcOk C σ H0' us vs
  | [], _, h => h
  | .d x :: us, _, h => by obtain ⟨v, r, rfl, h1, h2⟩ := h; exact ⟨v, r, rfl, Rep.mono e _ _ h1, UcOk.mono e h2⟩
  | .sl i :: us, _, h => by obtain ⟨v, r, rfl, h1, h2⟩ := h; exact ⟨v, r, rfl, h1, UcOk.mono e h2⟩
  | .nw _ :: _, _, h => h
def tAC (C : Ctx) (W : WX) (cl : CallF) (ms : List Bool) (es : Exs) : TA := fun σ H Q => ∃ H0 env, Sim C σ H0 H env ∧ RQ C W σ (fun us _ H0' H' => ∀ vs, UcOk C σ H0' us vs → Q vs H') H0 (evC cl ms es env)
theorem k_nil {ms : List Bool} : PA X [] (tAC C W cl ms .nil) := paI pa_nil fun σ H Q ⟨H0, env, S, q⟩ => by
  simp only [evC] at q
  exact q H0 H (Ext.rfl' _) S [] rfl
theorem k_cons {m : Bool} {ms : List Bool} (ha : PE X e (tI C W cl e')) (hr : PA X es (tAC C W cl ms es')) (hs : starEach (e :: es) X.env = (false, eval e X.env) :: starEach es X.env := by rfl) : PA X (e :: es) (tAC C W cl (m :: ms) (.cons e' es')) :=
  paI (pa_cons ha hr hs) fun σ H Q ⟨H0, env, S, q⟩ => by
    simp only [evC] at q
    refine seqI S q fun u env1 x H1 H1' e1 S1 u1 q1 => ?_
    cases m with
    | true =>
      cases u with
      | d x => exact q1.elim
      | nw x => exact q1.elim
      | sl i =>
        simp only at q1
        refine ⟨H1, env1, S1, ?_⟩
        cases z : evC cl ms es' env1 with
        | ok us env3 =>
          simp only [z] at q1
          exact fun H3 H3' e3 S3 vs hv => q1 H3 H3' e3 S3 (x :: vs) ⟨x, vs, rfl, u1, hv⟩
        | exc x env3 => simp only [z] at q1; exact q1
        | bad => simp only [z] at q1; exact q1
    | false =>
      simp only at q1
      obtain ⟨⟨d, env2⟩, hf, q1⟩ := q1.orB
      obtain ⟨H2, e2, S2, r2⟩ := S1.take u1 hf
      have q2 := RQ.mono e2 q1
      refine ⟨H2, env2, S2, ?_⟩
      cases z : evC cl ms es' env2 with
      | ok us env3 =>
        simp only [z] at q2
        exact fun H3 H3' e3 S3 vs hv => q2 H3 H3' e3 S3 (x :: vs) ⟨x, vs, rfl, Rep.mono e3 _ _ r2, hv⟩
      | exc x env3 => simp only [z] at q2; exact q2
      | bad => simp only [z] at q2; exact q2
end
section
variable {C : Ctx} {σ : L2.St} {H0 H H0' H' : Hp} {env : Env}
/-- the arguments, as the callee has them -/
theorem args_ok (S : Sim C σ H0 H env) : ∀ {ms : List Bool} {us : List U} {vs : List V} {as : List Ar}, argsOf env ms us = some as → UcOk C σ H0 us vs → ArOk C.T H0 H as vs ∧ as.length = ms.length ∧
    (∀ a, some a ∈ ioL as vs → ∃ i ∈ ioSlots us, ownS (getS env i) = true ∧ σ[i]? = some (some (.ref a)))
  | [], [], _, _, h, hu => by cases h; cases hu; exact ⟨rfl, rfl, fun a ha => by simp [ioL] at ha⟩
  | [], _ :: _, _, _, h, hu => by simp [argsOf] at h
  | true :: _, [], _, _, h, hu => by simp [argsOf] at h
  | false :: _, [], _, _, h, hu => by simp [argsOf] at h
  | false :: ms, .d x :: us, _, as, h, hu => by
    simp only [argsOf, Option.map_eq_some_iff] at h
    obtain ⟨as', h1, rfl⟩ := h
    obtain ⟨v, r, rfl, h2, h3⟩ := hu
    obtain ⟨q1, q2, q3⟩ := args_ok S h1 h3
    refine ⟨⟨v, r, rfl, h2, q1⟩, by simp [q2], fun a ha => ?_⟩
    simp only [ioL, List.mem_cons, reduceCtorEq, false_or] at ha
    exact q3 a ha
  | false :: ms, .sl i :: us, _, as, h, hu => by simp [argsOf] at h
  | false :: ms, .nw i :: us, _, as, h, hu => by simp [argsOf] at h
  | true :: ms, .d x :: us, _, as, h, hu => by simp [argsOf] at h
  | true :: ms, .nw x :: us, _, as, h, hu => by simp [argsOf] at h
  | true :: ms, .sl i :: us, _, as, h, hu => by
    obtain ⟨v, r, rfl, h2, h3⟩ := hu
    have hi := S.slots i
    have key : ∀ d, ownS (getS env i) = true → (∃ a, v = .ref a ∧ RepO C.T H0 H d (.ref a)) → ((argsOf env ms us).map (Ar.io d :: ·)) = some as → ArOk C.T H0 H as (v :: r) ∧ as.length = (true :: ms).length ∧
        (∀ a, some a ∈ ioL as (v :: r) → ∃ j ∈ ioSlots (.sl i :: us), ownS (getS env j) = true ∧ σ[j]? = some (some (.ref a))) := by
      intro d ho ⟨a, ev, hr⟩ hm
      subst ev
      simp only [Option.map_eq_some_iff] at hm
      obtain ⟨as', h1, rfl⟩ := hm
      obtain ⟨q1, q2, q3⟩ := args_ok S h1 h3
      refine ⟨⟨a, r, rfl, hr, q1⟩, by simp [q2], fun b hb => ?_⟩
      simp only [ioL, List.mem_cons, Option.some.injEq] at hb
      rcases hb with rfl | hb
      · exact ⟨i, by simp [ioSlots], ho, h2⟩
      · obtain ⟨j, hj, z⟩ := q3 b hb
        exact ⟨j, by simp [ioSlots, hj], z⟩
    unfold argsOf at h
    split at h
    · rename_i d hd
      rw [hd] at hi
      obtain ⟨a, e1, _, e3⟩ := hi
      rw [h2] at e1; cases e1
      exact key d (by rw [hd]; rfl) ⟨a, rfl, e3⟩ h
    · rename_i d hd
      rw [hd] at hi
      obtain ⟨a, e1, _, e3⟩ := hi
      rw [h2] at e1; cases e1
      exact key d (by rw [hd]; rfl) ⟨a, rfl, e3⟩ h
    · cases h
theorem mem_of_dupFree {i : Nat} {is : List Nat} (h : dupFree (i :: is) = true) : i ∉ is ∧ dupFree is = true := by
  simp only [dupFree, Bool.and_eq_true, Bool.not_eq_true', List.contains_eq_mem, decide_eq_false_iff_not] at h
  exact h
/-- no address is handed in twice -/
theorem io_nodup (S : Sim C σ H0 H env) : ∀ {ms : List Bool} {us : List U} {vs : List V} {as : List Ar}, argsOf env ms us = some as → UcOk C σ H0 us vs → dupFree (ioSlots us) = true → NoDup (ioL as vs)
  | [], [], _, _, h, hu, _ => by cases h; cases hu; intro i j a hi; simp [ioL] at hi
  | [], _ :: _, _, _, h, hu, _ => by simp [argsOf] at h
  | true :: _, [], _, _, h, hu, _ => by simp [argsOf] at h
  | false :: _, [], _, _, h, hu, _ => by simp [argsOf] at h
  | false :: ms, .d x :: us, _, as, h, hu, hd => by
    simp only [argsOf, Option.map_eq_some_iff] at h
    obtain ⟨as', h1, rfl⟩ := h
    obtain ⟨v, r, rfl, h2, h3⟩ := hu
    have q := io_nodup S h1 h3 hd
    intro i j a hi hj
    cases i with
    | zero => simp [ioL] at hi
    | succ i =>
      cases j with
      | zero => simp [ioL] at hj
      | succ j => simp only [ioL, List.getElem?_cons_succ] at hi hj; rw [q i j a hi hj]
  | false :: ms, .sl i :: us, _, as, h, hu, _ => by simp [argsOf] at h
  | false :: ms, .nw i :: us, _, as, h, hu, _ => by simp [argsOf] at h
  | true :: ms, .d x :: us, _, as, h, hu, _ => by simp [argsOf] at h
  | true :: ms, .nw x :: us, _, as, h, hu, _ => by simp [argsOf] at h
  | true :: ms, .sl k :: us, _, as, h, hu, hd => by
    have hd' : dupFree (k :: ioSlots us) = true := hd
    obtain ⟨hk, hd2⟩ := mem_of_dupFree hd'
    obtain ⟨v, r, rfl, h2, h3⟩ := hu
    have key : ∀ d, ownS (getS env k) = true → (∃ a, v = .ref a) → ((argsOf env ms us).map (Ar.io d :: ·)) = some as → NoDup (ioL as (v :: r)) := by
      intro d ho ⟨a, ev⟩ hm
      subst ev
      simp only [Option.map_eq_some_iff] at hm
      obtain ⟨as', h1, rfl⟩ := hm
      have q := io_nodup S h1 h3 hd2
      have far : ∀ i b, (ioL as' r)[i]? = some (some b) → b ≠ a := fun i b hb z => by
        subst z
        obtain ⟨j, hj, oj, ej⟩ := (args_ok S h1 h3).2.2 b (List.mem_of_getElem? hb)
        exact S.inj k j b (fun w => hk (w ▸ hj)) ho oj h2 ej
      intro i j b hi hj
      cases i with
      | zero =>
        cases j with
        | zero => rfl
        | succ j => simp [ioL] at hi hj; subst hi; exact (far j _ hj rfl).elim
      | succ i =>
        cases j with
        | zero => simp [ioL] at hi hj; subst hj; exact (far i _ hi rfl).elim
        | succ j => simp only [ioL, List.getElem?_cons_succ] at hi hj; rw [q i j b hi hj]
    have hi := S.slots k
    unfold argsOf at h
    split at h
    · rename_i d hdd
      rw [hdd] at hi
      obtain ⟨a, e1, _, e3⟩ := hi
      rw [h2] at e1; cases e1
      exact key d (by rw [hdd]; rfl) ⟨a, rfl⟩ h
    · rename_i d hdd
      rw [hdd] at hi
      obtain ⟨a, e1, _, e3⟩ := hi
      rw [h2] at e1; cases e1
      exact key d (by rw [hdd]; rfl) ⟨a, rfl⟩ h
    · cases h
/-- what stands at the slots behind the call -/
theorem put_at (S : Sim C σ H0 H env) : ∀ {ms : List Bool} {us : List U} {vs : List V} {as : List Ar} {outs : List D} {env0 : Env}, argsOf env ms us = some as → UcOk C σ H0 us vs → dupFree (ioSlots us) = true → OutsOk C.T H0' H' (ioL as vs) outs →
    (∀ i ∈ ioSlots us, getS env0 i = getS env i) → env0.length = env.length →
    (putIO env0 (ioSlots us) outs).length = env.length ∧ (∀ i, i ∉ ioSlots us → getS (putIO env0 (ioSlots us) outs) i = getS env0 i) ∧
    ∀ i ∈ ioSlots us, ∃ a d, ownS (getS env i) = true ∧ σ[i]? = some (some (.ref a)) ∧ some a ∈ ioL as vs ∧ getS (putIO env0 (ioSlots us) outs) i = setIO (getS env i) d ∧ RepO C.T H0' H' d (.ref a)
  | [], [], _, _, outs, _, h, hu, _, ho, _, hl => by cases h; cases hu; cases ho; exact ⟨hl, fun _ _ => rfl, fun i hi => by simp [ioSlots] at hi⟩
  | [], _ :: _, _, _, _, _, h, hu, _, _, _, _ => by simp [argsOf] at h
  | true :: _, [], _, _, _, _, h, hu, _, _, _, _ => by simp [argsOf] at h
  | false :: _, [], _, _, _, _, h, hu, _, _, _, _ => by simp [argsOf] at h
  | false :: ms, .d x :: us, _, as, outs, _, h, hu, hd, ho, he, hl => by
    simp only [argsOf, Option.map_eq_some_iff] at h
    obtain ⟨as', h1, rfl⟩ := h
    obtain ⟨v, r, rfl, h2, h3⟩ := hu
    obtain ⟨q1, q2, q3⟩ := put_at S h1 h3 hd ho he hl
    exact ⟨q1, q2, fun i hi => by obtain ⟨a, d, z0, z1, z2, z3⟩ := q3 i hi; exact ⟨a, d, z0, z1, by simp [ioL, z2], z3⟩⟩
  | false :: ms, .sl i :: us, _, as, _, _, h, hu, _, _, _, _ => by simp [argsOf] at h
  | false :: ms, .nw i :: us, _, as, _, _, h, hu, _, _, _, _ => by simp [argsOf] at h
  | true :: ms, .d x :: us, _, as, _, _, h, hu, _, _, _, _ => by simp [argsOf] at h
  | true :: ms, .nw x :: us, _, as, _, _, h, hu, _, _, _, _ => by simp [argsOf] at h
  | true :: ms, .sl k :: us, _, as, outs, env0, h, hu, hd, ho, he, hl => by
    have hd' : dupFree (k :: ioSlots us) = true := hd
    obtain ⟨hk, hd2⟩ := mem_of_dupFree hd'
    obtain ⟨v, r, rfl, h2, h3⟩ := hu
    have key : ∀ d, ownS (getS env k) = true → (∃ a, v = .ref a) → ((argsOf env ms us).map (Ar.io d :: ·)) = some as → (putIO env0 (ioSlots (.sl k :: us)) outs).length = env.length ∧ (∀ i, i ∉ ioSlots (.sl k :: us) → getS (putIO env0 (ioSlots (.sl k :: us)) outs) i = getS env0 i) ∧
        ∀ i ∈ ioSlots (.sl k :: us), ∃ a d, ownS (getS env i) = true ∧ σ[i]? = some (some (.ref a)) ∧ some a ∈ ioL as (v :: r) ∧ getS (putIO env0 (ioSlots (.sl k :: us)) outs) i = setIO (getS env i) d ∧ RepO C.T H0' H' d (.ref a) := by
      intro d hown ⟨a, ev⟩ hm
      subst ev
      simp only [Option.map_eq_some_iff] at hm
      obtain ⟨as', h1, rfl⟩ := hm
      obtain ⟨o1, o2, rfl, ro, ho2⟩ := ho
      have hkl : k < env0.length := by rw [hl, S.len]; exact (List.getElem?_eq_some_iff.mp h2).1
      have hg : ∀ j, j ≠ k → getS (env0.set k (setIO (getS env0 k) o1)) j = getS env0 j := fun j hj => by
        rw [getS_set, if_neg (fun z => hj z.1.symm)]
      obtain ⟨q1, q2, q3⟩ := put_at (env0 := env0.set k (setIO (getS env0 k) o1)) S h1 h3 hd2 ho2 (fun i hi => by
        rw [hg i (fun z => hk (z ▸ hi))]; exact he i (by simp [ioSlots, hi])) (by simp [hl])
      refine ⟨q1, fun i hi => ?_, fun i hi => ?_⟩
      · simp only [ioSlots, List.mem_cons, not_or] at hi
        show getS (putIO (env0.set k (setIO (getS env0 k) o1)) (ioSlots us) o2) i = _
        rw [q2 i hi.2, hg i hi.1]
      · simp only [ioSlots, List.mem_cons] at hi
        rcases hi with rfl | hi
        · refine ⟨a, o1, hown, h2, by simp [ioL], ?_, ro⟩
          show getS (putIO (env0.set i (setIO (getS env0 i) o1)) (ioSlots us) o2) i = _
          rw [q2 i hk, getS_set, if_pos ⟨rfl, hkl⟩, he i (by simp [ioSlots])]
        · obtain ⟨a', d', z0, z1, z2, z3⟩ := q3 i hi
          exact ⟨a', d', z0, z1, by simp [ioL, z2], z3⟩
    have hi := S.slots k
    unfold argsOf at h
    split at h
    · rename_i d hdd
      rw [hdd] at hi
      obtain ⟨a, e1, _, e3⟩ := hi
      rw [h2] at e1; cases e1
      exact key d (by rw [hdd]; rfl) ⟨a, rfl⟩ h
    · rename_i d hdd
      rw [hdd] at hi
      obtain ⟨a, e1, _, e3⟩ := hi
      rw [h2] at e1; cases e1
      exact key d (by rw [hdd]; rfl) ⟨a, rfl⟩ h
    · cases h
theorem Sim.call (S : Sim C σ H0 H env) {ms : List Bool} {us : List U} {vs : List V} {as : List Ar} {outs : List D} (h : argsOf env ms us = some as) (hu : UcOk C σ H0 us vs) (hd : dupFree (ioSlots us) = true)
    (g : GrC C.T (ioL as vs) H0 H H0' H') (ho : OutsOk C.T H0' H' (ioL as vs) outs) : Sim C σ H0' H' (putIO env (ioSlots us) outs) := by
  obtain ⟨p1, p2, p3⟩ := put_at S h hu hd ho (fun _ _ => rfl) rfl
  have hio := (args_ok S h hu).2.2
  have kind : ∀ j, ownS (getS (putIO env (ioSlots us) outs) j) = ownS (getS env j) := fun j => by
    by_cases hj : j ∈ ioSlots us
    · obtain ⟨a, d, _, _, _, e, _⟩ := p3 j hj
      rw [e, own_setIO]
    · rw [p2 j hj]
  have far : ∀ j a, ownS (getS env j) = true → σ[j]? = some (some (.ref a)) → j ∉ ioSlots us → some a ∉ ioL as vs := fun j a oj ej hj ha => by
    obtain ⟨i, hi, oi, ei⟩ := hio a ha
    exact S.inj i j a (fun z => hj (z ▸ hi)) oi oj ei ej
  have notHe : ∀ a, some a ∈ ioL as vs → C.He a = none ∨ C.io a := fun a ha => by
    obtain ⟨i, hi, oi, ei⟩ := hio a ha
    have q := S.slots i
    cases z : getS env i with
    | un => rw [z] at oi; cases oi
    | fn => rw [z] at oi; cases oi
    | fz d => rw [z] at oi; cases oi
    | ow d => rw [z] at q; obtain ⟨b, e1, e2, _⟩ := q; rw [ei] at e1; cases e1; exact .inl e2
    | io d => rw [z] at q; obtain ⟨b, e1, e2, _⟩ := q; rw [ei] at e1; cases e1; exact .inr (List.mem_of_getElem? e2)
  have there : ∀ a, some a ∈ ioL as vs → H' a ≠ none := fun a ha q => by
    obtain ⟨i, hi, oi, ei⟩ := hio a ha
    obtain ⟨b, d, _, e1, _, _, r⟩ := p3 i hi
    rw [ei] at e1; cases e1
    obtain ⟨_, o, z⟩ := r.some
    rw [q] at z; cases z
  exact {
    ok := S.ok
    ex := g.e01
    ex0 := S.ex0.tr g.e0
    fresh := fun a q q' => by
      cases z : H0 a with
      | none => exact S.he (g.new a z q')
      | some o => exact S.fresh a q (by rw [z]; exact nofun)
    keep := fun a o q q' => by
      obtain ⟨u, hu⟩ := (S.keep a o q q').some
      exact (S.keep a o q q').tr hu (g.keep a u (fun ha => by
        rcases notHe a ha with z | z
        · rw [z] at q; cases q
        · exact q' z) hu)
    tabs := g.tb S.tabs
    tno := fun p hp => by
      obtain ⟨ps, h1, _⟩ := S.tabs p hp
      cases z : H0' p.1 with
      | none => rfl
      | some u => rw [g.new p.1 (S.tno p hp) (by rw [z]; exact nofun)] at h1; cases h1
    ioH := fun a q q' => by
      by_cases ha : some a ∈ ioL as vs
      · exact there a ha q'
      · cases z : H a with
        | none => exact S.ioH a q z
        | some o => obtain ⟨u, hu⟩ := (g.keep a o ha z).some; rw [hu] at q'; cases q'
    len := p1.trans S.len
    slots := fun j => by
      by_cases hj : j ∈ ioSlots us
      · obtain ⟨a, d, oj, ej, _, e, r⟩ := p3 j hj
        rw [e]
        have q := S.slots j
        cases z : getS env j with
        | un => trivial
        | fn => rw [z] at oj; cases oj
        | fz d' => rw [z] at oj; cases oj
        | ow d' => rw [z] at q; obtain ⟨b, e1, e2, _⟩ := q; rw [ej] at e1; cases e1; exact ⟨a, ej, e2, r⟩
        | io d' => rw [z] at q; obtain ⟨b, e1, e2, _⟩ := q; rw [ej] at e1; cases e1; exact ⟨a, ej, e2, r⟩
      · rw [p2 j hj]
        refine (S.slots j).step g.e0 fun a oj ej => ?_
        obtain ⟨n0, o, ho⟩ := S.own oj ej
        refine ⟨?_, by rw [ho]; exact (g.keep a o (far j a oj ej hj) ho).at (S.ownK oj ej ho).1⟩
        cases z : H0' a with
        | none => rfl
        | some u => rw [g.new a n0 (by rw [z]; exact nofun)] at ho; cases ho
    inj := fun i j a hij hi hj ei ej => by
      rw [kind] at hi hj
      exact S.inj i j a hij hi hj ei ej }
end
end PP
end
section
set_option maxHeartbeats 1000000
namespace PP
open PySem PySem.Spec PyProof.Rows L2
section
variable {X : Cx} {C : Ctx} {W : WX} {cl : CallF} {e a b c : Expr} {es : List Expr} {e' a' b' c' : Ex} {es' : Exs} {pos : Pos}
/-- the reading of a call of a def: its arguments, then its promise with the wish W -/
def tCl (T : Tbl) (W : WX) (cl : CallF) (f n : Nat) (t : TA) : TE := fun σ H Q => t σ H fun vs H1 => spF T cl f n vs H1 Q fun cls d H' => W cls d σ H'
/-- what a call hands back -/
theorem ret_u {σ : L2.St} {H1 H1' H0' H' : Hp} {env1 : Env} {ms : List Bool} {us : List U} {vs : List V} {as : List Ar} {outs : List D} {r : U} {v : V} (S1 : Sim C σ H1 H1' env1) (ha : argsOf env1 ms us = some as) (hv : UcOk C σ H1 us vs) (hd : dupFree (ioSlots us) = true)
    (g : GrC C.T (ioL as vs) H1 H1' H0' H') (o : OutsOk C.T H0' H' (ioL as vs) outs) (hr : RetOk C.T H0' H' H1' r v) : UOk C σ H0' H' (putIO env1 (ioSlots us) outs) r v := by
  cases r with
  | d x => exact hr
  | sl i => exact hr.elim
  | nw x =>
    have hr' : RepG C.T H0' H' H1' x v := hr
    show RepN _ _ _ _ _ _ _
    unfold RepG at hr'
    unfold RepN
    split
    · rename_i hm
      rw [if_pos hm] at hr'
      obtain ⟨a, rfl, h1, h2⟩ := hr'
      refine ⟨a, rfl, S1.he h1, h2, fun i hi ei => ?_⟩
      have hk : ownS (getS env1 i) = true := by
        obtain ⟨_, p2, p3⟩ := put_at S1 ha hv hd o (fun _ _ => rfl) rfl
        by_cases hj : i ∈ ioSlots us
        · obtain ⟨_, _, z, _⟩ := p3 i hj; exact z
        · rw [p2 i hj] at hi; exact hi
      obtain ⟨_, o1, ho1⟩ := S1.own hk ei
      rw [h1] at ho1; cases ho1
    · rename_i hm
      rw [if_neg hm] at hr'
      exact hr'
theorem readC {σ : L2.St} {H : Hp} {Q : VK} {f n : Nat} {ms : List Bool} (hn : ms.length = n) (h : tI C W cl (.call f ms es') σ H Q) : tCl C.T W cl f n (tAC C W cl ms es') σ H Q := by
  obtain ⟨H0, env, S, q⟩ := h
  simp only [ev] at q
  refine ⟨H0, env, S, ?_⟩
  cases z : evC cl ms es' env with
  | bad => rw [z] at q; exact q.elim
  | exc x env1 => rw [z] at q; exact q
  | ok us env1 =>
    rw [z] at q
    simp only [R.bind_ok] at q
    obtain ⟨as, ha, q⟩ := q.orB
    split at q
    rotate_left
    · exact q.elim
    rename_i hd
    intro H1 H1' e1 S1 vs hv
    obtain ⟨g1, g2, g3⟩ := args_ok S1 ha hv
    refine ⟨H1, as, S1.ex, g1, io_nodup S1 ha hv hd, g2.trans hn, S1.tb, ?_⟩
    cases zc : cl f as with
    | bad => simp only [zc] at q; exact q
    | exc x outs =>
      simp only [zc] at q
      intro cls d H0' H' g o hx
      exact q cls d H0' H' (e1.tr g.e0) (S1.call ha hv hd g o) hx
    | ok r outs =>
      simp only [zc] at q
      intro v H0' H' g hr o
      have S2 := S1.call ha hv hd g o
      exact q H0' H' (e1.tr g.e0) S2 v (ret_u S1 ha hv hd g o hr)
theorem c_call {x : Str} {p : Pos} {k f n : Nat} {fa : Addr} {fd : FuncData} {ps : List Str} {ms : List Bool} (F : FnG X.prog X.w X.K X.mg X.base k fa fd ps (spF C.T cl f n)) (hgd : X.A.guards = some []) (hr : Room k X.A) (tk : Takes X W)
    (hg : Gl X x) (hm : X.mg x = some (.ref fa)) (hk : PySem.W.keepIn X.K (.ref fa) = true) (hb : Binds X.K fd ps []) (ha : PA X (e :: es) (tAC C W cl ms es')) (hn : ms.length = n := by rfl) (hdb : (x == ("__debug__" : Str)) = false := by decide)
    (he : starEach (e :: es) X.env = (false, eval e X.env) :: starEach es X.env := by rfl) (hpl : (backTo pos (starEach es X.env)).any (·.1) = false := by rfl) : PE X (.Call (.Name x p) (e :: es) [] pos) (tI C W cl (.call f ms es')) := by
  refine peI (t := tCl C.T W cl f n (tAC C W cl ms es')) ⟨fun pins s σ H Q I h => ?_⟩ fun σ H Q q => readC hn q
  refine wpAny_Call_Name_kw (ld_glob I hg hm ?_ hdb)
  refine PySem.W.callWith_K (h₀ := X.base) I.ok.mod.kin hk (thn (ha.run pos pins s σ H _ I h) fun us s1 hq => ?_) he hpl
  obtain ⟨vs, H1, I1, r, q⟩ := hq
  exact ⟨I1.kIn, F.go hgd hr hb .nil tk (fun _ _ _ z => z) I1 r (by rw [List.append_nil]; exact q)⟩
end
theorem law_run {P : Program} {w : World} {K : PySem.W.Frag} {mg mb : Str → Option Value} {k : Nat} {fa a : Addr} {cs : List (Addr × Addr)} {fd : FuncData} {x : Str} {sp : Sp} {s1 : Shared} {vs : List Value} {ns : List Int}
    (hK : K.In s1.heap) (hm : s1.heap.Ns mainGlobals mg) (hb : s1.heap.Ns builtinsNs mb) (hbb : ∀ x : Str, x ≠ "__name__" → mb x = bootBuiltins x) (hno : s1.heap.NoLimit) (hgen : s1.gens = #[])
    (hT : ∀ p ∈ cs, s1.heap.get? p.2 = some { cls := .none, data := .fields #[] }) (nT : ∀ p ∈ cs, K.lookup p.2 = none) (Cd : ∀ p ∈ cs, PySem.W.CodeHd s1.heap p.1 p.2)
    (hbm : ∃ (bm : Addr) (ob : Obj), mg "__builtins__" = some (.ref bm) ∧ bm ≠ builtinsNs ∧ s1.heap.get? bm = some ob ∧ ob.cls = .type "module" ∧ ob.dict = some builtinsNs ∧ ob.data = .plain)
    (hobj : s1.heap.get? a = some { cls := .type "list", data := .seq vs.toArray }) (hin : IntsAre vs ns) (hlen : ns.length ≤ sizeLine) (hroom : Room k callerA)
    (hF : ∀ base : Heap, K.In base → base.Ns mainGlobals mg → (∀ p ∈ cs, LamX.TabB base mg p.1 p.2) → FnG P w K mg base k fa fd [x] sp) (hbi : ∀ (s : Shared) (u : Value), BindsTo s fd ⟨[u], []⟩ [(x, u)])
    (hsp : ∀ H : Hp, (∀ p ∈ cs, H p.2 = some (.tbl #[])) → SqL K H a (ns.map V.int) → sp [.ref a] H (fun v _ => v = .bl true) fun _ _ _ => False) :
    codeAny (model P w) callerA (.call (.ref fa) ⟨[.ref a], []⟩) (fun r s' => r = .ok (.ret (.bool true)) ∧ OldK s1.heap s'.heap ∧ s'.os = s1.os ∧ AllBare s'.gens) s1 := by
  have rv : Vals (ns.map V.int) vs := vals_ints hin
  have tAt : ∀ b ∈ cs.map (·.2), s1.heap.get? b = some { cls := .none, data := .fields #[] } := fun b hb => by
    obtain ⟨p, hp, rfl⟩ := List.mem_map.mp hb
    exact hT p hp
  have aNo : a ∉ cs.map (·.2) := fun z => by
    have q := tAt a z
    rw [hobj] at q
    exact nomatch (show Data.seq vs.toArray _ = Data.fields #[] from congrArg Obj.data (Option.some.inj q))
  have tMem : ∀ p ∈ cs, p.2 ∈ cs.map (·.2) := fun p hp => List.mem_map.mpr ⟨p, hp, rfl⟩
  obtain ⟨H, hH⟩ : ∃ H : Hp, H = fun b => if b = a ∧ K.lookup a = none then some (HO.frz { cls := .type "list", data := .seq vs.toArray } (.lst (ns.map V.int))) else if b ∈ cs.map (·.2) then some (.tbl #[]) else none := ⟨_, rfl⟩
  have hat : ∀ b o, H b = some o → (b = a ∧ K.lookup a = none ∧ o = .frz { cls := .type "list", data := .seq vs.toArray } (.lst (ns.map V.int))) ∨ (b ∈ cs.map (·.2) ∧ o = .tbl #[]) := fun b o q => by
    rw [hH] at q
    simp only at q
    split at q
    · rename_i z
      cases q
      exact .inl ⟨z.1, z.2, rfl⟩
    · split at q
      · rename_i z
        cases q
        exact .inr ⟨z, rfl⟩
      · cases q
  have hTb : ∀ p ∈ cs, H p.2 = some (.tbl #[]) := fun p hp => by
    rw [hH]
    show (if p.2 = a ∧ K.lookup a = none then _ else _) = _
    rw [if_neg (fun z => aNo (by rw [← z.1]; exact tMem p hp)), if_pos (tMem p hp)]
  have hlst : SqL K H a (ns.map V.int) := by
    cases q : K.lookup a with
    | none => exact .inl (.inr ⟨{ cls := .type "list", data := .seq vs.toArray }, by rw [hH]; exact if_pos ⟨rfl, q⟩⟩)
    | some o =>
      have z := hK a o q
      rw [hobj] at z
      cases z
      exact .inr ⟨_, vs.toArray, _, q, rfl, rfl, rfl, by rw [List.size_toArray, hin.length]; exact hlen, by simpa using rv⟩
  have hok : HOk P w H s1.heap := fun b o q => by
    rcases hat b o q with ⟨rfl, _, rfl⟩ | ⟨hm, rfl⟩
    · exact ⟨hobj, by rw [List.length_map]; exact hlen, vs, _, rv, hobj⟩
    · exact tAt b hm
  have bs : ∀ {b : Addr} {o : Obj}, s1.heap.get? b = some o → H b = none → (hidT s1.heap H).get? b = some o := fun q n => hidT_get q n
  have noD : ∀ {b : Addr} {o : Obj}, s1.heap.get? b = some o → (∀ vs n, o.data ≠ .seq vs n) → o.data ≠ .fields #[] → H b = none := fun {b o} e h1 h2 => by
    cases z : H b with
    | none => rfl
    | some u =>
      rcases hat b u z with ⟨rfl, _, _⟩ | ⟨hm, _⟩
      · rw [hobj] at e
        cases e
        exact (h1 _ _ rfl).elim
      · rw [tAt b hm] at e
        cases e
        exact (h2 rfl).elim
  have nd : ∀ {b : Addr} {o : Obj} {es : Array DictEntry} {ep : Nat}, s1.heap.get? b = some o → o.data = .dict es ep → H b = none := fun {b o es ep} q d =>
    noD q (fun vs n z => by rw [d] at z; cases z) (fun z => by rw [d] at z; cases z)
  have ns' : ∀ {b : Addr} {m : Str → Option Value}, s1.heap.Ns b m → (hidT s1.heap H).Ns b m := fun {b m} ⟨o, es, ep, q, d, r⟩ => ⟨o, es, ep, bs q (nd q d), d, r⟩
  have hKb : K.In (hidT s1.heap H) := fun b o q => bs (hK b o q) (by
    cases z : H b with
    | none => rfl
    | some u =>
      rcases hat b u z with ⟨rfl, z2, _⟩ | ⟨hm, _⟩
      · rw [z2] at q
        cases q
      · obtain ⟨p, hp, rfl⟩ := List.mem_map.mp hm
        rw [nT p hp] at q
        cases q)
  have mo : Mod K mg (hidT s1.heap H) := ⟨hKb, ns' hm, ⟨mb, ns' hb, hbb⟩, by obtain ⟨mc, q1, q2⟩ := hno; exact ⟨mc, ns' q1, q2⟩⟩
  have e0 : Env0 P w K mg (hidT s1.heap H) callerA [] s1 H := ⟨rfl, mo, fun b o q => of_hidT q, Nat.le_of_eq (hidT_size _ _), trivial, fun b q => by simp [frs] at q, hok, .of_eq hgen⟩
  have TB : ∀ p ∈ cs, LamX.TabB (hidT s1.heap H) mg p.1 p.2 := fun p hp => by
    have hTp := hT p hp
    refine ⟨?_, ?_, fun z => ?_⟩
    · obtain ⟨o, us, file, tf, flags, tg, inF, text, tt, e1, r1, r2, r3, r4, r5, r6, r7, r8, hne⟩ := Cd p hp
      refine ⟨o, us, file, tf, flags, tg, inF, text, tt, bs e1 (noD e1 (fun vs n z => ?_) fun z => ?_), r1, r2, r3, r4, r5, r6, r7, r8, hne⟩
      · rw [r2] at z
        cases z
      · rw [r2] at z
        cases z
        simp at r3
    · obtain ⟨bm, ob, b1, b2, b3, b4, b5, b6⟩ := hbm
      have nG : bm ≠ mainGlobals := fun q => by
        obtain ⟨o, es, ep, e, hd, _⟩ := hm
        rw [q, e] at b3
        cases b3
        rw [hd] at b6
        cases b6
      have nP : bm ≠ p.2 := fun q => by
        rw [q, hTp] at b3
        cases b3
        cases b6
      refine ⟨bm, ob, b1, b2, nG, nP, bs b3 (noD b3 (fun vs n z => ?_) fun z => ?_), b4, b5, b6⟩
      · rw [b6] at z
        cases z
      · rw [b6] at z
        cases z
    · obtain ⟨o, es, ep, e, hd, _⟩ := hm
      rw [z, hTp] at e
      cases e
      cases hd
  refine codeAny_mono ((hF _ hKb (ns' hm) TB).run callerA [] s1 H ⟨[.ref a], []⟩ [.ref a] [.ref a] _ _ rfl hroom e0 (hbi s1 (.ref a)) (.cons rfl .nil) (hsp H hTb hlst)) fun r s' q => ?_
  cases r with
  | error e =>
    obtain ⟨_, _, _, _, _, _, _, _, _, _, _, _, z⟩ := q
    exact z.elim
  | ok fl =>
    cases fl with
    | next => exact q.elim
    | brk => exact q.elim
    | cont => exact q.elim
    | ret u =>
      obtain ⟨v, H', q1, q2, q3, q4, q5, q6⟩ := q
      subst q6
      cases (show u = Value.bool true from q5)
      have key : ∀ b o, b ∉ cs.map (·.2) → s1.heap.get? b = some o → s'.heap.get? b = some o := fun b o nb e => by
        cases z : H b with
        | none => exact q3.keep b o e z (fun w => by simp [frs] at w) (by simp)
        | some u =>
          rcases hat b u z with ⟨rfl, _, rfl⟩ | ⟨hm, _⟩
          · have z2 := q3.frzs _ _ _ z
            obtain ⟨e2, _⟩ := q4 _ _ z2
            rw [hobj] at e
            cases e
            exact e2
          · exact (nb hm).elim
      have grown : ∀ p ∈ cs, ∃ more : Array Value, s'.heap.get? p.2 = some { cls := .none, data := .fields more } := fun p hp => by
        obtain ⟨more, z⟩ := q3.tbls p.2 #[] (hTb p hp)
        exact ⟨_, q4 p.2 _ z⟩
      refine ⟨rfl, ⟨fun b o e => ?_, fun b o e => ?_⟩, q1, q2⟩
      · by_cases hb : b ∈ cs.map (·.2)
        · obtain ⟨p, hp, ep⟩ := List.mem_map.mp hb
          obtain ⟨more, hm⟩ := grown p hp
          rw [← ep] at e ⊢
          rw [hT p hp] at e
          cases e
          exact .inr (.inl ⟨((Cd p hp).tab (hT p hp)).isCodeTable, rfl, #[], more, rfl, by rw [Array.empty_append]; exact hm⟩)
        · exact .inl (key b o hb e)
      · by_cases hb : b ∈ cs.map (·.2)
        · obtain ⟨p, hp, ep⟩ := List.mem_map.mp hb
          obtain ⟨more, hm⟩ := grown p hp
          rw [← ep]
          exact ⟨_, hm⟩
        · exact ⟨o, key b o hb e⟩
/-- what is to be shown of the law: for each script the interpreter gives True -/
theorem law_sp {T : PySem.W.Frag → Tbl} {cs : PySem.W.Frag → List (Addr × Addr)} (hT : ∀ K, (T K).K = K) (hcs : ∀ K, ∀ p ∈ (T K).tt, ∃ q ∈ cs K, q.2 = p.1) {cl : CallF} {f : Nat} {n : Nat} (h : ∀ ns : List Int, ns.length ≤ n → ∃ outs, cl f [.fz (.kst (ns.map D.int))] = .ok (.d (.bl true)) outs)
    (K : PySem.W.Frag) (H : Hp) (a : Addr) (ns : List Int) (hl : ns.length ≤ n) (hH : ∀ p ∈ cs K, H p.2 = some (.tbl #[])) (hS : SqL K H a (ns.map V.int)) : spF (T K) cl f 1 [.ref a] H (fun v _ => v = .bl true) fun _ _ _ => False := by
  have hr : ∀ (G : Hp) (ns : List Int), RepAll (T K) G (ns.map D.int) (ns.map V.int) := fun G ns => by
    induction ns with
    | nil => simp [RepAll]
    | cons i r ih => simp only [List.map_cons, RepAll]; exact ⟨_, _, rfl, r_int _ _ _, ih⟩
  have hHt : ∀ p ∈ (T K).tt, H p.1 = some (.tbl #[]) := fun p hp => by
    obtain ⟨q, hq, e⟩ := hcs K p hp
    rw [← e]; exact hH q hq
  obtain ⟨G, hG⟩ : ∃ G : Hp, G = fun b => if b ∈ (T K).tt.map (·.1) then none else H b := ⟨_, rfl⟩
  have gE : Ext G H := fun b o e => by
    rw [hG] at e
    simp only at e
    split at e
    · cases e
    · exact e
  have gk : ∀ b, b ∉ (T K).tt.map (·.1) → G b = H b := fun b hb => by rw [hG]; exact if_neg hb
  have nt : ∀ {b : Addr} {u : HO}, H b = some u → (∀ ps, u ≠ .tbl ps) → b ∉ (T K).tt.map (·.1) := fun {b u} e n z => by
    obtain ⟨p, hp, rfl⟩ := List.mem_map.mp z
    rw [hHt p hp] at e
    exact n _ (Option.some.inj e).symm
  have hSG : SqL K G a (ns.map V.int) := by
    rcases hS with (e | ⟨o, e⟩) | e
    · exact .inl (.inl (by rw [gk a (nt e nofun)]; exact e))
    · exact .inl (.inr ⟨o, by rw [gk a (nt e nofun)]; exact e⟩)
    · exact .inr e
  refine ⟨G, [.fz (.kst (ns.map D.int))], gE, ⟨.ref a, [], rfl, ?_, rfl⟩, fun i j b hi => ?_, rfl, ⟨fun p hp => LamX.TabS.nil (hHt p hp), fun p hp => ?_⟩, ?_⟩
  · simp only [Rep]
    exact ⟨a, _, rfl, by rw [hT]; exact hSG, hr G ns⟩
  · cases i with
    | zero => simp [ioL] at hi
    | succ i => simp [ioL] at hi
  · rw [hG]
    exact if_pos (List.mem_map.mpr ⟨p, hp, rfl⟩)
  · obtain ⟨outs, q⟩ := h ns hl
    rw [q]
    intro v H0' H' _ hv _
    have hv' : Rep (T K) H0' (.bl true) v := hv
    simpa only [Rep] using hv'
end PP
end
section
set_option maxHeartbeats 1000000
namespace PP
open PySem PySem.Spec PyProof.Rows L2
section
variable {X : Cx} {C : Ctx} {W : WX} {cl : CallF} {e a b c : Expr} {es rest : List Expr} {e' a' b' c' : Ex} {es' : Exs} {pos : Pos} {st : Stmt}
theorem c_ife (hc : PT X c (tT C W cl c')) (ha : PE X a (tI C W cl a')) (hb : PE X b (tI C W cl b')) : PE X (.IfExp c a b pos) (tI C W cl (.ife c' a' b')) :=
  peI (pe_ifExp hc ha hb) fun σ H Q ⟨H0, env, S, q⟩ => by
    simp only [ev] at q
    have q' : RQ C W σ (KV C σ Q) H0 ((evT cl c' env).bind fun t env1 => match t with | true => ev cl a' env1 | false => ev cl b' env1) := by
      unfold evT
      cases z : ev cl c' env with
      | bad => simp only [z, R.bind_bad] at q ⊢; exact q
      | exc x env1 => simp only [z, R.bind_exc] at q ⊢; exact q
      | ok u env1 =>
        simp only [z, R.bind_ok] at q ⊢
        cases z1 : rdU env1 u with
        | none => simp only [z1, orBad_none] at q; exact q.elim
        | some d =>
          simp only [z1, orBad_some] at q ⊢
          cases z2 : truD d with
          | none => simp only [z2, orBad_none] at q; exact q.elim
          | some t => simp only [z2, orBad_some, R.bind_ok] at q ⊢; exact q
    refine seqT S q' fun t env1 H1 H1' e1 S1 q1 => ?_
    cases t with
    | true => rw [if_pos rfl]; exact ⟨H1, env1, S1, q1⟩
    | false => rw [if_neg Bool.false_ne_true]; exact ⟨H1, env1, S1, q1⟩
theorem evT_and (env : Env) : evT cl (.and a' b') env = (evT cl a' env).bind fun t env1 => match t with | true => evT cl b' env1 | false => .ok false env1 := by
  unfold evT
  simp only [ev]
  cases z : ev cl a' env with
  | bad => rfl
  | exc x env1 => rfl
  | ok u env1 =>
    simp only [R.bind_ok]
    cases z1 : rdU env1 u with
    | none => rfl
    | some d =>
      simp only [orBad_some]
      cases z2 : truD d with
      | none => rfl
      | some t =>
        simp only [orBad_some, R.bind_ok]
        cases t with
        | true => rfl
        | false =>
          have : rdU env1 (pend u) = some d := by cases u <;> exact z1
          simp only [R.bind_ok, this, orBad_some, z2]
theorem evT_or (env : Env) : evT cl (.or a' b') env = (evT cl a' env).bind fun t env1 => match t with | true => .ok true env1 | false => evT cl b' env1 := by
  unfold evT
  simp only [ev]
  cases z : ev cl a' env with
  | bad => rfl
  | exc x env1 => rfl
  | ok u env1 =>
    simp only [R.bind_ok]
    cases z1 : rdU env1 u with
    | none => rfl
    | some d =>
      simp only [orBad_some]
      cases z2 : truD d with
      | none => rfl
      | some t =>
        simp only [orBad_some, R.bind_ok]
        cases t with
        | false => rfl
        | true =>
          have : rdU env1 (pend u) = some d := by cases u <;> exact z1
          simp only [R.bind_ok, this, orBad_some, z2]
theorem evT_not (env : Env) : evT cl (.not a') env = (evT cl a' env).bind fun t env1 => .ok (!t) env1 := by
  unfold evT
  simp only [ev]
  cases z : ev cl a' env with
  | bad => rfl
  | exc x env1 => rfl
  | ok u env1 =>
    simp only [R.bind_ok]
    cases z1 : rdU env1 u with
    | none => rfl
    | some d =>
      simp only [orBad_some]
      cases z2 : truD d with
      | none => rfl
      | some t => simp only [orBad_some, R.bind_ok, rdU, truD]
def isCmp : O2 → Bool
  | .lt => true | .le => true | .gt => true | .ge => true | .eq => true | .ne => true | .is => true | .isnot => true | .isin => true | .notin => true | _ => false
theorem inD_bl {x d : D} {ys : List D} (h : inD x ys = some d) : ∃ p ps, toPy x = some p ∧ toPyAll ys = some ps ∧ SeqAt.shaped p = true ∧ SeqAt.shaped (.list ps) = true ∧ d = .bl (ps.any fun z => PyData.eqv z p) := by
  unfold inD at h
  split at h
  · rename_i p ps h1 h2
    split at h
    · rename_i z
      cases h
      rw [Bool.and_eq_true] at z
      exact ⟨p, ps, h1, h2, z.1, z.2, rfl⟩
    · cases h
  · cases h
theorem inS_bl {x y : Str} {d : D} (h : inS x y = some d) : ∃ c, x = ⟨#[c]⟩ ∧ d = .bl (decide (c ∈ y.cps.toList)) := by
  unfold inS at h
  split at h
  · rename_i c hc
    cases h
    refine ⟨c, ?_, rfl⟩
    obtain ⟨a⟩ := x
    have : a = #[c] := by apply Array.ext'; simpa using hc
    rw [this]
  · cases h
theorem isin_inv {x y d : D} (h : op2 .isin x y = some d) : (∃ ys, (y = .lst ys ∨ y = .kst ys) ∧ inD x ys = some d) ∨ (∃ a b, x = .str a ∧ y = .str b ∧ inS a b = some d) ∨ (∃ ys, y = .tup ys ∧ inT x ys = some d) ∨ ∃ ks vs k, y = .dT ks vs ∧ keyTI x = some k ∧ d = .bl (getDT ks vs k).isSome := by
  cases y with
  | dT ks vs =>
    have h' : ((keyTI x).map fun k => D.bl (getDT ks vs k).isSome) = some d := by cases x <;> exact h
    rw [Option.map_eq_some_iff] at h'
    obtain ⟨k, hk, rfl⟩ := h'
    exact .inr (.inr (.inr ⟨ks, vs, k, rfl, hk, rfl⟩))
  | tup ys => exact .inr (.inr (.inl ⟨ys, rfl, by cases x <;> exact h⟩))
  | lst ys => exact .inl ⟨ys, .inl rfl, by cases x <;> exact h⟩
  | kst ys => exact .inl ⟨ys, .inr rfl, by cases x <;> exact h⟩
  | str b => cases x with
    | str a => exact .inr (.inl ⟨a, b, rfl, rfl, h⟩)
    | _ => cases h
  | _ => cases x <;> cases h
theorem inT_inv {x : D} {ys : List D} {d : D} (h : inT x ys = some d) : (∃ i ns, x = .int i ∧ intsD ys = some ns ∧ d = .bl (ns.any fun n => n == i)) ∨ inD x ys = some d := by
  cases x with
  | int i =>
    unfold inT at h
    simp only at h
    split at h
    · rename_i ns h1
      cases h
      exact .inl ⟨i, ns, rfl, h1, rfl⟩
    · exact .inr h
  | _ => exact .inr h
theorem notin_inv {x y d : D} (h : op2 .notin x y = some d) : (∃ ys b, (y = .lst ys ∨ y = .kst ys) ∧ inD x ys = some (.bl b) ∧ d = .bl (!b)) ∨ (∃ ys b, y = .tup ys ∧ inD x ys = some (.bl b) ∧ d = .bl (!b)) ∨ (∃ a z b, x = .str a ∧ y = .str z ∧ inS a z = some (.bl b) ∧ d = .bl (!b)) ∨ ∃ ks vs k, y = .dT ks vs ∧ keyTI x = some k ∧ d = .bl (!(getDT ks vs k).isSome) := by
  cases y with
  | dT ks vs =>
    have h' : ((keyTI x).map fun k => D.bl (!(getDT ks vs k).isSome)) = some d := by cases x <;> exact h
    rw [Option.map_eq_some_iff] at h'
    obtain ⟨k, hk, rfl⟩ := h'
    exact .inr (.inr (.inr ⟨ks, vs, k, rfl, hk, rfl⟩))
  | lst ys =>
    have h' : ((inD x ys).map fun d => match d with | .bl b => .bl (!b) | d => d) = some d := by cases x <;> exact h
    rw [Option.map_eq_some_iff] at h'
    obtain ⟨z, hz, rfl⟩ := h'
    obtain ⟨_, _, _, _, _, _, rfl⟩ := inD_bl hz
    exact .inl ⟨ys, _, .inl rfl, hz, rfl⟩
  | kst ys =>
    have h' : ((inD x ys).map fun d => match d with | .bl b => .bl (!b) | d => d) = some d := by cases x <;> exact h
    rw [Option.map_eq_some_iff] at h'
    obtain ⟨z, hz, rfl⟩ := h'
    obtain ⟨_, _, _, _, _, _, rfl⟩ := inD_bl hz
    exact .inl ⟨ys, _, .inr rfl, hz, rfl⟩
  | tup ys =>
    have h' : ((inD x ys).map fun d => match d with | .bl b => .bl (!b) | d => d) = some d := by cases x <;> exact h
    rw [Option.map_eq_some_iff] at h'
    obtain ⟨z, hz, rfl⟩ := h'
    obtain ⟨_, _, _, _, _, _, rfl⟩ := inD_bl hz
    exact .inr (.inl ⟨ys, _, rfl, hz, rfl⟩)
  | str z => cases x with
    | str a =>
      have h' : ((inS a z).map fun d => match d with | .bl b => .bl (!b) | d => d) = some d := h
      rw [Option.map_eq_some_iff] at h'
      obtain ⟨w, hz, rfl⟩ := h'
      obtain ⟨_, _, rfl⟩ := inS_bl hz
      exact .inr (.inr (.inl ⟨a, z, _, rfl, rfl, hz, rfl⟩))
    | _ => cases h
  | _ => cases x <;> cases h
theorem cmp_bl {o : O2} (h : isCmp o = true) {x y d : D} (q : op2 o x y = some d) : ∃ b, d = .bl b := by
  cases o <;> first | (cases h; done) | skip
  · cases x <;> first | (cases q; done) | (cases y <;> first | (cases q; done) | (cases q; exact ⟨_, rfl⟩))
  · cases x <;> first | (cases q; done) | (cases y <;> first | (cases q; done) | (cases q; exact ⟨_, rfl⟩))
  · cases x <;> first | (cases q; done) | (cases y <;> first | (cases q; done) | (cases q; exact ⟨_, rfl⟩))
  · cases x <;> first | (cases q; done) | (cases y <;> first | (cases q; done) | (cases q; exact ⟨_, rfl⟩))
  · have q' : (eqD x y).map D.bl = some d := by cases x <;> cases y <;> exact q
    rw [Option.map_eq_some_iff] at q'
    obtain ⟨b, _, rfl⟩ := q'
    exact ⟨b, rfl⟩
  · have q' : ((eqD x y).map fun b => D.bl (!b)) = some d := by cases x <;> cases y <;> exact q
    rw [Option.map_eq_some_iff] at q'
    obtain ⟨b, _, rfl⟩ := q'
    exact ⟨!b, rfl⟩
  · rcases isin_inv q with ⟨_, _, hz⟩ | ⟨_, _, _, _, hz⟩ | ⟨_, _, hz⟩ | ⟨_, _, _, _, _, rfl⟩
    · obtain ⟨_, _, _, _, _, _, rfl⟩ := inD_bl hz; exact ⟨_, rfl⟩
    · obtain ⟨_, _, rfl⟩ := inS_bl hz; exact ⟨_, rfl⟩
    · rcases inT_inv hz with ⟨_, _, _, _, rfl⟩ | hz
      · exact ⟨_, rfl⟩
      · obtain ⟨_, _, _, _, _, _, rfl⟩ := inD_bl hz; exact ⟨_, rfl⟩
    · exact ⟨_, rfl⟩
  · rcases notin_inv q with ⟨_, b, _, _, rfl⟩ | ⟨_, b, _, _, rfl⟩ | ⟨_, _, b, _, _, _, rfl⟩ | ⟨_, _, _, _, _, rfl⟩ <;> exact ⟨_, rfl⟩
  · rcases is_inv q with ⟨_, rfl⟩ | ⟨_, _, r, rfl, _⟩ <;> exact ⟨_, rfl⟩
  · rcases isnot_inv q with ⟨_, rfl⟩ | ⟨_, _, r, rfl, _⟩ <;> exact ⟨_, rfl⟩
theorem RepG.bl {T : Tbl} {H0' H' H : Hp} {b : Bool} {v : V} (r : RepG T H0' H' H (.bl b) v) : v = .bl b := by simpa only [RepG, isMutD, Rep, Bool.false_eq_true, if_false] using r
theorem t_cmp {op : CmpOp} {o : O2} (ho : OpR X (compareOp op) (rD C.T (op2 o))) (ha : PE X a (tI C W cl a')) (hb : PE X b (tI C W cl b')) (hm : behindInMarks op b = false) (hc : isCmp o = true := by rfl) : PT X (.Compare a [op] [b] pos) (tT C W cl (.op2 o a' b')) :=
  ptI (pt_cmpR ho ha hb hm) fun σ H Q ⟨H0, env, S, q⟩ => by
    simp only [evT, ev] at q
    have q' : RQ C W σ (fun b _ _ H' => Q b H') H0 ((ev cl a' env).bind fun u env1 => (ev cl b' env1).bind fun w env2 => orBad (rdU env2 (pend u)) fun x => orBad (rdU env2 w) fun y => orBad (op2 o x y) fun z => orBad (truD z) fun t => .ok t env2) := by
      cases z : ev cl a' env with
      | bad => simp only [z, R.bind_bad] at q ⊢; exact q
      | exc x env1 => simp only [z, R.bind_exc] at q ⊢; exact q
      | ok u env1 =>
        simp only [z, R.bind_ok] at q ⊢
        cases z1 : ev cl b' env1 with
        | bad => simp only [z1, R.bind_bad] at q ⊢; exact q
        | exc x env1 => simp only [z1, R.bind_exc] at q ⊢; exact q
        | ok w env2 =>
          simp only [z1, R.bind_ok] at q ⊢
          cases z2 : rdU env2 (pend u) with
          | none => simp only [z2, orBad_none, R.bind_bad] at q; exact q.elim
          | some x =>
            cases z3 : rdU env2 w with
            | none => simp only [z2, z3, orBad_none, orBad_some, R.bind_bad] at q; exact q.elim
            | some y =>
              cases z4 : op2 o x y with
              | none => simp only [z2, z3, z4, orBad_none, orBad_some, R.bind_bad] at q; exact q.elim
              | some d => simp only [z2, z3, z4, orBad_some, R.bind_ok] at q ⊢; exact q
    refine seqI S q' fun u env1 x H1 H1' e1 S1 u1 q1 => ?_
    obtain ⟨H1f, e1f, S1f, u1f⟩ := S1.pend u1
    refine seqI S1f (RQ.mono e1f q1) fun w env2 y H2 H2' e2 S2 u2 q2 => ?_
    obtain ⟨dx, hx, q2⟩ := q2.orB
    obtain ⟨dy, hy, q2⟩ := q2.orB
    obtain ⟨z, hz, q2⟩ := q2.orB
    obtain ⟨t, ht, q2⟩ := q2.orB
    obtain ⟨bb, rfl⟩ := cmp_bl hc hz
    simp only [truD, Option.some.injEq] at ht
    subst ht
    refine ⟨H2, dx, dy, _, S2.ex, S2.rd (u1f.wait e2) hx, S2.rd u2 hy, hz, fun v H0' H' g r => ?_⟩
    exact ⟨bb, r.bl, q2 H0' H' g.e0 (S2.gr g)⟩
theorem w_and1 {op : BoolOp} (ha : PT X a (tT C W cl a')) : PW X (.BoolOp .And [a] pos) (tT C W cl a') := pw_and1 ha
theorem w_or1 (ha : PT X a (tT C W cl a')) : PW X (.BoolOp .Or [a] pos) (tT C W cl a') := pw_or1 ha
theorem w_and (ha : PT X a (tT C W cl a')) (hb : PW X (.BoolOp .And (b :: rest) pos) (tT C W cl b')) : PW X (.BoolOp .And (a :: b :: rest) pos) (tT C W cl (.and a' b')) :=
  pwI (pw_and ha hb) fun σ H Q ⟨H0, env, S, q⟩ => by
    rw [evT_and] at q
    refine seqT S q fun t env1 H1 H1' e1 S1 q1 => ?_
    cases t with
    | true => rw [if_pos rfl]; exact ⟨H1, env1, S1, q1⟩
    | false => rw [if_neg Bool.false_ne_true]; exact q1 H1 H1' (Ext.rfl' _) S1
theorem w_or (ha : PT X a (tT C W cl a')) (hb : PW X (.BoolOp .Or (b :: rest) pos) (tT C W cl b')) : PW X (.BoolOp .Or (a :: b :: rest) pos) (tT C W cl (.or a' b')) :=
  pwI (pw_or ha hb) fun σ H Q ⟨H0, env, S, q⟩ => by
    rw [evT_or] at q
    refine seqT S q fun t env1 H1 H1' e1 S1 q1 => ?_
    cases t with
    | false => rw [if_neg Bool.false_ne_true]; exact ⟨H1, env1, S1, q1⟩
    | true => rw [if_pos rfl]; exact q1 H1 H1' (Ext.rfl' _) S1
theorem t_not (ha : PT X a (tT C W cl a')) : PT X (.UnaryOp .Not a pos) (tT C W cl (.not a')) :=
  ptI (pt_not ha) fun σ H Q ⟨H0, env, S, q⟩ => by
    rw [evT_not] at q
    exact seqT S q fun t env1 H1 H1' e1 S1 q1 => q1 H1 H1' (Ext.rfl' _) S1
/-- the targets of a tuple's parts -/
def gNs : List Nat → TGs
  | [] => gNil
  | i :: is => gCons (gName i) (gNs is)
theorem gNs_ok {is : List Nat} : ∀ {ds : List D} {vs : List V} {σ : L2.St} {H0 H : Hp} {env env2 : Env} {Q : L2.St → Hp → Prop}, Sim C σ H0 H env → RepAll C.T H0 ds vs → storeAll is ds env = some env2 → (∀ σ', Sim C σ' H0 H env2 → Q σ' H) → gNs is vs σ H Q := by
  induction is with
  | nil =>
    intro ds vs σ H0 H env env2 Q S hr h hq
    cases ds with
    | nil =>
      simp only [RepAll] at hr
      simp only [storeAll, Option.some.injEq] at h
      subst h
      exact ⟨hr, hq _ S⟩
    | cons _ _ => simp [storeAll] at h
  | cons i is ih =>
    intro ds vs σ H0 H env env2 Q S hr h hq
    cases ds with
    | nil => simp [storeAll] at h
    | cons d ds =>
      simp only [RepAll] at hr
      obtain ⟨v, r, rfl, h1, h2⟩ := hr
      simp only [storeAll] at h
      exact ⟨v, r, rfl, ih (S.store (s := .fz d) rfl ⟨_, rfl, h1⟩ fun _ _ z => by cases z) h2 h hq⟩
theorem Sim.two {σ : L2.St} {H0 H : Hp} {env env2 : Env} (S : Sim C σ H0 H env) {i j : Nat} {x y : V} {ds : List D} (hr : RepAll C.T H0 ds [x, y]) (h : storeAll [i, j] ds env = some env2) : Sim C ((σ.set i (some x)).set j (some y)) H0 H env2 := by
  have z : gNs [i, j] [x, y] σ H (fun σ' H' => Sim C σ' H0 H' env2) := gNs_ok S hr h fun σ' s => s
  obtain ⟨v1, r1, e1, v2, r2, e2, e3, q⟩ := z
  cases e1
  cases e2
  exact q
theorem storeAll_len : ∀ {is : List Nat} {ds : List D} {env env2 : Env}, storeAll is ds env = some env2 → ds.length = is.length
  | [], [], _, _, _ => rfl
  | _ :: is, _ :: ds, _, _, h => by simp only [storeAll] at h; simp [storeAll_len h]
  | [], _ :: _, _, _, h => by simp [storeAll] at h
  | _ :: _, [], _, _, h => by simp [storeAll] at h
theorem seqF {σ : L2.St} {H0 H : Hp} {env : Env} {E : Ends} {f : List D → Env → R Fl} (S : Sim C σ H0 H env) (h : RS C W E H0 ((evF cl es' env).bind f)) {Q : List V → Hp → Prop}
    (hQ : ∀ ds env1 vs H01 H1, Ext H0 H01 → Sim C σ H01 H1 env1 → RepAll C.T H01 ds vs → RS C W E H01 (f ds env1) → Q vs H1) : tAF C W cl es' σ H Q := by
  refine ⟨H0, env, S, ?_⟩
  cases q : evF cl es' env with
  | ok u env1 =>
    rw [q] at h
    exact fun H01 H1 e s vs hv => hQ u env1 vs H01 H1 e s hv (RS.mono e h)
  | exc x env1 =>
    rw [q] at h
    exact fun cls d H0' H' e s x => h σ cls d H0' H' e s x
  | bad => rw [q] at h; exact h
theorem s_par2 {i j : Nat} (h : PS X st (tPar i j (tAF C W cl es'))) : PS X st (tS C W cl (.par [i, j] es')) := psI h fun E σ H ⟨H0, env, S, q⟩ => by
  simp only [ex] at q
  refine seqF S q fun ds env1 vs H1 H1' e1 S1 hv q1 => ?_
  obtain ⟨env2, hs, q1⟩ := q1.orB
  have hl := hv.len
  rw [storeAll_len hs] at hl
  match vs, hl with
  | [x, y], _ => exact ⟨x, y, rfl, q1 _ H1 H1' (Ext.rfl' _) (S1.two hv hs)⟩
def gUn (K : PySem.W.Frag) (n : Nat) (t : TGs) : TG := fun v σ H Q => gTup K n t v σ H Q ∨ gUnl K n t v σ H Q
/-- what the two values must be let: the names hold them, and the rest goes on -/
def Two (C : Ctx) (E : Ends) (σ : L2.St) (i j : Nat) (ta : TA) (H : Hp) : Prop := ∀ Q : List V → Hp → Prop, (∀ v w H0' H' env', Sim C ((σ.set i (some v)).set j (some w)) H0' H' env' → (∀ σ' H0'' H'', Ext H0' H0'' → Sim C σ' H0'' H'' env' → E.nx σ' H'') → Q [v, w] H') → ta σ H Q
theorem Two.par {E : Ends} {σ : L2.St} {i j : Nat} {ta : TA} {H : Hp} (h : Two C E σ i j ta H) : tPar i j ta E σ H := h _ fun v w _ _ _ S n => ⟨v, w, rfl, n _ _ _ (Ext.rfl' _) S⟩
theorem Two.unp {E : Ends} {σ : L2.St} {i j : Nat} {ta : TA} {H : Hp} (h : Two C E σ i j ta H) : tAsg (tTup ta) (gUn X.K 2 (gNs [i, j])) E σ H := h _ fun v w _ _ _ S n => ⟨by show 2 ≤ sizeLine; decide, fun p hp => .inl ⟨p, [v, w], rfl, SqT.of upd_same, rfl, v, [w], rfl, w, [], rfl, rfl, n _ _ _ (Ext.rfl' _) (S.gr (Gr.own (o := .tup [v, w]) S.ex hp))⟩⟩
theorem UcOk.len {σ : L2.St} {H0 : Hp} : ∀ {us : List U} {vs : List V}, UcOk C σ H0 us vs → vs.length = us.length
  | [], _, h => by cases h; rfl
  | .d x :: us, _, h => by obtain ⟨v, r, rfl, h1, h2⟩ := h; simp [UcOk.len h2]
  | .sl i :: us, _, h => by obtain ⟨v, r, rfl, h1, h2⟩ := h; simp [UcOk.len h2]
  | .nw _ :: _, _, h => h.elim
theorem UcOk.at {σ : L2.St} {H0 : Hp} : ∀ {us : List U} {vs : List V} {i : Nat} {u : U}, UcOk C σ H0 us vs → us[i]? = some u → ∃ v, vs[i]? = some v ∧ UcOk C σ H0 [u] [v]
  | [], _, _, _, h, q => by simp at q
  | .d x :: us, _, 0, _, h, q => by obtain ⟨v, r, rfl, h1, h2⟩ := h; simp at q; subst q; exact ⟨v, rfl, v, [], rfl, h1, rfl⟩
  | .sl i :: us, _, 0, _, h, q => by obtain ⟨v, r, rfl, h1, h2⟩ := h; simp at q; subst q; exact ⟨v, rfl, v, [], rfl, h1, rfl⟩
  | .nw _ :: _, _, 0, _, h, q => h.elim
  | .d x :: us, _, n + 1, _, h, q => by obtain ⟨v, r, rfl, h1, h2⟩ := h; simpa using UcOk.at h2 (by simpa using q)
  | .sl i :: us, _, n + 1, _, h, q => by obtain ⟨v, r, rfl, h1, h2⟩ := h; simpa using UcOk.at h2 (by simpa using q)
  | .nw _ :: _, _, _ + 1, _, h, q => h.elim
theorem UcOk.cons {σ : L2.St} {H0 : Hp} {u : U} {v : V} {us : List U} {vs : List V} (h1 : UcOk C σ H0 [u] [v]) (h2 : UcOk C σ H0 us vs) : UcOk C σ H0 (u :: us) (v :: vs) := by
  cases u with
  | d x => obtain ⟨w, r, q, h3, _⟩ := h1; cases q; exact ⟨v, vs, rfl, h3, h2⟩
  | sl i => obtain ⟨w, r, q, h3, _⟩ := h1; cases q; exact ⟨v, vs, rfl, h3, h2⟩
  | nw x => exact h1.elim
theorem vals_perm {vs : List V} {us : List Value} (h : Vals vs us) : ∀ pm : List Nat, Vals (permL pm vs) (permL pm us)
  | [] => .nil
  | i :: pm => by
    have ih := vals_perm h pm
    unfold permL at ih ⊢
    simp only [List.filterMap_cons]
    cases z : vs[i]? with
    | none => simp only [h.none_of z]; exact ih
    | some v =>
      obtain ⟨u, hu, r⟩ := h.get z
      simp only [hu]
      exact .cons r ih
end
end PP
end
section
set_option maxHeartbeats 1000000
namespace PP
open PySem PySem.Spec PyProof.Rows L2
theorem fn_zero {P : Program} {w : World} {K : PySem.W.Frag} {mg : Str → Option Value} {base : Heap} {f : Addr} {fd : FuncData} {ps : List Str} {T : Tbl} {fs : Nat → Option Fn} {i n : Nat} (hn : ps.length = n) : FnG P w K mg base (5 * 0) f fd ps (spF T (calls fs 0) i n) :=
  ⟨fun vs H Q E ⟨_, _, _, h, _, hl, _⟩ => by rw [h.len, hl, hn], fun A outer s H args us vs Q E _ _ _ _ _ h => by obtain ⟨_, _, _, _, _, _, _, z⟩ := h; exact z.elim⟩
/-- a def of the text does what its small-syntax term does -/
theorem def_ok {P : Program} {w : World} {K : PySem.W.Frag} {mg : Str → Option Value} {base : Heap} {x qual : Str} {st : Stmt} {f : Addr} {fd : FuncData} {N ps : List Str} {k i n : Nat} {F : Fn} {T : Tbl} {fs : Nat → Option Fn} (Fu : FunV K x qual st f fd) (S : FnScope N ps (defScope st))
    (hN : N.length = F.n) (hn : n ≤ F.n) (hp : ps.length = n) (hf : ∀ as, calls fs (k + 1) i as = runF (calls fs k) F as)
    (hb : ∀ {X : Cx} {C : Ctx} {W : WX}, X.K = C.T.K → X.A.units + 64 < cLine → X.A.units + 200 < cLine → X.A.guards = some [] → Room (5 * k + 4) X.A → Takes X W → PassesOwn (model X.prog X.w) X.A X.env X.xe →
      (∃ (qu : Str) (cdv : Value) (A : Around) (outer : List PySem.Env) (s : Shared) (H : Hp) (E : XK), X = cxOf (L2.CX P w) P w K mg base N qu (defScope st) f cdv A outer s H E ∧ C.T = T ∧ qu = qual ∧ fd.code = cdv) → PSs X (defBody st) (tSs C W (calls fs k) F.body)) (hK : K = T.K) :
    FnG P w K mg base (5 * (k + 1)) f fd ps (spF T (calls fs (k + 1)) i n) := by
  refine FnG.of (k := 5 * k + 4) Fu S (fun vs H Q E ⟨_, _, _, h, _, hl, _⟩ => by rw [h.len, hl, hp]) fun cdv hcd A outer s H vs Q E hg hr hsp => ?_
  refine body_ok hN hn hf (fun C hC => ?_) hsp
  exact hb (by rw [hC]; exact hK) hr.units (by have := hr.un; show A.units + 3 + 200 < cLine; have e : (A.deeper (envOfC qual (defScope st) s.heap.objs.size f cdv)).units = A.units + 3 := rfl; omega) hg hr (takes_of rfl rfl rfl rfl) (passes_of rfl) ⟨qual, cdv, A, outer, s, H, E, rfl, hC, rfl, hcd⟩
end PP
end
section
set_option maxHeartbeats 1000000
namespace PP
open PySem PySem.Spec PyProof.Rows L2
def lenG : Tgs → Nat
  | .nil => 0 | .cons _ ts => lenG ts + 1
mutual
def rTg (K : PySem.W.Frag) : Tg → TG
  | .nm i => gName i
  | .tup ts => gTup K (lenG ts) (rTgs K ts)
def rTgs (K : PySem.W.Frag) : Tgs → TGs
  | .nil => gNil
  | .cons t ts => gCons (rTg K t) (rTgs K ts)
end
mutual
/-- all names of the target are among these slots -/
def tgIn (vs : List Nat) : Tg → Bool
  | .nm i => vs.contains i
  | .tup ts => tgsIn vs ts
def tgsIn (vs : List Nat) : Tgs → Bool
  | .nil => true
  | .cons t ts => tgIn vs t && tgsIn vs ts
end
theorem wipe_get (σ : L2.St) (j : Nat) : ∀ vs : List Nat, (wipe σ vs)[j]? = if j ∈ vs then (if j < σ.length then some none else none) else σ[j]?
  | [] => by simp [wipe]
  | v :: vs => by
    unfold wipe
    rw [List.getElem?_set, wipe_get σ j vs, wipe_length]
    by_cases h : v = j
    · subst h; simp
    · have h' : ¬ j = v := fun z => h z.symm
      simp [h, h']
theorem wipe_set {σ : L2.St} {i : Nat} {x : Option V} {vs : List Nat} (h : i ∈ vs) : wipe (σ.set i x) vs = wipe σ vs := by
  apply List.ext_getElem?
  intro j
  rw [wipe_get, wipe_get, List.length_set, List.getElem?_set]
  by_cases hj : j ∈ vs
  · simp [hj]
  · have : ¬ i = j := fun z => hj (z ▸ h)
    simp [hj, this]
theorem wipe_wipe {σ : L2.St} {vs : List Nat} : wipe (wipe σ vs) vs = wipe σ vs := by
  apply List.ext_getElem?
  intro j
  rw [wipe_get, wipe_get, wipe_length]
  by_cases hj : j ∈ vs <;> simp [hj]
theorem getS_wipe (j : Nat) : ∀ (vs : List Nat) (env : Env), getS (wipeE env vs) j = if j ∈ vs then .un else getS env j
  | [], env => by simp [wipeE]
  | v :: vs, env => by
    unfold wipeE
    rw [getS_wipe j vs, getS_set]
    by_cases h : v = j
    · subst h
      by_cases hv : v ∈ vs
      · simp [hv]
      · by_cases hl : v < env.length
        · simp [hv, hl]
        · have : getS env v = .un := by unfold getS; rw [List.getD_eq_getElem?_getD, List.getElem?_eq_none (by omega)]; rfl
          simp [hv, hl, this]
    · have h' : ¬ j = v := fun z => h z.symm
      simp [h, h']
theorem len_wipe : ∀ (vs : List Nat) (env : Env), (wipeE env vs).length = env.length
  | [], env => rfl
  | v :: vs, env => by unfold wipeE; rw [len_wipe vs]; simp
theorem getS_back (env0 : Env) (j : Nat) : ∀ (vs : List Nat) (env : Env), getS (backE env0 env vs) j = if j ∈ vs ∧ j < env.length then getS env0 j else getS env j
  | [], env => by simp [backE]
  | v :: vs, env => by
    unfold backE
    rw [getS_back env0 j vs, getS_set, List.length_set]
    by_cases h : v = j
    · subst h
      by_cases hl : v < env.length
      · by_cases hv : v ∈ vs <;> simp [hv, hl]
      · simp [hl]
    · have h' : ¬ j = v := fun z => h z.symm
      simp [h, h']
theorem len_back (env0 : Env) : ∀ (vs : List Nat) (env : Env), (backE env0 env vs).length = env.length
  | [], env => rfl
  | v :: vs, env => by unfold backE; rw [len_back env0 vs]; simp
theorem storeGs_len : ∀ (ts : Tgs) (ds : List D) (env env' : Env), storeGs ts ds env = some env' → ds.length = lenG ts
  | .nil, [], _, _, _ => rfl
  | .nil, _ :: _, _, _, h => by simp [storeGs] at h
  | .cons _ _, [], _, _, h => by simp [storeGs] at h
  | .cons t ts, d :: ds, env, env', h => by
    simp only [storeGs, Option.bind_eq_some_iff] at h
    obtain ⟨env1, _, h2⟩ := h
    simp [lenG, storeGs_len ts ds env1 env' h2]
section
variable {C : Ctx} {H0 H : Hp}
theorem Sim.wipe {σ : L2.St} {env : Env} (S : Sim C σ H0 H env) (vs : List Nat) : Sim C (wipe σ vs) H0 H (wipeE env vs) := by
  refine { ok := S.ok, ex := S.ex, ex0 := S.ex0, fresh := S.fresh, keep := S.keep, tabs := S.tabs, tno := S.tno, ioH := S.ioH, len := by rw [len_wipe, wipe_length]; exact S.len, slots := fun j => ?_, inj := fun j k a hjk hj hk ej ek => ?_ }
  · rw [getS_wipe, wipe_get]
    by_cases h : j ∈ vs
    · simp only [h, if_true]; trivial
    · simp only [h, if_false]; exact S.slots j
  · rw [getS_wipe] at hj hk
    rw [wipe_get] at ej ek
    by_cases h1 : j ∈ vs
    · simp only [h1, if_true] at hj; cases hj
    · by_cases h2 : k ∈ vs
      · simp only [h2, if_true] at hk; cases hk
      · simp only [h1, h2, if_false] at hj hk ej ek
        exact S.inj j k a hjk hj hk ej ek
mutual
theorem Sim.tg : ∀ (t : Tg) {σ : L2.St} {env env' : Env} {d : D} {v : V} {Q : L2.St → Hp → Prop}, Sim C σ H0 H env → Rep C.T H0 d v → storeG t d env = some env' →
    (∀ σ', Sim C σ' H0 H env' → (∀ vs, tgIn vs t = true → L2.wipe σ' vs = L2.wipe σ vs) → Q σ' H) → rTg C.T.K t v σ H Q
  | .nm i, σ, env, env', d, v, Q, S, r, hs, k => by
    simp only [storeG, Option.some.injEq] at hs
    subst hs
    show Q _ _
    refine k _ (S.store rfl ⟨v, rfl, r⟩ fun _ _ z => by cases z) fun vs hv => wipe_set (by simpa [tgIn] using hv)
  | .tup ts, σ, env, env', d, v, Q, S, r, hs, k => by
    cases d with
    | tup ds =>
      simp only [storeG] at hs
      have r' := r
      simp only [Rep] at r'
      obtain ⟨a, xs, rfl, r1, r2⟩ := r'
      have h := Sim.tgs ts (Q := Q) S r2 hs (fun σ' S' h => k σ' S' fun vs hv => h vs (by simpa [tgIn] using hv))
      exact ⟨a, xs, rfl, S.ex.sqT r1, h.1, h.2⟩
    | _ => simp [storeG] at hs
theorem Sim.tgs : ∀ (t : Tgs) {σ : L2.St} {env env' : Env} {ds : List D} {xs : List V} {Q : L2.St → Hp → Prop}, Sim C σ H0 H env → RepAll C.T H0 ds xs → storeGs t ds env = some env' →
    (∀ σ', Sim C σ' H0 H env' → (∀ vs, tgsIn vs t = true → L2.wipe σ' vs = L2.wipe σ vs) → Q σ' H) → xs.length = lenG t ∧ rTgs C.T.K t xs σ H Q
  | .nil, σ, env, env', ds, xs, Q, S, r, hs, k => by
    cases ds with
    | nil =>
      simp only [storeGs, Option.some.injEq] at hs
      subst hs
      simp only [RepAll] at r
      subst r
      exact ⟨rfl, rfl, k σ S fun _ _ => rfl⟩
    | cons d ds => simp [storeGs] at hs
  | .cons t ts, σ, env, env', ds, xs, Q, S, r, hs, k => by
    cases ds with
    | nil => simp [storeGs] at hs
    | cons d ds =>
      simp only [storeGs, Option.bind_eq_some_iff] at hs
      obtain ⟨env1, h1, h2⟩ := hs
      simp only [RepAll] at r
      obtain ⟨v, xr, rfl, r1, r2⟩ := r
      have hl : xr.length = lenG ts := by rw [r2.len]; exact storeGs_len ts _ _ _ h2
      exact ⟨by simp [lenG, hl], v, xr, rfl, Sim.tg t S r1 h1 fun σ' S' w' => (Sim.tgs ts S' r2 h2 fun σ'' S'' w'' => k σ'' S'' fun vs hv => by
        simp only [tgsIn, Bool.and_eq_true] at hv
        rw [w'' vs hv.2, w' vs hv.1]).2⟩
end
end
/-- a walk hands out these, one after another -/
def Wk (T : Tbl) (G : Hp) (ds : List D) (J : L2.It) : Prop :=
  (∀ i H0 H d, Ext G H0 → Ext H0 H → ds[i]? = some d → J.go i H ∧ ∀ x H', J.yld i H x H' → ∃ H0', Gr T H0 H H0' H' ∧ Rep T H0' d x) ∧ ∀ i H, Ext G H → ds.length ≤ i → J.stop i H
def tItr (C : Ctx) (W : WX) (cl : CallF) (it : It) : TI := fun σ H R => ∃ H0 env, Sim C σ H0 H env ∧ RQ C W σ (fun (ds : List D) _ H0' H' => ∀ J, Wk C.T H0' ds J → R J H') H0 (itD cl it env)
theorem wk_list {T : Tbl} {G : Hp} {ds : List D} {xs : List V} {a : Addr} (hs : SqL T.K G a xs) (hr : RepAll T G ds xs) : Wk T G ds (Itl T.K a) :=
  ⟨fun i H0 H d e0 e hd => by
    obtain ⟨v, hv, r⟩ := hr.get hd
    exact ⟨⟨xs, v, (e0.tr e).sqL hs, hv⟩, fun x H' ⟨hH, hx⟩ => by
      subst hH
      have := hx xs ((e0.tr e).sqL hs)
      rw [hv] at this; cases this
      exact ⟨H0, Gr.rfl' e, Rep.mono e0 _ _ r⟩⟩, fun i H e hi => ⟨xs, e.sqL hs, by rw [hr.len]; exact hi⟩⟩
theorem wk_tup {T : Tbl} {G : Hp} {ds : List D} {xs : List V} {a : Addr} (hs : SqT T.K G a xs) (hr : RepAll T G ds xs) : Wk T G ds (Itt T.K a) :=
  ⟨fun i H0 H d e0 e hd => by
    obtain ⟨v, hv, r⟩ := hr.get hd
    exact ⟨⟨xs, v, (e0.tr e).sqT hs, hv⟩, fun x H' ⟨hH, hx⟩ => by
      subst hH
      have := hx xs ((e0.tr e).sqT hs)
      rw [hv] at this; cases this
      exact ⟨H0, Gr.rfl' e, Rep.mono e0 _ _ r⟩⟩, fun i H e hi => ⟨xs, e.sqT hs, by rw [hr.len]; exact hi⟩⟩
section
variable {X : Cx} {C : Ctx} {W : WX} {cl : CallF} {tg l e a b : Expr} {es : List Expr} {l' e' a' b' : Ex} {pos : Pos}
theorem i_seq (hK : X.K = C.T.K) (h : PE X l (tI C W cl l')) : PI X tg l (tItr C W cl (.seq l')) := ⟨fun pins s σ H R I ⟨H0, env, S, q⟩ => by
  cases z : ev cl l' env with
  | bad => simp only [itD, z] at q; exact q.elim
  | exc x env1 => exact (pi_list h).run pins s σ H R I ⟨H0, env, S, by simp only [itD, z] at q ⊢; exact q⟩
  | ok u env1 =>
    simp only [itD, z, PP.R.bind_ok] at q
    obtain ⟨⟨d, env2⟩, hf, q⟩ := q.orB
    obtain ⟨xs, hx, q⟩ := q.orB
    have key : ∀ (Q : VK), (∀ H2 H1' v, Ext H0 H2 → Sim C σ H2 H1' env2 → Rep C.T H2 d v → Q v H1') → tI C W cl l' σ H Q := fun Q hQ => ⟨H0, env, S, by
      rw [z]
      intro H1 H1' e1 S1 v u1
      obtain ⟨H2, e2, S2, r2⟩ := S1.take u1 hf
      exact hQ H2 H1' v (e1.tr e2) S2 r2⟩
    cases d with
    | lst ds =>
      cases hx
      exact (pi_list h).run pins s σ H R I (key _ fun H2 H1' v e S2 r => by
        simp only [Rep] at r
        obtain ⟨a, xs, rfl, r1, r2⟩ := r
        exact ⟨a, rfl, ⟨xs, .inl (S2.ex.rd r1)⟩, hK ▸ (q H2 H1' e S2) _ (wk_list (.inl r1) r2)⟩)
    | kst ds =>
      cases hx
      exact (pi_list h).run pins s σ H R I (key _ fun H2 H1' v e S2 r => by
        simp only [Rep] at r
        obtain ⟨a, xs, rfl, r1, r2⟩ := r
        exact ⟨a, rfl, ⟨xs, hK ▸ S2.ex.sqL r1⟩, hK ▸ (q H2 H1' e S2) _ (wk_list r1 r2)⟩)
    | tup ds =>
      cases hx
      exact (pi_tup h).run pins s σ H R I (key _ fun H2 H1' v e S2 r => by
        simp only [Rep] at r
        obtain ⟨a, xs, rfl, r1, r2⟩ := r
        exact ⟨a, rfl, ⟨xs, hK ▸ S2.ex.sqT r1⟩, hK ▸ (q H2 H1' e S2) _ (wk_tup r1 r2)⟩)
    | _ => simp [itemsD] at hx⟩
end
section
variable {X : Cx} {C : Ctx} {W : WX} {cl : CallF} {st : Stmt}
def forGv (C : Ctx) (W : WX) (E : Ends) (G : Hp) (body : Env → R Fl) (tg : Tg) (items : List D) : Nat → L2.St → Hp → Prop := fun i σ H => i ≤ items.length ∧ ∃ H0 env, Ext G H0 ∧ Sim C σ H0 H env ∧ RS C W E H0 (forG body tg (items.drop i) env)
theorem s_fort {it' : It} {b : Ss} {tg : Tg} (hK : X.K = C.T.K) (h : PS X st (tFor (tItr C W cl it') (rTg X.K tg) (tSs C W cl b))) : PS X st (tS C W cl (.fort tg it' b)) := psI h fun E σ H ⟨H0, env, S, q⟩ => by
  simp only [ex] at q
  refine ⟨H0, env, S, ?_⟩
  cases z : itD cl it' env with
  | bad => rw [z] at q; exact q.elim
  | exc x env1 => rw [z] at q; exact fun cls d H0' H' e s x => q σ cls d H0' H' e s x
  | ok ds env1 =>
    rw [z] at q
    simp only [R.bind_ok] at q
    intro G G' e0 S1 J wk
    refine ⟨fun i m σ H => m = ds.length - i ∧ forGv C W E G (exs cl b) tg ds i σ H, ⟨ds.length, by simp, Nat.zero_le _, G, env1, Ext.rfl' _, S1, RS.mono e0 q⟩, ?_⟩
    rintro i m σ H ⟨rfl, hi, H1, env2, e1, S2, q2⟩
    by_cases hlt : i < ds.length
    · have hd : ds[i]? = some ds[i] := List.getElem?_eq_getElem hlt
      obtain ⟨g1, g2⟩ := wk.1 i H1 H _ e1 S2.ex hd
      refine .inr ⟨g1, forGv C W E G (exs cl b) tg ds (i + 1), fun σ' H' p => ⟨ds.length - (i + 1), by omega, rfl, p⟩, fun x H' hy => ?_⟩
      obtain ⟨H2, gr, rx⟩ := g2 x H' hy
      have S3 := S2.gr gr
      rw [List.drop_eq_getElem_cons hlt] at q2
      simp only [forG] at q2
      obtain ⟨env3, hst, q3⟩ := q2.orB
      rw [hK]
      refine Sim.tg tg S3 rx hst fun σ' S' _ => ?_
      refine ⟨H2, env3, S', ?_⟩
      have e2 := e1.tr gr.e0
      cases z : exs cl b env3 with
      | bad => rw [z] at q3; exact q3
      | exc x env4 => rw [z] at q3; exact RS.mono gr.e0 q3
      | ok fl env4 =>
        rw [z] at q3
        have q3 := RS.mono gr.e0 q3
        cases fl with
        | next => exact fun σ' H0' H' e' S' => ⟨hlt, H0', env4, e2.tr e', S', RS.mono e' q3⟩
        | cont => exact fun σ' H0' H' e' S' => ⟨hlt, H0', env4, e2.tr e', S', RS.mono e' q3⟩
        | brk => exact q3
        | ret u => exact q3
    · have hge : ds.length ≤ i := by omega
      refine .inl ⟨wk.2 i H (e1.tr S2.ex) hge, ?_⟩
      rw [List.drop_eq_nil_of_le hge] at q2
      exact q2 σ H1 H (Ext.rfl' _) S2
end
end PP
end
section
set_option maxHeartbeats 1000000
namespace PP
open PySem PySem.Spec PyProof.Rows L2
/-- the context, a new list at D being filled -/
def Ctx.fill (C : Ctx) (D : Addr) (xs : List V) : Ctx := ⟨C.T, C.H0e, upd C.He D (.lst xs), C.ioAt, C.fa⟩
section
variable {C : Ctx} {σ : L2.St} {H0 H : Hp} {env : Env} {D : Addr} {xs ys : List V}
theorem sl_fill (hD : C.He D = none) (hio : ¬ C.io D) {i : Nat} {o : Option (Option V)} {s : Sl} : SlOk (C.fill D xs) H0 H i o s ↔ SlOk C H0 H i o s ∧ (ownS s = true → o ≠ some (some (.ref D))) := by
  cases s with
  | un => exact ⟨fun h => ⟨h, fun z => by cases z⟩, fun h => h.1⟩
  | fn => exact ⟨fun h => ⟨h, fun z => by cases z⟩, fun h => h.1⟩
  | fz d => exact ⟨fun h => ⟨h, fun z => by cases z⟩, fun h => h.1⟩
  | ow d =>
    constructor
    · rintro ⟨a, h1, h2, h3⟩
      have ne : a ≠ D := fun z => by subst z; rw [show (C.fill a xs).He a = some (.lst xs) from upd_same] at h2; cases h2
      refine ⟨⟨a, h1, ?_, h3⟩, fun _ z => ?_⟩
      · rw [← h2]; exact (upd_ne ne).symm
      · rw [h1] at z; cases z; exact ne rfl
    · rintro ⟨⟨a, h1, h2, h3⟩, h4⟩
      have ne : a ≠ D := fun z => h4 rfl (by rw [h1, z])
      exact ⟨a, h1, (upd_ne ne).trans h2, h3⟩
  | io d =>
    constructor
    · rintro ⟨a, h1, h2, h3⟩
      refine ⟨⟨a, h1, h2, h3⟩, fun _ z => ?_⟩
      rw [h1] at z; cases z
      exact hio (List.mem_of_getElem? h2)
    · exact fun h => h.1
/-- the new list is made -/
theorem Sim.fill0 (S : Sim C σ H0 H env) (hD : H D = none) : Sim (C.fill D []) σ H0 (upd H D (.lst [])) env := by
  have he : C.He D = none := S.he hD
  have hio : ¬ C.io D := fun z => S.ioH D z hD
  have h0e : C.H0e D = none := (S.ex0.tr S.ex).no hD
  refine { tabs := (ext_upd hD).tabs S.tabs, tno := S.tno, ok := ⟨fun a ha => ?_, fun a o h => ?_⟩, ex := S.ex.tr (ext_upd hD), ex0 := S.ex0, fresh := fun a h h' => ?_, keep := fun a o h z => ?_, ioH := fun a h => ?_, len := S.len, slots := fun i => ?_, inj := S.inj }
  · obtain ⟨h1, h2⟩ := S.ok.ioNo a ha
    refine ⟨h1, fun z => h2 ?_⟩
    have ne : a ≠ D := fun w => hio (w ▸ ha)
    exact (upd_ne ne).symm.trans z
  · have ne : a ≠ D := ne_of_none h h0e
    exact (upd_ne ne).trans (S.ok.ex _ _ h)
  · have ne : a ≠ D := fun w => by subst w; exact h' (S.ex.no hD)
    exact (upd_ne ne).trans (S.fresh a h h')
  · by_cases ne : a = D
    · subst ne
      rw [show (C.fill a []).He a = some (.lst []) from upd_same] at h
      cases h; exact .inl upd_same
    · rw [upd_ne ne]
      exact S.keep a o ((upd_ne ne).symm.trans h) z
  · have ne : a ≠ D := fun w => hio (w ▸ h)
    rw [upd_ne ne]; exact S.ioH a h
  · refine (sl_fill he hio).mpr ⟨(S.slots i).step (Ext.rfl' _) fun a ha e => ⟨(S.own ha e).1, upd_ne (fun w => by
      obtain ⟨_, o, z⟩ := S.own ha e
      rw [w, hD] at z; cases z)⟩, fun ha e => ?_⟩
    obtain ⟨_, o, z⟩ := S.own ha e
    rw [hD] at z; cases z
theorem Sim.fillAt (S : Sim (C.fill D xs) σ H0 H env) (hio : ¬ C.io D) : H D = some (.lst xs) := (S.keep D _ upd_same hio).at nofun
theorem Sim.fillNo (S : Sim (C.fill D xs) σ H0 H env) (h0e : C.H0e D = none) : H0 D = none := by
  cases z : H0 D with
  | none => rfl
  | some o =>
    have := S.fresh D h0e (by rw [z]; exact nofun)
    rw [show (C.fill D xs).He D = some (.lst xs) from upd_same] at this
    cases this
/-- it grows -/
theorem Sim.fill (S : Sim (C.fill D xs) σ H0 H env) (he : C.He D = none) (hio : ¬ C.io D) (h0e : C.H0e D = none) : Sim (C.fill D ys) σ H0 (upd H D (.lst ys)) env := by
  have hn := S.fillNo h0e
  have own : ∀ i, ownS (getS env i) = true → σ[i]? ≠ some (some (.ref D)) := fun i hi => ((sl_fill he hio).mp (S.slots i)).2 hi
  refine { tabs := tabs_upd (S.fillAt hio) nofun (fun _ _ z => by cases z) S.tabs, tno := S.tno, ok := ⟨fun a ha => ?_, fun a o h => ?_⟩, ex := fun a o h => ?_, ex0 := S.ex0, fresh := fun a h h' => ?_, keep := fun a o h z => ?_, ioH := fun a h => ?_, len := S.len, slots := fun i => ?_, inj := S.inj }
  · obtain ⟨h1, h2⟩ := S.ok.ioNo a ha
    have ne : a ≠ D := fun w => hio (w ▸ ha)
    exact ⟨h1, fun z => h2 ((upd_ne ne).trans ((upd_ne ne).symm.trans z))⟩
  · have ne : a ≠ D := ne_of_none h h0e
    exact (upd_ne ne).trans ((upd_ne ne).symm.trans (S.ok.ex _ _ h))
  · rw [upd_ne (ne_of_none h hn)]; exact S.ex _ _ h
  · have ne : a ≠ D := fun w => by subst w; exact h' hn
    exact (upd_ne ne).trans ((upd_ne ne).symm.trans (S.fresh a h h'))
  · by_cases ne : a = D
    · subst ne
      rw [show (C.fill a ys).He a = some (.lst ys) from upd_same] at h
      cases h; exact .inl upd_same
    · rw [upd_ne ne]
      exact S.keep a o ((upd_ne ne).trans ((upd_ne ne).symm.trans h)) z
  · have ne : a ≠ D := fun w => hio (w ▸ h)
    rw [upd_ne ne]; exact S.ioH a h
  · refine (sl_fill he hio).mpr ⟨((sl_fill he hio).mp (S.slots i)).1.step (Ext.rfl' _) fun a ha e => ⟨(S.own ha e).1, upd_ne (fun w => own i ha (by rw [e, w]))⟩, own i⟩
/-- behind the comprehension -/
theorem Sim.fillBack {G G' : Hp} {env1 : Env} {vs : List Nat} (S : Sim (C.fill D xs) (L2.wipe σ vs) H0 H (wipeE env vs)) (S1 : Sim C σ G G' env1) (e : Ext G H0) (hD : G' D = none) (hc : (vs.all fun i => calmS (getS env1 i)) = true) : Sim C σ H0 H (backE env1 env vs) := by
  have he : C.He D = none := S1.he hD
  have hio : ¬ C.io D := fun z => S1.ioH D z hD
  have calm : ∀ i ∈ vs, ownS (getS env1 i) = false := fun i hi => by
    have := (List.all_eq_true.mp hc) i hi
    cases z : getS env1 i <;> simp_all [calmS, ownS]
  have hlen : env.length = σ.length := by have := S.len; rw [len_wipe, wipe_length] at this; exact this
  have notin : ∀ i, ownS (getS (backE env1 env vs) i) = true → i ∉ vs ∧ ownS (getS (wipeE env vs) i) = true ∧ (L2.wipe σ vs)[i]? = σ[i]? := fun i hi => by
    rw [getS_back] at hi
    by_cases h : i ∈ vs
    · by_cases hl : i < env.length
      · simp only [h, hl, and_self, if_true] at hi; rw [calm i h] at hi; cases hi
      · have z : getS env i = .un := by unfold getS; rw [List.getD_eq_getElem?_getD, List.getElem?_eq_none (by omega)]; rfl
        simp only [h, hl, and_false, if_false, z] at hi; cases hi
    · simp only [h, false_and, if_false] at hi
      exact ⟨h, by rw [getS_wipe]; simpa [h] using hi, by rw [wipe_get]; simp [h]⟩
  refine { tabs := S.tabs, tno := S.tno, ok := S1.ok, ex := S.ex, ex0 := S.ex0, fresh := fun a h h' => ?_, keep := fun a o h z => ?_, ioH := S.ioH, len := by rw [len_back]; exact hlen, slots := fun i => ?_, inj := fun i j a hij hi hj ei ej => ?_ }
  · have := S.fresh a h h'
    by_cases ne : a = D
    · subst ne; exact he
    · exact (upd_ne ne).symm.trans this
  · have ne : a ≠ D := ne_of_none h he
    exact S.keep a o ((upd_ne ne).trans h) z
  · rw [getS_back]
    by_cases h : i ∈ vs
    · by_cases hl : i < env.length
      · simp only [h, hl, and_self, if_true]
        have q := S1.slots i
        have cz := (List.all_eq_true.mp hc) i h
        cases z : getS env1 i with
        | un => trivial
        | fn => rw [z] at cz; cases cz
        | fz d => rw [z] at q; obtain ⟨v, q1, q2⟩ := q; exact ⟨v, q1, Rep.mono e _ _ q2⟩
        | ow d => rw [z] at cz; cases cz
        | io d => rw [z] at cz; cases cz
      · have z : getS env i = .un := by unfold getS; rw [List.getD_eq_getElem?_getD, List.getElem?_eq_none (by omega)]; rfl
        simp only [h, hl, and_false, if_false, z]; trivial
    · simp only [h, false_and, if_false]
      have q := ((sl_fill he hio).mp (S.slots i)).1
      rw [getS_wipe, wipe_get] at q
      simpa [h] using q
  · obtain ⟨h1, h2, h3⟩ := notin i hi
    obtain ⟨h4, h5, h6⟩ := notin j hj
    exact S.inj i j a hij h2 h5 (h3.trans ei) (h6.trans ej)
end
abbrev W0 : WX := fun _ _ _ _ => False
def tElt (T : Tbl) (cl : CallF) (e : Ex) : TE := fun σ H Q => ∃ (h0 he : Hp) (io : List (Option Addr)) (fa : Addr), tI ⟨T, h0, he, io, fa⟩ W0 cl e σ H Q
def tTst (T : Tbl) (cl : CallF) (hc : Bool) (e : Ex) : TT := fun σ H Q => match hc with
  | true => ∃ (h0 he : Hp) (io : List (Option Addr)) (fa : Addr), tT ⟨T, h0, he, io, fa⟩ W0 cl e σ H Q
  | false => Q true H
section
variable {X : Cx} {C : Ctx} {W : WX} {cl : CallF}
theorem pe_elt {T : Tbl} {elt : Expr} {e' : Ex} (h : ∀ (h0 he : Hp) (io : List (Option Addr)) (fa : Addr), PE X elt (tI ⟨T, h0, he, io, fa⟩ W0 cl e')) : PE X elt (tElt T cl e') := ⟨fun pins s σ H Q I ⟨h0, he, io, fa, q⟩ => (h h0 he io fa).run pins s σ H Q I q⟩
theorem pt_tst {T : Tbl} {c : Expr} {e' : Ex} (h : ∀ (h0 he : Hp) (io : List (Option Addr)) (fa : Addr), PT X c (tT ⟨T, h0, he, io, fa⟩ W0 cl e')) : PTs X [c] (tTst T cl true e') := pts_one ⟨fun pins s σ H Q I ⟨h0, he, io, fa, q⟩ => (h h0 he io fa).run pins s σ H Q I q⟩
theorem pt_tst0 {T : Tbl} {e' : Ex} : PTs X [] (tTst T cl false e') := pts_nil
theorem lcAll_bad {vs : List Nat} {env1 : Env} {σ : L2.St} {K : U → Env → Hp → Hp → Prop} {H0 : Hp} {r : R (List D)} (h : RQ C W σ K H0 (lcAll vs env1 r)) : (vs.all fun i => calmS (getS env1 i)) = true ∧ ∃ ds env2, r = .ok ds env2 ∧ RQ C W σ K H0 (.ok (.nw (.lst ds)) (backE env1 env2 vs)) := by
  unfold lcAll at h
  split at h
  · exact h.elim
  · rename_i hc
    simp only [Bool.not_eq_true', Bool.not_eq_false] at hc
    split at h
    · rename_i ds env2
      exact ⟨hc, ds, env2, rfl, h⟩
    · exact h.elim
theorem readLc {σ : L2.St} {H : Hp} {Q : VK} {vs : List Nat} {tg : Tg} {it : It} {hc : Bool} {c e : Ex} (hK : X.K = C.T.K) (hv : tgIn vs tg = true) (h : tI C W cl (.lc vs tg it hc c e) σ H Q) :
    tLc (tItr C W cl it) (rTg X.K tg) (tTst C.T cl hc c) (tElt C.T cl e) vs σ H Q := by
  obtain ⟨H0, env, S, q⟩ := h
  simp only [ev] at q
  refine ⟨H0, env, S, ?_⟩
  cases z : itD cl it env with
  | bad => rw [z] at q; exact q.elim
  | exc x env1 => rw [z] at q; exact q
  | ok ds env1 =>
    rw [z] at q
    simp only [R.bind_ok] at q
    intro G G' e0 S1 J wk D hD
    have he : C.He D = none := S1.he hD
    have hio : ¬ C.io D := fun z => S1.ioH D z hD
    have h0e : C.H0e D = none := (S1.ex0.tr S1.ex).no hD
    let P : Nat → Hp → Prop := fun i H => i ≤ ds.length ∧ ∃ H0 env acc xs, Ext G H0 ∧ Sim (C.fill D xs) (wipe σ vs) H0 H (wipeE env vs) ∧ RepAll C.T H0 acc xs ∧
      RQ C W σ (KV C σ Q) H0 (lcAll vs env1 (lcD (lcTurn vs tg hc (ev cl c) (ev cl e)) (ds.drop i) env acc))
    refine ⟨fun i m H => m = ds.length - i ∧ P i H, ⟨ds.length, by simp, Nat.zero_le _, G, env1, [], [], Ext.rfl' _, (S1.fill0 hD).wipe vs, by simp [RepAll], by rw [List.drop_zero]; exact RQ.mono e0 q⟩, ?_⟩
    rintro i m H ⟨rfl, hi, H1, env2, acc, xs, e1, S2, ra, q2⟩
    by_cases hlt : i < ds.length
    · have hd : ds[i]? = some ds[i] := List.getElem?_eq_getElem hlt
      obtain ⟨g1, g2⟩ := wk.1 i H1 H _ e1 S2.ex hd
      refine .inr ⟨g1, P (i + 1), fun H' p => ⟨ds.length - (i + 1), by omega, rfl, p⟩, fun x H' hy => ?_⟩
      obtain ⟨H2, gr, rx⟩ := g2 x H' hy
      have S3 := S2.gr gr
      rw [List.drop_eq_getElem_cons hlt] at q2
      obtain ⟨hcalm, ds', env', hr, q2'⟩ := lcAll_bad q2
      -- the turn's own equation
      cases hst : storeG tg ds[i] (wipeE env2 vs) with
      | none => simp [lcD, lcTurn, hst] at hr
      | some env3 =>
        rw [hK]
        refine Sim.tg (C := C.fill D xs) tg S3 rx hst fun σ2 S4 hw => ⟨by rw [hw vs hv, wipe_wipe], ?_⟩
        have wσ : wipe σ2 vs = wipe σ vs := by rw [hw vs hv, wipe_wipe]
        have r2 : RepAll C.T H2 acc xs := RepAll.mono gr.e0 _ _ ra
        have hturnF : hc = false → lcTurn vs tg hc (ev cl c) (ev cl e) ds[i] env2 = ((ev cl e env3).bind fun u env3 => orBad (fzU env3 u) fun p => .ok (some p.1) p.2) := fun z => by
          subst z
          unfold lcTurn
          rw [hst]
          rfl
        have hturnT : hc = true → lcTurn vs tg hc (ev cl c) (ev cl e) ds[i] env2 = ((ev cl c env3).bind fun u env2 => orBad (rdU env2 u) fun x => orBad (truD x) fun t => match t with
              | true => (ev cl e env2).bind fun u env3 => orBad (fzU env3 u) fun p => .ok (some p.1) p.2
              | false => .ok none env2) := fun z => by
          subst z
          unfold lcTurn
          rw [hst]
          rfl
        -- behind the test: the element
        have elem : ∀ env4 H3 H3', Ext H2 H3 → Sim (C.fill D xs) σ2 H3 H3' env4 → lcTurn vs tg hc (ev cl c) (ev cl e) ds[i] env2 = ((ev cl e env4).bind fun u env3 => orBad (fzU env3 u) fun p => .ok (some p.1) p.2) →
            tElt C.T cl e σ2 H3' fun y H4 => ∃ acc, H4 D = some (.lst acc) ∧ acc.length < sizeLine ∧ P (i + 1) (upd H4 D (.lst (acc ++ [y]))) := by
          intro env4 H3 H3' e3 S5 ht
          unfold lcD at q2 hr
          rw [ht] at q2 hr
          refine ⟨C.H0e, upd C.He D (.lst xs), C.ioAt, C.fa, H3, env4, S5, ?_⟩
          cases zz : ev cl e env4 with
          | bad => rw [zz] at hr; cases hr
          | exc x env5 => rw [zz] at hr; cases hr
          | ok u env5 =>
            rw [zz] at q2 hr
            simp only [R.bind_ok] at q2 hr
            intro H4 H4' e4 S6 v hu
            cases zf : fzU env5 u with
            | none => rw [zf] at hr; cases hr
            | some p =>
              rw [zf] at q2 hr
              simp only [orBad_some] at q2 hr
              obtain ⟨H5, e5, S7, r7⟩ := S6.take hu zf
              by_cases hl : acc.length < LIM
              · rw [if_pos hl] at q2
                refine ⟨xs, S6.fillAt hio, by rw [r2.len]; exact Nat.lt_of_lt_of_le hl lim_line, hlt, H5, p.2, acc ++ [p.1], xs ++ [v], (((e1.tr gr.e0).tr e3).tr e4).tr e5, ?_, ?_, RQ.mono (((gr.e0.tr e3).tr e4).tr e5) q2⟩
                · have := (S7.fill (ys := xs ++ [v]) he hio h0e).wipe vs
                  rw [wσ] at this
                  exact this
                · exact (RepAll.mono ((e3.tr e4).tr e5) _ _ r2).app (by simp only [RepAll]; exact ⟨v, [], rfl, r7, rfl⟩)
              · rw [if_neg hl] at hr; cases hr
        cases hc with
        | false =>
          exact iteT (B := P (i + 1) H') (elem env3 H2 H' (Ext.rfl' _) S4 (hturnF rfl))
        | true =>
          refine ⟨C.H0e, upd C.He D (.lst xs), C.ioAt, C.fa, H2, env3, S4, ?_⟩
          have hturn := hturnT rfl
          have hr' := hr
          unfold lcD at hr'
          rw [hturn] at hr'
          unfold evT
          cases zc : ev cl c env3 with
          | bad => rw [zc] at hr'; cases hr'
          | exc x env5 => rw [zc] at hr'; cases hr'
          | ok u env5 =>
            rw [zc] at hr' hturn
            simp only [R.bind_ok] at hr' hturn ⊢
            cases zr : rdU env5 u with
            | none => rw [zr] at hr'; cases hr'
            | some d =>
              rw [zr] at hr' hturn
              simp only [orBad_some] at hr' hturn ⊢
              cases zt : truD d with
              | none => rw [zt] at hr'; cases hr'
              | some t =>
                rw [zt] at hr' hturn
                simp only [orBad_some] at hr' hturn ⊢
                intro H3 H3' e3 S5
                cases t with
                | true =>
                  rw [if_pos rfl]
                  exact elem env5 H3 H3' e3 S5 hturn
                | false =>
                  rw [if_neg Bool.false_ne_true]
                  have q3 := q2
                  unfold lcD at q3
                  rw [hturn] at q3
                  refine ⟨hlt, H3, env5, acc, xs, (e1.tr gr.e0).tr e3, ?_, RepAll.mono e3 _ _ r2, RQ.mono (gr.e0.tr e3) q3⟩
                  have := S5.wipe vs
                  rw [wσ] at this
                  exact this
    · have hge : ds.length ≤ i := by omega
      refine .inl ⟨wk.2 i H (e1.tr S2.ex) hge, ?_⟩
      rw [List.drop_eq_nil_of_le hge] at q2
      obtain ⟨hcalm, ds', env', hr, q3⟩ := lcAll_bad q2
      cases hr
      have S5 := S2.fillBack S1 e1 hD hcalm
      refine q3 H1 H (Ext.rfl' _) S5 (.ref D) ?_
      show RepN _ _ _ _ _ _ _
      unfold RepN
      rw [if_pos (show isMutD (PP.D.lst acc) = true from rfl)]
      refine ⟨D, rfl, he, ⟨D, xs, rfl, S2.fillNo h0e, S2.fillAt hio, ra⟩, fun j hj ej => ?_⟩
      rw [getS_back] at hj
      by_cases h : j ∈ vs
      · by_cases hl : j < env2.length
        · simp only [h, hl, and_self, if_true] at hj
          have cz := (List.all_eq_true.mp hcalm) j h
          cases z : getS env1 j <;> rw [z] at hj cz <;> first | (cases hj; done) | (cases cz; done)
        · have z : getS env2 j = .un := by unfold getS; rw [List.getD_eq_getElem?_getD, List.getElem?_eq_none (by omega)]; rfl
          simp only [h, hl, and_false, if_false, z] at hj; cases hj
      · simp only [h, false_and, if_false] at hj
        have q := ((sl_fill he hio).mp (S2.slots j)).2 (by rw [getS_wipe]; simpa [h] using hj)
        rw [wipe_get] at q
        simp only [h, if_false] at q
        exact q ej
theorem c_lc {elt tg iter : Expr} {ifs : List Expr} {scope : Scope} {own : List (Str × Nat)} {pos : Pos} {vs : List Nat} {tg' : Tg} {it' : It} {hc : Bool} {c' e' : Ex} (hK : X.K = C.T.K) (hcalm : X.calm = true) (hN : X.N.Nodup) (hi : PI X tg iter (tItr C W cl it')) (ok : BlkOk X.N X.env.scope scope own)
    (hg : ∀ (s : Shared) (H : Hp) (C : Addr) (cl : List (Str × Addr)) (fp : List Addr), PG (X.blk s H scope (compEnvC scope cl C X.env) fp) tg (rTg X.K tg'))
    (ht : ∀ (s : Shared) (H : Hp) (Ca : Addr) (ce : List (Str × Addr)) (fp : List Addr), PTs (X.blk s H scope (compEnvC scope ce Ca X.env) fp) ifs (tTst C.T cl hc c'))
    (he : ∀ (s : Shared) (H : Hp) (Ca : Addr) (ce : List (Str × Addr)) (fp : List Addr), PE (X.blk s H scope (compEnvC scope ce Ca X.env) fp) elt (tElt C.T cl e'))
    (hv : tgIn vs tg' = true := by decide) (hvs : own.map (·.2) = vs := by rfl) (hs : ∀ x, foldedSetIterable iter X.env x = pure x := by intro _; rfl) :
    PE X (.ListComp elt [⟨tg, iter, ifs, 0⟩] scope pos) (tI C W cl (.lc vs tg' it' hc c' e')) := by
  subst hvs
  exact peI (pe_lc hcalm hN hi ok hg ht he hs) fun σ H Q q => readLc hK hv q
/-- name = [..] on one line -/
theorem s_asgLc {i : Nat} {y : Str} {py : Pos} {elt tg iter : Expr} {ifs : List Expr} {scope : Scope} {own : List (Str × Nat)} {pos spos : Pos} {vs : List Nat} {tg' : Tg} {it' : It} {hc : Bool} {c' e' : Ex} (hK : X.K = C.T.K) (hcalm : X.calm = true) (hN : X.N.Nodup) (hy : X.N[i]? = some y) (hyl : X.env.scope.names.lookup y = some .local)
    (hsw : swapsWith (.ListComp elt [⟨tg, iter, ifs, 0⟩] scope pos) (some (.Name y py)) spos.line X.env = pure true) (hi : PI X tg iter (tItr C W cl it')) (ok : BlkOk X.N X.env.scope scope own)
    (hg : ∀ (s : Shared) (H : Hp) (C : Addr) (cl : List (Str × Addr)) (fp : List Addr), PG (X.blk s H scope (compEnvC scope cl C X.env) fp) tg (rTg X.K tg'))
    (ht : ∀ (s : Shared) (H : Hp) (Ca : Addr) (ce : List (Str × Addr)) (fp : List Addr), PTs (X.blk s H scope (compEnvC scope ce Ca X.env) fp) ifs (tTst C.T cl hc c'))
    (he : ∀ (s : Shared) (H : Hp) (Ca : Addr) (ce : List (Str × Addr)) (fp : List Addr), PE (X.blk s H scope (compEnvC scope ce Ca X.env) fp) elt (tElt C.T cl e'))
    (hv : tgIn vs tg' = true := by decide) (hvs : own.map (·.2) = vs := by rfl) (hs : ∀ x, foldedSetIterable iter X.env x = pure x := by intro _; rfl) :
    PS X (.Assign [.Name y py] (.ListComp elt [⟨tg, iter, ifs, 0⟩] scope pos) spos) (tS C W cl (.asg i (.lc vs tg' it' hc c' e'))) := by
  subst hvs
  refine psI (ps_setLc hcalm hN hy hyl hsw hi ok hg ht he hs) fun E σ H ⟨H0, env, S, q⟩ => ?_
  simp only [ex] at q
  exact readLc (Q := fun x H1 => gName i x σ H1 E.nx) hK hv (seqE S q fun u env1 v H1 H1' e1 S1 u1 q1 => by
    obtain ⟨env2, ha, q1⟩ := q1.orB
    obtain ⟨H2, e2, S2⟩ := S1.asg u1 ha
    exact q1 _ H2 H1' e2 S2)
end
end PP
end
section
set_option maxHeartbeats 1000000
namespace PP
open PySem PySem.Spec PyProof.Rows L2
section
variable {X : Cx} {C : Ctx} {W : WX} {cl : CallF} {e a b o : Expr} {es : List Expr} {e' a' b' o' : Ex} {es' : Exs} {pos : Pos}
theorem dp_lst {T : Tbl} {H0 H : Hp} {ys : List D} {ps : List PyData} {v : V} (hK : X.K = T.K) (e : Ext H0 H) (h : toPyAll ys = some ps) {dy : D} (hy : dy = .lst ys ∨ dy = .kst ys) (r : RdV T H0 H dy v) : Dp X.K H v (.list ps) := by
  rcases hy with rfl | rfl
  · exact dp_rd hK e (by simp only [toPy, h, Option.map_some]) r
  · exact dp_rd hK e (by simp only [toPy, h, Option.map_some]) r
def rNotInDT (K : PySem.W.Frag) : R2 := fun x y H Q => ∃ d ds, Dp K H x d ∧ Dp K H y (.tuple ds) ∧ SeqAt.shaped d = true ∧ SeqAt.shaped (.list ds) = true ∧ Q (.bl (!ds.any fun z => PyData.eqv z d)) H
theorem op_notInDT (hu : X.A.units + 65 < cLine) : OpR X (compareOp .NotIn) (rNotInDT X.K) := by
  intro pins s σ H x y v u Q I rx ry h
  obtain ⟨d, ds, hd, he, sd, se, q⟩ := h
  obtain ⟨as, r1⟩ := Dp.reads I d x v hd rx
  obtain ⟨bs, r2⟩ := Dp.reads I (.tuple ds) y u he ry
  exact SeqAt.notIn_tuple_reads r2 r1 (SeqAt.canLay_of_shaped se) (SeqAt.canLay_of_shaped sd) (room_in_shaped sd hu) ⟨.bl _, H, I, rfl, q⟩
theorem dp_tup {T : Tbl} {H0 H : Hp} {ys : List D} {ps : List PyData} {v : V} (hK : X.K = T.K) (e : Ext H0 H) (h : toPyAll ys = some ps) (r : RdV T H0 H (.tup ys) v) : Dp X.K H v (.tuple ps) :=
  dp_rd hK e (by simp only [toPy, h, Option.map_some]) r
theorem o_notin {T : Tbl} (hK : X.K = T.K) (hu : X.A.units + 65 < cLine) : OpR X (compareOp .NotIn) (rD T (op2 .notin)) := orI ((((op_notInD hu).or op_notIn_sign).or (op_notInDT hu)).or (op_notIn_dt (by omega))) fun x y H Q ⟨H0, dx, dy, d, e, hx, hy, hg, q⟩ => by
  rcases notin_inv hg with ⟨ys, b, h1, h2, rfl⟩ | ⟨ys, b, rfl, h2, rfl⟩ | ⟨u, z, b, rfl, rfl, h2, rfl⟩ | ⟨ks, vs, k, rfl, hk, rfl⟩
  · obtain ⟨p, ps, h3, h4, h5, h6, hb⟩ := inD_bl h2
    cases hb
    exact .inl (.inl (.inl ⟨p, ps, dp_rd hK e h3 hx, dp_lst hK e h4 h1 hy, h5, h6, q _ _ _ (Gr.rfl' e) (.flat rfl (r_bl _ _ _))⟩))
  · obtain ⟨p, ps, h3, h4, h5, h6, hb⟩ := inD_bl h2
    cases hb
    exact .inl (.inr ⟨p, ps, dp_rd hK e h3 hx, dp_tup hK e h4 hy, h5, h6, q _ _ _ (Gr.rfl' e) (.flat rfl (r_bl _ _ _))⟩)
  · obtain ⟨c, rfl, hb⟩ := inS_bl h2
    cases hb
    exact .inl (.inl (.inr ⟨c, z, rd_str hx, rd_str hy, q _ _ _ (Gr.rfl' e) (.flat rfl (r_bl _ _ _))⟩))
  · obtain ⟨a, od, es, rfl, h1, h2, h3, h4, h5⟩ := rd_dT e hy
    cases dx with
    | tup ys =>
      obtain ⟨b, rfl, h6⟩ := rd_key e hk hx
      exact .inr ⟨a, b, od, es, k, rfl, rfl, h1, h2, hK ▸ e.kt3 h4, hK ▸ h6, by rw [← getDT_some h3 h5]; exact q _ _ _ (Gr.rfl' e) (.flat rfl (r_bl _ _ _))⟩
    | _ => cases hk
end
end PP
end
section
set_option maxHeartbeats 1000000
namespace PP
open PySem PySem.Spec PyProof.Rows L2
theorem Tbl.ck_some {T : Tbl} {c : Nat} {ks : List Nat} {C : Addr} (h : T.ck c ks = some C) : T.cn c = some C ∧ ∀ k ∈ ks, T.fo c k = true := by
  unfold Tbl.ck at h
  split at h
  · rename_i z
    exact ⟨h, List.all_eq_true.mp (Bool.and_eq_true_iff.mp z).2⟩
  · cases h
theorem Tbl.ck_ec {T : Tbl} {c : Nat} {ks : List Nat} {C : Addr} (h : T.ck c ks = some C) : T.ec c = false := by
  unfold Tbl.ck at h
  split at h
  · rename_i z
    simpa using (Bool.and_eq_true_iff.mp z).1
  · cases h
theorem Tbl.cx_some {T : Tbl} {c : Nat} {ks : List Nat} {C : Addr} (h : T.cx c ks = some C) : T.cn c = some C ∧ (∀ k ∈ ks, T.fo c k = true) ∧ T.ec c = true := by
  unfold Tbl.cx at h
  split at h
  · rename_i z
    exact ⟨h, List.all_eq_true.mp (Bool.and_eq_true_iff.mp z).2, (Bool.and_eq_true_iff.mp z).1⟩
  · cases h
section
variable {T : Tbl} {H0 H : Hp} {x : V}
theorem rd_obj (e : Ext H0 H) {c : Nat} {ks : List Nat} {ds : List D} (h : RdV T H0 H (.obj c ks ds) x) :
    ∃ a C dx xs, x = .ref a ∧ T.ck c ks = some C ∧ H a = some (.ins C dx ((ks.map T.fn).zip xs)) ∧ xs.length = ks.length ∧ RepAll T H0 ds xs := by
  rcases h with h | h
  · simp only [Rep] at h
    obtain ⟨a, C, dx, xs, h1, hc, h2, h3⟩ := h
    exact ⟨a, C, dx, xs, h1, hc, e _ _ h2, h3⟩
  · obtain ⟨a, C, dx, xs, h1, h0, hc, h2, h3⟩ := h
    exact ⟨a, C, dx, xs, h1, hc, h2, h3⟩
end
/-- a field's name among the names of a class's fields -/
structure FldOk (K : PySem.W.Frag) (T : Tbl) (k : Nat) (f : Str) : Prop where
  nm : T.fn k = f
  inj : ∀ c j, T.fo c k = true → T.fo c j = true → T.fn j = f → j = k
  ok : ∀ c C, T.cn c = some C → T.fo c k = true → T.ec c = false → Cls K C ∧ NoAttr K C f
  ex : ∀ c C, T.cn c = some C → T.fo c k = true → T.ec c = true → XfC K C ∧ NoAttr K C f
theorem fld_look {T : Tbl} {H : Hp} {f : Str} {k : Nat} (hn : T.fn k = f) : ∀ {ks : List Nat} {ds : List D} {xs : List V} {z : D}, (∀ j ∈ ks, T.fn j = f → j = k) → RepAll T H ds xs → xs.length = ks.length → fldD ks ds k = some z →
    ∃ v, ((ks.map T.fn).zip xs).lookup f = some v ∧ Rep T H z v ∧ k ∈ ks
  | [], _, _, _, _, _, _, h => by simp [fldD] at h
  | j :: ks, [], _, _, _, _, _, h => by simp [fldD] at h
  | j :: ks, d :: ds, xs, z, hi, hr, hl, h => by
    obtain ⟨v, r, rfl, h1, h2⟩ := (by simpa only [RepAll] using hr : ∃ v r, xs = v :: r ∧ Rep T H d v ∧ RepAll T H ds r)
    unfold fldD at h
    simp only [List.map_cons, List.zip_cons_cons, List.lookup_cons]
    by_cases e : j = k
    · rw [if_pos e] at h
      cases h
      subst e
      rw [show (f == T.fn j) = true by rw [hn]; exact beq_self_eq_true _]
      exact ⟨v, rfl, h1, List.mem_cons_self⟩
    · rw [if_neg e] at h
      rw [show (f == T.fn j) = false by
        rw [beq_eq_false_iff_ne]
        exact fun q => e (hi j List.mem_cons_self q.symm)]
      obtain ⟨v', q1, q2, q3⟩ := fld_look hn (fun i hm => hi i (List.mem_cons_of_mem _ hm)) h2 (by simpa using hl) h
      exact ⟨v', q1, q2, List.mem_cons_of_mem _ q3⟩
section
variable {X : Cx} {C : Ctx} {W : WX} {cl : CallF} {e a b c : Expr} {es : List Expr} {e' a' b' c' : Ex} {es' : Exs} {pos : Pos}
/-- e.f, of an object or an exception -/
theorem pe_fldX {f : Str} {te : TE} (he : PE X e te) (hb : attributeBase e f X.env (eval e X.env) = eval e X.env) : PE X (.Attribute e f pos) (fun σ H Q => te σ H fun x H1 =>
    (∃ a C dx fs v, x = .ref a ∧ H1 a = some (.ins C dx fs) ∧ Cls X.K C ∧ NoAttr X.K C f ∧ fs.lookup f = some v ∧ Q v H1) ∨
    ∃ a Ca dd fs v, x = .ref a ∧ H1 a = some (ErrO Ca (some dd) a) ∧ H1 dd = some (.xd fs) ∧ fs.lookup f = some v ∧ XfC X.K Ca ∧ NoAttr X.K Ca f ∧ Q v H1) := by
  refine ⟨fun pins s σ H Q I h => ?_⟩
  refine attr_of hb (thn (he.run pins s σ H _ I h) fun u s1 ⟨x, H1, I1, rx, hq⟩ => ?_)
  rcases hq with ⟨a, C, dx, fs, v, ex, ea, c, n, l, q⟩ | ⟨a, Ca, dd, fs, v, ex, ea, ed, l, T, hno, q⟩
  · subst ex
    obtain rfl : u = Value.ref a := rx
    exact getattr_ok I1 ea c n l fun u' s2 I2 ru => ⟨v, H1, I2, ru, q⟩
  · subst ex
    obtain rfl : u = Value.ref a := rx
    have ho : ObjOk X.prog X.w H1 s1.heap a (ErrO Ca (some dd) a) := I1.hok a _ ea
    unfold ErrO at ho
    obtain ⟨⟨oe, vs, hge, hz, hd⟩, _, _⟩ := ho
    have hx : ObjOk X.prog X.w H1 s1.heap dd (.xd fs) := I1.hok dd _ ed
    obtain ⟨mA, hns, hr⟩ := hx
    obtain ⟨od, ho, hl⟩ := lookIn_ns hns
    obtain ⟨u, hu, ru⟩ := RelO.some_of (v := v) (o := mA f) (by rw [← l]; exact hr f)
    have J : PySem.W.InstAt s1.heap a oe Ca (some od) := ⟨hge, hz.1, by unfold PySem.W.notCls; rw [hd] <;> rfl, by rw [hz.2]; exact ho⟩
    exact PySem.HandSPX.exc_get I1.kIn J T.ga T.gg T.exC (PySem.W.findObj_own T.hdC hno rfl (by rw [hl, hu])) (handed_of ru) ⟨v, H1, I1.tok _, ru, q⟩
theorem fldD_mem : ∀ {ks : List Nat} {vs : List D} {k : Nat} {z : D}, fldD ks vs k = some z → k ∈ ks := by
  intro ks
  induction ks with
  | nil => intro vs k z h; simp [fldD] at h
  | cons j ks ih =>
    intro vs k z h
    cases vs with
    | nil => simp [fldD] at h
    | cons v vs =>
      unfold fldD at h
      by_cases e : j = k
      · exact e ▸ List.mem_cons_self
      · rw [if_neg e] at h; exact List.mem_cons_of_mem _ (ih h)
theorem c_fld {f : Str} {k : Nat} (hK : X.K = C.T.K) (he : PE X e (tI C W cl e')) (F : FldOk X.K C.T k f) (hb : attributeBase e f X.env (eval e X.env) = eval e X.env := by rfl) : PE X (.Attribute e f pos) (tI C W cl (.fld e' k)) :=
  peI (pe_fldX he hb) fun σ H Q ⟨H0, env, S, q⟩ => by
    simp only [ev] at q
    refine seqI S q fun u env1 x H1 H1' e1 S1 u1 q1 => ?_
    obtain ⟨d, hd, q2⟩ := q1.orB
    obtain ⟨z, hz, q3⟩ := q2.orB
    have hr := S1.rd u1 hd
    clear q1 q2
    cases d with
    | obj c ks vs =>
      obtain ⟨p, Ca, dx, xs, rfl, hc, hp, hl, ha⟩ := rd_obj S1.ex hr
      obtain ⟨hc1, hc2⟩ := Tbl.ck_some hc
      have hk : k ∈ ks := by
        have : ∀ {ks : List Nat} {vs : List D} {z : D}, fldD ks vs k = some z → k ∈ ks := by
          intro ks
          induction ks with
          | nil => intro vs z h; simp [fldD] at h
          | cons j ks ih =>
            intro vs z h
            cases vs with
            | nil => simp [fldD] at h
            | cons v vs =>
              unfold fldD at h
              by_cases e : j = k
              · exact e ▸ List.mem_cons_self
              · rw [if_neg e] at h; exact List.mem_cons_of_mem _ (ih h)
        exact this hz
      obtain ⟨v, l1, l2, _⟩ := fld_look F.nm (fun j hj => F.inj c j (hc2 k hk) (hc2 j hj)) ha hl hz
      obtain ⟨o1, o2⟩ := F.ok c Ca hc1 (hc2 k hk) (Tbl.ck_ec hc)
      exact .inl ⟨p, Ca, dx, _, v, rfl, hp, o1, o2, l1, q3 H1 H1' (Ext.rfl' _) S1 v l2⟩
    | err c ks vs =>
      have hk := fldD_mem hz
      rcases hr with hr | hr
      · simp only [Rep] at hr
        obtain ⟨a, Ca, dx, rfl, hc, hp, hr⟩ := hr
        obtain ⟨hc1, hc2, hc3⟩ := Tbl.cx_some hc
        rcases hr with ⟨hr, _⟩ | ⟨dd, xs, rfl, hdd, hl, ha⟩
        · subst hr; cases hk
        · obtain ⟨v, l1, l2, _⟩ := fld_look F.nm (fun j hj => F.inj c j (hc2 k hk) (hc2 j hj)) ha hl hz
          obtain ⟨o1, o2⟩ := F.ex c Ca hc1 (hc2 k hk) hc3
          exact .inr ⟨a, Ca, dd, _, v, rfl, S1.ex _ _ hp, S1.ex _ _ hdd, l1, o1, o2, q3 H1 H1' (Ext.rfl' _) S1 v l2⟩
      · exact hr.elim
    | _ => cases hz
theorem put_zip {T : Tbl} {H : Hp} {f : Str} {k : Nat} (hn : T.fn k = f) {z : D} {v : V} (hz : Rep T H z v) : ∀ {ks : List Nat} {ds : List D} {xs : List V}, (∀ j ∈ ks, T.fn j = f → j = k) → RepAll T H ds xs → xs.length = ks.length → ds.length = ks.length →
    ∃ xs', putF f v ((ks.map T.fn).zip xs) = (((putD ks ds k z).1.map T.fn).zip xs') ∧ xs'.length = (putD ks ds k z).1.length ∧ RepAll T H (putD ks ds k z).2 xs' ∧ ∀ j ∈ (putD ks ds k z).1, j ∈ ks ∨ j = k
  | [], [], xs, _, hr, _, _ => by
    simp only [RepAll] at hr
    subst hr
    refine ⟨[v], ?_, rfl, ?_, ?_⟩
    · simp [putF, putD, hn]
    · simp only [putD, RepAll]; exact ⟨v, [], rfl, hz, rfl⟩
    · intro j hj; simp [putD] at hj; exact .inr hj
  | [], _ :: _, _, _, _, _, h => by simp at h
  | _ :: _, [], _, _, _, _, h => by simp at h
  | j :: ks, d :: ds, xs, hi, hr, hl, hd => by
    obtain ⟨w, r, rfl, h1, h2⟩ := (by simpa only [RepAll] using hr : ∃ v r, xs = v :: r ∧ Rep T H d v ∧ RepAll T H ds r)
    unfold putD
    simp only [List.map_cons, List.zip_cons_cons]
    by_cases e : j = k
    · subst e
      simp only [if_true]
      refine ⟨v :: r, ?_, by simpa using hl, ?_, fun i hi => .inl hi⟩
      · simp [putF, hn]
      · simp only [RepAll]; exact ⟨v, r, rfl, hz, h2⟩
    · have ne : T.fn j ≠ f := fun q => e (hi j List.mem_cons_self q)
      obtain ⟨xs', q1, q2, q3, q4⟩ := put_zip hn hz (fun i hm => hi i (List.mem_cons_of_mem _ hm)) h2 (by simpa using hl) (by simpa using hd)
      simp only [if_neg e]
      refine ⟨w :: xs', ?_, by simp [q2], ?_, ?_⟩
      · simp only [putF, if_neg ne, q1, List.map_cons, List.zip_cons_cons]
      · simp only [RepAll]; exact ⟨w, xs', rfl, h1, q3⟩
      · intro i hm
        simp only [List.mem_cons] at hm ⊢
        rcases hm with rfl | hm
        · exact .inl (.inl rfl)
        · rcases q4 i hm with z | z
          · exact .inl (.inr z)
          · exact .inr z
/-- an owned object at a slot -/
theorem Sim.ob (S : Sim C σ H0 H env) {i c : Nat} {ks : List Nat} {vs : List D} (h : getS env i = .ow (.obj c ks vs) ∨ getS env i = .io (.obj c ks vs)) :
    ∃ a, σ[i]? = some (some (.ref a)) ∧ ownS (getS env i) = true ∧ RepO C.T H0 H (.obj c ks vs) (.ref a) := by
  have hi := S.slots i
  rcases h with z | z
  · rw [z] at hi ⊢
    obtain ⟨a, h1, _, h3⟩ := hi
    exact ⟨a, h1, rfl, h3⟩
  · rw [z] at hi ⊢
    obtain ⟨a, h1, _, h3⟩ := hi
    exact ⟨a, h1, rfl, h3⟩
theorem UcOk.app {σ : L2.St} {H0 : Hp} {ds : List D} {dvs : List V} (hd : RepAll C.T H0 ds dvs) : ∀ {us : List U} {vs : List V}, UcOk C σ H0 us vs → UcOk C σ H0 (us ++ ds.map .d) (vs ++ dvs)
  | [], _, h => by
    cases h
    induction ds generalizing dvs with
    | nil => simp only [RepAll] at hd; subst hd; rfl
    | cons d ds ih =>
      simp only [RepAll] at hd
      obtain ⟨v, r, rfl, h1, h2⟩ := hd
      exact ⟨v, r, rfl, h1, ih h2⟩
  | .d x :: us, _, h => by obtain ⟨v, r, rfl, h1, h2⟩ := h; exact ⟨v, r ++ dvs, rfl, h1, UcOk.app hd h2⟩
  | .sl i :: us, _, h => by obtain ⟨v, r, rfl, h1, h2⟩ := h; exact ⟨v, r ++ dvs, rfl, h1, UcOk.app hd h2⟩
  | .nw _ :: _, _, h => h.elim
end
end PP
end
section
set_option maxHeartbeats 2000000
namespace PySem.W
open PySem PySem.Spec PySem.Calls PyProof.Rows
section
variable {prog : Program} {w : World} {A : Around} {E : Value → Shared → Prop} {s : Shared} {K : Frag} {x D : Addr} {ox : Obj} {od : Option Obj}
theorem pp_dataD {C : Addr} {name : Str} {a g : Value} (hc : (clsIn K C).isSome = true) (ha : findIn K (.ref C) name = some (some a)) (hg : specialIn K a "__get__" = some (some g)) (ht : takesIn K a = some true) : findObj K C od name = some (.bind g a) := by
  obtain ⟨cd, hc⟩ := Option.isSome_iff_exists.mp hc
  unfold findObj
  rw [hc, Option.bind_some, ha, Option.bind_some]
  simp [hg, ht]
theorem pp_classE {Q : Option Value → Shared → Prop} (hga : findIn K (.ref D) "__getattribute__" = some (some (.builtin "BaseException.__getattribute__"))) (hgt : findIn K (.ref D) "__getattr__" = some none) (hsub : subIn K (.ref D) (.type "BaseException") = some true)
    (hdct : hasDictIn K D = true) (ha : findIn K (.ref D) "__class__" = some (some (.builtin "object.__class__")))
    (hn : specialIn K (.builtin "object.__class__") "__get__" = some (some (.builtin "getset_descriptor.__get__"))) (htk : takesIn K (.builtin "object.__class__") = some true) (hm : mroIn K D (.type "object") = some true)
    (X : K.In s.heap) (I : InstAt s.heap x ox D od) (h : Q (some (.ref D)) { s with toks := s.toks + 1 }) : wpAny (model prog w) A (getAttr? (.ref x) "__class__") Q E s := by
  have hf : findObj K D od "__class__" = some (.bind (.builtin "getset_descriptor.__get__") (.builtin "object.__class__")) := pp_dataD (by obtain ⟨cd, hc, _⟩ := any_some hdct; rw [hc]; rfl) ha hn htk
  obtain ⟨hp, g, d, t, os⟩ := s
  have L0 := I.type (M := model prog w)
  have L1 := looks_findIn (M := model prog w) X hga
  have L2 := looks_findIn (M := model prog w) X hgt
  have L3 := looks_find (M := model prog w) X I hf
  have sub : Looks (model prog w) hp (isInstance (.ref x) (.type "BaseException")) true := L0.andThen (looks_subIn X hsub)
  have hx0 : (false && onTheHeap (Value.builtin "BaseException.__getattribute__")) = false := rfl
  have hx2 : (Value.builtin "BaseException.__getattribute__" == Value.builtin "object.__getattribute__") = false := by decide +kernel
  have hx1 : (onTheHeap (Value.ref D) && Value.builtin "BaseException.__getattribute__" == Value.builtin "object.__getattribute__") = false := by rw [hx2]; rfl
  unfold getAttr? getAttrBy? getAttrBy
  refine wpAny_bind (wpAny_mkText (wpAny_bind (wpAny_attempt (wpAny_holding (wpAny_bind (L0.at (wpAny_bind (L1.at ?_))))))))
  show wpAny _ _ (if (onTheHeap (Value.ref D) && Value.builtin "BaseException.__getattribute__" == Value.builtin "object.__getattribute__") = true then _ else _) _ _ _
  rw [hx1, if_neg Bool.false_ne_true]
  unfold getAttrByItsOwn hookBefore
  refine wpAny_bind ?_
  rw [if_pos (show onTheHeap (Value.ref D) = true from rfl)]
  refine L2.at ?_
  refine wpAny_bind (wpAny_attempt (wpAny_holding ?_))
  unfold callGetattribute
  rw [hx0, if_neg Bool.false_ne_true]
  unfold boundAndCalled
  rw [PySem.F.excAttr_ValueError.ga.bind (.ref x)]
  refine wpAny_bind (wpAny_pure ?_)
  show wpAny _ _ (call (.builtin "BaseException.__getattribute__") [.ref x, .str "__class__" t]) _ _ _
  refine wpAny_call (codeAny_call_builtin PySem.F.excAttr_ValueError.ga.plain PySem.F.entry_bexc_ga ?_)
  refine @check_slot (model prog w) _ _ ⟨hp, g, d, t + 1, os⟩ "BaseException.__getattribute__" "BaseException" "__getattribute__" (.ref x) [.str "__class__" t] [] _ (by decide +kernel) (by decide +kernel) sub (PySem.F.args_bexc_ga (.ref x) (.str "__class__" t)) ?_
  unfold Builtin.«object.__getattribute__»
  refine wpAny_bind (wpAny_of_eq (a := ((Value.ref x : Value), [Value.str "__class__" t])) (by first | rfl | (simp only [slotArgs]; rfl)) ?_)
  refine wpAny_bind (wpAny_pure (wpAny_bind (L0.at (wpAny_bind (L3.at ?_)))))
  show wpAny _ _ (holding [Value.builtin "object.__class__"] (call (.builtin "getset_descriptor.__get__") [.builtin "object.__class__", .ref x, .ref D]) >>= ret) _ _ _
  refine wpAny_bind (wpAny_holding (wpAny_call (class_get (s := ⟨hp, g, d, t + 1, os⟩) (ox := ox) (od := od) X I hm ?_)))
  refine wpAny_pure ?_
  show wpAny _ _ (handedOut (.ref D)) _ _ _
  rw [handedOut_of (v := .ref D) rfl]
  first
    | exact wpAny_pure (wpAny_pure h)
    | exact wpAny_pure h
    | exact wpAny_pure (wpAny_bind (wpAny_pure (wpAny_pure h)))
theorem pp_kitE (hga : findIn K (.ref D) "__getattribute__" = some (some (.builtin "BaseException.__getattribute__"))) (hgt : findIn K (.ref D) "__getattr__" = some none) (hsub : subIn K (.ref D) (.type "BaseException") = some true) (hdct : hasDictIn K D = true) (ha : findIn K (.ref D) "__class__" = some (some (.builtin "object.__class__")))
    (hn : specialIn K (.builtin "object.__class__") "__get__" = some (some (.builtin "getset_descriptor.__get__"))) (htk : takesIn K (.builtin "object.__class__") = some true) (hm : mroIn K D (.type "object") = some true) :
    KitX K (.ref x) (.ref D) (fun h => InstAt h x ox D od) where
  ty := fun _ _ _ I => I.type
  it := fun _ _ X _ => by
    obtain ⟨cdD, hcD, _⟩ := any_some hdct
    unfold clsIn at hcD
    split at hcD
    · rename_i c' d' cd' sl' ho
      intro A' Q' E' s' k q
      unfold isType loadHead
      exact wpAny_bind (wpAny_loadPart (k _ _ (X _ _ ho)) (wpAny_pure q))
    · cases hcD
  ne := fun h tp dd its n sl X htp => by
    obtain ⟨cdD, hcD, _⟩ := any_some hdct
    refine Bool.eq_false_iff.mpr fun q => ?_
    have e : D = tp := Value.ref.inj (beq_iff_eq.mp q)
    subst e
    unfold clsIn at hcD
    split at hcD
    · rename_i c' d' cd' sl' ho
      have z := (X _ _ ho).symm.trans htp
      cases z
    · cases hcD
  ca := fun X I k => pp_classE hga hgt hsub hdct ha hn htk hm X I k
end
end PySem.W
namespace PP
open PySem PySem.Spec PyProof.Rows L2
/-- an exception at a, as the heap tells of it -/
def ExcAt (H : Hp) (a Ca : Addr) : Prop := ∃ d, H a = some (ErrO Ca d a) ∧ (d = none ∨ ∃ dd fs, d = some dd ∧ H dd = some (.xd fs))
theorem exc_inst {X : Cx} {pins : List (Addr × Obj)} {σ : L2.St} {H : Hp} {s : Shared} {a Ca : Addr} (I : Inv X pins σ H s) (h : ExcAt H a Ca) : ∃ (oe : Obj) (od : Option Obj), PySem.W.InstAt s.heap a oe Ca od := by
  obtain ⟨d, ha, hd⟩ := h
  have ho : ObjOk X.prog X.w H s.heap a (ErrO Ca d a) := I.hok a _ ha
  unfold ErrO at ho
  obtain ⟨⟨oe, vs, hge, hz, hdt⟩, _, _⟩ := ho
  have nc : PySem.W.notCls oe = true := by unfold PySem.W.notCls; rw [hdt] <;> rfl
  rcases hd with rfl | ⟨dd, fs, rfl, hdd⟩
  · exact ⟨oe, none, hge, hz.1, nc, by rw [hz.2]; trivial⟩
  · have hx : ObjOk X.prog X.w H s.heap dd (.xd fs) := I.hok dd _ hdd
    obtain ⟨mA, ⟨od, es, ep, ho, _⟩, _⟩ := hx
    exact ⟨oe, some od, hge, hz.1, nc, by rw [hz.2]; exact ho⟩
/-- isinstance(e, c), e an exception that is tracked -/
def rIsX (K : PySem.W.Frag) : List V → Hp → VK → Prop := fun xs H Q => ∃ (a Ca : Addr) (c : V) (cv : Value) (b : Bool), xs = [.ref a, c] ∧ ExcAt H a Ca ∧ ExcC K Ca ∧ (∀ u, RelV c u → u = cv) ∧ PySem.W.kitOne K (.ref Ca) cv = some b ∧ Q (.bl b) H
theorem call_isX {X : Cx} : CallR X (.builtin "isinstance") (rIsX X.K) := by
  intro pins s σ H xs us Q I r h
  obtain ⟨a, Ca, c, cv, b, rfl, hx, C, hcv, e, q⟩ := h
  cases r with
  | cons rx rr =>
    cases rr with
    | cons rt rr =>
      cases rr
      cases rx
      have ec := hcv _ rt
      subst ec
      obtain ⟨oe, od, J⟩ := exc_inst I hx
      exact PySem.W.kia_one (PySem.W.pp_kitE C.hg C.hk C.hs C.hd C.ha C.hn C.ht C.hm) I.kIn J e (fun z => nomatch z) fun tk => ⟨.bl b, H, I.kept (t' := tk) fun _ _ z => z, rfl, q⟩
theorem rd_err {T : Tbl} {H0 H : Hp} (e : Ext H0 H) {c : Nat} {ks : List Nat} {vs : List D} {x : V} (h : RdV T H0 H (.err c ks vs) x) : ∃ a Ca, x = .ref a ∧ T.cn c = some Ca ∧ T.ec c = true ∧ ExcAt H a Ca := by
  rcases h with h | h
  · simp only [Rep] at h
    obtain ⟨a, Ca, d, rfl, hc, hp, hr⟩ := h
    obtain ⟨hc1, _, hc3⟩ := Tbl.cx_some hc
    refine ⟨a, Ca, rfl, hc1, hc3, d, e _ _ hp, ?_⟩
    rcases hr with ⟨_, rfl⟩ | ⟨dd, xs, rfl, hdd, _⟩
    · exact .inl rfl
    · exact .inr ⟨dd, _, rfl, e _ _ hdd⟩
  · exact h.elim
end PP
end
section
set_option maxHeartbeats 1000000
namespace PP
open PySem PySem.Spec PyProof.Rows L2
end PP
end
section
set_option maxHeartbeats 1000000
namespace PP
open PySem PySem.Spec PyProof.Rows L2
section
variable {X : Cx} {C : Ctx} {W : WX} {cl : CallF} {e a b : Expr} {es : List Expr} {e' a' b' : Ex} {es' : Exs} {pos : Pos}
/-- what isinstance asks, for an own class u at T.cn k and each other one -/
structure IsO (X : Cx) (T : Tbl) (cs : List Nat) (u : Value) : Prop where
  ty : ∀ d : D, isObjD d = false → PySem.W.kitOne X.K (.type (tyN d)) u = some false
  ex : ∀ c C, T.cn c = some C → T.ec c = true → ExcC X.K C ∧ PySem.W.kitOne X.K (.ref C) u = some (cs.contains c)
  ob : ∀ c C, T.cn c = some C → T.ec c = false → PySem.W.kitOne X.K (.ref C) u = some (cs.contains c) ∧ Cls X.K C ∧ PySem.W.findIn X.K (.ref C) "__class__" = some (some (.builtin "object.__class__")) ∧ PySem.W.specialIn X.K (.builtin "object.__class__") "__get__" = some (some (.builtin "getset_descriptor.__get__")) ∧
    PySem.W.takesIn X.K (.builtin "object.__class__") = some true ∧ PySem.W.mroIn X.K C (.type "object") = some true
theorem c_isO {p : Pos} {cs : List Nat} {Cu : Addr} (hK : X.K = C.T.K) (IO : IsO X C.T cs (.ref Cu)) (hg : Gl X "isinstance") (hm : X.mg "isinstance" = none)
    (ha : PE X e (tI C W cl e')) (hb : PE X b (tC (.ref Cu))) (he : starEach [e, b] X.env = (false, eval e X.env) :: starEach [b] X.env := by rfl) (he2 : starEach [b] X.env = (false, eval b X.env) :: starEach [] X.env := by rfl)
    (hpl : (backTo pos (starEach [b] X.env)).any (·.1) = false := by rfl) : PE X (.Call (.Name "isinstance" p) [e, b] [] pos) (tI C W cl (.isObj cs e')) :=
  peI (pe_callB (call_isi.or call_isX) hg hm (by decide +kernel) (pa_cons ha (pa_cons hb pa_nil he2) he) (by decide) (by decide) he hpl) fun σ H Q ⟨H0, env, S, q⟩ => by
    simp only [ev] at q
    refine seqI S q fun u env1 v H1 H1' e1 S1 u1 q1 => ?_
    obtain ⟨d, hd, q2⟩ := q1.orB
    have r := S1.rd u1 hd
    cases hod : isObjD d with
    | false =>
      have eb : isObjOf cs d = false := by cases d <;> first | rfl | cases hod
      have ec : isClsD d = false := by cases d <;> first | rfl | cases hod
      rw [eb, ec] at q2
      exact .inl ⟨v, _, _, _, false, rfl, .own Cu, tyx hK S1.ex r hod, IO.ty d hod, fin_nw S1 q2 (Gr.rfl' S1.ex) (.flat rfl (r_bl _ _ _))⟩
    | true =>
      cases d with
      | obj c ks vs =>
        obtain ⟨pp, Ca, dx, xs, rfl, hck, hp, _⟩ := rd_obj S1.ex r
        obtain ⟨h1, h2, h3, h4, h5, h6⟩ := IO.ob c Ca (Tbl.ck_some hck).1 (Tbl.ck_ec hck)
        exact .inl ⟨_, _, _, _, cs.contains c, rfl, .own Cu, .base (.ins hp h2 h3 h4 h5 h6), h1, fin_nw S1 q2 (Gr.rfl' S1.ex) (.flat rfl (r_bl _ _ _))⟩
      | err c ks vs =>
        obtain ⟨a, Ca, rfl, hcn, hec, hx⟩ := rd_err S1.ex r
        obtain ⟨h1, h2⟩ := IO.ex c Ca hcn hec
        exact .inr ⟨a, Ca, _, _, cs.contains c, rfl, hx, h1, fun u hu => hu, h2, fin_nw S1 q2 (Gr.rfl' S1.ex) (.flat rfl (r_bl _ _ _))⟩
      | cls c => exact q2.elim
      | dT ks vs => exact q2.elim
      | _ => cases hod
end
end PP
end
section
set_option maxHeartbeats 1000000
namespace PySem.W
open PySem PySem.Calls PyProof.Rows
end PySem.W
namespace PP
open PySem PySem.Spec PyProof.Rows L2
end PP
end
section
set_option maxHeartbeats 2000000
namespace PP
open PySem PySem.Spec PyProof.Rows L2
theorem RepAll.rev {T : Tbl} {H : Hp} : ∀ {ds : List D} {vs : List V}, RepAll T H ds vs → RepAll T H ds.reverse vs.reverse
  | [], _, h => by simp only [RepAll] at h; subst h; simp [RepAll]
  | d :: ds, _, h => by
    simp only [RepAll] at h
    obtain ⟨v, r, rfl, h2, h3⟩ := h
    rw [List.reverse_cons, List.reverse_cons]
    exact (RepAll.rev h3).app (by simp only [RepAll]; exact ⟨v, [], rfl, h2, rfl⟩)
theorem zip_rev {α β : Type} : ∀ {xs : List α} {ys : List β}, xs.length = ys.length → (xs.zip ys).reverse = xs.reverse.zip ys.reverse
  | [], [], _ => rfl
  | [], _ :: _, h => by simp at h
  | _ :: _, [], h => by simp at h
  | x :: xs, y :: ys, h => by
    rw [List.zip_cons_cons, List.reverse_cons, List.reverse_cons, List.reverse_cons, zip_rev (by simpa using h), List.zip_append (by simpa using h)]
    rfl
/-- what an exception's own __init__ keeps -/
def spI (Ca : Addr) (ns : List Str) : Sp := fun vs H Q _ => ∃ a ys, vs = .ref a :: ys ∧ ys.length = ns.length ∧ H a = some (exo a Ca none) ∧
  ∀ dx, H dx = none → dx ≠ a → Q .non (upd (upd H dx (exd dx ((ns.zip ys).reverse))) a (exo a Ca (some dx)))
theorem exc_fn1 {P : Program} {w : World} {K : PySem.W.Frag} {mg : Str → Option Value} {base : Heap} {x qual f1 : Str} {st : Stmt} {f Ca : Addr} {fd : FuncData} {N ps : List Str} {k : Nat} (Fu : FunV K x qual st f fd) (S : FnScope N ps (defScope st)) (hp : ps.length = 2)
    (T : OexC K Ca) (hno : PySem.W.findIn K (.ref Ca) f1 = some none)
    (hb : ∀ {X : Cx}, (∃ (cdv : Value) (A : Around) (outer : List PySem.Env) (s : Shared) (H : Hp) (E : XK), X = cxOf (L2.CX P w) P w K mg base N qual (defScope st) f cdv A outer s H E) → PSs X (defBody st) (tSeq (tOst K f1 (tVar 0) (tVar 1)) tNext)) :
    FnG P w K mg base (k + 1) f fd ps (spI Ca [f1]) := by
  refine FnG.of Fu S (fun vs H Q E ⟨a, ys, e, h, _⟩ => by rw [e, List.length_cons, h, hp]; rfl) fun cdv hcd A outer s H vs Q E hg hr hsp => ?_
  refine ⟨_, hb ⟨cdv, A, outer, s, H, E, rfl⟩, ?_⟩
  obtain ⟨a, ys, rfl, hl, ha, q⟩ := hsp
  match ys, hl with
  | [y], _ =>
    refine ⟨y, rfl, .ref a, rfl, a, Ca, rfl, T, hno, .inl ⟨ha, fun dx hd hne => ?_⟩⟩
    exact q dx hd hne
theorem exc_fn2 {P : Program} {w : World} {K : PySem.W.Frag} {mg : Str → Option Value} {base : Heap} {x qual f1 f2 : Str} {st : Stmt} {f Ca : Addr} {fd : FuncData} {N ps : List Str} {k : Nat} (Fu : FunV K x qual st f fd) (S : FnScope N ps (defScope st)) (hp : ps.length = 3)
    (T : OexC K Ca) (hno1 : PySem.W.findIn K (.ref Ca) f1 = some none) (hno2 : PySem.W.findIn K (.ref Ca) f2 = some none)
    (hb : ∀ {X : Cx}, (∃ (cdv : Value) (A : Around) (outer : List PySem.Env) (s : Shared) (H : Hp) (E : XK), X = cxOf (L2.CX P w) P w K mg base N qual (defScope st) f cdv A outer s H E) → PSs X (defBody st) (tSeq (tOst K f1 (tVar 0) (tVar 1)) (tSeq (tOst K f2 (tVar 0) (tVar 2)) tNext))) :
    FnG P w K mg base (k + 1) f fd ps (spI Ca [f1, f2]) := by
  refine FnG.of Fu S (fun vs H Q E ⟨a, ys, e, h, _⟩ => by rw [e, List.length_cons, h, hp]; rfl) fun cdv hcd A outer s H vs Q E hg hr hsp => ?_
  refine ⟨_, hb ⟨cdv, A, outer, s, H, E, rfl⟩, ?_⟩
  obtain ⟨a, ys, rfl, hl, ha, q⟩ := hsp
  match ys, hl with
  | [y, z], _ =>
    refine ⟨y, rfl, .ref a, rfl, a, Ca, rfl, T, hno1, .inl ⟨ha, fun dx hd hne => ?_⟩⟩
    refine ⟨z, rfl, .ref a, rfl, a, Ca, rfl, T, hno2, .inr ⟨dx, [(f1, y)], upd_same, by rw [upd_ne hne, upd_same], by simp, ?_⟩⟩
    have e : upd (upd (upd H dx (exd dx [(f1, y)])) a (exo a Ca (some dx))) dx (exd dx ((f2, z) :: [(f1, y)])) = upd (upd H dx (exd dx [(f2, z), (f1, y)])) a (exo a Ca (some dx)) := by
      funext b
      by_cases h1 : b = dx
      · subst h1; rw [upd_same, upd_ne hne, upd_same]
      · rw [upd_ne h1]
        by_cases h2 : b = a
        · subst h2; rw [upd_same, upd_same]
        · rw [upd_ne h2, upd_ne h2, upd_ne h1, upd_ne h1]
    rw [e]
    exact q dx hd hne
section
variable {X : Cx} {C : Ctx} {W : WX} {cl : CallF} {e a b c : Expr} {es : List Expr} {e' a' b' c' : Ex} {es' : Exs} {pos : Pos}
/-- C(e, ..), an exception is made -/
def tMkX (Ca : Addr) (ns : List Str) (ta : TA) : L2.St → Hp → XK → Prop := fun σ H Q => ta σ H fun vs H1 => vs.length = ns.length ∧ ∀ d, H1 d = none → Q (.ref Ca) (some d) (upd H1 d (.xd ((ns.zip vs).reverse)))
theorem pmk_X {x : Str} {Ca fI : Addr} {k : Nat} {fd : FuncData} {ps ns : List Str} {ta : TA} {p : Pos} (T : OexC X.K Ca) (iC : PySem.W.findIn X.K (.ref Ca) "__init__" = some (some (.ref fI))) (tI : PySem.W.typeIn X.K (.ref fI) = some (.type "function"))
    (F1 : FnG X.prog X.w X.K X.mg X.base k fI fd ps (spI Ca ns)) (hgd : X.A.guards = some []) (hr : Room (k + 1) X.A) (hb : Binds X.K fd ps []) (tk : Takes X W) (hlen : ns.length ≤ 100) (hg : Gl X x) (hm : X.mg x = some (.ref Ca)) (ha : PA X (e :: es) ta)
    (hdb : (x == ("__debug__" : Str)) = false := by decide) (he : starEach (e :: es) X.env = (false, eval e X.env) :: starEach es X.env := by rfl) (hpl : (backTo pos (starEach es X.env)).any (·.1) = false := by rfl) :
    PMk X (.Call (.Name x p) (e :: es) [] pos) (tMkX Ca ns ta) := by
  intro pins s σ H Q I h
  obtain ⟨nm, q, N, bs, bm, sn, sub, ab, col, dd, k0, k1, k2, k3, k5, hC, hbm⟩ := T.cls
  refine wpAny_Call_Name_kw (ld_glob I hg hm ?_ hdb)
  refine PySem.W.callWith_K (h₀ := X.base) I.ok.mod.kin T.kC (thn (ha.run pos pins s σ H _ I h) fun us s1 ⟨vs, H1, I1, r1, hz, q1⟩ => ⟨I1.kIn, ?_⟩) he hpl
  show wpAny _ _ (call (.ref Ca) us) _ _ _
  obtain ⟨hp, g, dr, tk1, os⟩ := s1
  have hsz : hp.objs.size ≤ hp.objs.size + 1 := Nat.le_succ _
  have hn : H1 (hp.objs.size + 1) = none := I1.hok.fresh hsz
  have kk : ∀ b o, hp.get? b = some o → ((hp.push (PySem.W.kdv_tup us)).push (PySem.HandSPX.excO Ca hp.objs.size)).get? b = some o := fun b o e => Heap.get?_push_of_some _ (Heap.get?_push_of_some _ e)
  have hget : ((hp.push (PySem.W.kdv_tup us)).push (PySem.HandSPX.excO Ca hp.objs.size)).get? (hp.objs.size + 1) = some (PySem.HandSPX.excO Ca hp.objs.size) := by heap_get
  have I2 : Inv X pins σ (upd H1 (hp.objs.size + 1) (exo (hp.objs.size + 1) Ca none)) ⟨(hp.push (PySem.W.kdv_tup us)).push (PySem.HandSPX.excO Ca hp.objs.size), g, dr, tk1, os⟩ :=
    I1.laid (t' := tk1) (a := hp.objs.size + 1) (o := exo (hp.objs.size + 1) Ca none) (h' := (hp.push (PySem.W.kdv_tup us)).push (PySem.HandSPX.excO Ca hp.objs.size)) kk hsz (exo_ok hget)
  have hq : spI Ca ns (.ref (hp.objs.size + 1) :: vs) (upd H1 (hp.objs.size + 1) (exo (hp.objs.size + 1) Ca none))
      (fun v H2 => v = .non ∧ ∃ (d : Addr) (fs : List (Str × V)), H2 (hp.objs.size + 1) = some (exo (hp.objs.size + 1) Ca (some d)) ∧ H2 d = some (exd d fs) ∧ H1 d = none ∧ Q (.ref Ca) (some d) (upd (del H2 (hp.objs.size + 1)) d (.xd fs))) (fun _ _ _ => False) := by
    refine ⟨_, vs, rfl, hz, upd_same, fun dx hd hne => ⟨rfl, dx, _, upd_same, by rw [upd_ne hne, upd_same], ?_, ?_⟩⟩
    · rw [upd_ne hne] at hd; exact hd
    · have hd1 : H1 dx = none := by rw [upd_ne hne] at hd; exact hd
      have ee : upd (del (upd (upd (upd H1 (hp.objs.size + 1) (exo (hp.objs.size + 1) Ca none)) dx (exd dx ((ns.zip vs).reverse))) (hp.objs.size + 1) (exo (hp.objs.size + 1) Ca (some dx))) (hp.objs.size + 1)) dx (.xd ((ns.zip vs).reverse)) = upd H1 dx (.xd ((ns.zip vs).reverse)) := by
        funext b
        by_cases h1 : b = dx
        · subst h1; rw [upd_same, upd_same]
        · rw [upd_ne h1, upd_ne h1]
          by_cases h2 : b = hp.objs.size + 1
          · subst h2; rw [del_same, hn]
          · rw [del_ne h2, upd_ne h2, upd_ne h1, upd_ne h2]
      rw [ee]
      exact q1 dx hd1
  have r2 : Vals (V.ref (hp.objs.size + 1) :: vs) (Value.ref (hp.objs.size + 1) :: us) := .cons rfl r1
  have hl : (Value.ref (hp.objs.size + 1) :: us ++ []).length = ps.length := by
    have e := r2.length
    rw [F1.len _ _ _ _ hq] at e
    rw [List.append_nil]
    exact e.symm
  have hus : us.length ≤ sizeLine := by
    rw [← Paired.length r1, hz, sizeLine_eq]
    omega
  have hb2 := hb ⟨(hp.push (PySem.W.kdv_tup us)).push (PySem.HandSPX.excO Ca hp.objs.size), g, dr, tk1, os⟩ (Value.ref (hp.objs.size + 1) :: us) I2.kIn hl
  refine wpAny_call (PySem.HandSPX.call_own F.excBase_ValueError (fun Y => PySem.HandSPX.refsVE_contains Y bm hbm) (I1.kIn _ _ hC) (PySem.W.looks_findIn I1.kIn iC) (fun self => PySem.W.bind_fn I1.kIn self tI) hus
    (codeAny_mono (F1.run _ X.stack _ _ ⟨Value.ref (hp.objs.size + 1) :: us, []⟩ (Value.ref (hp.objs.size + 1) :: us) _ _ (fun _ _ _ => False) hgd (hr.make Ca us []) (I2.env0.make Ca us []) (by simpa using hb2) r2 hq) fun r s' hq' => ?_))
  cases r with
  | error er => exact (passes_call (W := fun _ _ _ _ => False) (Takes.imp tk fun _ _ _ _ z => z.elim) (fun _ _ _ _ z => z)) pins σ _ _ er s' I2 hq'
  | ok fl =>
    cases fl with
    | ret u =>
      obtain ⟨v, H2, os2, bare2, un2, hok2, rv, ev, d, fs, ea, ed, hd1, q2⟩ := hq'
      subst ev
      obtain ⟨h2, g2, d2, t2, os'⟩ := s'
      exact ⟨rv, mk_end (raises_own T.exC T.tyC) I1 hsz kk un2 hok2 os2 bare2 ea ed hd1 q2⟩
    | next => exact False.elim hq'
    | brk => exact False.elim hq'
    | cont => exact False.elim hq'
/-- a made exception as a value -/
theorem pe_ofMk {t : L2.St → Hp → XK → Prop} (h : PMk X e t) : PE X e (fun σ H Q => t σ H fun cls d H' => ∃ Ca, cls = .ref Ca ∧ ∀ a, H' a = none → Q (.ref a) (upd H' a (ErrO Ca d a))) := by
  refine ⟨fun pins s σ H Q I hh => ?_⟩
  refine wpAny_mono (h pins s σ H _ I hh) (fun u s1 hu => ?_) fun _ _ x => x
  obtain ⟨a, oe, vs, sI, H', cls, d, rfl, J, k, hne, ha, hz, hd, h1, na, os, ag, r, Ca, rfl, q⟩ := hu
  have new : ObjOk X.prog X.w (upd H' a (ErrO Ca d a)) s1.heap a (ErrO Ca d a) := ⟨⟨oe, vs, ha, hz, hd⟩, ⟨oe, ha⟩, fun _ _ ⟨o, v, q, r⟩ k => ⟨o, v, k o q, r⟩⟩
  have K1 := J.call (ch := []) (h' := s1.heap) (g' := s1.gens) (t' := s1.toks) (d' := s1.drawn) (H' := upd H' a (ErrO Ca d a)) (Un.laidN k hne na) (J.hok.laidN k na new) ag (fun _ z => nomatch z)
  obtain ⟨a1, a2, a3, a4, a5⟩ := s1
  have e5 : a5 = sI.os := os
  subst e5
  exact ⟨.ref a, _, K1, rfl, q a na⟩
theorem made_rep {σ : L2.St} {H1 H1' : Hp} {env1 : Env} {ds : List D} {vs : List V} {c : Nat} {ks : List Nat} {ns : List Str} {Ca d a : Addr} (hcx : C.T.cx c ks = some Ca) (hns : ks.map C.T.fn = ns.reverse) (S1 : Sim C σ H1 H1' env1) (hv : RepAll C.T H1 ds vs) (hl : ds.length = ks.length)
    (hd : H1' d = none) (ha : upd H1' d (.xd ((ns.zip vs).reverse)) a = none) :
    Gr C.T H1 H1' (upd (upd H1 d (.xd ((ns.zip vs).reverse))) a (ErrO Ca (some d) a)) (upd (upd H1' d (.xd ((ns.zip vs).reverse))) a (ErrO Ca (some d) a)) ∧
      Rep C.T (upd (upd H1 d (.xd ((ns.zip vs).reverse))) a (ErrO Ca (some d) a)) (.err c ks ds.reverse) (.ref a) := by
  have g1 : Gr C.T H1 H1' (upd H1 d (.xd ((ns.zip vs).reverse))) (upd H1' d (.xd ((ns.zip vs).reverse))) := Gr.froz S1.ex hd
  have g2 : Gr C.T _ _ (upd (upd H1 d (.xd ((ns.zip vs).reverse))) a (ErrO Ca (some d) a)) (upd (upd H1' d (.xd ((ns.zip vs).reverse))) a (ErrO Ca (some d) a)) := Gr.froz g1.e01 ha
  have ne : d ≠ a := fun z => by subst z; rw [upd_same] at ha; cases ha
  have ln : ns.length = ks.length := by have := congrArg List.length hns; simpa using this.symm
  refine ⟨g1.tr g2, ?_⟩
  simp only [Rep]
  refine ⟨a, Ca, some d, rfl, hcx, upd_same, .inr ⟨d, vs.reverse, rfl, ?_, ?_, (RepAll.mono (g1.e0.tr g2.e0) _ _ hv).rev⟩⟩
  · rw [upd_ne ne, upd_same, zip_rev (by rw [hv.len, hl, ln]), hns]
  · rw [List.length_reverse, hv.len, hl]
theorem c_mkE {c : Nat} {ks : List Nat} {ns : List Str} {Ca : Addr} (hcx : C.T.cx c ks = some Ca) (hns : ks.map C.T.fn = ns.reverse) (hM : PMk X e (tMkX Ca ns (tAF C W cl es'))) : PE X e (tI C W cl (.mkE c ks es')) :=
  peI (pe_ofMk hM) fun σ H Q ⟨H0, env, S, q⟩ => by
    simp only [ev] at q
    refine ⟨H0, env, S, ?_⟩
    cases z : evF cl es' env with
    | bad => rw [z] at q; exact q
    | exc x env1 => rw [z] at q; exact q
    | ok ds env1 =>
      rw [z] at q
      simp only [R.bind_ok] at q
      split at q
      rotate_left
      · exact q.elim
      rename_i hl
      intro H1 H1' e1 S1 vs hv
      have ln : ns.length = ks.length := by have := congrArg List.length hns; simpa using this.symm
      refine ⟨by rw [hv.len, hl, ln], fun d hd => ⟨Ca, rfl, fun a ha => ?_⟩⟩
      obtain ⟨g, r⟩ := made_rep hcx hns S1 hv hl hd ha
      exact q _ _ (e1.tr g.e0) (S1.gr g) (.ref a) r
end
end PP
end
section
set_option maxHeartbeats 4000000
namespace PP
open PySem PySem.Spec PyProof.Rows L2
end PP
end
section
set_option maxHeartbeats 4000000
namespace PP
open PySem PySem.Spec PyProof.Rows L2 LamX
/-- what a lambda gave, as its call gives it -/
def outD (o : D) (env : Env) : R U := match o with
  | .tup [.non, d] => .ok (.d d) env
  | .err c ks vs => .exc (c, ks, vs) env
  | _ => .bad
theorem ask_out {o : D} {cl : CallF} {env : Env} : askR (askCl o cl 999 []) env = outD o env := by
  unfold askCl outD
  rw [if_pos rfl]
  split
  · rfl
  · rfl
  · rename_i h1 h2
    split
    · rename_i d; exact (h1 d rfl rfl).elim
    · rename_i c ks vs; exact (h2 c ks vs rfl rfl).elim
    · rfl
end PP
end
section
set_option maxHeartbeats 2000000
namespace PP
open PySem PySem.Spec PyProof.Rows L2
section
variable {X : Cx} {C : Ctx} {W : WX} {cl : CallF} {e a b : Expr} {es : List Expr} {e' a' b' : Ex} {es' : Exs} {pos : Pos}
def KwBindsS (K : PySem.W.Frag) (fd : FuncData) (ps ks : List Str) (pm : List Nat) : Prop := ∀ (s : Shared) (u : Value) (ws : List Value), K.In s.heap → ws.length = ks.length → BindsTo s fd ⟨[u], ks.zip ws⟩ (ps.zip (u :: permL pm ws))
end
end PP
end
section
set_option maxHeartbeats 2000000
namespace PP
open PySem PySem.Spec PyProof.Rows L2
theorem tyN_tys {d : D} (h : isObjD d = false) : tyN d ∈ tys := by
  cases d <;> first | (cases h; done) | (show tyN _ ∈ tys; simp [tyN, tys])
/-- the address of a name of the main module -/
def adr (K : PySem.W.Frag) (x : Str) : Option Addr := match PySem.W.nsIn K mainGlobals x with
  | some (some (.ref C)) => some C
  | _ => none
theorem adr_of {K : PySem.W.Frag} {x : Str} {C : Addr} (h : PySem.W.nsIn K mainGlobals x = some (some (.ref C))) : adr K x = some C := by
  unfold adr
  rw [h]
theorem na_of {K : PySem.W.Frag} {C : Addr} {fs : List Str} (h : naB K C fs = true) : ∀ f ∈ fs, NoAttr K C f := fun f hf => (of_decide_eq_true (List.all_eq_true.mp h f hf) : PySem.W.findIn K (.ref C) f = some none)
theorem xf_of {K : PySem.W.Frag} {C : Addr} (h : xcB K C = true) : XfC K C := xfB_ok (Bool.and_eq_true_iff.mp h).1
theorem xc_of {K : PySem.W.Frag} {C : Addr} (h : xcB K C = true) : ExcC K C := by
  obtain ⟨h1, h2⟩ := Bool.and_eq_true_iff.mp h
  have x := xfB_ok h1
  unfold cgB at h2
  simp only [Bool.and_eq_true, decide_eq_true_eq] at h2
  exact ⟨x.ga, x.gg, x.exC, x.hdC, h2.1, h2.2.1, h2.2.2.1, h2.2.2.2⟩
theorem iso_of {X : Cx} {T : Tbl} {cs : List Nat} {u : Addr} {l : List (Addr × Bool)} (h : isoB X.K u l = true) (hl : ∀ c C, T.cn c = some C → (C, cs.contains c) ∈ l ∧ (T.ec c = true → ExcC X.K C) ∧ (T.ec c = false → Cls X.K C ∧ cgB X.K C = true)) : IsO X T cs (.ref u) := by
  obtain ⟨h1, h2⟩ := Bool.and_eq_true_iff.mp h
  refine ⟨fun d hd => of_decide_eq_true (List.all_eq_true.mp h1 _ (tyN_tys hd)), fun c C hc he => ?_, fun c C hc he => ?_⟩
  · obtain ⟨m, x, _⟩ := hl c C hc
    exact ⟨x he, of_decide_eq_true (List.all_eq_true.mp h2 _ m)⟩
  · obtain ⟨m, _, x⟩ := hl c C hc
    obtain ⟨x1, x2⟩ := x he
    unfold cgB at x2
    simp only [Bool.and_eq_true, decide_eq_true_eq] at x2
    exact ⟨of_decide_eq_true (List.all_eq_true.mp h2 _ m), x1, x2.1, x2.2.1, x2.2.2.1, x2.2.2.2⟩
/-- an exception class of one's own -/
theorem oex_of {K : PySem.W.Frag} {C : Addr} {nm q : Str} {N : Addr} {bs bm : List Value} {sn : List Str} {sub : List Value} {ab : Bool} {col : Option Bool} {dd : Option Addr} {k0 k1 k2 k3 k5 : Option Value} (h : K.lookup C = some (excClassObj nm q C N bs bm true sn sub ab col dd k0 k1 k2 k3 k5 "ValueError.__new__")) (hr : PySem.HandSPX.refsVE bm = true)
    (h2 : (decide (PySem.W.findIn K (.ref C) "__setattr__" = some (some (.builtin "object.__setattr__"))) && (decide (PySem.W.subIn K (.ref C) (.type "BaseException") = some true) && (decide (PySem.W.typeIn K (.ref C) = some (.type "type")) && PySem.W.keepIn K (.ref C)))) = true) : OexC K C := by
  simp only [Bool.and_eq_true, decide_eq_true_eq] at h2
  exact ⟨⟨_, _, _, _, _, _, _, _, _, _, _, _, _, _, _, h, hr⟩, h2.1, h2.2.1, h2.2.2.1, h2.2.2.2⟩
theorem cs_tt {names : List Str} {K : PySem.W.Frag} : ∀ p ∈ ttOf K names, ∃ q ∈ csOf names K, q.2 = p.1 := fun p hp => by
  obtain ⟨x, hx, e⟩ := List.mem_filterMap.mp hp
  rw [Option.map_eq_some_iff] at e
  obtain ⟨q, hq, rfl⟩ := e
  exact ⟨q, List.mem_filterMap.mpr ⟨x, hx, hq⟩, rfl⟩
end PP
end
section
set_option maxHeartbeats 1000000
namespace PP
open PySem L2
end PP
end
section
set_option maxHeartbeats 1000000
namespace PP
open PySem L2
def FnGS (P : Program) (w : World) (K : PySem.W.Frag) (mg : Str → Option Value) (base : Heap) (k : Nat) (f : Addr) (sp : Sp) : Prop :=
  ∀ (A : Around) (outer : List PySem.Env) (s : Shared) (H : Hp) (us : List Value) (vs : List V) (Q : VK) (E : XK), A.guards = some [] → Room k A → Env0 P w K mg base A outer s H → Vals vs us → sp vs H Q E →
    codeAny (model P w) A (.call (.ref f) ⟨us, []⟩) (CR (L2.CX P w) outer P w H s Q E) s
theorem FnGS.up {P : Program} {w : World} {K : PySem.W.Frag} {mg : Str → Option Value} {base : Heap} {j k : Nat} {f : Addr} {sp : Sp} (F : FnGS P w K mg base j f sp) (h : j ≤ k) : FnGS P w K mg base k f sp :=
  fun A outer s H us vs Q E hg hr => F A outer s H us vs Q E hg (hr.mono h)
section
variable {X : Cx} {C : Ctx} {W : WX} {cl : CallF} {e : Expr} {es : List Expr} {es' : Exs} {pos p : Pos}
theorem FnGS.go {k : Nat} {f : Addr} {sp : Sp} {pins : List (Addr × Obj)} {σ : L2.St} {H : Hp} {s : Shared} {Q : VK} {us : List Value} {vs : List V} {E : XK}
    (F : FnGS X.prog X.w X.K X.mg X.base k f sp) (hgd : X.A.guards = some []) (hr : Room k X.A) (tk : Takes X W) (hE : ∀ cls d H', E cls d H' → W cls d σ H')
    (I : Inv X pins σ H s) (r : Vals vs us) (h : sp vs H Q E) : wpAny (model X.prog X.w) X.A (call (.ref f) us) (EP X pins σ Q) X.xe s := by
  refine wpAny_call (codeAny_mono (F X.A X.stack s H us vs Q E hgd hr I.env0 r h) fun res s' hq => ?_)
  cases res with
  | error ee => exact tk _ _ (XE.of_call I hE hq)
  | ok fl =>
    cases fl with
    | ret u => exact I.after hq
    | next => exact hq.elim
    | brk => exact hq.elim
    | cont => exact hq.elim
end
end PP
end
section
set_option maxHeartbeats 1000000
namespace PP
open PySem PySem.Spec PyProof.Rows L2
end PP
end
section
set_option maxHeartbeats 1000000
namespace PP
open PySem PySem.Spec PyProof.Rows L2
end PP
end
section
set_option maxHeartbeats 1000000
namespace PP
open PySem PySem.Spec PyProof.Rows L2
end PP
end
section
set_option maxHeartbeats 1000000
namespace PP
open PySem PySem.Spec PyProof.Rows L2
end PP
end
section
set_option maxHeartbeats 1000000
namespace PP
open PySem PySem.Spec PyProof.Rows L2
end PP
end
section
set_option maxHeartbeats 1000000
namespace PP
open PySem PySem.Spec PyProof.Rows L2
end PP
namespace PP
open PySem PySem.Spec PyProof.Rows L2
end PP
end
section
set_option maxHeartbeats 1000000
namespace PP
open PySem PySem.Spec PyProof.Rows L2
end PP
end
section
set_option maxHeartbeats 1000000
namespace PP
open PySem PySem.Spec PyProof.Rows L2
end PP
end
section
set_option maxHeartbeats 1000000
namespace PP
open PySem PySem.Spec PyProof.Rows L2
end PP
end
section
namespace PP
open PySem PySem.Spec PyProof.Rows L2
end PP
end
section
namespace PP
open PySem PySem.Spec PyProof.Rows L2
end PP
end
section
set_option maxHeartbeats 1000000
namespace PP
open PySem PySem.Spec PyProof.Rows L2
end PP
end
section
namespace PP
open PySem PySem.Spec PyProof.Rows L2
end PP
end
section
set_option maxHeartbeats 1000000
namespace PP
open PySem PySem.Spec PyProof.Rows L2
end PP
end
section
set_option maxHeartbeats 1000000
namespace PP
open PySem PySem.Spec PyProof.Rows L2
end PP
end
section
set_option maxHeartbeats 1000000
namespace PP
open PySem PySem.Spec PyProof.Rows L2
end PP
end
section
set_option maxHeartbeats 1000000
namespace PP
open PySem PySem.Spec PyProof.Rows L2
end PP
end
section
namespace PP
open PySem PySem.Spec PyProof.Rows L2
end PP
end
section
namespace PP
open PySem PySem.Spec PyProof.Rows L2
end PP
end
section
set_option maxHeartbeats 1000000
namespace PP
open PySem PySem.Spec PyProof.Rows L2
end PP
end
section
set_option maxHeartbeats 1000000
namespace PP
open PySem PySem.Spec PyProof.Rows L2
end PP
end
section
set_option maxHeartbeats 1000000
namespace PP
open PySem PySem.Spec PyProof.Rows L2
end PP
end
section
set_option maxHeartbeats 1000000
namespace PP
open PySem PySem.Spec PyProof.Rows L2
end PP
end
section
set_option maxHeartbeats 1000000
namespace PP
open PySem PySem.Spec PyProof.Rows L2
end PP
end
section
set_option maxHeartbeats 1000000
namespace PP
open PySem PySem.Spec PyProof.Rows L2
end PP
end
section
set_option maxHeartbeats 1000000
namespace PP
open PySem PySem.Spec PyProof.Rows L2
/-- the state has grown -/
def Grown (X : Cx) (T : Tbl) (H0 H : Hp) (pins : List (Addr × Obj)) (σ : L2.St) (s : Shared) : Prop := ∃ H0' H', Inv X pins σ H' s ∧ Gr T H0 H H0' H'
/-- x == y is True in lists, n levels below -/
def EqL (X : Cx) (T : Tbl) (n : Nat) (H0 H : Hp) (x y : V) : Prop := ∀ (A : Around) (pins : List (Addr × Obj)) (σ : L2.St) (s : Shared) (u v : Value), Room n A → A.frames = X.A.frames → A.guards = some [] →
  Grown X T H0 H pins σ s → RelV x u → RelV y v → wpAny (model X.prog X.w) A (eqBool u v) (fun r s' => r = true ∧ Grown X T H0 H pins σ s') X.xe s
theorem EqL.mono {X : Cx} {T : Tbl} {n m : Nat} {H0 H : Hp} {x y : V} (h : EqL X T n H0 H x y) (hn : n ≤ m) : EqL X T m H0 H x y := fun A pins σ s u v hr => h A pins σ s u v (hr.mono hn)
end PP
end
section
set_option maxHeartbeats 1000000
namespace PP
open PySem PySem.Spec PyProof.Rows L2
end PP
end
section
namespace PP
open PySem PySem.Spec PyProof.Rows L2
theorem isoT_of {X : Cx} {T : Tbl} {cs : List Nat} {n : String} {l : List (Addr × Bool)} (h : isoTB X.K n l = true) (hl : ∀ c C, T.cn c = some C → (C, cs.contains c) ∈ l ∧ (T.ec c = true → ExcC X.K C) ∧ (T.ec c = false → Cls X.K C ∧ cgB X.K C = true)) : IsO X T cs (.type n) := by
  obtain ⟨h1, h2⟩ := Bool.and_eq_true_iff.mp h
  refine ⟨fun d hd => of_decide_eq_true (List.all_eq_true.mp h1 _ (tyN_tys hd)), fun c C hc he => ?_, fun c C hc he => ?_⟩
  · obtain ⟨m, x, _⟩ := hl c C hc
    exact ⟨x he, of_decide_eq_true (List.all_eq_true.mp h2 _ m)⟩
  · obtain ⟨m, _, x⟩ := hl c C hc
    obtain ⟨x1, x2⟩ := x he
    unfold cgB at x2
    simp only [Bool.and_eq_true, decide_eq_true_eq] at x2
    exact ⟨of_decide_eq_true (List.all_eq_true.mp h2 _ m), x1, x2.1, x2.2.1, x2.2.2.1, x2.2.2.2⟩
section
variable {X : Cx} {C : Ctx} {W : WX} {cl : CallF} {e b : Expr} {e' : Ex} {pos : Pos}
theorem c_isOT {p : Pos} {cs : List Nat} {n : String} (hK : X.K = C.T.K) (IO : IsO X C.T cs (.type n)) (hg : Gl X "isinstance") (hm : X.mg "isinstance" = none)
    (ha : PE X e (tI C W cl e')) (hb : PE X b (tC (.ty n))) (he : starEach [e, b] X.env = (false, eval e X.env) :: starEach [b] X.env := by rfl) (he2 : starEach [b] X.env = (false, eval b X.env) :: starEach [] X.env := by rfl)
    (hpl : (backTo pos (starEach [b] X.env)).any (·.1) = false := by rfl) : PE X (.Call (.Name "isinstance" p) [e, b] [] pos) (tI C W cl (.isObj cs e')) :=
  peI (pe_callB (call_isi.or call_isX) hg hm (by decide +kernel) (pa_cons ha (pa_cons hb pa_nil he2) he) (by decide) (by decide) he hpl) fun σ H Q ⟨H0, env, S, q⟩ => by
    simp only [ev] at q
    refine seqI S q fun u env1 v H1 H1' e1 S1 u1 q1 => ?_
    obtain ⟨d, hd, q2⟩ := q1.orB
    have r := S1.rd u1 hd
    cases hod : isObjD d with
    | false =>
      have eb : isObjOf cs d = false := by cases d <;> first | rfl | cases hod
      have ec : isClsD d = false := by cases d <;> first | rfl | cases hod
      rw [eb, ec] at q2
      exact .inl ⟨v, _, _, _, false, rfl, .ty n, tyx hK S1.ex r hod, IO.ty d hod, fin_nw S1 q2 (Gr.rfl' S1.ex) (.flat rfl (r_bl _ _ _))⟩
    | true =>
      cases d with
      | obj c ks vs =>
        obtain ⟨pp, Ca, dx, xs, rfl, hck, hp, _⟩ := rd_obj S1.ex r
        obtain ⟨h1, h2, h3, h4, h5, h6⟩ := IO.ob c Ca (Tbl.ck_some hck).1 (Tbl.ck_ec hck)
        exact .inl ⟨_, _, _, _, cs.contains c, rfl, .ty n, .base (.ins hp h2 h3 h4 h5 h6), h1, fin_nw S1 q2 (Gr.rfl' S1.ex) (.flat rfl (r_bl _ _ _))⟩
      | err c ks vs =>
        obtain ⟨a, Ca, rfl, hcn, hec, hx⟩ := rd_err S1.ex r
        obtain ⟨h1, h2⟩ := IO.ex c Ca hcn hec
        exact .inr ⟨a, Ca, _, _, cs.contains c, rfl, hx, h1, fun u hu => hu, h2, fin_nw S1 q2 (Gr.rfl' S1.ex) (.flat rfl (r_bl _ _ _))⟩
      | cls c => exact q2.elim
      | dT ks vs => exact q2.elim
      | _ => cases hod
end
end PP
end
section
namespace PP
open PySem L2
theorem ev_w0 {cl : CallF} {i} {s0 : Sl} {r0 : Env} : ev cl (.var i) (s0 :: r0) = (match getS (s0 :: r0) i with
    | .un => .bad
    | .fz d => .ok (.d d) (s0 :: r0)
    | _ => .ok (.sl i) (s0 :: r0)) := rfl
theorem ev_w1 {cl : CallF} {d} {s0 : Sl} {r0 : Env} : ev cl (.cst d) (s0 :: r0) = (.ok (.d d) (s0 :: r0)) := rfl
theorem ev_w2 {cl : CallF} {a} {b} {o} {s0 : Sl} {r0 : Env} : ev cl (.op2 o a b) (s0 :: r0) = ((ev cl a (s0 :: r0)).bind fun u env1 => (ev cl b env1).bind fun w env2 =>
      orBad (rdU env2 (pend u)) fun x => orBad (rdU env2 w) fun y => orBad (op2 o x y) fun z => .ok (.nw z) env2) := rfl
theorem ev_w3 {cl : CallF} {a} {o} {s0 : Sl} {r0 : Env} : ev cl (.op1 o a) (s0 :: r0) = ((ev cl a (s0 :: r0)).bind fun u env1 => orBad (rdU env1 u) fun x => orBad (op1 o x) fun z => .ok (.nw z) env1) := rfl
theorem ev_w4 {cl : CallF} {a} {b} {c} {d} {o} {p} {r} {s0 : Sl} {r0 : Env} : ev cl (.chain3 o p r a b c d) (s0 :: r0) = ((ev cl a (s0 :: r0)).bind fun u env1 => (ev cl b env1).bind fun w env2 =>
      orBad (rdU env2 (pend u)) fun x => orBad (rdU env2 (pend w)) fun y => orBad (op2 o x y) fun z => match z with
        | .bl true => (ev cl c env2).bind fun q env3 => orBad (rdU env3 (pend w)) fun y' => orBad (rdU env3 (pend q)) fun x2 => orBad (op2 p y' x2) fun z2 => match z2 with
          | .bl true => (ev cl d env3).bind fun q2 env4 => orBad (rdU env4 (pend q)) fun y2 => orBad (rdU env4 q2) fun x3 => orBad (op2 r y2 x3) fun z3 => .ok (.nw z3) env4
          | .bl false => .ok (.nw (.bl false)) env3
          | _ => .bad
        | .bl false => .ok (.nw (.bl false)) env2
        | _ => .bad) := rfl
theorem ev_w5 {cl : CallF} {a} {b} {c} {o} {p} {s0 : Sl} {r0 : Env} : ev cl (.chain o p a b c) (s0 :: r0) = ((ev cl a (s0 :: r0)).bind fun u env1 => (ev cl b env1).bind fun w env2 =>
      orBad (rdU env2 (pend u)) fun x => orBad (rdU env2 (pend w)) fun y => orBad (op2 o x y) fun z => match z with
        | .bl true => (ev cl c env2).bind fun q env3 => orBad (rdU env3 (pend w)) fun y' => orBad (rdU env3 q) fun r => orBad (op2 p y' r) fun z' => .ok (.nw z') env3
        | .bl false => .ok (.nw (.bl false)) env2
        | _ => .bad) := rfl
theorem ev_w6 {cl : CallF} {a} {b} {s0 : Sl} {r0 : Env} : ev cl (.and a b) (s0 :: r0) = ((ev cl a (s0 :: r0)).bind fun u env1 => orBad (rdU env1 u) fun x => orBad (truD x) fun t => match t with
        | true => ev cl b env1
        | false => .ok (pend u) env1) := rfl
theorem ev_w7 {cl : CallF} {a} {b} {s0 : Sl} {r0 : Env} : ev cl (.or a b) (s0 :: r0) = ((ev cl a (s0 :: r0)).bind fun u env1 => orBad (rdU env1 u) fun x => orBad (truD x) fun t => match t with
        | true => .ok (pend u) env1
        | false => ev cl b env1) := rfl
theorem ev_w8 {cl : CallF} {a} {s0 : Sl} {r0 : Env} : ev cl (.not a) (s0 :: r0) = ((ev cl a (s0 :: r0)).bind fun u env1 => orBad (rdU env1 u) fun x => orBad (truD x) fun t => .ok (.nw (.bl (!t))) env1) := rfl
theorem ev_w9 {cl : CallF} {a} {b} {c} {s0 : Sl} {r0 : Env} : ev cl (.ife c a b) (s0 :: r0) = ((ev cl c (s0 :: r0)).bind fun u env1 => orBad (rdU env1 u) fun x => orBad (truD x) fun t => match t with
        | true => ev cl a env1
        | false => ev cl b env1) := rfl
theorem ev_w10 {cl : CallF} {es} {s0 : Sl} {r0 : Env} : ev cl (.tup es) (s0 :: r0) = ((evF cl es (s0 :: r0)).bind fun ds env1 => if ds.length ≤ LIM then .ok (.nw (.tup ds)) env1 else .bad) := rfl
theorem ev_w11 {cl : CallF} {es} {s0 : Sl} {r0 : Env} : ev cl (.lst es) (s0 :: r0) = ((evF cl es (s0 :: r0)).bind fun ds env1 => if ds.length ≤ LIM then .ok (.nw (.lst ds)) env1 else .bad) := rfl
theorem ev_w12 {cl : CallF} {s0 : Sl} {r0 : Env} : ev cl (.dic) (s0 :: r0) = (.ok (.nw (.dK [] [])) (s0 :: r0)) := rfl
theorem ev_w13 {cl : CallF} {es} {f} {ms} {s0 : Sl} {r0 : Env} : ev cl (.call f ms es) (s0 :: r0) = ((evC cl ms es (s0 :: r0)).bind fun us env1 => orBad (argsOf env1 ms us) fun as =>
      if dupFree (ioSlots us) then match cl f as with
        | .ok r outs => .ok r (putIO env1 (ioSlots us) outs)
        | .exc x outs => .exc x (putIO env1 (ioSlots us) outs)
        | .bad => .bad
      else .bad) := rfl
theorem ev_w14 {cl : CallF} {es} {f} {ms} {pm} {s0 : Sl} {r0 : Env} : ev cl (.callP f ms pm es) (s0 :: r0) = ((evC cl (ms.map fun _ => false) es (s0 :: r0)).bind fun us env1 => orBad (argsOf env1 ms (permL pm us)) fun as =>
      if dupFree (ioSlots (permL pm us)) && decide (us.length = ms.length) then match cl f as with
        | .ok r outs => .ok r (putIO env1 (ioSlots (permL pm us)) outs)
        | .exc x outs => .exc x (putIO env1 (ioSlots (permL pm us)) outs)
        | .bad => .bad
      else .bad) := rfl
theorem ev_w15 {cl : CallF} {b} {es} {s0 : Sl} {r0 : Env} : ev cl (.bi b es) (s0 :: r0) = ((evR cl es (s0 :: r0)).bind fun us env1 => orBad (rdAll env1 us) fun ds => orBad (biD b ds) fun z => .ok (.nw z) env1) := rfl
theorem ev_w16 {cl : CallF} {a} {i} {s0 : Sl} {r0 : Env} : ev cl (.ix a i) (s0 :: r0) = ((ev cl a (s0 :: r0)).bind fun u env1 => (ev cl i env1).bind fun w env2 =>
      orBad (rdU env2 (pend u)) fun x => orBad (rdU env2 w) fun y => orBad (ixD x y) fun z => .ok (.d z) env2) := rfl
theorem ev_w17 {cl : CallF} {a} {bh} {bl} {hi} {lo} {s0 : Sl} {r0 : Env} : ev cl (.slice a bl bh lo hi) (s0 :: r0) = ((ev cl a (s0 :: r0)).bind fun u env1 => (optP bl (ev cl lo) env1).bind fun l env2 => (optP bh (ev cl hi) env2).bind fun h env3 => orBad (rdU env3 (pend u)) fun x => match x with
        | .lst xs => .ok (.nw (.lst (cutD xs l h))) env3
        | .kst xs => .ok (.nw (.lst (cutD xs l h))) env3
        | .tup xs => if HT.sIx xs.length 0 l = 0 ∧ HT.sIx xs.length xs.length h = xs.length then .ok (.d (.tup xs)) env3 else .ok (.nw (.tup (cutD xs l h))) env3
        | .str z => if z.length ≤ LIM then .ok (.nw (.str (cutS z l h))) env3 else .bad
        | _ => .bad) := rfl
theorem ev_w18 {cl : CallF} {a} {k} {s0 : Sl} {r0 : Env} : ev cl (.fld a k) (s0 :: r0) = ((ev cl a (s0 :: r0)).bind fun u env1 => orBad (rdU env1 u) fun x => orBad (fldOf x k) fun z => .ok (.d z) env1) := rfl
theorem ev_w19 {cl : CallF} {a} {b} {cs} {o} {ts} {s0 : Sl} {r0 : Env} : ev cl (.opo o cs ts a b) (s0 :: r0) = ((ev cl a (s0 :: r0)).bind fun u env1 => orBad (fzU env1 u) fun p => (ev cl b p.2).bind fun w env2 => orBad (fzU env2 w) fun q => ownOp cl o cs ts p.1 q.1 q.2) := rfl
theorem ev_w20 {cl : CallF} {ds} {es} {f} {ms} {s0 : Sl} {r0 : Env} : ev cl (.callD f ms es ds) (s0 :: r0) = ((evC cl ms es (s0 :: r0)).bind fun us env1 => runC cl f (ms ++ ds.map fun _ => false) (us ++ ds.map .d) env1) := rfl
theorem ev_w21 {cl : CallF} {c} {ds} {es} {ms} {s0 : Sl} {r0 : Env} : ev cl (.mk c ms es ds) (s0 :: r0) = ((evC cl ms es (s0 :: r0)).bind fun us env1 => orBad (argsOf env1 (ms ++ ds.map fun _ => false) (us ++ ds.map .d)) fun as => if allFz as then makeO cl c as env1 else .bad) := rfl
theorem ev_w22 {cl : CallF} {a} {cs} {ds} {es} {io} {m} {ms} {s0 : Sl} {r0 : Env} : ev cl (.mth io a m cs ms es ds) (s0 :: r0) = ((ev cl a (s0 :: r0)).bind fun u env1 => orBad (recvU io env1 u) fun p => if !cs.contains p.1 then .bad else (evC cl ms es p.2.2).bind fun us env2 =>
      runC cl (spec p.1 m) (io :: (ms ++ ds.map fun _ => false)) (p.2.1 :: (us ++ ds.map .d)) env2) := rfl
theorem ev_w23 {cl : CallF} {a} {cs} {m} {s0 : Sl} {r0 : Env} : ev cl (.prp a m cs) (s0 :: r0) = ((ev cl a (s0 :: r0)).bind fun u env1 => orBad (recvU false env1 u) fun p => if !cs.contains p.1 then .bad else orBad (rdU p.2.2 p.2.1) fun x => match cl (spec p.1 m) [.fz x] with
      | .ok r _ => .ok r p.2.2
      | _ => .bad) := rfl
theorem ev_w24 {cl : CallF} {a} {b} {cs} {neg} {s0 : Sl} {r0 : Env} : ev cl (.ino neg cs a b) (s0 :: r0) = ((ev cl a (s0 :: r0)).bind fun u env1 => orBad (fzU env1 u) fun p => (ev cl b p.2).bind fun w env2 => orBad (fzU env2 w) fun q => ownIn cl neg cs p.1 q.1 q.2) := rfl
theorem ev_w25 {cl : CallF} {a} {b} {cs} {s0 : Sl} {r0 : Env} : ev cl (.neo cs a b) (s0 :: r0) = ((ev cl a (s0 :: r0)).bind fun u env1 => orBad (fzU env1 u) fun p => (ev cl b p.2).bind fun w env2 => orBad (fzU env2 w) fun q => ownNe cl cs p.1 q.1 q.2) := rfl
theorem ev_w26 {cl : CallF} {c} {e} {hc} {it} {tg} {vs} {s0 : Sl} {r0 : Env} : ev cl (.lc vs tg it hc c e) (s0 :: r0) = ((itD cl it (s0 :: r0)).bind fun ds env1 => lcAll vs env1 (lcD (lcTurn vs tg hc (ev cl c) (ev cl e)) ds env1 [])) := rfl
theorem ev_w27 {cl : CallF} {e} {i} {s0 : Sl} {r0 : Env} : ev cl (.popI i e) (s0 :: r0) = (if !isLs (getS (s0 :: r0) i) then .bad else (ev cl e (s0 :: r0)).bind fun u env1 => orBad (rdU env1 u) fun k => match getS env1 i, k with
      | .ow (.lst xs), .int n => orBad (popD xs n) fun p => .ok (.d p.1) (env1.set i (.ow (.lst p.2)))
      | .io (.lst xs), .int n => orBad (popD xs n) fun p => .ok (.d p.1) (env1.set i (.io (.lst p.2)))
      | _, _ => .bad) := rfl
theorem ev_w28 {cl : CallF} {b} {e} {o} {s0 : Sl} {r0 : Env} : ev cl (.bm b o e) (s0 :: r0) = ((ev cl o (s0 :: r0)).bind fun u env1 => orBad (rdU env1 u) fun x0 => if !recvB b x0 then .bad else (ev cl e env1).bind fun w env2 => orBad (rdU env2 (pend u)) fun x => orBad (rdU env2 w) fun y => orBad (biD b [x, y]) fun z => .ok (.nw z) env2) := rfl
theorem ev_w29 {cl : CallF} {a} {cs} {s0 : Sl} {r0 : Env} : ev cl (.booO cs a) (s0 :: r0) = ((ev cl a (s0 :: r0)).bind fun u env1 => orBad (recvU false env1 u) fun p => if !cs.contains p.1 then .bad else orBad (rdU p.2.2 p.2.1) fun x => match cl (spec p.1 24) [.fz x] with
      | .ok (.d (.bl b)) _ => .ok (.nw (.bl b)) p.2.2
      | _ => .bad) := rfl
theorem ev_w30 {cl : CallF} {a} {cs} {s0 : Sl} {r0 : Env} : ev cl (.lenO cs a) (s0 :: r0) = ((ev cl a (s0 :: r0)).bind fun u env1 => orBad (recvU false env1 u) fun p => if !cs.contains p.1 then .bad else orBad (rdU p.2.2 p.2.1) fun x => match cl (spec p.1 19) [.fz x] with
      | .ok (.d (.int n)) _ => if decide (0 ≤ n) && decide (n < 2 ^ 40) then .ok (.nw (.int n)) p.2.2 else .bad
      | _ => .bad) := rfl
theorem ev_w31 {cl : CallF} {es} {s0 : Sl} {r0 : Env} : ev cl (.fstr es) (s0 :: r0) = ((evJ cl es Str.empty (s0 :: r0)).bind fun z env1 => .ok (.nw (.str z)) env1) := rfl
theorem ev_w32 {cl : CallF} {a} {cs} {s0 : Sl} {r0 : Env} : ev cl (.strO cs a) (s0 :: r0) = ((ev cl a (s0 :: r0)).bind fun u env1 => orBad (recvU false env1 u) fun p => if !cs.contains p.1 then .bad else orBad (rdU p.2.2 p.2.1) fun x => match cl (spec p.1 21) [.fz x] with
      | .ok (.d (.str z)) _ => .ok (.nw (.str z)) p.2.2
      | _ => .bad) := rfl
theorem ev_w33 {cl : CallF} {c} {es} {pm} {s0 : Sl} {r0 : Env} : ev cl (.mkP c pm es) (s0 :: r0) = ((evC cl (pm.map fun _ => false) es (s0 :: r0)).bind fun us env1 => orBad (argsOf env1 (pm.map fun _ => false) (permL pm us)) fun as => if allFz as && decide (us.length = pm.length) then makeO cl c as env1 else .bad) := rfl
theorem ev_w34 {cl : CallF} {c} {es} {ks} {pm} {s0 : Sl} {r0 : Env} : ev cl (.mkEP c ks pm es) (s0 :: r0) = ((evF cl es (s0 :: r0)).bind fun ds env1 => if (permL pm ds).length = ks.length ∧ ds.length = ks.length then .ok (.d (.err c ks (permL pm ds).reverse)) env1 else .bad) := rfl
theorem ev_w35 {cl : CallF} {c} {es} {ks} {s0 : Sl} {r0 : Env} : ev cl (.mkE c ks es) (s0 :: r0) = ((evF cl es (s0 :: r0)).bind fun ds env1 => if ds.length = ks.length then .ok (.d (.err c ks ds.reverse)) env1 else .bad) := rfl
theorem ev_w36 {cl : CallF} {e} {f} {vs} {s0 : Sl} {r0 : Env} : ev cl (.heard f vs e) (s0 :: r0) = (orBad (frzAll vs (s0 :: r0)) fun env1 => match ev cl e (maskE env1) with
      | .ok u env2 => orBad (fzU env2 u) fun p => hearC cl f (.tup [.non, p.1]) env1
      | .exc x _ => hearC cl f (.err x.1 x.2.1 x.2.2) env1
      | .bad => .bad) := rfl
theorem ev_w37 {cl : CallF} {i} {k} {s0 : Sl} {r0 : Env} : ev cl (.ixK i k) (s0 :: r0) = (orBad (dkS (getS (s0 :: r0) i)) fun _ => (ev cl k (s0 :: r0)).bind fun w env1 => orBad (rdU env1 w) fun y => orBad (dkS (getS env1 i)) fun p => orBad (keyI y) fun n => orBad (getK p.1 p.2 n) fun d => .ok (.d d) env1) := rfl
theorem ev_w38 {cl : CallF} {i} {k} {x} {s0 : Sl} {r0 : Env} : ev cl (.dgt i k x) (s0 :: r0) = (orBad (dkS (getS (s0 :: r0) i)) fun _ => (ev cl k (s0 :: r0)).bind fun w env1 => (ev cl x env1).bind fun z env2 => orBad (fzU env2 z) fun q => orBad (rdU q.2 (pend w)) fun y => orBad (dkS (getS q.2 i)) fun p => orBad (keyI y) fun n =>
    .ok (.d ((getK p.1 p.2 n).getD q.1)) q.2) := rfl
theorem ev_w39 {cl : CallF} {e} {f} {vs} {s0 : Sl} {r0 : Env} : ev cl (.heardK f vs e) (s0 :: r0) = (orBad (frzAll vs (s0 :: r0)) fun env1 => match ev cl e (maskE env1) with
      | .ok u env2 => orBad (fzU env2 u) fun p => keepC (s0 :: r0) (hearC cl f (.tup [.non, p.1]) env1)
      | .exc x _ => keepC (s0 :: r0) (hearC cl f (.err x.1 x.2.1 x.2.2) env1)
      | .bad => .bad) := rfl
theorem ev_w40 {cl : CallF} {i} {s0 : Sl} {r0 : Env} : ev cl (.ask i) (s0 :: r0) = (match getS (s0 :: r0) i with
      | .fn => askR (cl 999 []) (s0 :: r0)
      | _ => .bad) := rfl
theorem ev_w41 {cl : CallF} {a} {b} {cs} {s0 : Sl} {r0 : Env} : ev cl (.getO cs a b) (s0 :: r0) = ((ev cl a (s0 :: r0)).bind fun u env1 => orBad (fzU env1 u) fun p => (ev cl b p.2).bind fun w env2 => orBad (fzU env2 w) fun q => ownGet cl cs p.1 q.1 q.2) := rfl
theorem ev_w42 {cl : CallF} {a} {cs} {es} {n} {s0 : Sl} {r0 : Env} : ev cl (.calO cs n a es) (s0 :: r0) = ((ev cl a (s0 :: r0)).bind fun u env1 => orBad (fzU env1 u) fun p => if !isObD p.1 then .bad else (evF cl es p.2).bind fun ds env2 => if ds.length = n then ownCal cl cs p.1 ds env2 else .bad) := rfl
theorem ev_w43 {cl : CallF} {c} {es} {m} {n} {s0 : Sl} {r0 : Env} : ev cl (.cmt c m n es) (s0 :: r0) = ((evF cl es (s0 :: r0)).bind fun ds env1 => if ds.length = n then (match cl (spec c m) ((.cls c :: ds).map .fz) with
      | .ok r _ => .ok r env1
      | .exc x _ => .exc x env1
      | .bad => .bad) else .bad) := rfl
theorem ev_w44 {cl : CallF} {c} {es} {i} {n} {s0 : Sl} {r0 : Env} : ev cl (.mkL i c n es) (s0 :: r0) = (if !isClsN c (getS (s0 :: r0) i) then .bad else (evF cl es (s0 :: r0)).bind fun ds env1 => if ds.length = n then makeO cl c (ds.map .fz) env1 else .bad) := rfl
theorem ev_w45 {cl : CallF} {c} {es} {i} {s0 : Sl} {r0 : Env} : ev cl (.mkLS i c es) (s0 :: r0) = (if !isClsN c (getS (s0 :: r0) i) then .bad else (evF cl es (s0 :: r0)).bind fun ds env1 => makeO cl c (ds.map .fz) env1) := rfl
theorem ev_w46 {cl : CallF} {es} {f} {s0 : Sl} {r0 : Env} : ev cl (.callS f es) (s0 :: r0) = ((evF cl es (s0 :: r0)).bind fun ds env1 => match cl f (ds.map .fz) with
      | .ok r _ => .ok r env1
      | .exc x _ => .exc x env1
      | .bad => .bad) := rfl
theorem ev_w47 {cl : CallF} {c} {es} {s0 : Sl} {r0 : Env} : ev cl (.mkS c es) (s0 :: r0) = ((evF cl es (s0 :: r0)).bind fun ds env1 => makeO cl c (ds.map .fz) env1) := rfl
theorem ev_w48 {cl : CallF} {a} {b} {cs} {s0 : Sl} {r0 : Env} : ev cl (.neL cs a b) (s0 :: r0) = ((ev cl a (s0 :: r0)).bind fun u env1 => orBad (fzU env1 u) fun p => (ev cl b p.2).bind fun w env2 => orBad (fzU env2 w) fun q => if eqLL cl cs p.1 q.1 then .ok (.nw (.bl false)) q.2 else .bad) := rfl
theorem ev_w49 {cl : CallF} {c} {es} {n} {s0 : Sl} {r0 : Env} : ev cl (.mkF c n es) (s0 :: r0) = ((evF cl es (s0 :: r0)).bind fun ds env1 => if ds.length = n then makeO cl c (ds.map .fz) env1 else .bad) := rfl
theorem ev_w50 {cl : CallF} {es} {f} {n} {s0 : Sl} {r0 : Env} : ev cl (.callF f n es) (s0 :: r0) = ((evF cl es (s0 :: r0)).bind fun ds env1 => if ds.length = n then (match cl f (ds.map .fz) with
      | .ok r _ => .ok r env1
      | .exc x _ => .exc x env1
      | .bad => .bad) else .bad) := rfl
theorem ev_w51 {cl : CallF} {a} {s0 : Sl} {r0 : Env} : ev cl (.keep a) (s0 :: r0) = (if (frzE (s0 :: r0)).all calmS then keepV (s0 :: r0) (ev cl a (frzE (s0 :: r0))) else .bad) := rfl
theorem ev_w52 {cl : CallF} {a} {cs} {m} {s0 : Sl} {r0 : Env} : ev cl (.opu m cs a) (s0 :: r0) = ((ev cl a (s0 :: r0)).bind fun u env1 => orBad (fzU env1 u) fun p => ownUn cl m cs p.1 p.2) := rfl
theorem ev_w53 {cl : CallF} {s0 : Sl} {r0 : Env} : ev cl (.dicT) (s0 :: r0) = (.ok (.nw (.dT [] [])) (s0 :: r0)) := rfl
theorem ev_w54 {cl : CallF} {i} {j} {m} {n} {s0 : Sl} {r0 : Env} : ev cl (.dis1 i j m n) (s0 :: r0) = (.ok (.nw (.dT [[i, j]] [.tup [.int m, .int n]])) (s0 :: r0)) := rfl
theorem ev_w55 {cl : CallF} {a} {k} {x} {s0 : Sl} {r0 : Env} : ev cl (.dgtT a k x) (s0 :: r0) = ((ev cl a (s0 :: r0)).bind fun u env0 => orBad (fzU env0 u) fun t => if !isDT t.1 then .bad else (ev cl k t.2).bind fun w env1 => orBad (fzU env1 w) fun y => (ev cl x y.2).bind fun z env2 => orBad (fzU env2 z) fun q => match t.1 with
      | .dT ks vs => orBad (keyTI y.1) fun n => .ok (.d ((getDT ks vs n).getD q.1)) q.2
      | _ => .bad) := rfl
theorem ev_w56 {cl : CallF} {it} {s0 : Sl} {r0 : Env} : ev cl (.lsI it) (s0 :: r0) = ((itD cl it (s0 :: r0)).bind fun ds env1 => if ds.length ≤ LIM then .ok (.nw (.lst ds)) env1 else .bad) := rfl
theorem ev_w57 {cl : CallF} {a} {cs} {ds} {es} {m} {s0 : Sl} {r0 : Env} : ev cl (.lcX m cs a es ds) (s0 :: r0) = ((ev cl a (s0 :: r0)).bind fun u env1 => orBad (fzU env1 u) fun p => match p.1 with
      | .obj c ks vs => if !cs.contains c then .bad else (evF cl es p.2).bind fun xs env2 => excR (cl (spec c m) ((.obj c ks vs :: (xs ++ ds)).map .fz)) env2
      | _ => .bad) := rfl
theorem ev_w58 {cl : CallF} {e} {it} {k} {tg} {vs} {s0 : Sl} {r0 : Env} : ev cl (.dcT vs tg it k e) (s0 :: r0) = ((itD cl it (s0 :: r0)).bind fun ds env1 => dcAll vs env1 (dcD (dcTurn vs tg (ev cl k) (ev cl e)) ds env1 [])) := rfl
theorem ev_w59 {cl : CallF} {i} {k} {x} {s0 : Sl} {r0 : Env} : ev cl (.dgtI i k x) (s0 :: r0) = (orBad (dtR (getS (s0 :: r0) i)) fun _ => (ev cl k (s0 :: r0)).bind fun w env1 => orBad (fzU env1 w) fun y => (ev cl x y.2).bind fun z env2 => orBad (fzU env2 z) fun q => orBad (dtR (getS q.2 i)) fun p => orBad (keyTI y.1) fun n =>
      .ok (.d ((getDT p.1 p.2 n).getD q.1)) q.2) := rfl
theorem ev_w60 {cl : CallF} {a} {b} {le} {s0 : Sl} {r0 : Env} : ev cl (.cmpT le a b) (s0 :: r0) = ((ev cl a (s0 :: r0)).bind fun u env1 => (ev cl b env1).bind fun w env2 => orBad (rdU env2 (pend u)) fun x => orBad (rdU env2 w) fun y => orBad (cmpTD le x y) fun c => .ok (.nw (.bl c)) env2) := rfl
theorem ev_w61 {cl : CallF} {e} {it} {k} {tg} {vs} {s0 : Sl} {r0 : Env} : ev cl (.dcK vs tg it k e) (s0 :: r0) = ((itD cl it (s0 :: r0)).bind fun ds env1 => dcAllK vs env1 (dcDK (dcTurnK vs tg (ev cl k) (ev cl e)) ds env1 [])) := rfl
theorem ev_w62 {cl : CallF} {i} {k} {s0 : Sl} {r0 : Env} : ev cl (.popT i k) (s0 :: r0) = (if !isDtS (getS (s0 :: r0) i) then .bad else (ev cl k (s0 :: r0)).bind fun w env1 => orBad (fzU env1 w) fun y => orBad (dtS (getS y.2 i)) fun p => orBad (keyTI y.1) fun n => orBad (getDT p.1 p.2 n) fun d =>
      .ok (.d d) (y.2.set i (setIO (getS y.2 i) (mkDT ((p.1.zip p.2).filter fun q => decide (q.1 ≠ n)))))) := rfl
theorem ev_w63 {cl : CallF} {i} {s0 : Sl} {r0 : Env} : ev cl (.lsT i) (s0 :: r0) = (orBad (dtR (getS (s0 :: r0) i)) fun p => if p.1.length ≤ LIM then .ok (.nw (.lst (p.1.map keyTD))) (s0 :: r0) else .bad) := rfl
theorem ev_w64 {cl : CallF} {g} {s0 : Sl} {r0 : Env} : ev cl (.hk g) (s0 :: r0) = (g cl (s0 :: r0)) := rfl
theorem ev_w65 {cl : CallF} {i} {ne} {s0 : Sl} {r0 : Env} : ev cl (.emT ne i) (s0 :: r0) = (orBad (dtR (getS (s0 :: r0) i)) fun p => .ok (.nw (.bl (p.1.isEmpty != ne))) (s0 :: r0)) := rfl
theorem ev_w66 {cl : CallF} {a} {cs} {s0 : Sl} {r0 : Env} : ev cl (.isObj cs a) (s0 :: r0) = ((ev cl a (s0 :: r0)).bind fun u env1 => orBad (rdU env1 u) fun x => if isClsD x then .bad else .ok (.nw (.bl (isObjOf cs x))) env1) := rfl
theorem evF_w0 {cl : CallF} {s0 : Sl} {r0 : Env} : evF cl (.nil) (s0 :: r0) = (.ok [] (s0 :: r0)) := rfl
theorem evF_w1 {cl : CallF} {e} {es} {s0 : Sl} {r0 : Env} : evF cl (.cons e es) (s0 :: r0) = ((ev cl e (s0 :: r0)).bind fun u env1 => orBad (fzU env1 u) fun p => (evF cl es p.2).bind fun ds env2 => .ok (p.1 :: ds) env2) := rfl
theorem evF_w2 {cl : CallF} {e} {es} {s0 : Sl} {r0 : Env} : evF cl (.star e es) (s0 :: r0) = ((ev cl e (s0 :: r0)).bind fun u env1 => orBad (fzU env1 u) fun p => orBad (itemsD p.1) fun xs => (evF cl es p.2).bind fun ds env2 => .ok (xs ++ ds) env2) := rfl
theorem evR_w0 {cl : CallF} {s0 : Sl} {r0 : Env} : evR cl (.nil) (s0 :: r0) = (.ok [] (s0 :: r0)) := rfl
theorem evR_w1 {cl : CallF} {e} {es} {s0 : Sl} {r0 : Env} : evR cl (.cons e es) (s0 :: r0) = ((ev cl e (s0 :: r0)).bind fun u env1 => (evR cl es env1).bind fun us env2 => .ok (pend u :: us) env2) := rfl
theorem evR_w2 {cl : CallF} {z1} {z2} {s0 : Sl} {r0 : Env} : evR cl (.star z1 z2) (s0 :: r0) = (.bad) := rfl
theorem evC_w0 {cl : CallF} {z1} {s0 : Sl} {r0 : Env} : evC cl (z1) (.nil) (s0 :: r0) = (.ok [] (s0 :: r0)) := rfl
theorem evC_w1 {cl : CallF} {e} {es} {m} {ms} {s0 : Sl} {r0 : Env} : evC cl (m :: ms) (.cons e es) (s0 :: r0) = ((ev cl e (s0 :: r0)).bind fun u env1 => match m with
      | true => match u with
        | .sl i => (evC cl ms es env1).bind fun us env2 => .ok (.sl i :: us) env2
        | _ => .bad
      | false => orBad (fzU env1 u) fun p => (evC cl ms es p.2).bind fun us env2 => .ok (.d p.1 :: us) env2) := rfl
theorem evC_w2 {cl : CallF} {e} {es} {ms} {s0 : Sl} {r0 : Env} : evC cl (ms) (.star e es) (s0 :: r0) = ((ev cl e (s0 :: r0)).bind fun u env1 => orBad (fzU env1 u) fun p => orBad (itemsD p.1) fun xs => (evC cl ms es p.2).bind fun us env2 => .ok (xs.map .d ++ us) env2) := rfl
theorem evC_w3 {cl : CallF} {z1} {z2} {s0 : Sl} {r0 : Env} : evC cl ([]) (.cons z1 z2) (s0 :: r0) = (.bad) := rfl
theorem ex_w0 {cl : CallF} {e} {i} {s0 : Sl} {r0 : Env} : ex cl (.asg i e) (s0 :: r0) = ((ev cl e (s0 :: r0)).bind fun u env1 => orBad (asgU env1 i u) fun env2 => .ok .next env2) := rfl
theorem ex_w1 {cl : CallF} {e} {i} {x} {s0 : Sl} {r0 : Env} : ex cl (.setK i x e) (s0 :: r0) = ((ev cl e (s0 :: r0)).bind fun u env1 => orBad (fzU env1 u) fun q => if !isDk (getS q.2 i) then .bad else (ev cl x q.2).bind fun w env3 => orBad (rdU env3 w) fun y => if !isDk (getS env3 i) then .bad else
      orBad (dkS (getS env3 i)) fun p => orBad (keyI y) fun n => if p.1.length < LIM then .ok .next (env3.set i (setIO (getS env3 i) (putKD p.1 p.2 n q.1))) else .bad) := rfl
theorem ex_w2 {cl : CallF} {g} {s0 : Sl} {r0 : Env} : ex cl (.hk g) (s0 :: r0) = (g cl (s0 :: r0)) := rfl
theorem ex_w3 {cl : CallF} {cs} {e} {i} {ks} {s0 : Sl} {r0 : Env} : ex cl (.unpF i cs ks e) (s0 :: r0) = ((ev cl e (s0 :: r0)).bind fun u env1 => orBad (fzU env1 u) fun p => match p.1 with
      | .tup xs => orBad (setFs i cs ks xs p.2) fun env2 => .ok .next env2
      | _ => .bad) := rfl
theorem ex_w4 {cl : CallF} {cs} {e} {i} {x} {s0 : Sl} {r0 : Env} : ex cl (.setO i cs x e) (s0 :: r0) = ((ev cl e (s0 :: r0)).bind fun u env1 => orBad (fzU env1 u) fun q => orBad (recvU true q.2 (.sl i)) fun _ => (ev cl x q.2).bind fun w env3 => orBad (fzU env3 w) fun y => orBad (recvU true y.2 (.sl i)) fun p => if !cs.contains p.1 then .bad else
      (runC cl (spec p.1 25) [true, false, false] [.sl i, .d y.1, .d q.1] y.2).bind fun _ env4 => .ok .next env4) := rfl
theorem ex_w5 {cl : CallF} {cs} {e} {i} {m} {s0 : Sl} {r0 : Env} : ex cl (.setP i cs m e) (s0 :: r0) = ((ev cl e (s0 :: r0)).bind fun u env1 => orBad (fzU env1 u) fun q => orBad (recvU true q.2 (.sl i)) fun p => if !cs.contains p.1 then .bad else
      (runC cl (spec p.1 m) [true, false] [.sl i, .d q.1] q.2).bind fun _ env4 => .ok .next env4) := rfl
theorem ex_w6 {cl : CallF} {e} {i} {x} {s0 : Sl} {r0 : Env} : ex cl (.setT i x e) (s0 :: r0) = ((ev cl e (s0 :: r0)).bind fun u env1 => orBad (fzU env1 u) fun q => if !isDtS (getS q.2 i) then .bad else (ev cl x q.2).bind fun w env3 => orBad (fzU env3 w) fun y => orBad (dtS (getS y.2 i)) fun p => orBad (keyTI y.1) fun n =>
      if p.1.length < LIM then .ok .next (y.2.set i (setIO (getS y.2 i) (mkDT (putPT (p.1.zip p.2) n q.1)))) else .bad) := rfl
theorem ex_w7 {cl : CallF} {e} {i} {x} {s0 : Sl} {r0 : Env} : ex cl (.setI i x e) (s0 :: r0) = ((ev cl e (s0 :: r0)).bind fun u env1 => orBad (fzU env1 u) fun p => if !isLs (getS p.2 i) then .bad else (ev cl x p.2).bind fun w env2 =>
      orBad (rdU env2 w) fun k => match getS env2 i, k with
        | .ow (.lst xs), .int n => orBad (setD xs n p.1) fun ys => .ok .next (env2.set i (.ow (.lst ys)))
        | .io (.lst xs), .int n => orBad (setD xs n p.1) fun ys => .ok .next (env2.set i (.io (.lst ys)))
        | _, _ => .bad) := rfl
theorem ex_w8 {cl : CallF} {e} {i} {s0 : Sl} {r0 : Env} : ex cl (.app i e) (s0 :: r0) = (if !isLs (getS (s0 :: r0) i) then .bad else (ev cl e (s0 :: r0)).bind fun u env1 => orBad (fzU env1 u) fun p => match getS p.2 i with
        | .ow (.lst xs) => if xs.length < LIM then .ok .next (p.2.set i (.ow (.lst (xs ++ [p.1])))) else .bad
        | .io (.lst xs) => if xs.length < LIM then .ok .next (p.2.set i (.io (.lst (xs ++ [p.1])))) else .bad
        | _ => .bad) := rfl
theorem ex_w9 {cl : CallF} {e} {i} {s0 : Sl} {r0 : Env} : ex cl (.ext i e) (s0 :: r0) = (if !isLs (getS (s0 :: r0) i) then .bad else (ev cl e (s0 :: r0)).bind fun u env1 => orBad (fzU env1 u) fun p => match getS p.2 i, p.1 with
        | .ow (.lst xs), .lst ys => if xs.length + ys.length < LIM then .ok .next (p.2.set i (.ow (.lst (xs ++ ys)))) else .bad
        | .io (.lst xs), .lst ys => if xs.length + ys.length < LIM then .ok .next (p.2.set i (.io (.lst (xs ++ ys)))) else .bad
        | _, _ => .bad) := rfl
theorem ex_w10 {cl : CallF} {e} {i} {o} {s0 : Sl} {r0 : Env} : ex cl (.aug i o e) (s0 :: r0) = (match getS (s0 :: r0) i with
        | .fz (.int n) => (ev cl e (s0 :: r0)).bind fun u env1 => orBad (rdU env1 u) fun y => match y with
          | .int m => match o with
            | .add => .ok .next (env1.set i (.fz (.int (n + m))))
            | .sub => .ok .next (env1.set i (.fz (.int (n - m))))
            | _ => .bad
          | _ => .bad
        | _ => .bad) := rfl
theorem ex_w11 {cl : CallF} {e} {s0 : Sl} {r0 : Env} : ex cl (.ex e) (s0 :: r0) = ((ev cl e (s0 :: r0)).bind fun _ env1 => .ok .next env1) := rfl
theorem ex_w12 {cl : CallF} {a} {b} {c} {s0 : Sl} {r0 : Env} : ex cl (.iff c a b) (s0 :: r0) = ((evT cl c (s0 :: r0)).bind fun t env1 => match t with
      | true => exs cl a env1
      | false => exs cl b env1) := rfl
theorem ex_w13 {cl : CallF} {b} {i} {n} {s0 : Sl} {r0 : Env} : ex cl (.forr i n b) (s0 :: r0) = ((ev cl n (s0 :: r0)).bind fun u env1 => orBad (rdU env1 u) fun y => match y with
      | .int m => if decide (-(2 ^ 40) ≤ m) && decide (m < 2 ^ 40) then forD (exs cl b) i ((List.range m.toNat).map fun (k : Nat) => .int k) env1 else .bad
      | _ => .bad) := rfl
theorem ex_w14 {cl : CallF} {b} {i} {l} {s0 : Sl} {r0 : Env} : ex cl (.forl i l b) (s0 :: r0) = ((ev cl l (s0 :: r0)).bind fun u env1 => orBad (fzU env1 u) fun p => match p.1 with
      | .lst xs => forD (exs cl b) i xs p.2
      | .tup xs => forD (exs cl b) i xs p.2
      | .kst xs => forD (exs cl b) i xs p.2
      | _ => .bad) := rfl
theorem ex_w15 {cl : CallF} {b} {it} {tg} {s0 : Sl} {r0 : Env} : ex cl (.fort tg it b) (s0 :: r0) = ((itD cl it (s0 :: r0)).bind fun ds env1 => forG (exs cl b) tg ds env1) := rfl
theorem ex_w16 {cl : CallF} {b} {c} {s0 : Sl} {r0 : Env} : ex cl (.whil c b) (s0 :: r0) = (whD (evT cl c) (exs cl b) FUEL (s0 :: r0)) := rfl
theorem ex_w17 {cl : CallF} {e} {s0 : Sl} {r0 : Env} : ex cl (.ret e) (s0 :: r0) = ((ev cl e (s0 :: r0)).bind fun u env1 => orBad (retU env1 u) fun r => .ok (.ret r.1) r.2) := rfl
theorem ex_w18 {cl : CallF} {s0 : Sl} {r0 : Env} : ex cl (.retN) (s0 :: r0) = (.ok (.ret (.d .non)) (s0 :: r0)) := rfl
theorem ex_w19 {cl : CallF} {s0 : Sl} {r0 : Env} : ex cl (.pass) (s0 :: r0) = (.ok .next (s0 :: r0)) := rfl
theorem ex_w20 {cl : CallF} {s0 : Sl} {r0 : Env} : ex cl (.never) (s0 :: r0) = (.bad) := rfl
theorem ex_w21 {cl : CallF} {es} {is} {s0 : Sl} {r0 : Env} : ex cl (.par is es) (s0 :: r0) = ((evF cl es (s0 :: r0)).bind fun ds env1 => orBad (storeAll is ds env1) fun env2 => .ok .next env2) := rfl
theorem ex_w22 {cl : CallF} {a} {b} {i} {j} {s0 : Sl} {r0 : Env} : ex cl (.parK i j a b) (s0 :: r0) = ((ev cl a (s0 :: r0)).bind fun u env1 => orBad (fzU env1 u) fun p => (ev cl b p.2).bind fun w env3 => orBad (asgU env3 j w) fun env4 => .ok .next (env4.set i (.fz p.1))) := rfl
theorem ex_w23 {cl : CallF} {a} {d} {i} {j} {s0 : Sl} {r0 : Env} : ex cl (.parL i j a d) (s0 :: r0) = ((ev cl a (s0 :: r0)).bind fun u env1 => orBad (asgU env1 i u) fun env2 => .ok .next (env2.set j (.fz d))) := rfl
theorem ex_w24 {cl : CallF} {a} {d} {d2} {i} {j} {k} {s0 : Sl} {r0 : Env} : ex cl (.parL3 i j k a d d2) (s0 :: r0) = ((ev cl a (s0 :: r0)).bind fun u env1 => orBad (asgU env1 i u) fun env2 => .ok .next ((env2.set j (.fz d)).set k (.fz d2))) := rfl
theorem ex_w25 {cl : CallF} {a} {i} {j} {s0 : Sl} {r0 : Env} : ex cl (.parN i j a) (s0 :: r0) = ((ev cl a (s0 :: r0)).bind fun u env1 => orBad (asgU env1 i u) fun env2 => orBad (asgU env2 j (.nw (.lst []))) fun env3 => .ok .next env3) := rfl
theorem ex_w26 {cl : CallF} {is} {ses} {s0 : Sl} {r0 : Env} : ex cl (.parS is ses) (s0 :: r0) = (orBad (setSE is ses (s0 :: r0)) fun env2 => .ok .next env2) := rfl
theorem ex_w27 {cl : CallF} {e} {is} {s0 : Sl} {r0 : Env} : ex cl (.unp is e) (s0 :: r0) = ((ev cl e (s0 :: r0)).bind fun u env1 => orBad (rdU env1 u) fun d => match d with
      | .tup ds => orBad (storeAll is ds env1) fun env2 => .ok .next env2
      | .lst ds => orBad (storeAll is ds env1) fun env2 => .ok .next env2
      | .kst ds => orBad (storeAll is ds env1) fun env2 => .ok .next env2
      | _ => .bad) := rfl
theorem ex_w28 {cl : CallF} {cs} {e} {i} {k} {s0 : Sl} {r0 : Env} : ex cl (.setF i cs k e) (s0 :: r0) = ((ev cl e (s0 :: r0)).bind fun u env1 => orBad (fzU env1 u) fun p => match getS p.2 i with
      | .ow (.obj c ks vs) => if (decide (ks.length < 100) && decide (vs.length = ks.length) && cs.contains c) = true then .ok .next (p.2.set i (.ow (.obj c (putD ks vs k p.1).1 (putD ks vs k p.1).2))) else .bad
      | .io (.obj c ks vs) => if (decide (ks.length < 100) && decide (vs.length = ks.length) && cs.contains c) = true then .ok .next (p.2.set i (.io (.obj c (putD ks vs k p.1).1 (putD ks vs k p.1).2))) else .bad
      | _ => .bad) := rfl
theorem ex_w29 {cl : CallF} {s0 : Sl} {r0 : Env} : ex cl (.brk) (s0 :: r0) = (.ok .brk (s0 :: r0)) := rfl
theorem ex_w30 {cl : CallF} {s0 : Sl} {r0 : Env} : ex cl (.cont) (s0 :: r0) = (.ok .cont (s0 :: r0)) := rfl
theorem ex_w31 {cl : CallF} {c} {es} {ks} {s0 : Sl} {r0 : Env} : ex cl (.raise c ks es) (s0 :: r0) = ((evF cl es (s0 :: r0)).bind fun ds env1 => if ds.length = ks.length then .exc (c, ks, ds.reverse) env1 else .bad) := rfl
theorem ex_w32 {cl : CallF} {e} {tg} {s0 : Sl} {r0 : Env} : ex cl (.asgT tg e) (s0 :: r0) = ((ev cl e (s0 :: r0)).bind fun u env1 => orBad (fzU env1 u) fun p => orBad (storeG tg p.1 p.2) fun env2 => .ok .next env2) := rfl
theorem ex_w33 {cl : CallF} {b} {cs} {i} {j} {s0 : Sl} {r0 : Env} : ex cl (.tryC b cs i j) (s0 :: r0) = (match exs cl b (s0 :: r0) with
      | .exc x env1 => if cs.contains x.1 then .ok .next (((env1.set i .un).set j (.fz (.err x.1 x.2.1 x.2.2))).set i .un) else .bad
      | r => r) := rfl
theorem exs_w0 {cl : CallF} {s0 : Sl} {r0 : Env} : exs cl (.nil) (s0 :: r0) = (.ok .next (s0 :: r0)) := rfl
theorem exs_w1 {cl : CallF} {r} {s} {s0 : Sl} {r0 : Env} : exs cl (.cons s r) (s0 :: r0) = ((ex cl s (s0 :: r0)).bind fun fl env1 => match fl with
      | .next => exs cl r env1
      | f => .ok f env1) := rfl
theorem itD_w0 {cl : CallF} {e} {s0 : Sl} {r0 : Env} : itD cl (.seq e) (s0 :: r0) = ((ev cl e (s0 :: r0)).bind fun u env1 => orBad (fzU env1 u) fun p => orBad (itemsD p.1) fun xs => .ok xs p.2) := rfl
theorem itD_w1 {cl : CallF} {hi} {lo} {s0 : Sl} {r0 : Env} : itD cl (.rng lo hi) (s0 :: r0) = ((ev cl lo (s0 :: r0)).bind fun u env1 => (ev cl hi env1).bind fun w env2 => orBad (rdU env2 (pend u)) fun x => orBad (rdU env2 w) fun y => match x, y with
      | .int m, .int n => if b40 m && b40 n then .ok ((List.range (n - m).toNat).map fun (k : Nat) => .int (m + k)) env2 else .bad
      | _, _ => .bad) := rfl
theorem itD_w2 {cl : CallF} {hi} {lo} {s0 : Sl} {r0 : Env} : itD cl (.down lo hi) (s0 :: r0) = ((ev cl lo (s0 :: r0)).bind fun u env1 => (ev cl hi env1).bind fun w env2 => orBad (rdU env2 (pend u)) fun x => orBad (rdU env2 w) fun y => match x, y with
      | .int m, .int n => if b40 m && b40 n then .ok ((List.range (m - n).toNat).map fun (k : Nat) => .int (m - k)) env2 else .bad
      | _, _ => .bad) := rfl
theorem itD_w3 {cl : CallF} {e} {s0 : Sl} {r0 : Env} : itD cl (.enum e) (s0 :: r0) = ((ev cl e (s0 :: r0)).bind fun u env1 => orBad (fzU env1 u) fun p => orBad (itemsD p.1) fun xs => .ok (enumD 0 xs) p.2) := rfl
theorem itD_w4 {cl : CallF} {a} {b} {s0 : Sl} {r0 : Env} : itD cl (.zip a b) (s0 :: r0) = ((ev cl a (s0 :: r0)).bind fun u env1 => orBad (fzU env1 u) fun p => (ev cl b p.2).bind fun w env2 => orBad (fzU env2 w) fun q => orBad (zipD p.1 q.1) fun xs => .ok xs q.2) := rfl
theorem itD_w5 {cl : CallF} {e} {s0 : Sl} {r0 : Env} : itD cl (.str e) (s0 :: r0) = ((ev cl e (s0 :: r0)).bind fun u env1 => orBad (rdU env1 u) fun x => match x with
      | .str z => .ok (z.cps.toList.map fun c => .str ⟨#[c]⟩) env1
      | _ => .bad) := rfl
theorem itD_w6 {cl : CallF} {e} {s0 : Sl} {r0 : Env} : itD cl (.keysT e) (s0 :: r0) = ((ev cl e (s0 :: r0)).bind fun u env1 => orBad (fzU env1 u) fun p => match p.1 with
      | .dT ks _ => .ok (ks.map keyTD) p.2
      | _ => .bad) := rfl
theorem itD_w7 {cl : CallF} {i} {s0 : Sl} {r0 : Env} : itD cl (.keys i) (s0 :: r0) = (orBad (dkW (getS (s0 :: r0) i)) fun p => .ok (p.1.map keyD) ((s0 :: r0).set i (.fz (.dK p.1 p.2)))) := rfl
theorem itD_w8 {cl : CallF} {a} {cs} {ds} {es} {m} {s0 : Sl} {r0 : Env} : itD cl (.gen m cs a es ds) (s0 :: r0) = ((ev cl a (s0 :: r0)).bind fun u env1 => orBad (fzU env1 u) fun p => match p.1 with
      | .obj c ks vs => if !cs.contains c then .bad else (evF cl es p.2).bind fun xs env2 => genR (cl (spec c m) ((.obj c ks vs :: (xs ++ ds)).map .fz)) env2
      | _ => .bad) := rfl
theorem itD_w9 {cl : CallF} {ds} {es} {f} {s0 : Sl} {r0 : Env} : itD cl (.genF f es ds) (s0 :: r0) = ((evF cl es (s0 :: r0)).bind fun xs env1 => genR (cl f ((xs ++ ds).map .fz)) env1) := rfl
theorem itD_w10 {cl : CallF} {g} {s0 : Sl} {r0 : Env} : itD cl (.hk g) (s0 :: r0) = (g cl (s0 :: r0)) := rfl
theorem itD_w11 {cl : CallF} {i} {j} {s0 : Sl} {r0 : Env} : itD cl (.zipG i j) (s0 :: r0) = ((itD cl i (s0 :: r0)).bind fun xs env1 => (itD cl j env1).bind fun ys env2 => .ok ((xs.zip ys).map fun p => .tup [p.1, p.2]) env2) := rfl
theorem itD_w12 {cl : CallF} {cs} {e} {j} {s0 : Sl} {r0 : Env} : itD cl (.own cs j e) (s0 :: r0) = ((ev cl e (s0 :: r0)).bind fun u env1 => orBad (recvU false env1 u) fun p => if !cs.contains p.1 then .bad else orBad (rdU p.2.2 p.2.1) fun x => orBad (fldOf x j) fun d => orBad (itemsD d) fun xs => .ok xs p.2.2) := rfl
theorem gex_w0 {cl : CallF} {s} {s0 : Sl} {r0 : Env} : gex cl (.pl s) (s0 :: r0) = ((ex cl s (s0 :: r0)).bind fun fl env1 => match fl with
      | .next => .ok [] env1
      | _ => .bad) := rfl
theorem gex_w1 {cl : CallF} {e} {s0 : Sl} {r0 : Env} : gex cl (.yl e) (s0 :: r0) = ((ev cl e (s0 :: r0)).bind yldU) := rfl
theorem gex_w2 {cl : CallF} {b} {it} {tg} {s0 : Sl} {r0 : Env} : gex cl (.fr tg it b) (s0 :: r0) = ((itD cl it (s0 :: r0)).bind fun ds env1 => loopY (gexs cl b) tg ds env1) := rfl
theorem gex_w3 {cl : CallF} {a} {b} {c} {s0 : Sl} {r0 : Env} : gex cl (.ife c a b) (s0 :: r0) = ((evT cl c (s0 :: r0)).bind fun t env1 => match t with
      | true => gexs cl a env1
      | false => gexs cl b env1) := rfl
theorem gexs_w0 {cl : CallF} {s0 : Sl} {r0 : Env} : gexs cl (.nil) (s0 :: r0) = (.ok [] (s0 :: r0)) := rfl
theorem gexs_w1 {cl : CallF} {g} {r} {s0 : Sl} {r0 : Env} : gexs cl (.cons g r) (s0 :: r0) = ((gex cl g (s0 :: r0)).bind fun y env1 => yThen y (gexs cl r env1)) := rfl
theorem evT_w {cl : CallF} {e} {s0 : Sl} {r0 : Env} : evT cl e (s0 :: r0) = ((ev cl e (s0 :: r0)).bind fun u env1 => orBad (rdU env1 u) fun x => orBad (truD x) fun t => .ok t env1) := rfl
end PP
end
section
namespace PP
open PySem L2
theorem getS_0 (s : Sl) (r : Env) : getS (s :: r) 0 = s := rfl
theorem getS_s (s : Sl) (r : Env) (n : Nat) : getS (s :: r) (n + 1) = getS r n := rfl
theorem set_0 (s x : Sl) (r : Env) : List.set (s :: r) 0 x = x :: r := rfl
theorem set_s (s x : Sl) (r : Env) (n : Nat) : List.set (s :: r) (n + 1) x = s :: List.set r n x := rfl
theorem bnd64_l {i j : Int} (h : -18446744073709551616 < i) (h' : i < 18446744073709551616) : (bnd64 i || bnd64 j) = true := by simp [bnd64]; omega
theorem mulOk_b {i j : Int} (h : (bnd64 i || bnd64 j) = true) : mulOk i j = true := by simp only [mulOk, h, Bool.true_or]
theorem mul_l {i j : Int} (h : -18446744073709551616 < i) (h' : i < 18446744073709551616) : op2 .mul (.int i) (.int j) = some (.int (i * j)) := by simp only [op2, mulOk_b (bnd64_l h h'), if_true]
theorem log2_lt {i : Int} {n : Nat} (h : i.natAbs < 2 ^ (n + 1)) : i.natAbs.log2 < n + 1 := by
  by_cases hz : i.natAbs = 0
  · rw [hz]; simp
  · exact (Nat.log2_lt hz).mpr h
theorem log2_b {i : Int} (h : -57896044618658097711785492504343953926634992332820282019728792003956564819968 < i) (h' : i < 57896044618658097711785492504343953926634992332820282019728792003956564819968) : i.natAbs.log2 < 300 := by
  have : i.natAbs < 2 ^ (254 + 1) := by
    have e : (2 : Nat) ^ (254 + 1) = 57896044618658097711785492504343953926634992332820282019728792003956564819968 := by decide
    rw [e]; omega
  have := log2_lt this
  omega
/-- two factors below 2 ^ 255 -/
theorem mul_w {i j : Int} (h : -57896044618658097711785492504343953926634992332820282019728792003956564819968 < i) (h1 : i < 57896044618658097711785492504343953926634992332820282019728792003956564819968) (h2 : -57896044618658097711785492504343953926634992332820282019728792003956564819968 < j) (h3 : j < 57896044618658097711785492504343953926634992332820282019728792003956564819968) : op2 .mul (.int i) (.int j) = some (.int (i * j)) := by
  have a := log2_b h h1
  have b := log2_b h2 h3
  have : mulOk i j = true := by
    simp only [mulOk, Bool.or_eq_true, decide_eq_true_eq]
    exact .inr (by omega)
  simp only [op2, this, if_true]
theorem mul_1 (j : Int) : op2 .mul (.int 1) (.int j) = some (.int j) := by rw [mul_l (by decide) (by decide), Int.one_mul]
theorem mul_m1 (j : Int) : op2 .mul (.int (-1)) (.int j) = some (.int (-j)) := by rw [mul_l (by decide) (by decide), Int.neg_mul, Int.one_mul]
theorem shl_p {i j : Int} (h0 : 0 ≤ j) (h1 : j ≤ 1000000) (h : -57896044618658097711785492504343953926634992332820282019728792003956564819968 < i) (h' : i < 57896044618658097711785492504343953926634992332820282019728792003956564819968) : op2 .shl (.int i) (.int j) = some (.int (i * 2 ^ j.toNat)) := by
  have a := log2_b h h'
  have : shlOk i j = true := by
    simp only [shlOk, Bool.and_eq_true, decide_eq_true_eq]
    exact ⟨⟨h0, h1⟩, by omega⟩
  simp only [op2, this, if_true]
theorem mod_p {i j : Int} (h : 0 < j) : op2 .mod (.int i) (.int j) = some (.int (i % j)) := by simp only [op2, h, if_true]
theorem fdiv_w {i j : Int} (h : 0 < j) (h' : j < 57896044618658097711785492504343953926634992332820282019728792003956564819968) : op2 .fdiv (.int i) (.int j) = some (.int (i / j)) := by
  have a := log2_b (i := j) (by omega) h'
  have : divOk j = true := by simp only [divOk, h, decide_true, Bool.true_and, decide_eq_true_eq]; omega
  simp only [op2, this, if_true]
theorem fdiv_p {i j : Int} (h : 0 < j) (h' : j < 1073741824) : op2 .fdiv (.int i) (.int j) = some (.int (i / j)) := by
  have a := log2_lt (i := j) (n := 29) (by omega)
  have : divOk j = true := by simp only [divOk, h, decide_true, Bool.true_and, decide_eq_true_eq]; omega
  simp only [op2, this, if_true]
theorem pow_p {i j : Int} (h : 0 ≤ j) (h1 : j ≤ 1000000) (h' : i.natAbs < 18446744073709551616) : op2 .pow (.int i) (.int j) = some (.int (i ^ j.toNat)) := by
  have z : i.natAbs < 2 ^ 64 := h'
  simp only [op2, powOk, h, h1, z, decide_true, Bool.and_self, if_true]
theorem fin_ok (as : List Ar) (fl : Fl) (env : Env) : finR as (.ok fl env) = finO (outsOf as env) fl := rfl
theorem fin_exc (as : List Ar) (d : Exn) (env : Env) : finR as (.exc d env) = finX (outsOf as env) d := rfl
theorem finX_s (o : List D) (d : Exn) : finX (some o) d = .exc d o := rfl
theorem finO_next (o : List D) : finO (some o) .next = .ok (.d .non) o := rfl
theorem finO_d (o : List D) (x : D) : finO (some o) (.ret (.d x)) = .ok (.d x) o := rfl
theorem finO_nw (o : List D) (x : D) : finO (some o) (.ret (.nw x)) = .ok (nrm x) o := rfl
theorem rdU_d (env : Env) (x : D) : rdU env (.d x) = some x := rfl
theorem rdU_nw (env : Env) (x : D) : rdU env (.nw x) = some x := rfl
theorem rdU_sl (env : Env) (i : Nat) : rdU env (.sl i) = rdS (getS env i) := rfl
theorem rdS_fz (d : D) : rdS (.fz d) = some d := rfl
theorem rdS_ow (d : D) : rdS (.ow d) = some d := rfl
theorem rdS_io (d : D) : rdS (.io d) = some d := rfl
theorem pend_d (x : D) : pend (.d x) = .d x := rfl
theorem pend_nw (x : D) : pend (.nw x) = .d x := rfl
theorem pend_sl (i : Nat) : pend (.sl i) = .sl i := rfl
theorem fzU_d (env : Env) (x : D) : fzU env (.d x) = some (x, env) := rfl
theorem fzU_nw (env : Env) (x : D) : fzU env (.nw x) = some (x, env) := rfl
theorem fzU_sl (env : Env) (i : Nat) : fzU env (.sl i) = match getS env i with | .fz d => some (d, env) | .ow d => some (d, env.set i (.fz d)) | _ => none := rfl
theorem asgU_d (env : Env) (i : Nat) (d : D) : asgU env i (.d d) = some (env.set i (.fz d)) := rfl
theorem asgU_nw (env : Env) (i : Nat) (d : D) : asgU env i (.nw d) = some (env.set i (slOf (.nw d) d)) := rfl
theorem asgU_sl (env : Env) (i j : Nat) : asgU env i (.sl j) = (fzU env (.sl j)).map fun p => p.2.set i (.fz p.1) := rfl
theorem slOf_non (u : U) : slOf u .non = .fz .non := by cases u <;> rfl
theorem slOf_bl (u : U) (b : Bool) : slOf u (.bl b) = .fz (.bl b) := by cases u <;> rfl
theorem slOf_int (u : U) (b : Int) : slOf u (.int b) = .fz (.int b) := by cases u <;> rfl
theorem slOf_str (u : U) (b : Str) : slOf u (.str b) = .fz (.str b) := by cases u <;> rfl
theorem slOf_tup (u : U) (b : List D) : slOf u (.tup b) = .fz (.tup b) := by cases u <;> rfl
theorem slOf_lst (x : D) (b : List D) : slOf (.nw x) (.lst b) = .ow (.lst b) := rfl
theorem slOf_dK (x : D) (ks : List Key) (b : List D) : slOf (.nw x) (.dK ks b) = .ow (.dK ks b) := rfl
theorem isLs_ow (xs : List D) : isLs (.ow (.lst xs)) = true := rfl
theorem isLs_io (xs : List D) : isLs (.io (.lst xs)) = true := rfl
theorem retU_d (env : Env) (x : D) : retU env (.d x) = some (.d x, env) := rfl
theorem retU_nw (env : Env) (x : D) : retU env (.nw x) = some (.nw x, env) := rfl
theorem retU_sl (env : Env) (i : Nat) : retU env (.sl i) = match getS env i with | .ow x => some (.nw x, env.set i .un) | .fz x => some (.d x, env) | _ => none := rfl
theorem nrm_non : nrm .non = .d .non := rfl
theorem nrm_bl (b : Bool) : nrm (.bl b) = .d (.bl b) := rfl
theorem nrm_int (b : Int) : nrm (.int b) = .d (.int b) := rfl
theorem nrm_str (b : Str) : nrm (.str b) = .d (.str b) := rfl
theorem nrm_tup (b : List D) : nrm (.tup b) = .d (.tup b) := rfl
theorem nrm_lst (b : List D) : nrm (.lst b) = .nw (.lst b) := rfl
theorem nrm_dK (k : List Key) (b : List D) : nrm (.dK k b) = .nw (.dK k b) := rfl
theorem setIO_ow (x d : D) : setIO (.ow x) d = .ow d := rfl
theorem setIO_io (x d : D) : setIO (.io x) d = .io d := rfl
theorem dupF_0 : dupFree [] = true := rfl
theorem dupF_1 (i : Nat) : dupFree [i] = true := by simp [dupFree]
theorem optP_f (f : Env → R U) (env : Env) : optP false f env = .ok none env := rfl
theorem optP_t (f : Env → R U) (env : Env) : optP true f env = (f env).bind partD := rfl
theorem truD_bl (b : Bool) : truD (.bl b) = some b := rfl
theorem truD_non : truD .non = some false := rfl
theorem truD_lst (b : List D) : truD (.lst b) = some (!b.isEmpty) := rfl
theorem partD_eq (u : U) (env : Env) : partD u env = orBad (rdU env u) fun d => match d with | .int i => .ok (some i) env | _ => .bad := rfl
theorem atI_c {α : Type} (xs : List α) (n : Nat) (a : α) (h : xs[n]? = some a) : L2.atI xs (n : Int) = some a := by
  have h5 : n < xs.length := (List.getElem?_eq_some_iff.mp h).1
  unfold L2.atI L2.ixN
  rw [if_pos (by omega), if_pos (by omega)]
  simpa using h
theorem ix_lst_0 (a0 : D) (xs : List D) : ixD (.lst (a0 :: xs)) (.int 0) = some a0 := atI_c _ 0 _ rfl
theorem ix_lst_1 (a0 a1 : D) (xs : List D) : ixD (.lst (a0 :: a1 :: xs)) (.int 1) = some a1 := atI_c _ 1 _ rfl
theorem ix_lst_2 (a0 a1 a2 : D) (xs : List D) : ixD (.lst (a0 :: a1 :: a2 :: xs)) (.int 2) = some a2 := atI_c _ 2 _ rfl
theorem ix_lst_3 (a0 a1 a2 a3 : D) (xs : List D) : ixD (.lst (a0 :: a1 :: a2 :: a3 :: xs)) (.int 3) = some a3 := atI_c _ 3 _ rfl
theorem ix_lst_4 (a0 a1 a2 a3 a4 : D) (xs : List D) : ixD (.lst (a0 :: a1 :: a2 :: a3 :: a4 :: xs)) (.int 4) = some a4 := atI_c _ 4 _ rfl
theorem ix_lst_5 (a0 a1 a2 a3 a4 a5 : D) (xs : List D) : ixD (.lst (a0 :: a1 :: a2 :: a3 :: a4 :: a5 :: xs)) (.int 5) = some a5 := atI_c _ 5 _ rfl
theorem ix_tup_0 (a0 : D) (xs : List D) : ixD (.tup (a0 :: xs)) (.int 0) = some a0 := atI_c _ 0 _ rfl
theorem ix_tup_1 (a0 a1 : D) (xs : List D) : ixD (.tup (a0 :: a1 :: xs)) (.int 1) = some a1 := atI_c _ 1 _ rfl
theorem ix_tup_2 (a0 a1 a2 : D) (xs : List D) : ixD (.tup (a0 :: a1 :: a2 :: xs)) (.int 2) = some a2 := atI_c _ 2 _ rfl
theorem ix_tup_3 (a0 a1 a2 a3 : D) (xs : List D) : ixD (.tup (a0 :: a1 :: a2 :: a3 :: xs)) (.int 3) = some a3 := atI_c _ 3 _ rfl
theorem ix_tup_4 (a0 a1 a2 a3 a4 : D) (xs : List D) : ixD (.tup (a0 :: a1 :: a2 :: a3 :: a4 :: xs)) (.int 4) = some a4 := atI_c _ 4 _ rfl
theorem ix_tup_5 (a0 a1 a2 a3 a4 a5 : D) (xs : List D) : ixD (.tup (a0 :: a1 :: a2 :: a3 :: a4 :: a5 :: xs)) (.int 5) = some a5 := atI_c _ 5 _ rfl
theorem bi_len_s {z : Str} (h : z.length ≤ 100000) : biD .len [.str z] = some (.int z.length) := if_pos h
theorem bi_split {z : Str} (h : z.length ≤ 100000) : biD .split [.str z, .str " "] = some (.lst ((Txt.split z " ").map .str)) := by
  have h : z.length ≤ LIM := h
  show (if _ then _ else _) = _
  rw [if_pos (by simp only [h, decide_true, Bool.true_and]; decide)]
theorem ix_str {z : Str} {c : Nat} {r : List Nat} (h : z.length ≤ 100000) (e : z.cps.toList = c :: r) : ixD (.str z) (.int 0) = some (.str ⟨#[c]⟩) := by
  have h : z.length ≤ LIM := h
  simp only [ixD, h, if_true, e]
  rw [show L2.atI (c :: r) 0 = some c from atI_c _ 0 _ rfl]
  rfl
theorem ix_kst_0 (a0 : D) (xs : List D) : ixD (.kst (a0 :: xs)) (.int 0) = some a0 := atI_c _ 0 _ rfl
theorem ix_kst_1 (a0 a1 : D) (xs : List D) : ixD (.kst (a0 :: a1 :: xs)) (.int 1) = some a1 := atI_c _ 1 _ rfl
theorem ix_kst_2 (a0 a1 a2 : D) (xs : List D) : ixD (.kst (a0 :: a1 :: a2 :: xs)) (.int 2) = some a2 := atI_c _ 2 _ rfl
theorem ix_kst_3 (a0 a1 a2 a3 : D) (xs : List D) : ixD (.kst (a0 :: a1 :: a2 :: a3 :: xs)) (.int 3) = some a3 := atI_c _ 3 _ rfl
theorem ix_kst_4 (a0 a1 a2 a3 a4 : D) (xs : List D) : ixD (.kst (a0 :: a1 :: a2 :: a3 :: a4 :: xs)) (.int 4) = some a4 := atI_c _ 4 _ rfl
theorem ix_kst_5 (a0 a1 a2 a3 a4 a5 : D) (xs : List D) : ixD (.kst (a0 :: a1 :: a2 :: a3 :: a4 :: a5 :: xs)) (.int 5) = some a5 := atI_c _ 5 _ rfl
theorem set_l3_1 (a b c x : D) : setD [a, b, c] 1 x = some [a, x, c] := rfl
theorem set_l3_2 (a b c x : D) : setD [a, b, c] 2 x = some [a, b, x] := rfl
theorem bi_int_i (i : Int) : biD .int [.int i] = some (.int i) := rfl
theorem bi_int_b (b : Bool) : biD .int [.bl b] = some (.int (if b then 1 else 0)) := rfl
theorem bi_abs (i : Int) : biD .abs [.int i] = some (.int (if i < 0 then -i else i)) := rfl
theorem bi_len_l (xs : List D) : biD .len [.lst xs] = some (.int xs.length) := rfl
theorem bi_len_t (xs : List D) : biD .len [.tup xs] = some (.int xs.length) := rfl
theorem bi_isInt_non : biD .isInt [.non] = some (.bl false) := rfl
theorem bi_isInt_bl (a : Bool) : biD .isInt [.bl a] = some (.bl true) := rfl
theorem bi_isInt_int (a : Int) : biD .isInt [.int a] = some (.bl true) := rfl
theorem bi_isInt_str (a : Str) : biD .isInt [.str a] = some (.bl false) := rfl
theorem bi_isInt_tup (a : List D) : biD .isInt [.tup a] = some (.bl false) := rfl
theorem bi_isInt_lst (a : List D) : biD .isInt [.lst a] = some (.bl false) := rfl
theorem bi_isInt_kst (a : List D) : biD .isInt [.kst a] = some (.bl false) := rfl
theorem bi_isInt_dK (k : List Key) (a : List D) : biD .isInt [.dK k a] = some (.bl false) := rfl
theorem bi_isBool_non : biD .isBool [.non] = some (.bl false) := rfl
theorem bi_isBool_bl (a : Bool) : biD .isBool [.bl a] = some (.bl true) := rfl
theorem bi_isBool_int (a : Int) : biD .isBool [.int a] = some (.bl false) := rfl
theorem bi_isBool_str (a : Str) : biD .isBool [.str a] = some (.bl false) := rfl
theorem bi_isBool_tup (a : List D) : biD .isBool [.tup a] = some (.bl false) := rfl
theorem bi_isBool_lst (a : List D) : biD .isBool [.lst a] = some (.bl false) := rfl
theorem bi_isBool_kst (a : List D) : biD .isBool [.kst a] = some (.bl false) := rfl
theorem bi_isBool_dK (k : List Key) (a : List D) : biD .isBool [.dK k a] = some (.bl false) := rfl
theorem bi_isTuple_non : biD .isTuple [.non] = some (.bl false) := rfl
theorem bi_isTuple_bl (a : Bool) : biD .isTuple [.bl a] = some (.bl false) := rfl
theorem bi_isTuple_int (a : Int) : biD .isTuple [.int a] = some (.bl false) := rfl
theorem bi_isTuple_str (a : Str) : biD .isTuple [.str a] = some (.bl false) := rfl
theorem bi_isTuple_tup (a : List D) : biD .isTuple [.tup a] = some (.bl true) := rfl
theorem bi_isTuple_lst (a : List D) : biD .isTuple [.lst a] = some (.bl false) := rfl
theorem bi_isTuple_kst (a : List D) : biD .isTuple [.kst a] = some (.bl false) := rfl
theorem bi_isTuple_dK (k : List Key) (a : List D) : biD .isTuple [.dK k a] = some (.bl false) := rfl
theorem bi_isList_non : biD .isList [.non] = some (.bl false) := rfl
theorem bi_isList_bl (a : Bool) : biD .isList [.bl a] = some (.bl false) := rfl
theorem bi_isList_int (a : Int) : biD .isList [.int a] = some (.bl false) := rfl
theorem bi_isList_str (a : Str) : biD .isList [.str a] = some (.bl false) := rfl
theorem bi_isList_tup (a : List D) : biD .isList [.tup a] = some (.bl false) := rfl
theorem bi_isList_lst (a : List D) : biD .isList [.lst a] = some (.bl true) := rfl
theorem bi_isList_kst (a : List D) : biD .isList [.kst a] = some (.bl true) := rfl
theorem bi_isList_dK (k : List Key) (a : List D) : biD .isList [.dK k a] = some (.bl false) := rfl
theorem bi_isStr_non : biD .isStr [.non] = some (.bl false) := rfl
theorem bi_isStr_bl (a : Bool) : biD .isStr [.bl a] = some (.bl false) := rfl
theorem bi_isStr_int (a : Int) : biD .isStr [.int a] = some (.bl false) := rfl
theorem bi_isStr_str (a : Str) : biD .isStr [.str a] = some (.bl true) := rfl
theorem bi_isStr_tup (a : List D) : biD .isStr [.tup a] = some (.bl false) := rfl
theorem bi_isStr_lst (a : List D) : biD .isStr [.lst a] = some (.bl false) := rfl
theorem bi_isStr_kst (a : List D) : biD .isStr [.kst a] = some (.bl false) := rfl
theorem bi_isStr_dK (k : List Key) (a : List D) : biD .isStr [.dK k a] = some (.bl false) := rfl
theorem le_lim {n : Nat} (h : n ≤ 100000) : (n ≤ LIM) = True := eq_true h
theorem lt_lim {n : Nat} (h : n < 100000) : (n < LIM) = True := eq_true h
theorem pw_10_18 : op2 .pow (.int 10) (.int 18) = some (.int 1000000000000000000) := rfl
theorem o_gt_i (i j : Int) : op2 .gt (.int i) (.int j) = some (.bl (decide (j < i))) := rfl
theorem o_lt_i (i j : Int) : op2 .lt (.int i) (.int j) = some (.bl (decide (i < j))) := rfl
theorem o_ge_i (i j : Int) : op2 .ge (.int i) (.int j) = some (.bl (decide (j ≤ i))) := rfl
theorem o_le_i (i j : Int) : op2 .le (.int i) (.int j) = some (.bl (decide (i ≤ j))) := rfl
theorem o_add_i (i j : Int) : op2 .add (.int i) (.int j) = some (.int (i + j)) := rfl
theorem o_sub_i (i j : Int) : op2 .sub (.int i) (.int j) = some (.int (i - j)) := rfl
theorem o_rev_l (xs : List D) : op1 .rev (.lst xs) = some (.lst xs.reverse) := rfl
theorem o_rev_t (xs : List D) : op1 .rev (.tup xs) = some (.tup xs.reverse) := rfl
theorem o_neg_i (i : Int) : op1 .neg (.int i) = some (.int (-i)) := rfl
theorem o_eq_i (i j : Int) : op2 .eq (.int i) (.int j) = some (.bl (i == j)) := rfl
theorem o_ne_i (i j : Int) : op2 .ne (.int i) (.int j) = some (.bl (!(i == j))) := rfl
theorem o_eq_s (i j : Str) : op2 .eq (.str i) (.str j) = some (.bl (decide (i = j))) := rfl
theorem o_ne_s (i j : Str) : op2 .ne (.str i) (.str j) = some (.bl (!decide (i = j))) := rfl
theorem o_eq_b (i j : Bool) : op2 .eq (.bl i) (.bl j) = some (.bl (i == j)) := rfl
theorem ints_py : ∀ cs : List Int, toPyAll (cs.map D.int) = some (cs.map PyData.int)
  | [] => rfl
  | c :: cs => by simp only [List.map_cons, toPyAll, toPy, ints_py cs]
theorem ints_lay : ∀ cs : List Int, PyData.canLayAll0 (cs.map PyData.int) = true ∧ PyData.depthAll (cs.map PyData.int) = 0
  | [] => ⟨by simp [PyData.canLayAll0], by simp [PyData.depthAll]⟩
  | c :: cs => by
    obtain ⟨h1, h2⟩ := ints_lay cs
    exact ⟨by simp [PyData.canLayAll0, PyData.canLay0, h1], by simp [PyData.depthAll, PyData.depth, h2]⟩
theorem ne_nil (cs : List Int) : op2 .ne (.lst (cs.map D.int)) (.lst []) = some (.bl (!cs.isEmpty)) := by
  obtain ⟨h1, h2⟩ := ints_lay cs
  have s1 : SeqAt.shaped (.list (cs.map PyData.int)) = true := by simp [SeqAt.shaped, PyData.canLay0, PyData.depth, h1, h2]
  have s2 : SeqAt.shaped (.list []) = true := by decide +kernel
  have e : op2 .ne (.lst (cs.map D.int)) (.lst []) = (eqP (.lst (cs.map D.int)) (.lst [])).map fun b => .bl (!b) := rfl
  rw [e]
  unfold eqP
  simp only [toPy, ints_py, Option.map_some, toPyAll, s1, s2, Bool.and_self, if_true, PyData.eqv]
  cases cs <;> simp [PyData.eqvAll]
theorem fldOf_o (c : Nat) (ks : List Nat) (vs : List D) (j : Nat) : fldOf (.obj c ks vs) j = fldD ks vs j := rfl
theorem fldOf_e (c : Nat) (ks : List Nat) (vs : List D) (j : Nat) : fldOf (.err c ks vs) j = fldD ks vs j := rfl
theorem fldD_c (k : Nat) (ks : List Nat) (v : D) (vs : List D) (j : Nat) : fldD (k :: ks) (v :: vs) j = if k = j then some v else fldD ks vs j := rfl
theorem putD_c (k : Nat) (ks : List Nat) (v : D) (vs : List D) (j : Nat) (x : D) : putD (k :: ks) (v :: vs) j x = if k = j then (k :: ks, x :: vs) else (k :: (putD ks vs j x).1, v :: (putD ks vs j x).2) := rfl
theorem putD_n (j : Nat) (x : D) : putD [] [] j x = ([j], [x]) := rfl
theorem isObj_o (cs : List Nat) (c : Nat) (ks : List Nat) (vs : List D) : isObjOf cs (.obj c ks vs) = cs.contains c := rfl
theorem isObj_e (cs : List Nat) (c : Nat) (ks : List Nat) (vs : List D) : isObjOf cs (.err c ks vs) = cs.contains c := rfl
theorem isObj_non (cs : List Nat) : isObjOf cs .non = false := rfl
theorem isObj_bl (cs : List Nat) (b : Bool) : isObjOf cs (.bl b) = false := rfl
theorem isObj_int (cs : List Nat) (b : Int) : isObjOf cs (.int b) = false := rfl
theorem isObj_str (cs : List Nat) (b : Str) : isObjOf cs (.str b) = false := rfl
theorem isObj_lst (cs : List Nat) (b : List D) : isObjOf cs (.lst b) = false := rfl
theorem isObj_tup (cs : List Nat) (b : List D) : isObjOf cs (.tup b) = false := rfl
theorem isObj_kst (cs : List Nat) (b : List D) : isObjOf cs (.kst b) = false := rfl
theorem isObj_dK (cs : List Nat) (k : List Key) (b : List D) : isObjOf cs (.dK k b) = false := rfl
theorem isCls_o (c : Nat) (ks : List Nat) (vs : List D) : isClsD (.obj c ks vs) = false := rfl
theorem isCls_e (c : Nat) (ks : List Nat) (vs : List D) : isClsD (.err c ks vs) = false := rfl
theorem isCls_non : isClsD .non = false := rfl
theorem isCls_bl (b : Bool) : isClsD (.bl b) = false := rfl
theorem isCls_int (b : Int) : isClsD (.int b) = false := rfl
theorem isCls_str (b : Str) : isClsD (.str b) = false := rfl
theorem isCls_lst (b : List D) : isClsD (.lst b) = false := rfl
theorem isCls_tup (b : List D) : isClsD (.tup b) = false := rfl
theorem isCls_kst (b : List D) : isClsD (.kst b) = false := rfl
theorem isCls_dK (k : List Key) (b : List D) : isClsD (.dK k b) = false := rfl
theorem runC_eq (cl : CallF) (f : Nat) (ms : List Bool) (us : List U) (env : Env) : runC cl f ms us env = orBad (argsOf env ms us) fun as =>
  if dupFree (ioSlots us) then match cl f as with
    | .ok r outs => .ok r (putIO env (ioSlots us) outs)
    | .exc x outs => .exc x (putIO env (ioSlots us) outs)
    | .bad => .bad
  else .bad := rfl
theorem makeO_eq (cl : CallF) (c : Nat) (as : List Ar) (env : Env) : makeO cl c as env = match cl (spec c 0) (.io (.obj c [] []) :: as) with
  | .ok (.d .non) [o] => .ok (.nw o) env
  | .exc x _ => .exc x env
  | _ => .bad := rfl
theorem spec_eq (c m : Nat) : spec c m = 1000 + 1000 * c + m := rfl
theorem allFz_0 : allFz [] = true := rfl
theorem allFz_c (d : D) (as : List Ar) : allFz (.fz d :: as) = allFz as := rfl
theorem recv_f (env : Env) (u : U) : recvU false env u = match fzU env u with
    | some (.obj c ks vs, env') => some (c, .d (.obj c ks vs), env')
    | _ => none := rfl
theorem recv_t (env : Env) (i : Nat) : recvU true env (.sl i) = match getS env i with
      | .ow (.obj c _ _) => some (c, .sl i, env)
      | .io (.obj c _ _) => some (c, .sl i, env)
      | _ => none := rfl
theorem ownOp_o (cl : CallF) (o : O2) (cs ts : List Nat) (c : Nat) (ks : List Nat) (vs : List D) (y : D) (env : Env) : ownOp cl o cs ts (.obj c ks vs) y env = (if !(cs.contains c && okR o ts c y) then .bad else match cl (spec c (opc o)) [.fz (.obj c ks vs), .fz y] with
    | .ok r _ => match o with
      | .ne => match r with
        | .d (.bl t) => .ok (.nw (.bl (!t))) env
        | _ => .bad
      | _ => .ok r env
    | .exc x _ => .exc x env
    | .bad => .bad) := rfl
theorem ownIn_o (cl : CallF) (neg : Bool) (cs : List Nat) (x : D) (c : Nat) (ks : List Nat) (vs : List D) (env : Env) : ownIn cl neg cs x (.obj c ks vs) env = (if !cs.contains c then .bad else match cl (spec c 17) [.fz (.obj c ks vs), .fz x] with
    | .ok (.d (.bl t)) _ => .ok (.nw (.bl (if neg then !t else t))) env
    | .exc x _ => .exc x env
    | _ => .bad) := rfl
theorem ownNe_o (cl : CallF) (cs : List Nat) (c : Nat) (ks : List Nat) (vs : List D) (y : D) (env : Env) : ownNe cl cs (.obj c ks vs) y env = (if !(cs.contains c && !oddD y) then .bad else match cl (spec c 16) [.fz (.obj c ks vs), .fz y] with
    | .ok (.d (.bl t)) _ => .ok (.nw (.bl (!t))) env
    | .exc x _ => .exc x env
    | _ => .bad) := rfl
theorem opc_add : opc .add = 1 := rfl
theorem opc_sub : opc .sub = 2 := rfl
theorem opc_mul : opc .mul = 3 := rfl
theorem opc_shl : opc .shl = 7 := rfl
theorem opc_shr : opc .shr = 8 := rfl
theorem opc_band : opc .band = 9 := rfl
theorem opc_bor : opc .bor = 10 := rfl
theorem opc_lt : opc .lt = 12 := rfl
theorem opc_le : opc .le = 13 := rfl
theorem opc_gt : opc .gt = 14 := rfl
theorem opc_ge : opc .ge = 15 := rfl
theorem opc_eq : opc .eq = 16 := rfl
theorem opc_ne : opc .ne = 16 := rfl
theorem okR_o (o : O2) (ts : List Nat) (c c' : Nat) (ks : List Nat) (vs : List D) : okR o ts c (.obj c' ks vs) = (isCmpO o || c == c') := rfl
theorem okR_int (o : O2) (ts : List Nat) (c : Nat) (i : Int) : okR o ts c (.int i) = (isCmpO o || ts.contains 2) := rfl
theorem okR_bl (o : O2) (ts : List Nat) (c : Nat) (i : Bool) : okR o ts c (.bl i) = (isCmpO o || ts.contains 1) := rfl
theorem okR_non (o : O2) (ts : List Nat) (c : Nat) : okR o ts c .non = (isCmpO o || ts.contains 0) := rfl
theorem okR_str (o : O2) (ts : List Nat) (c : Nat) (i : Str) : okR o ts c (.str i) = (isCmpO o || ts.contains 3) := rfl
theorem okR_lst (o : O2) (ts : List Nat) (c : Nat) (i : List D) : okR o ts c (.lst i) = (isCmpO o || ts.contains 4) := rfl
theorem okR_kst (o : O2) (ts : List Nat) (c : Nat) (i : List D) : okR o ts c (.kst i) = (isCmpO o || ts.contains 4) := rfl
theorem okR_tup (o : O2) (ts : List Nat) (c : Nat) (i : List D) : okR o ts c (.tup i) = (isCmpO o || ts.contains 5) := rfl
theorem cmp_lt : isCmpO .lt = true := rfl
theorem cmp_le : isCmpO .le = true := rfl
theorem cmp_gt : isCmpO .gt = true := rfl
theorem cmp_ge : isCmpO .ge = true := rfl
theorem cmp_eq : isCmpO .eq = true := rfl
theorem cmp_ne : isCmpO .ne = true := rfl
theorem cmp_add : isCmpO .add = false := rfl
theorem cmp_sub : isCmpO .sub = false := rfl
theorem cmp_band : isCmpO .band = false := rfl
theorem cmp_bor : isCmpO .bor = false := rfl
theorem cmp_shl : isCmpO .shl = false := rfl
theorem cmp_shr : isCmpO .shr = false := rfl
theorem cmp_mul : isCmpO .mul = false := rfl
theorem slOf_obj (x : D) (c : Nat) (ks : List Nat) (vs : List D) : slOf (.nw x) (.obj c ks vs) = .ow (.obj c ks vs) := rfl
theorem nrm_obj (c : Nat) (ks : List Nat) (vs : List D) : nrm (.obj c ks vs) = .nw (.obj c ks vs) := rfl
theorem slOf_err (u : U) (c : Nat) (ks : List Nat) (vs : List D) : slOf u (.err c ks vs) = .fz (.err c ks vs) := by cases u <;> rfl
theorem hear_eq (cl : CallF) (f : Nat) (o : D) (env : Env) : hearC cl f o env = match cl f [.fz o] with
  | .ok r _ => .ok r env
  | .exc x _ => .exc x env
  | .bad => .bad := rfl
theorem frz_0 (env : Env) : frzAll [] env = some env := rfl
theorem frz_c (i : Nat) (is : List Nat) (env : Env) : frzAll (i :: is) env = (fzU env (.sl i)).bind fun p => frzAll is p.2 := rfl
theorem mask_c (s : Sl) (env : Env) : maskE (s :: env) = maskS s :: maskE env := rfl
theorem mask_n : maskE [] = [] := rfl
theorem maskS_fz (d : D) : maskS (.fz d) = .fz d := rfl
theorem maskS_ow (d : D) : maskS (.ow d) = .un := rfl
theorem maskS_io (d : D) : maskS (.io d) = .un := rfl
theorem maskS_un : maskS .un = .un := rfl
theorem item_t (xs : List D) : itemsD (.tup xs) = some xs := rfl
theorem item_l (xs : List D) : itemsD (.lst xs) = some xs := rfl
theorem item_k (xs : List D) : itemsD (.kst xs) = some xs := rfl
theorem bi_max2 (i j : Int) : biD .max2 [.int i, .int j] = some (.int (max i j)) := by
  have : (if j > i then j else i) = max i j := by omega
  rw [← this]; rfl
theorem bi_min2 (i j : Int) : biD .min2 [.int i, .int j] = some (.int (min i j)) := by
  have : (if j < i then j else i) = min i j := by omega
  rw [← this]; rfl
theorem bi_bool_b (b : Bool) : biD .bool [.bl b] = some (.bl b) := rfl
theorem o_shr_i {i j : Int} (h : 0 ≤ j) : op2 .shr (.int i) (.int j) = some (.int (i / 2 ^ j.toNat)) := by simp only [op2, h, if_true]
theorem o_is_n (x : D) : op2 .is x .non = some (.bl (match x with | .non => true | _ => false)) := rfl
theorem o_isnot_n (x : D) : op2 .isnot x .non = some (.bl (match x with | .non => false | _ => true)) := rfl
theorem o_is_b (x : D) (b : Bool) : op2 .is x (.bl b) = some (.bl (match x with | .bl c => b == c | _ => false)) := rfl
theorem o_isnot_b (x : D) (b : Bool) : op2 .isnot x (.bl b) = some (.bl (match x with | .bl c => !(b == c) | _ => true)) := rfl
theorem o_add_l (xs ys : List D) : op2 .add (.lst xs) (.lst ys) = if xs.length + ys.length ≤ LIM then some (.lst (xs ++ ys)) else none := rfl
theorem o_mul_l (xs : List D) (j : Int) : op2 .mul (.lst xs) (.int j) = if decide (0 ≤ j) && decide (j ≤ 1000) && decide (xs.length * j.toNat ≤ LIM) then some (.lst (List.replicate j.toNat xs).flatten) else none := rfl
theorem set_l4_0 (a b c d x : D) : setD [a, b, c, d] 0 x = some [x, b, c, d] := rfl
theorem set_l4_1 (a b c d x : D) : setD [a, b, c, d] 1 x = some [a, x, c, d] := rfl
theorem set_l4_2 (a b c d x : D) : setD [a, b, c, d] 2 x = some [a, b, x, d] := rfl
theorem set_l4_3 (a b c d x : D) : setD [a, b, c, d] 3 x = some [a, b, c, x] := rfl
theorem ask_o (o : D) (cl : CallF) (env : Env) : askR (askCl o cl 999 []) env = outD o env := ask_out
theorem outD_t (d : D) (env : Env) : outD (.tup [.non, d]) env = .ok (.d d) env := rfl
theorem outD_e (c : Nat) (ks : List Nat) (vs : List D) (env : Env) : outD (.err c ks vs) env = .exc (c, ks, vs) env := rfl
theorem keep_d (env env' : Env) (d : D) : keepC env (.ok (.d d) env') = if noLst d then .ok (.d d) env else .bad := rfl
theorem noL_non : noLst .non = true := by rw [noLst]
theorem noL_int (i : Int) : noLst (.int i) = true := by rw [noLst]
theorem noL_bl (i : Bool) : noLst (.bl i) = true := by rw [noLst]
theorem noL_str (i : Str) : noLst (.str i) = true := by rw [noLst]
theorem noL_tup (xs : List D) : noLst (.tup xs) = noLsts xs := by rw [noLst]
theorem noL_0 : noLsts [] = true := by rw [noLsts]
theorem noL_c (x : D) (xs : List D) : noLsts (x :: xs) = (noLst x && noLsts xs) := by rw [noLsts]
theorem evJ_0 {cl : CallF} {acc : Str} {env : Env} : evJ cl .nil acc env = .ok acc env := rfl
theorem nrm_mut {x : D} (h : isMutD x = true) : nrm x = .nw x := by simp only [nrm, h, if_true]
theorem rv_split (z : Str) : recvB .split (.str z) = true := rfl
theorem rv_join (z : Str) : recvB .join (.str z) = true := rfl
theorem rv_ix_l (xs : List D) : recvB .index (.lst xs) = true := rfl
theorem rv_ix_k (xs : List D) : recvB .index (.kst xs) = true := rfl
theorem clsN_eq (c : Nat) : isClsN c (.fz (.cls c)) = true := by simp [isClsN]
end PP
end
section
namespace PP
open PySem L2
mutual
def wfD : D → Bool
  | .non => true | .bl _ => true | .int _ => true | .str z => PyData.strOk z
  | .lst xs => wfL xs | .tup xs => wfL xs | .kst xs => wfL xs | _ => false
def wfL : List D → Bool
  | [] => true | d :: r => wfD d && wfL r
end
mutual
def dpD : D → Nat
  | .lst xs => dpL xs + 1 | .tup xs => dpL xs + 1 | .kst xs => dpL xs + 1 | _ => 0
def dpL : List D → Nat
  | [] => 0 | d :: r => max (dpD d) (dpL r)
end
def eqvD (x y : D) : Bool := match toPy x, toPy y with
  | some p, some q => PyData.eqv p q
  | _, _ => false
def eqvL (xs ys : List D) : Bool := match toPyAll xs, toPyAll ys with
  | some p, some q => PyData.eqvAll p q
  | _, _ => false
mutual
theorem wf_py : ∀ d : D, wfD d = true → ∃ p, toPy d = some p ∧ p.canLay0 = true ∧ p.depth = dpD d
  | .non, _ => ⟨.none, rfl, by simp [PyData.canLay0], by simp [PyData.depth, dpD]⟩
  | .bl b, _ => ⟨.bool b, rfl, by simp [PyData.canLay0], by simp [PyData.depth, dpD]⟩
  | .int i, _ => ⟨.int i, rfl, by simp [PyData.canLay0], by simp [PyData.depth, dpD]⟩
  | .str z, h => ⟨.str z, rfl, by simp only [wfD] at h; simp only [PyData.canLay0, h], by simp [PyData.depth, dpD]⟩
  | .lst xs, h => by
    obtain ⟨ps, h1, h2, h3⟩ := wfs_py xs (by simpa only [wfD] using h)
    exact ⟨.list ps, by simp only [toPy, h1, Option.map_some], by simp only [PyData.canLay0, h2], by simp only [PyData.depth, dpD, h3]⟩
  | .tup xs, h => by
    obtain ⟨ps, h1, h2, h3⟩ := wfs_py xs (by simpa only [wfD] using h)
    exact ⟨.tuple ps, by simp only [toPy, h1, Option.map_some], by simp only [PyData.canLay0, h2], by simp only [PyData.depth, dpD, h3]⟩
  | .kst xs, h => by
    obtain ⟨ps, h1, h2, h3⟩ := wfs_py xs (by simpa only [wfD] using h)
    exact ⟨.list ps, by simp only [toPy, h1, Option.map_some], by simp only [PyData.canLay0, h2], by simp only [PyData.depth, dpD, h3]⟩
  | .dK _ _, h => by simp [wfD] at h
  | .dT _ _, h => by simp [wfD] at h
  | .obj _ _ _, h => by simp [wfD] at h
  | .cls _, h => by simp [wfD] at h
  | .err _ _ _, h => by simp [wfD] at h
theorem wfs_py : ∀ ds : List D, wfL ds = true → ∃ ps, toPyAll ds = some ps ∧ PyData.canLayAll0 ps = true ∧ PyData.depthAll ps = dpL ds
  | [], _ => ⟨[], rfl, by simp [PyData.canLayAll0], by simp [PyData.depthAll, dpL]⟩
  | d :: r, h => by
    simp only [wfL, Bool.and_eq_true] at h
    obtain ⟨p, h1, h2, h3⟩ := wf_py d h.1
    obtain ⟨ps, g1, g2, g3⟩ := wfs_py r h.2
    exact ⟨p :: ps, by simp only [toPyAll, h1, g1], by simp only [PyData.canLayAll0, h2, g2, Bool.and_self], by simp only [PyData.depthAll, dpL, h3, g3]⟩
end
theorem eqP_v {x y : D} (hx : wfD x = true) (hy : wfD y = true) (dx : dpD x ≤ 64) (dy : dpD y ≤ 64) : eqP x y = some (eqvD x y) := by
  obtain ⟨p, h1, h2, h3⟩ := wf_py x hx
  obtain ⟨q, g1, g2, g3⟩ := wf_py y hy
  have s1 : SeqAt.shaped p = true := by simp only [SeqAt.shaped, h2, h3, dx, decide_true, Bool.and_self]
  have s2 : SeqAt.shaped q = true := by simp only [SeqAt.shaped, g2, g3, dy, decide_true, Bool.and_self]
  simp only [eqP, eqvD, h1, g1, s1, s2, Bool.and_self, if_true]
theorem v_str (a b : Str) : eqvD (.str a) (.str b) = decide (a = b) := by
  show PyData.eqv (.str a) (.str b) = _
  simp only [PyData.eqv]
  by_cases h : a = b
  · simp [h]
  · simp [h]
theorem eqD_v {x y : D} (hx : wfD x = true) (hy : wfD y = true) (dx : dpD x ≤ 64) (dy : dpD y ≤ 64) : eqD x y = some (eqvD x y) := by
  have e := eqP_v hx hy dx dy
  cases x <;> cases y <;> first | exact e | (rw [v_str]; rfl)
theorem op_eq {x y : D} (hx : wfD x = true) (hy : wfD y = true) (dx : dpD x ≤ 64) (dy : dpD y ≤ 64) : op2 .eq x y = some (.bl (eqvD x y)) := by
  have e : op2 .eq x y = (eqD x y).map .bl := by cases x <;> rfl
  rw [e, eqD_v hx hy dx dy]
  rfl
theorem op_ne {x y : D} (hx : wfD x = true) (hy : wfD y = true) (dx : dpD x ≤ 64) (dy : dpD y ≤ 64) : op2 .ne x y = some (.bl (!eqvD x y)) := by
  have e : op2 .ne x y = (eqD x y).map fun b => .bl (!b) := by cases x <;> rfl
  rw [e, eqD_v hx hy dx dy]
  rfl
theorem v_nil : eqvL [] [] = true := by
  show PyData.eqvAll [] [] = _
  simp only [PyData.eqvAll]
theorem v_cons (x y : D) (xs ys : List D) : eqvL (x :: xs) (y :: ys) = (eqvD x y && eqvL xs ys) := by
  simp only [eqvL, eqvD, toPyAll]
  cases toPy x <;> cases toPy y <;> cases toPyAll xs <;> cases toPyAll ys <;> simp [PyData.eqvAll]
theorem v_nc (y : D) (ys : List D) : eqvL [] (y :: ys) = false := by
  simp only [eqvL, toPyAll]
  cases toPy y <;> cases toPyAll ys <;> simp [PyData.eqvAll]
theorem v_cn (y : D) (ys : List D) : eqvL (y :: ys) [] = false := by
  simp only [eqvL, toPyAll]
  cases toPy y <;> cases toPyAll ys <;> simp [PyData.eqvAll]
theorem v_tup (xs ys : List D) : eqvD (.tup xs) (.tup ys) = eqvL xs ys := by
  simp only [eqvL, eqvD, toPy]
  cases toPyAll xs <;> cases toPyAll ys <;> simp [PyData.eqv]
theorem v_lst (xs ys : List D) : eqvD (.lst xs) (.lst ys) = eqvL xs ys := by
  simp only [eqvL, eqvD, toPy]
  cases toPyAll xs <;> cases toPyAll ys <;> simp [PyData.eqv]
theorem v_kl (xs ys : List D) : eqvD (.kst xs) (.lst ys) = eqvL xs ys := by
  simp only [eqvL, eqvD, toPy]
  cases toPyAll xs <;> cases toPyAll ys <;> simp [PyData.eqv]
theorem v_lt (xs ys : List D) : eqvD (.lst xs) (.tup ys) = false := by
  simp only [eqvD, toPy]
  cases toPyAll xs <;> cases toPyAll ys <;> simp [PyData.eqv]
theorem v_tl (xs ys : List D) : eqvD (.tup xs) (.lst ys) = false := by
  simp only [eqvD, toPy]
  cases toPyAll xs <;> cases toPyAll ys <;> simp [PyData.eqv]
theorem v_int (a b : Int) : eqvD (.int a) (.int b) = (a == b) := by
  show PyData.eqv (.int a) (.int b) = _
  simp only [PyData.eqv]
theorem v_bl (a b : Bool) : eqvD (.bl a) (.bl b) = (a == b) := by
  show PyData.eqv (.bool a) (.bool b) = _
  simp only [PyData.eqv]
theorem v_nn : eqvD .non .non = true := by
  show PyData.eqv .none .none = _
  simp only [PyData.eqv]
theorem v_nt (ys : List D) : eqvD .non (.tup ys) = false := by
  simp only [eqvD, toPy]
  cases toPyAll ys <;> simp [PyData.eqv]
theorem v_tn (ys : List D) : eqvD (.tup ys) .non = false := by
  simp only [eqvD, toPy]
  cases toPyAll ys <;> simp [PyData.eqv]
theorem v_ni (i : Int) : eqvD .non (.int i) = false := by
  show PyData.eqv .none (.int i) = _
  simp only [PyData.eqv]
theorem v_in (i : Int) : eqvD (.int i) .non = false := by
  show PyData.eqv (.int i) .none = _
  simp only [PyData.eqv]
theorem v_ints : ∀ xs ys : List Int, eqvL (xs.map D.int) (ys.map D.int) = decide (xs = ys)
  | [], [] => by simp [v_nil]
  | [], _ :: _ => by simp [v_nc]
  | _ :: _, [] => by simp [v_cn]
  | x :: xs, y :: ys => by
    rw [List.map_cons, List.map_cons, v_cons, v_int, v_ints xs ys]
    by_cases h : x = y <;> by_cases h' : xs = ys <;> simp [h, h']
theorem wf_ints : ∀ xs : List Int, wfL (xs.map D.int) = true
  | [] => rfl
  | x :: xs => by rw [List.map_cons, wfL, wf_ints xs]; rfl
theorem dp_ints : ∀ xs : List Int, dpL (xs.map D.int) = 0
  | [] => rfl
  | x :: xs => by rw [List.map_cons, dpL, dp_ints xs]; rfl
end PP
end
section
namespace PP
open PySem L2
theorem len_app (a b : Str) : (a ++ b).length = a.length + b.length := by
  show (a.cps ++ b.cps).size = _
  rw [Array.size_append]
  rfl
theorem len_ofS (s : String) : (Str.ofString s).length = s.length := by
  rw [Str.ofString_eq_toList]
  show ((s.toList.map Char.toNat).toArray).size = _
  rw [List.size_toArray, List.length_map, String.length_toList]
theorem ok_ofS (s : String) : PyData.strOk (Str.ofString s) = true := by
  rw [Str.ofString_eq_toList]
  simp only [PyData.strOk, List.all_toArray, List.all_map, List.all_eq_true]
  intro c hc
  show decide (c.val.toNat < 1114112) = true
  have := c.valid
  rcases this with h | h
  · exact decide_eq_true (Nat.lt_trans (show c.val.toNat < 55296 from h) (by decide))
  · exact decide_eq_true (show c.val.toNat < 1114112 from h.2)
theorem ok_app (a b : Str) : PyData.strOk (a ++ b) = (PyData.strOk a && PyData.strOk b) := by
  show (a.cps ++ b.cps).all _ = _
  rw [Array.all_append]
  rfl
theorem ok_empty : PyData.strOk Str.empty = true := by simp [PyData.strOk, Str.empty]
end PP
end
section
local macro_rules | `(tactic| walk_at "pp") => `(tactic| simp -implicitDefEqProofs only [PP.ev_w0, PP.ev_w1, PP.ev_w2, PP.ev_w3, PP.ev_w4, PP.ev_w5, PP.ev_w6, PP.ev_w7, PP.ev_w8, PP.ev_w9, PP.ev_w10, PP.ev_w11, PP.ev_w12, PP.ev_w13, PP.ev_w14, PP.ev_w15, PP.ev_w16, PP.ev_w17, PP.ev_w18, PP.ev_w19, PP.ev_w20, PP.ev_w21, PP.ev_w22, PP.ev_w23, PP.ev_w24, PP.ev_w25, PP.ev_w26, PP.ev_w27, PP.ev_w28, PP.ev_w29, PP.ev_w30, PP.ev_w31, PP.ev_w32, PP.ev_w33, PP.ev_w34, PP.ev_w35, PP.ev_w36, PP.ev_w37, PP.ev_w38, PP.ev_w39, PP.ev_w40, PP.ev_w41, PP.ev_w42, PP.ev_w43, PP.ev_w44, PP.ev_w45, PP.ev_w46, PP.ev_w47, PP.ev_w48, PP.ev_w49, PP.ev_w50, PP.ev_w51, PP.ev_w52, PP.ev_w53, PP.ev_w54, PP.ev_w55, PP.ev_w56, PP.ev_w57, PP.ev_w58, PP.ev_w59, PP.ev_w60, PP.ev_w61, PP.ev_w62, PP.ev_w63, PP.ev_w64, PP.ev_w65, PP.ev_w66, PP.evF_w0, PP.evF_w1, PP.evF_w2, PP.evR_w0, PP.evR_w1, PP.evR_w2, PP.evC_w0, PP.evC_w1, PP.evC_w2, PP.evC_w3, PP.ex_w0, PP.ex_w1, PP.ex_w2, PP.ex_w3, PP.ex_w4, PP.ex_w5, PP.ex_w6, PP.ex_w7, PP.ex_w8, PP.ex_w9, PP.ex_w10, PP.ex_w11, PP.ex_w12, PP.ex_w13, PP.ex_w14, PP.ex_w15, PP.ex_w16, PP.ex_w17, PP.ex_w18, PP.ex_w19, PP.ex_w20, PP.ex_w21, PP.ex_w22, PP.ex_w23, PP.ex_w24, PP.ex_w25, PP.ex_w26, PP.ex_w27, PP.ex_w28, PP.ex_w29, PP.ex_w30, PP.ex_w31, PP.ex_w32, PP.ex_w33, PP.exs_w0, PP.exs_w1, PP.itD_w0, PP.itD_w1, PP.itD_w2, PP.itD_w3, PP.itD_w4, PP.itD_w5, PP.itD_w6, PP.itD_w7, PP.itD_w8, PP.itD_w9, PP.itD_w10, PP.itD_w11, PP.itD_w12, PP.gex_w0, PP.gex_w1, PP.gex_w2, PP.gex_w3, PP.gexs_w0, PP.gexs_w1, PP.evT_w, PP.getS_0, PP.getS_s, PP.set_0, PP.set_s, PP.mul_1, PP.mul_m1, PP.fin_ok, PP.fin_exc, PP.finX_s, PP.finO_next, PP.finO_d, PP.finO_nw, PP.rdU_d, PP.rdU_nw, PP.rdU_sl, PP.rdS_fz, PP.rdS_ow, PP.rdS_io, PP.pend_d, PP.pend_nw, PP.pend_sl, PP.fzU_d, PP.fzU_nw, PP.fzU_sl, PP.asgU_d, PP.asgU_nw, PP.asgU_sl, PP.slOf_non, PP.slOf_bl, PP.slOf_int, PP.slOf_str, PP.slOf_tup, PP.slOf_lst, PP.slOf_dK, PP.isLs_ow, PP.isLs_io, PP.retU_d, PP.retU_nw, PP.retU_sl, PP.nrm_non, PP.nrm_bl, PP.nrm_int, PP.nrm_str, PP.nrm_tup, PP.nrm_lst, PP.nrm_dK, PP.setIO_ow, PP.setIO_io, PP.dupF_0, PP.dupF_1, PP.optP_f, PP.optP_t, PP.truD_bl, PP.truD_non, PP.truD_lst, PP.partD_eq, PP.ix_lst_0, PP.ix_lst_1, PP.ix_lst_2, PP.ix_lst_3, PP.ix_lst_4, PP.ix_lst_5, PP.ix_tup_0, PP.ix_tup_1, PP.ix_tup_2, PP.ix_tup_3, PP.ix_tup_4, PP.ix_tup_5, PP.ix_kst_0, PP.ix_kst_1, PP.ix_kst_2, PP.ix_kst_3, PP.ix_kst_4, PP.ix_kst_5, PP.set_l3_1, PP.set_l3_2, PP.bi_int_i, PP.bi_int_b, PP.bi_abs, PP.bi_len_l, PP.bi_len_t, PP.bi_isInt_non, PP.bi_isInt_bl, PP.bi_isInt_int, PP.bi_isInt_str, PP.bi_isInt_tup, PP.bi_isInt_lst, PP.bi_isInt_kst, PP.bi_isInt_dK, PP.bi_isBool_non, PP.bi_isBool_bl, PP.bi_isBool_int, PP.bi_isBool_str, PP.bi_isBool_tup, PP.bi_isBool_lst, PP.bi_isBool_kst, PP.bi_isBool_dK, PP.bi_isTuple_non, PP.bi_isTuple_bl, PP.bi_isTuple_int, PP.bi_isTuple_str, PP.bi_isTuple_tup, PP.bi_isTuple_lst, PP.bi_isTuple_kst, PP.bi_isTuple_dK, PP.bi_isList_non, PP.bi_isList_bl, PP.bi_isList_int, PP.bi_isList_str, PP.bi_isList_tup, PP.bi_isList_lst, PP.bi_isList_kst, PP.bi_isList_dK, PP.bi_isStr_non, PP.bi_isStr_bl, PP.bi_isStr_int, PP.bi_isStr_str, PP.bi_isStr_tup, PP.bi_isStr_lst, PP.bi_isStr_kst, PP.bi_isStr_dK, PP.le_lim, PP.lt_lim, PP.pw_10_18, PP.o_gt_i, PP.o_lt_i, PP.o_ge_i, PP.o_le_i, PP.o_add_i, PP.o_sub_i, PP.o_rev_l, PP.o_rev_t, PP.o_neg_i, PP.o_eq_i, PP.o_ne_i, PP.o_eq_s, PP.o_ne_s, PP.o_eq_b, PP.ne_nil, PP.fldOf_o, PP.fldOf_e, PP.fldD_c, PP.putD_c, PP.putD_n, PP.isObj_o, PP.isObj_e, PP.isObj_non, PP.isObj_bl, PP.isObj_int, PP.isObj_str, PP.isObj_lst, PP.isObj_tup, PP.isObj_kst, PP.isObj_dK, PP.isCls_o, PP.isCls_e, PP.isCls_non, PP.isCls_bl, PP.isCls_int, PP.isCls_str, PP.isCls_lst, PP.isCls_tup, PP.isCls_kst, PP.isCls_dK, PP.runC_eq, PP.makeO_eq, PP.spec_eq, PP.allFz_0, PP.allFz_c, PP.recv_f, PP.recv_t, PP.ownOp_o, PP.ownIn_o, PP.ownNe_o, PP.opc_add, PP.opc_sub, PP.opc_mul, PP.opc_shl, PP.opc_shr, PP.opc_band, PP.opc_bor, PP.opc_lt, PP.opc_le, PP.opc_gt, PP.opc_ge, PP.opc_eq, PP.opc_ne, PP.okR_o, PP.okR_int, PP.okR_bl, PP.okR_non, PP.okR_str, PP.okR_lst, PP.okR_kst, PP.okR_tup, PP.cmp_lt, PP.cmp_le, PP.cmp_gt, PP.cmp_ge, PP.cmp_eq, PP.cmp_ne, PP.cmp_add, PP.cmp_sub, PP.cmp_band, PP.cmp_bor, PP.cmp_shl, PP.cmp_shr, PP.cmp_mul, PP.slOf_obj, PP.nrm_obj, PP.slOf_err, PP.hear_eq, PP.frz_0, PP.frz_c, PP.mask_c, PP.mask_n, PP.maskS_fz, PP.maskS_ow, PP.maskS_io, PP.maskS_un, PP.item_t, PP.item_l, PP.item_k, PP.bi_max2, PP.bi_min2, PP.bi_bool_b, PP.o_shr_i, PP.o_is_n, PP.o_isnot_n, PP.o_is_b, PP.o_isnot_b, PP.o_add_l, PP.o_mul_l, PP.set_l4_0, PP.set_l4_1, PP.set_l4_2, PP.set_l4_3, PP.ask_o, PP.outD_t, PP.outD_e, PP.keep_d, PP.noL_non, PP.noL_int, PP.noL_bl, PP.noL_str, PP.noL_tup, PP.noL_0, PP.noL_c, PP.evJ_0, PP.rv_split, PP.rv_join, PP.rv_ix_l, PP.rv_ix_k, PP.clsN_eq, PP.runF, PP.runG, PP.yldU, PP.yThen, PP.genR, PP.excR, PP.firstX, PP.allFz, PP.calmS, PP.isMutD', List.all_cons, List.all_nil, List.isEmpty_nil, List.isEmpty_cons, PP.startE, PP.rdAll, PP.argsOf, PP.ioSlots, PP.putIO, PP.permL, PP.outsOf, PP.storeAll, PP.setSE, PP.slSE, PP.R.bind_ok, PP.R.bind_exc, PP.R.bind_bad, PP.orBad_some, PP.orBad_none, Int.reduceLE, Int.reduceLT, Int.reduceToNat, Int.reducePow, Int.reduceNeg, Int.reduceAdd, Int.reduceSub, Int.reduceMul, Int.reduceBEq, Int.cast_ofNat_Int, Int.natCast_zero, Int.natCast_one, Int.reduceBNe, Int.reduceEq, Int.reduceDiv, Int.reduceMod, Nat.reduceAdd, Nat.reduceMul, Nat.reduceSub, Nat.reducePow, Nat.reduceLeDiff, Nat.reduceLT, Nat.reduceEqDiff, Nat.reduceBEq, List.cons_append, List.nil_append, List.append_nil, Nat.zero_le, List.head?_cons, List.tail_cons, Option.map_some, Option.map_none, Option.bind_some, Option.bind_none, Bool.not_true, Bool.not_false, Bool.and_self, Bool.and_true, Bool.true_and, Bool.false_and, Bool.and_false, Bool.or_true, Bool.true_or, Bool.or_false, Bool.false_or, Bool.not_not, List.contains_cons, List.contains_nil, BEq.rfl, reduceCtorEq,
  eq_self, and_self, if_true, if_false, ite_true, ite_false, Bool.false_eq_true, reduceIte, List.length_cons, List.length_nil, List.filterMap_cons, List.filterMap_nil, List.getElem?_cons_zero, List.getElem?_cons_succ, List.map_cons, List.map_nil, List.replicate_succ, List.replicate_zero, List.flatten_cons, List.flatten_nil, List.reverse_cons, List.reverse_nil, decide_true, decide_false, Bool.not_eq_true, Bool.not_eq_false, Bool.cond_true, Bool.cond_false])
local macro_rules | `(tactic| walk_at "pq") => `(tactic| simp -implicitDefEqProofs (disch := first | assumption | (with_reducible show (_ : Bool) = _; exact id rfl) | (with_reducible show (_ : Int) < _; omega) | (with_reducible show (_ : Int) ≤ _; omega) | (with_reducible show (_ : Nat) ≤ _; omega) | (with_reducible show (_ : Nat) < _; omega) | exact id (by simp only [PP.wfD, PP.wfL, PP.dpD, PP.dpL, PP.ok_ofS, PP.ok_app, PP.ok_empty, Nat.max_self, Nat.zero_max, Nat.max_zero, Nat.reduceAdd, Nat.reduceLeDiff, Bool.and_self, PP.wf_ints, PP.dp_ints, Bool.and_true, Bool.true_and, *] ; done) | fail) only [*, PP.le_lim, PP.lt_lim, PP.o_shr_i, PP.shl_p, PP.mul_w, PP.fdiv_w, PP.mod_p, PP.pow_p, PP.nrm_mut, PP.bi_len_s, PP.bi_split, PP.op_eq, PP.op_ne, PP.v_str, PP.v_nil, PP.v_cons, PP.v_nc, PP.v_cn, PP.v_tup, PP.v_lst, PP.v_kl, PP.v_lt, PP.v_tl, PP.v_int, PP.v_bl, PP.v_nn, PP.v_nt, PP.v_tn, PP.v_ni, PP.v_in, PP.v_ints, PP.ev_w0, PP.ev_w1, PP.ev_w2, PP.ev_w3, PP.ev_w4, PP.ev_w5, PP.ev_w6, PP.ev_w7, PP.ev_w8, PP.ev_w9, PP.ev_w10, PP.ev_w11, PP.ev_w12, PP.ev_w13, PP.ev_w14, PP.ev_w15, PP.ev_w16, PP.ev_w17, PP.ev_w18, PP.ev_w19, PP.ev_w20, PP.ev_w21, PP.ev_w22, PP.ev_w23, PP.ev_w24, PP.ev_w25, PP.ev_w26, PP.ev_w27, PP.ev_w28, PP.ev_w29, PP.ev_w30, PP.ev_w31, PP.ev_w32, PP.ev_w33, PP.ev_w34, PP.ev_w35, PP.ev_w36, PP.ev_w37, PP.ev_w38, PP.ev_w39, PP.ev_w40, PP.ev_w41, PP.ev_w42, PP.ev_w43, PP.ev_w44, PP.ev_w45, PP.ev_w46, PP.ev_w47, PP.ev_w48, PP.ev_w49, PP.ev_w50, PP.ev_w51, PP.ev_w52, PP.ev_w53, PP.ev_w54, PP.ev_w55, PP.ev_w56, PP.ev_w57, PP.ev_w58, PP.ev_w59, PP.ev_w60, PP.ev_w61, PP.ev_w62, PP.ev_w63, PP.ev_w64, PP.ev_w65, PP.ev_w66, PP.evF_w0, PP.evF_w1, PP.evF_w2, PP.evR_w0, PP.evR_w1, PP.evR_w2, PP.evC_w0, PP.evC_w1, PP.evC_w2, PP.evC_w3, PP.ex_w0, PP.ex_w1, PP.ex_w2, PP.ex_w3, PP.ex_w4, PP.ex_w5, PP.ex_w6, PP.ex_w7, PP.ex_w8, PP.ex_w9, PP.ex_w10, PP.ex_w11, PP.ex_w12, PP.ex_w13, PP.ex_w14, PP.ex_w15, PP.ex_w16, PP.ex_w17, PP.ex_w18, PP.ex_w19, PP.ex_w20, PP.ex_w21, PP.ex_w22, PP.ex_w23, PP.ex_w24, PP.ex_w25, PP.ex_w26, PP.ex_w27, PP.ex_w28, PP.ex_w29, PP.ex_w30, PP.ex_w31, PP.ex_w32, PP.ex_w33, PP.exs_w0, PP.exs_w1, PP.itD_w0, PP.itD_w1, PP.itD_w2, PP.itD_w3, PP.itD_w4, PP.itD_w5, PP.itD_w6, PP.itD_w7, PP.itD_w8, PP.itD_w9, PP.itD_w10, PP.itD_w11, PP.itD_w12, PP.gex_w0, PP.gex_w1, PP.gex_w2, PP.gex_w3, PP.gexs_w0, PP.gexs_w1, PP.evT_w, PP.getS_0, PP.getS_s, PP.set_0, PP.set_s, PP.mul_1, PP.mul_m1, PP.fin_ok, PP.fin_exc, PP.finX_s, PP.finO_next, PP.finO_d, PP.finO_nw, PP.rdU_d, PP.rdU_nw, PP.rdU_sl, PP.rdS_fz, PP.rdS_ow, PP.rdS_io, PP.pend_d, PP.pend_nw, PP.pend_sl, PP.fzU_d, PP.fzU_nw, PP.fzU_sl, PP.asgU_d, PP.asgU_nw, PP.asgU_sl, PP.slOf_non, PP.slOf_bl, PP.slOf_int, PP.slOf_str, PP.slOf_tup, PP.slOf_lst, PP.slOf_dK, PP.isLs_ow, PP.isLs_io, PP.retU_d, PP.retU_nw, PP.retU_sl, PP.nrm_non, PP.nrm_bl, PP.nrm_int, PP.nrm_str, PP.nrm_tup, PP.nrm_lst, PP.nrm_dK, PP.setIO_ow, PP.setIO_io, PP.dupF_0, PP.dupF_1, PP.optP_f, PP.optP_t, PP.truD_bl, PP.truD_non, PP.truD_lst, PP.partD_eq, PP.ix_lst_0, PP.ix_lst_1, PP.ix_lst_2, PP.ix_lst_3, PP.ix_lst_4, PP.ix_lst_5, PP.ix_tup_0, PP.ix_tup_1, PP.ix_tup_2, PP.ix_tup_3, PP.ix_tup_4, PP.ix_tup_5, PP.ix_kst_0, PP.ix_kst_1, PP.ix_kst_2, PP.ix_kst_3, PP.ix_kst_4, PP.ix_kst_5, PP.set_l3_1, PP.set_l3_2, PP.bi_int_i, PP.bi_int_b, PP.bi_abs, PP.bi_len_l, PP.bi_len_t, PP.bi_isInt_non, PP.bi_isInt_bl, PP.bi_isInt_int, PP.bi_isInt_str, PP.bi_isInt_tup, PP.bi_isInt_lst, PP.bi_isInt_kst, PP.bi_isInt_dK, PP.bi_isBool_non, PP.bi_isBool_bl, PP.bi_isBool_int, PP.bi_isBool_str, PP.bi_isBool_tup, PP.bi_isBool_lst, PP.bi_isBool_kst, PP.bi_isBool_dK, PP.bi_isTuple_non, PP.bi_isTuple_bl, PP.bi_isTuple_int, PP.bi_isTuple_str, PP.bi_isTuple_tup, PP.bi_isTuple_lst, PP.bi_isTuple_kst, PP.bi_isTuple_dK, PP.bi_isList_non, PP.bi_isList_bl, PP.bi_isList_int, PP.bi_isList_str, PP.bi_isList_tup, PP.bi_isList_lst, PP.bi_isList_kst, PP.bi_isList_dK, PP.bi_isStr_non, PP.bi_isStr_bl, PP.bi_isStr_int, PP.bi_isStr_str, PP.bi_isStr_tup, PP.bi_isStr_lst, PP.bi_isStr_kst, PP.bi_isStr_dK, PP.le_lim, PP.lt_lim, PP.pw_10_18, PP.o_gt_i, PP.o_lt_i, PP.o_ge_i, PP.o_le_i, PP.o_add_i, PP.o_sub_i, PP.o_rev_l, PP.o_rev_t, PP.o_neg_i, PP.o_eq_i, PP.o_ne_i, PP.o_eq_s, PP.o_ne_s, PP.o_eq_b, PP.ne_nil, PP.fldOf_o, PP.fldOf_e, PP.fldD_c, PP.putD_c, PP.putD_n, PP.isObj_o, PP.isObj_e, PP.isObj_non, PP.isObj_bl, PP.isObj_int, PP.isObj_str, PP.isObj_lst, PP.isObj_tup, PP.isObj_kst, PP.isObj_dK, PP.isCls_o, PP.isCls_e, PP.isCls_non, PP.isCls_bl, PP.isCls_int, PP.isCls_str, PP.isCls_lst, PP.isCls_tup, PP.isCls_kst, PP.isCls_dK, PP.runC_eq, PP.makeO_eq, PP.spec_eq, PP.allFz_0, PP.allFz_c, PP.recv_f, PP.recv_t, PP.ownOp_o, PP.ownIn_o, PP.ownNe_o, PP.opc_add, PP.opc_sub, PP.opc_mul, PP.opc_shl, PP.opc_shr, PP.opc_band, PP.opc_bor, PP.opc_lt, PP.opc_le, PP.opc_gt, PP.opc_ge, PP.opc_eq, PP.opc_ne, PP.okR_o, PP.okR_int, PP.okR_bl, PP.okR_non, PP.okR_str, PP.okR_lst, PP.okR_kst, PP.okR_tup, PP.cmp_lt, PP.cmp_le, PP.cmp_gt, PP.cmp_ge, PP.cmp_eq, PP.cmp_ne, PP.cmp_add, PP.cmp_sub, PP.cmp_band, PP.cmp_bor, PP.cmp_shl, PP.cmp_shr, PP.cmp_mul, PP.slOf_obj, PP.nrm_obj, PP.slOf_err, PP.hear_eq, PP.frz_0, PP.frz_c, PP.mask_c, PP.mask_n, PP.maskS_fz, PP.maskS_ow, PP.maskS_io, PP.maskS_un, PP.item_t, PP.item_l, PP.item_k, PP.bi_max2, PP.bi_min2, PP.bi_bool_b, PP.o_shr_i, PP.o_is_n, PP.o_isnot_n, PP.o_is_b, PP.o_isnot_b, PP.o_add_l, PP.o_mul_l, PP.set_l4_0, PP.set_l4_1, PP.set_l4_2, PP.set_l4_3, PP.ask_o, PP.outD_t, PP.outD_e, PP.keep_d, PP.noL_non, PP.noL_int, PP.noL_bl, PP.noL_str, PP.noL_tup, PP.noL_0, PP.noL_c, PP.evJ_0, PP.rv_split, PP.rv_join, PP.rv_ix_l, PP.rv_ix_k, PP.clsN_eq, PP.runF, PP.runG, PP.yldU, PP.yThen, PP.genR, PP.excR, PP.firstX, PP.allFz, PP.calmS, PP.isMutD', List.all_cons, List.all_nil, List.isEmpty_nil, List.isEmpty_cons, PP.startE, PP.rdAll, PP.argsOf, PP.ioSlots, PP.putIO, PP.permL, PP.outsOf, PP.storeAll, PP.setSE, PP.slSE, PP.R.bind_ok, PP.R.bind_exc, PP.R.bind_bad, PP.orBad_some, PP.orBad_none, Int.reduceLE, Int.reduceLT, Int.reduceToNat, Int.reducePow, Int.reduceNeg, Int.reduceAdd, Int.reduceSub, Int.reduceMul, Int.reduceBEq, Int.cast_ofNat_Int, Int.natCast_zero, Int.natCast_one, Int.reduceBNe, Int.reduceEq, Int.reduceDiv, Int.reduceMod, Nat.reduceAdd, Nat.reduceMul, Nat.reduceSub, Nat.reducePow, Nat.reduceLeDiff, Nat.reduceLT, Nat.reduceEqDiff, Nat.reduceBEq, List.cons_append, List.nil_append, List.append_nil, Nat.zero_le, List.head?_cons, List.tail_cons, Option.map_some, Option.map_none, Option.bind_some, Option.bind_none, Bool.not_true, Bool.not_false, Bool.and_self, Bool.and_true, Bool.true_and, Bool.false_and, Bool.and_false, Bool.or_true, Bool.true_or, Bool.or_false, Bool.false_or, Bool.not_not, List.contains_cons, List.contains_nil, BEq.rfl, reduceCtorEq,
  eq_self, and_self, if_true, if_false, ite_true, ite_false, Bool.false_eq_true, reduceIte, List.length_cons, List.length_nil, List.filterMap_cons, List.filterMap_nil, List.getElem?_cons_zero, List.getElem?_cons_succ, List.map_cons, List.map_nil, List.replicate_succ, List.replicate_zero, List.flatten_cons, List.flatten_nil, List.reverse_cons, List.reverse_nil, decide_true, decide_false, Bool.not_eq_true, Bool.not_eq_false, Bool.cond_true, Bool.cond_false])
local macro_rules | `(tactic| walk_at "px") => `(tactic| simp -implicitDefEqProofs (disch := first | assumption | (with_reducible show (_ : Bool) = _; exact id rfl) | (with_reducible show (_ : Int) < _; omega) | (with_reducible show (_ : Int) ≤ _; omega) | (with_reducible show (_ : Nat) ≤ _; omega) | (with_reducible show (_ : Nat) < _; omega) | fail) only [*, PP.le_lim, PP.lt_lim, PP.o_shr_i, PP.shl_p, PP.mul_w, PP.fdiv_w, PP.mod_p, PP.pow_p, PP.nrm_mut, PP.bi_len_s, PP.bi_split, PP.ev_w0, PP.ev_w1, PP.ev_w2, PP.ev_w3, PP.ev_w4, PP.ev_w5, PP.ev_w6, PP.ev_w7, PP.ev_w8, PP.ev_w9, PP.ev_w10, PP.ev_w11, PP.ev_w12, PP.ev_w13, PP.ev_w14, PP.ev_w15, PP.ev_w16, PP.ev_w17, PP.ev_w18, PP.ev_w19, PP.ev_w20, PP.ev_w21, PP.ev_w22, PP.ev_w23, PP.ev_w24, PP.ev_w25, PP.ev_w26, PP.ev_w27, PP.ev_w28, PP.ev_w29, PP.ev_w30, PP.ev_w31, PP.ev_w32, PP.ev_w33, PP.ev_w34, PP.ev_w35, PP.ev_w36, PP.ev_w37, PP.ev_w38, PP.ev_w39, PP.ev_w40, PP.ev_w41, PP.ev_w42, PP.ev_w43, PP.ev_w44, PP.ev_w45, PP.ev_w46, PP.ev_w47, PP.ev_w48, PP.ev_w49, PP.ev_w50, PP.ev_w51, PP.ev_w52, PP.ev_w53, PP.ev_w54, PP.ev_w55, PP.ev_w56, PP.ev_w57, PP.ev_w58, PP.ev_w59, PP.ev_w60, PP.ev_w61, PP.ev_w62, PP.ev_w63, PP.ev_w64, PP.ev_w65, PP.ev_w66, PP.evF_w0, PP.evF_w1, PP.evF_w2, PP.evR_w0, PP.evR_w1, PP.evR_w2, PP.evC_w0, PP.evC_w1, PP.evC_w2, PP.evC_w3, PP.ex_w0, PP.ex_w1, PP.ex_w2, PP.ex_w3, PP.ex_w4, PP.ex_w5, PP.ex_w6, PP.ex_w7, PP.ex_w8, PP.ex_w9, PP.ex_w10, PP.ex_w11, PP.ex_w12, PP.ex_w13, PP.ex_w14, PP.ex_w15, PP.ex_w16, PP.ex_w17, PP.ex_w18, PP.ex_w19, PP.ex_w20, PP.ex_w21, PP.ex_w22, PP.ex_w23, PP.ex_w24, PP.ex_w25, PP.ex_w26, PP.ex_w27, PP.ex_w28, PP.ex_w29, PP.ex_w30, PP.ex_w31, PP.ex_w32, PP.ex_w33, PP.exs_w0, PP.exs_w1, PP.itD_w0, PP.itD_w1, PP.itD_w2, PP.itD_w3, PP.itD_w4, PP.itD_w5, PP.itD_w6, PP.itD_w7, PP.itD_w8, PP.itD_w9, PP.itD_w10, PP.itD_w11, PP.itD_w12, PP.gex_w0, PP.gex_w1, PP.gex_w2, PP.gex_w3, PP.gexs_w0, PP.gexs_w1, PP.evT_w, PP.getS_0, PP.getS_s, PP.set_0, PP.set_s, PP.mul_1, PP.mul_m1, PP.fin_ok, PP.fin_exc, PP.finX_s, PP.finO_next, PP.finO_d, PP.finO_nw, PP.rdU_d, PP.rdU_nw, PP.rdU_sl, PP.rdS_fz, PP.rdS_ow, PP.rdS_io, PP.pend_d, PP.pend_nw, PP.pend_sl, PP.fzU_d, PP.fzU_nw, PP.fzU_sl, PP.asgU_d, PP.asgU_nw, PP.asgU_sl, PP.slOf_non, PP.slOf_bl, PP.slOf_int, PP.slOf_str, PP.slOf_tup, PP.slOf_lst, PP.slOf_dK, PP.isLs_ow, PP.isLs_io, PP.retU_d, PP.retU_nw, PP.retU_sl, PP.nrm_non, PP.nrm_bl, PP.nrm_int, PP.nrm_str, PP.nrm_tup, PP.nrm_lst, PP.nrm_dK, PP.setIO_ow, PP.setIO_io, PP.dupF_0, PP.dupF_1, PP.optP_f, PP.optP_t, PP.truD_bl, PP.truD_non, PP.truD_lst, PP.partD_eq, PP.ix_lst_0, PP.ix_lst_1, PP.ix_lst_2, PP.ix_lst_3, PP.ix_lst_4, PP.ix_lst_5, PP.ix_tup_0, PP.ix_tup_1, PP.ix_tup_2, PP.ix_tup_3, PP.ix_tup_4, PP.ix_tup_5, PP.ix_kst_0, PP.ix_kst_1, PP.ix_kst_2, PP.ix_kst_3, PP.ix_kst_4, PP.ix_kst_5, PP.set_l3_1, PP.set_l3_2, PP.bi_int_i, PP.bi_int_b, PP.bi_abs, PP.bi_len_l, PP.bi_len_t, PP.bi_isInt_non, PP.bi_isInt_bl, PP.bi_isInt_int, PP.bi_isInt_str, PP.bi_isInt_tup, PP.bi_isInt_lst, PP.bi_isInt_kst, PP.bi_isInt_dK, PP.bi_isBool_non, PP.bi_isBool_bl, PP.bi_isBool_int, PP.bi_isBool_str, PP.bi_isBool_tup, PP.bi_isBool_lst, PP.bi_isBool_kst, PP.bi_isBool_dK, PP.bi_isTuple_non, PP.bi_isTuple_bl, PP.bi_isTuple_int, PP.bi_isTuple_str, PP.bi_isTuple_tup, PP.bi_isTuple_lst, PP.bi_isTuple_kst, PP.bi_isTuple_dK, PP.bi_isList_non, PP.bi_isList_bl, PP.bi_isList_int, PP.bi_isList_str, PP.bi_isList_tup, PP.bi_isList_lst, PP.bi_isList_kst, PP.bi_isList_dK, PP.bi_isStr_non, PP.bi_isStr_bl, PP.bi_isStr_int, PP.bi_isStr_str, PP.bi_isStr_tup, PP.bi_isStr_lst, PP.bi_isStr_kst, PP.bi_isStr_dK, PP.le_lim, PP.lt_lim, PP.pw_10_18, PP.o_gt_i, PP.o_lt_i, PP.o_ge_i, PP.o_le_i, PP.o_add_i, PP.o_sub_i, PP.o_rev_l, PP.o_rev_t, PP.o_neg_i, PP.o_eq_i, PP.o_ne_i, PP.o_eq_s, PP.o_ne_s, PP.o_eq_b, PP.ne_nil, PP.fldOf_o, PP.fldOf_e, PP.fldD_c, PP.putD_c, PP.putD_n, PP.isObj_o, PP.isObj_e, PP.isObj_non, PP.isObj_bl, PP.isObj_int, PP.isObj_str, PP.isObj_lst, PP.isObj_tup, PP.isObj_kst, PP.isObj_dK, PP.isCls_o, PP.isCls_e, PP.isCls_non, PP.isCls_bl, PP.isCls_int, PP.isCls_str, PP.isCls_lst, PP.isCls_tup, PP.isCls_kst, PP.isCls_dK, PP.runC_eq, PP.makeO_eq, PP.spec_eq, PP.allFz_0, PP.allFz_c, PP.recv_f, PP.recv_t, PP.ownOp_o, PP.ownIn_o, PP.ownNe_o, PP.opc_add, PP.opc_sub, PP.opc_mul, PP.opc_shl, PP.opc_shr, PP.opc_band, PP.opc_bor, PP.opc_lt, PP.opc_le, PP.opc_gt, PP.opc_ge, PP.opc_eq, PP.opc_ne, PP.okR_o, PP.okR_int, PP.okR_bl, PP.okR_non, PP.okR_str, PP.okR_lst, PP.okR_kst, PP.okR_tup, PP.cmp_lt, PP.cmp_le, PP.cmp_gt, PP.cmp_ge, PP.cmp_eq, PP.cmp_ne, PP.cmp_add, PP.cmp_sub, PP.cmp_band, PP.cmp_bor, PP.cmp_shl, PP.cmp_shr, PP.cmp_mul, PP.slOf_obj, PP.nrm_obj, PP.slOf_err, PP.hear_eq, PP.frz_0, PP.frz_c, PP.mask_c, PP.mask_n, PP.maskS_fz, PP.maskS_ow, PP.maskS_io, PP.maskS_un, PP.item_t, PP.item_l, PP.item_k, PP.bi_max2, PP.bi_min2, PP.bi_bool_b, PP.o_shr_i, PP.o_is_n, PP.o_isnot_n, PP.o_is_b, PP.o_isnot_b, PP.o_add_l, PP.o_mul_l, PP.set_l4_0, PP.set_l4_1, PP.set_l4_2, PP.set_l4_3, PP.ask_o, PP.outD_t, PP.outD_e, PP.keep_d, PP.noL_non, PP.noL_int, PP.noL_bl, PP.noL_str, PP.noL_tup, PP.noL_0, PP.noL_c, PP.evJ_0, PP.rv_split, PP.rv_join, PP.rv_ix_l, PP.rv_ix_k, PP.clsN_eq, PP.runF, PP.runG, PP.yldU, PP.yThen, PP.genR, PP.excR, PP.firstX, PP.allFz, PP.calmS, PP.isMutD', List.all_cons, List.all_nil, List.isEmpty_nil, List.isEmpty_cons, PP.startE, PP.rdAll, PP.argsOf, PP.ioSlots, PP.putIO, PP.permL, PP.outsOf, PP.storeAll, PP.setSE, PP.slSE, PP.R.bind_ok, PP.R.bind_exc, PP.R.bind_bad, PP.orBad_some, PP.orBad_none, Int.reduceLE, Int.reduceLT, Int.reduceToNat, Int.reducePow, Int.reduceNeg, Int.reduceAdd, Int.reduceSub, Int.reduceMul, Int.reduceBEq, Int.cast_ofNat_Int, Int.natCast_zero, Int.natCast_one, Int.reduceBNe, Int.reduceEq, Int.reduceDiv, Int.reduceMod, Nat.reduceAdd, Nat.reduceMul, Nat.reduceSub, Nat.reducePow, Nat.reduceLeDiff, Nat.reduceLT, Nat.reduceEqDiff, Nat.reduceBEq, List.cons_append, List.nil_append, List.append_nil, Nat.zero_le, List.head?_cons, List.tail_cons, Option.map_some, Option.map_none, Option.bind_some, Option.bind_none, Bool.not_true, Bool.not_false, Bool.and_self, Bool.and_true, Bool.true_and, Bool.false_and, Bool.and_false, Bool.or_true, Bool.true_or, Bool.or_false, Bool.false_or, Bool.not_not, List.contains_cons, List.contains_nil, BEq.rfl, reduceCtorEq,
  eq_self, and_self, if_true, if_false, ite_true, ite_false, Bool.false_eq_true, reduceIte, List.length_cons, List.length_nil, List.filterMap_cons, List.filterMap_nil, List.getElem?_cons_zero, List.getElem?_cons_succ, List.map_cons, List.map_nil, List.replicate_succ, List.replicate_zero, List.flatten_cons, List.flatten_nil, List.reverse_cons, List.reverse_nil, decide_true, decide_false, Bool.not_eq_true, Bool.not_eq_false, Bool.cond_true, Bool.cond_false])
section
namespace PP
open PySem L2
/-- the state of the draws -/
def PenOk (n : Nat) (p : D) : Prop := ∃ (cs : List Int) (a g : Int), p = .lst [.lst (cs.map D.int), .int a, .int g] ∧ cs.length ≤ 63 ∧ 0 ≤ a ∧ a ≤ n
theorem PenOk.mono {n m : Nat} {p : D} (h : PenOk n p) (hm : n ≤ m) : PenOk m p := by
  obtain ⟨cs, a, g, h1, h2, h3, h4⟩ := h
  exact ⟨cs, a, g, h1, h2, h3, by omega⟩
/-- the laws' draw: 0 pen 1 many 2 digit 3 at 4 cell 5 great 6 mixed -/
def drawTail (m1 c3 c4 m2 c5 c6 c7 m3 : Int) : Ss := (.cons (.iff (.and (.op2 .lt (.var 3) (.bi .len (.cons (.ix (.var 0) (.cst (.int 0))) .nil))) (.op2 .ge (.bi .abs (.cons (.var 4) .nil)) (.op2 .pow (.cst (.int 10)) (.cst (.int 18))))) (.cons (.asg 5 (.op2 .add (.op2 .mul (.cst (.int 2)) (.op2 .sub (.bi .abs (.cons (.var 4) .nil)) (.op2 .pow (.cst (.int 10)) (.cst (.int 18))))) (.bi .int (.cons (.op2 .lt (.var 4) (.cst (.int 0))) .nil)))) (.cons (.setI 0 (.cst (.int 2)) (.op2 .fdiv (.bi .int (.cons (.var 5) .nil)) (.var 1))) (.cons (.ret (.op2 .mod (.bi .int (.cons (.var 5) .nil)) (.var 1))) .nil))) .nil) (.cons (.asg 6 (.op2 .mod (.bi .int (.cons (.op2 .pow (.op2 .add (.op2 .add (.op2 .mod (.bi .int (.cons (.var 4) .nil)) (.cst (.int m1))) (.op2 .mul (.cst (.int c3)) (.var 3))) (.cst (.int c4))) (.cst (.int 5))) .nil)) (.cst (.int m2)))) (.cons (.asg 6 (.op2 .mod (.bi .int (.cons (.op2 .pow (.op2 .add (.op2 .add (.op2 .mul (.var 6) (.op2 .add (.op2 .mul (.cst (.int 2)) (.var 3)) (.cst (.int c5)))) (.op2 .mul (.op2 .mul (.cst (.int c6)) (.var 3)) (.var 3))) (.cst (.int c7))) (.cst (.int 3))) .nil)) (.cst (.int m3)))) (.cons (.ret (.op2 .mod (.bi .int (.cons (.op2 .fdiv (.var 6) (.cst (.int 32))) .nil)) (.var 1))) .nil))))
def drawFn (c1 c2 m1 c3 c4 m2 c5 c6 c7 m3 : Int) : Fn := { n := 7, body := (.cons (.iff (.op2 .gt (.ix (.var 0) (.cst (.int 2))) (.cst (.int 0))) (.cons (.asg 2 (.op2 .mod (.bi .int (.cons (.ix (.var 0) (.cst (.int 2))) .nil)) (.var 1))) (.cons (.setI 0 (.cst (.int 2)) (.op2 .fdiv (.bi .int (.cons (.ix (.var 0) (.cst (.int 2))) .nil)) (.var 1))) (.cons (.ret (.var 2)) .nil))) .nil) (.cons (.asg 3 (.ix (.var 0) (.cst (.int 1)))) (.cons (.setI 0 (.cst (.int 1)) (.op2 .add (.var 3) (.cst (.int 1)))) (.cons (.asg 4 (.op2 .add (.op2 .mul (.cst (.int c1)) (.var 3)) (.cst (.int c2)))) (.cons (.iff (.op2 .ne (.ix (.var 0) (.cst (.int 0))) (.lst .nil)) (.cons (.asg 4 (.ix (.ix (.var 0) (.cst (.int 0))) (.op2 .mod (.bi .int (.cons (.var 3) .nil)) (.bi .len (.cons (.ix (.var 0) (.cst (.int 0))) .nil))))) .nil) .nil) (drawTail m1 c3 c4 m2 c5 c6 c7 m3)))))) }
theorem mulb {x y p q : Int} (hx : 0 ≤ x) (hxp : x ≤ p) (hy : 0 ≤ y) (hyq : y ≤ q) : 0 ≤ x * y ∧ x * y ≤ p * q := ⟨Int.mul_nonneg hx hy, Int.mul_le_mul hxp hyq hy (by omega)⟩
theorem tail_ok {cl : CallF} {m1 c3 c4 m2 c5 c6 c7 m3 : Int} (h2 : 0 < m1 ∧ m1 ≤ 2147483648) (h3 : 0 ≤ c3 ∧ c3 ≤ 1000000) (h4 : 0 ≤ c4 ∧ c4 ≤ 1000000) (h5 : 0 < m2 ∧ m2 ≤ 2147483648) (h6 : 0 ≤ c5 ∧ c5 ≤ 1000000) (h7 : 0 ≤ c6 ∧ c6 ≤ 1000000)
    (h8 : 0 ≤ c7 ∧ c7 ≤ 1000000) (h9 : 0 < m3) {cs : List D} {b g m a cell : Int} {x2 x5 x6 : Sl} (hm : 0 < m) (hm2 : m < 1766847064778384329583297500742918515827483896875618958121606201292619776) (ha : 0 ≤ a) (ha2 : a ≤ 1000000) :
    ∃ r g' s2 s3 s4 s5 s6, exs cl (drawTail m1 c3 c4 m2 c5 c6 c7 m3) [.io (.lst [.lst cs, .int b, .int g]), .fz (.int m), x2, .fz (.int a), .fz (.int cell), x5, x6] = .ok (.ret (.nw (.int r))) [.io (.lst [.lst cs, .int b, .int g']), .fz (.int m), s2, s3, s4, s5, s6] ∧ 0 ≤ r ∧ r < m := by
  by_cases hb : (a < (cs.length : Int)) ∧ 1000000000000000000 ≤ (if cell < 0 then -cell else cell)
  · refine ⟨?r, ?g, ?s2, ?s3, ?s4, ?s5, ?s6, ?e, ?h1, ?h2⟩
    case e =>
      simp only [drawTail]
      walk_at "pp"
      simp only [hb.1, hb.2, decide_true]
      walk_at "pp"
      try simp only [hb.2, decide_true]
      try walk_at "pp"
      simp only [mul_l (i := 2) (by decide) (by decide)]
      walk_at "pp"
      simp only [fdiv_w hm (by omega)]
      walk_at "pp"
      simp only [mod_p hm]
      walk_at "pp"
      rfl
    case h1 => exact Int.emod_nonneg _ (by omega)
    case h2 => exact Int.emod_lt_of_pos _ hm
  · have k1 := Int.emod_nonneg cell (show m1 ≠ 0 by omega)
    have k2 := Int.emod_lt_of_pos cell h2.1
    have k3 := mulb h3.1 h3.2 ha ha2
    have b1 : (cell % m1 + c3 * a + c4).natAbs < 18446744073709551616 := by omega
    have k4 := Int.emod_nonneg ((cell % m1 + c3 * a + c4) ^ 5) (show m2 ≠ 0 by omega)
    have k5 := Int.emod_lt_of_pos ((cell % m1 + c3 * a + c4) ^ 5) h5.1
    have k6 := mulb (y := 2 * a + c5) (q := 3000000) k4 (Int.le_of_lt k5) (by omega) (by omega)
    have k7 := mulb h7.1 h7.2 ha ha2
    have k8 := mulb k7.1 k7.2 ha ha2
    have b2 : ((cell % m1 + c3 * a + c4) ^ 5 % m2 * (2 * a + c5) + c6 * a * a + c7).natAbs < 18446744073709551616 := by
      have k6' : (cell % m1 + c3 * a + c4) ^ 5 % m2 * (2 * a + c5) ≤ 2147483648 * 3000000 := Int.le_trans k6.2 (Int.mul_le_mul_of_nonneg_right h5.2 (by decide))
      omega
    refine ⟨((cell % m1 + c3 * a + c4) ^ 5 % m2 * (2 * a + c5) + c6 * a * a + c7) ^ 3 % m3 / 32 % m, g, x2, .fz (.int a), .fz (.int cell), x5, .fz (.int (((cell % m1 + c3 * a + c4) ^ 5 % m2 * (2 * a + c5) + c6 * a * a + c7) ^ 3 % m3)), ?e, Int.emod_nonneg _ (by omega), Int.emod_lt_of_pos _ hm⟩
    case e =>
      simp only [drawTail]
      by_cases hc : a < (cs.length : Int)
      · have hd : ¬ 1000000000000000000 ≤ (if cell < 0 then -cell else cell) := fun z => hb ⟨hc, z⟩
        walk_at "pp"
        simp only [hc, decide_true]
        walk_at "pp"
        simp only [hd, decide_false]
        walk_at "pp"
        simp only [mod_p h2.1]
        walk_at "pp"
        simp only [mul_l (i := c3) (j := a) (by omega) (by omega)]
        walk_at "pp"
        simp only [pow_p (i := cell % m1 + c3 * a + c4) (j := 5) (by decide) (by decide) b1]
        walk_at "pp"
        simp only [mod_p h5.1]
        walk_at "pp"
        simp only [mul_l (i := 2) (j := a) (by decide) (by decide)]
        walk_at "pp"
        simp only [mul_l (i := (cell % m1 + c3 * a + c4) ^ 5 % m2) (j := 2 * a + c5) (by omega) (by omega)]
        walk_at "pp"
        simp only [mul_l (i := c6) (j := a) (by omega) (by omega)]
        walk_at "pp"
        simp only [mul_l (i := c6 * a) (j := a) (by omega) (by omega)]
        walk_at "pp"
        simp only [pow_p (j := 3) (by decide) (by decide) b2]
        walk_at "pp"
        simp only [mod_p h9]
        walk_at "pp"
        simp only [fdiv_p (j := 32) (by decide) (by decide)]
        walk_at "pp"
        simp only [mod_p hm]
        walk_at "pp"
      · walk_at "pp"
        simp only [hc, decide_false]
        walk_at "pp"
        simp only [mod_p h2.1]
        walk_at "pp"
        simp only [mul_l (i := c3) (j := a) (by omega) (by omega)]
        walk_at "pp"
        simp only [pow_p (i := cell % m1 + c3 * a + c4) (j := 5) (by decide) (by decide) b1]
        walk_at "pp"
        simp only [mod_p h5.1]
        walk_at "pp"
        simp only [mul_l (i := 2) (j := a) (by decide) (by decide)]
        walk_at "pp"
        simp only [mul_l (i := (cell % m1 + c3 * a + c4) ^ 5 % m2) (j := 2 * a + c5) (by omega) (by omega)]
        walk_at "pp"
        simp only [mul_l (i := c6) (j := a) (by omega) (by omega)]
        walk_at "pp"
        simp only [mul_l (i := c6 * a) (j := a) (by omega) (by omega)]
        walk_at "pp"
        simp only [pow_p (j := 3) (by decide) (by decide) b2]
        walk_at "pp"
        simp only [mod_p h9]
        walk_at "pp"
        simp only [fdiv_p (j := 32) (by decide) (by decide)]
        walk_at "pp"
        simp only [mod_p hm]
        walk_at "pp"
theorem atI_mod {xs : List D} {a : Int} (h : 0 < xs.length) : ∃ d ∈ xs, L2.atI xs (a % (xs.length : Int)) = some d := by
  have h1 := Int.emod_nonneg a (show (xs.length : Int) ≠ 0 by omega)
  have h2 := Int.emod_lt_of_pos a (show (0 : Int) < xs.length by omega)
  have h3 : (a % (xs.length : Int)).toNat < xs.length := by omega
  refine ⟨xs[(a % (xs.length : Int)).toNat], List.getElem_mem h3, ?_⟩
  unfold L2.atI L2.ixN
  rw [if_pos h1, if_pos h2]
  simp [h3]
theorem draw_ok {cl : CallF} {c1 c2 m1 c3 c4 m2 c5 c6 c7 m3 : Int} (h1 : 0 ≤ c1 ∧ c1 ≤ 1000000) (h2 : 0 < m1 ∧ m1 ≤ 2147483648) (h3 : 0 ≤ c3 ∧ c3 ≤ 1000000) (h4 : 0 ≤ c4 ∧ c4 ≤ 1000000) (h5 : 0 < m2 ∧ m2 ≤ 2147483648) (h6 : 0 ≤ c5 ∧ c5 ≤ 1000000) (h7 : 0 ≤ c6 ∧ c6 ≤ 1000000)
    (h8 : 0 ≤ c7 ∧ c7 ≤ 1000000) (h9 : 0 < m3) {n : Nat} {p : D} {m : Int} (hp : PenOk n p) (hn : n ≤ 1000000) (hm : 0 < m) (hm2 : m < 1766847064778384329583297500742918515827483896875618958121606201292619776) :
    ∃ r p', runF cl (drawFn c1 c2 m1 c3 c4 m2 c5 c6 c7 m3) [.io p, .fz (.int m)] = .ok (.d (.int r)) [p'] ∧ 0 ≤ r ∧ r < m ∧ PenOk (n + 1) p' := by
  obtain ⟨cs, a, g, rfl, hcs, ha, han⟩ := hp
  by_cases hg : 0 < g
  · refine ⟨g % m, .lst [.lst (cs.map D.int), .int a, .int (g / m)], ?_, Int.emod_nonneg _ (by omega), Int.emod_lt_of_pos _ hm, cs, a, _, rfl, hcs, ha, by omega⟩
    simp only [drawFn]
    walk_at "pp"
    simp only [hg, decide_true]
    simp only [mod_p hm]
    walk_at "pp"
    simp only [fdiv_w hm (by omega)]
    try walk_at "pp"
  · have key : ∀ cell : Int, ∃ r p', finR [Ar.io (.lst [.lst (cs.map D.int), .int a, .int g]), Ar.fz (.int m)] (exs cl (drawTail m1 c3 c4 m2 c5 c6 c7 m3) [.io (.lst [.lst (cs.map D.int), .int (a + 1), .int g]), .fz (.int m), .un, .fz (.int a), .fz (.int cell), .un, .un]) = .ok (.d (.int r)) [p'] ∧ 0 ≤ r ∧ r < m ∧ PenOk (n + 1) p' := by
      intro cell
      obtain ⟨r, g', s2, s3, s4, s5, s6, e, h1, h2⟩ := tail_ok (cl := cl) h2 h3 h4 h5 h6 h7 h8 h9 (cs := cs.map D.int) (b := a + 1) (g := g) (cell := cell) (x2 := .un) (x5 := .un) (x6 := .un) hm hm2 ha (by omega)
      refine ⟨r, .lst [.lst (cs.map D.int), .int (a + 1), .int g'], ?_, h1, h2, cs, a + 1, g', rfl, hcs, by omega, by omega⟩
      rw [e]
      rfl
    simp only [drawFn]
    walk_at "pp"
    simp only [hg, decide_false]
    walk_at "pp"
    simp only [mul_l (i := c1) (j := a) (by omega) (by omega)]
    walk_at "pp"
    cases cs with
    | nil =>
      simp only [List.isEmpty_nil]
      walk_at "pp"
      obtain ⟨r, p', e, h⟩ := key (c1 * a + c2)
      exact ⟨r, p', e, h⟩
    | cons c cs =>
      simp only [List.isEmpty_cons]
      walk_at "pp"
      have hl : (0 : Int) < ((((c :: cs).map D.int).length : Nat) : Int) := by simp <;> omega
      obtain ⟨d, hd, e1⟩ := atI_mod (xs := (c :: cs).map D.int) (a := a) (by simp)
      obtain ⟨v, _, rfl⟩ := List.mem_map.mp hd
      rw [show (List.map D.int cs).length + 1 = ((c :: cs).map D.int).length from rfl]
      simp only [mod_p hl]
      walk_at "pp"
      rw [show ixD (.lst (.int c :: cs.map D.int)) (.int (a % (((cs.map D.int).length + 1 : Nat) : Int))) = some (.int v) from e1]
      walk_at "pp"
      exact key v
theorem cut_all {xs : List D} {n : Nat} (h : xs.length ≤ n) : cutD xs none (some (n : Int)) = xs := by
  unfold cutD
  rw [HT.sIx_nat, HT.sIx_none, List.drop_zero, Nat.sub_zero, Nat.min_eq_right h, List.take_length]
/-- the laws' pen -/
def penFn : Fn := { n := 1, body := (.cons (.ret (.lst (.cons (.bi .list (.cons (.slice (.var 0) false true (.cst .non) (.cst (.int 63))) .nil)) (.cons (.cst (.int 0)) (.cons (.cst (.int 0)) .nil))))) .nil) }
theorem pen_ok {cl : CallF} {ns : List Int} (h : ns.length ≤ 63) : runF cl penFn [.fz (.kst (ns.map D.int))] = .ok (.nw (.lst [.lst (ns.map D.int), .int 0, .int 0])) [] ∧ PenOk 0 (.lst [.lst (ns.map D.int), .int 0, .int 0]) := by
  refine ⟨?_, ns, 0, 0, rfl, h, by omega, by omega⟩
  simp only [penFn]
  walk_at "pp"
  rw [show cutD (ns.map D.int) none (some 63) = ns.map D.int from cut_all (n := 63) (by simpa using h)]
  rw [show ∀ xs, biD .list [.lst xs] = some (.lst xs) from fun _ => rfl]
  walk_at "pp"
theorem ix_get {xs : List D} {r : Int} (h2 : 0 ≤ r) (h3 : r < (xs.length : Int)) : ∃ d ∈ xs, L2.atI xs r = some d := by
  have h5 : r.toNat < xs.length := by omega
  refine ⟨xs[r.toNat], List.getElem_mem h5, ?_⟩
  unfold L2.atI L2.ixN
  rw [if_pos h2, if_pos h3]
  simp [h5]
/-- the laws' pick, by the number of the draw -/
def pickFn (f : Nat) : Fn := { n := 2, body := (.cons (.ret (.ix (.var 1) (.call f [true, false] (.cons (.var 0) (.cons (.bi .len (.cons (.var 1) .nil)) .nil))))) .nil) }
def DrawOk (cl : CallF) (f : Nat) : Prop := ∀ (n : Nat) (p : D) (m : Int), PenOk n p → n ≤ 1000000 → 0 < m → m < 1766847064778384329583297500742918515827483896875618958121606201292619776 → ∃ r p', cl f [.io p, .fz (.int m)] = .ok (.d (.int r)) [p'] ∧ 0 ≤ r ∧ r < m ∧ PenOk (n + 1) p'
def PickOk (cl : CallF) (f : Nat) : Prop := ∀ (n : Nat) (p : D) (xs : List D), PenOk n p → n ≤ 1000000 → 0 < xs.length → xs.length < 1000 → ∃ d ∈ xs, ∃ p', cl f [.io p, .fz (.lst xs)] = .ok (.d d) [p'] ∧ PenOk (n + 1) p'
theorem pick_ok {cl : CallF} {f : Nat} (hd : DrawOk cl f) {n : Nat} {p : D} {xs : List D} (hp : PenOk n p) (hn : n ≤ 1000000) (h0 : 0 < xs.length) (h1 : xs.length < 1000) :
    ∃ d ∈ xs, ∃ p', runF cl (pickFn f) [.io p, .fz (.lst xs)] = .ok (.d d) [p'] ∧ PenOk (n + 1) p' := by
  obtain ⟨r, p', e1, h2, h3, h4⟩ := hd n p (xs.length : Int) hp hn (by omega) (by omega)
  obtain ⟨d, hd, e2⟩ := ix_get h2 h3
  refine ⟨d, hd, p', ?_, h4⟩
  simp only [pickFn]
  walk_at "pp"
  rw [e1]
  walk_at "pp"
  rw [show ixD (.lst xs) (.int r) = some d from e2]
  walk_at "pp"
theorem forD_inv {body : Env → R Fl} {i : Nat} (I : Nat → Env → Prop) (N : Nat) (xs : List D) : ∀ (j : Nat) (env : Env), j + xs.length ≤ N → I j env → (∀ (j : Nat) (d : D) (env : Env), j < N → d ∈ xs → I j env → ∃ env', body (env.set i (.fz d)) = .ok .next env' ∧ I (j + 1) env') → ∃ env', forD body i xs env = .ok .next env' ∧ I (j + xs.length) env' := by
  induction xs with
  | nil => intro j env _ h0 _; exact ⟨env, rfl, h0⟩
  | cons d r ih =>
    intro j env hN h0 hs
    rw [List.length_cons] at hN
    obtain ⟨env1, e1, h1⟩ := hs j d env (by omega) List.mem_cons_self h0
    obtain ⟨env2, e2, h2⟩ := ih (j + 1) env1 (by omega) h1 fun j d' env hj hd => hs j d' env hj (List.mem_cons_of_mem _ hd)
    refine ⟨env2, ?_, ?_⟩
    · simp only [forD, e1, R.bind_ok]
      exact e2
    · rw [List.length_cons, show j + (r.length + 1) = j + 1 + r.length by omega]
      exact h2
theorem use_for {body : Env → R Fl} {i : Nat} {xs : List D} {env : Env} {q : R Fl} (hq : forD body i xs env = q) (I : Nat → Env → Prop) (h0 : I 0 env) (hs : ∀ (j : Nat) (d : D) (env : Env), j < xs.length → d ∈ xs → I j env → ∃ env', body (env.set i (.fz d)) = .ok .next env' ∧ I (j + 1) env') : ∃ env', q = .ok .next env' ∧ I xs.length env' := by
  subst hq
  have := forD_inv I xs.length xs 0 env (by omega) h0 hs
  rwa [Nat.zero_add] at this
theorem calls_eq (fs : Nat → Option Fn) (k f : Nat) {F : Fn} (h : fs f = some F) (as : List Ar) (hs : F.star = none := by rfl) (hl : F.lam = false := by rfl) (hg : F.gen = none := by rfl) : calls fs (k + 1) f as = runF (calls fs k) F as := by
  simp only [calls, h, hs, hl, hg]
end PP
end
section
set_option maxHeartbeats 400000
namespace PP
open PySem L2
end PP
end
section
namespace PP
open PySem L2
theorem ownUn_o (cl : CallF) (m : Nat) (cs : List Nat) (c : Nat) (ks : List Nat) (vs : List D) (env : Env) : ownUn cl m cs (.obj c ks vs) env = if !cs.contains c then .bad else match cl (spec c m) [.fz (.obj c ks vs)] with
    | .ok r _ => .ok r env
    | .exc x _ => .exc x env
    | .bad => .bad := rfl
theorem ownGet_o (cl : CallF) (cs : List Nat) (c : Nat) (ks : List Nat) (vs : List D) (y : D) (env : Env) : ownGet cl cs (.obj c ks vs) y env = if !cs.contains c then .bad else match cl (spec c 18) [.fz (.obj c ks vs), .fz y] with
    | .ok r _ => .ok r env
    | .exc x _ => .exc x env
    | .bad => .bad := rfl
theorem ownCal_o (cl : CallF) (cs : List Nat) (c : Nat) (ks : List Nat) (vs ds : List D) (env : Env) : ownCal cl cs (.obj c ks vs) ds env = if !cs.contains c then .bad else match cl (spec c 20) ((.obj c ks vs :: ds).map .fz) with
    | .ok r _ => .ok r env
    | .exc x _ => .exc x env
    | .bad => .bad := rfl
theorem isObD_o (c : Nat) (ks : List Nat) (vs : List D) : isObD (.obj c ks vs) = true := rfl
end PP
end
section
namespace PP
open PySem L2
theorem ix_dT (ks : List (List Int)) (vs ys : List D) : ixD (.dT ks vs) (.tup ys) = (intsD ys).bind fun k => getDT ks vs k := rfl
theorem isin_dT (ks : List (List Int)) (vs ys : List D) : op2 .isin (.tup ys) (.dT ks vs) = (intsD ys).map fun k => .bl (getDT ks vs k).isSome := rfl
theorem notin_dT (ks : List (List Int)) (vs ys : List D) : op2 .notin (.tup ys) (.dT ks vs) = (intsD ys).map fun k => .bl (!(getDT ks vs k).isSome) := rfl
theorem keyTI_t (ys : List D) : keyTI (.tup ys) = intsD ys := rfl
theorem intsD_c (i : Int) (r : List D) : intsD (.int i :: r) = (intsD r).map (i :: ·) := rfl
theorem intsD_n : intsD [] = some [] := rfl
theorem dtS_ow (ks : List (List Int)) (vs : List D) : dtS (.ow (.dT ks vs)) = some (ks, vs) := rfl
theorem dtS_io (ks : List (List Int)) (vs : List D) : dtS (.io (.dT ks vs)) = some (ks, vs) := rfl
theorem isDtS_ow (ks : List (List Int)) (vs : List D) : isDtS (.ow (.dT ks vs)) = true := rfl
theorem isDtS_io (ks : List (List Int)) (vs : List D) : isDtS (.io (.dT ks vs)) = true := rfl
theorem slOf_dT (x : D) (ks : List (List Int)) (vs : List D) : slOf (.nw x) (.dT ks vs) = .ow (.dT ks vs) := rfl
theorem nrm_dT (ks : List (List Int)) (vs : List D) : nrm (.dT ks vs) = .nw (.dT ks vs) := rfl
theorem isDT_t (ks : List (List Int)) (vs : List D) : isDT (.dT ks vs) = true := rfl
end PP
end
section
namespace PP
open PySem PySem.Spec PyProof.Rows L2
theorem obP_eq {α : Type} {n : Nat} {F : PySem.W.Frag → α} {val : World → α} (s : PySem.W.SharedT) : obP n F s = (hookP n F val).obs s.abs := by
  have e : HandSHeadRun.getT s = s.abs.heap.get? := funext (HandSHeadRun.getT_eq s)
  show F _ = F _
  rw [e] <;> rfl
/-- THE END of a law over such a head -/
theorem law_walkE {l : PySem.W.OpenLaw} {n k : Nat} {q : Program} {loose : List Str} {XP : (Str → Option Value) → Heap → Prop} {α : Type} {F : PySem.W.Frag → α} {val : World → α} {m : Nat} {d : DefRec} {sp : PySem.W.Frag → Sp} {x : Str} (names : List Str)
    (hn : l.most = some n) (hn2 : n ≤ sizeLine) (hdf : d.params.defaults = []) (hr : Room k callerA)
    (hq : (names.all fun x => ((recsOf q).find? fun e => e.name == x).isSome) = true)
    (hl : ∀ (w : World) (K : PySem.W.Frag), F K = val w → ((csOf names K).all fun p => (K.lookup p.2).isNone) = true)
    (hF : ∀ (w : World) (mg : Str → Option Value) (fa : Addr) (h : Heap) (K : PySem.W.Frag), K.In h → F K = val w → h.Ns mainGlobals mg → mg d.name = some (.ref fa) →
      ∃ fd : FuncData, (∀ (s : Shared) (u : Value), BindsTo s fd ⟨[u], []⟩ [(x, u)]) ∧
        ∀ base : Heap, K.In base → base.Ns mainGlobals mg → (∀ x ∈ names, ∀ c P, PySem.W.tabIn K x = some (c, P) → LamX.TabB base mg c P) → FnG l.prog w K mg base k fa fd [x] (sp K))
    (hsp : ∀ (K : PySem.W.Frag) (H : Hp) (a : Addr) (ns : List Int), ns.length ≤ n → (∀ p ∈ csOf names K, H p.2 = some (.tbl #[])) → SqL K H a (ns.map V.int) → sp K [.ref a] H (fun v _ => v = .bl true) fun _ _ _ => False) :
    PySem.W.WalkO q loose XP (hookP m F val).says l.row.toRowW d [] (fun f vs => PySem.call f vs) := by
  refine Att.attach_call hn hdf fun w s₀ s₁ mg mb fa o pm cd doc a vs ns G Y ho hd hcd hmg hobj hints hlen hg => ?_
  obtain ⟨K, hKX, hv⟩ := Y
  obtain ⟨fd, hb, hf⟩ := hF w mg fa _ K hKX hv G.T.g hmg
  have hT : ∀ p ∈ csOf names K, _ ∧ K.lookup p.2 = none ∧ PySem.W.CodeHd _ p.1 p.2 := fun p hp => by
    have hnone := List.all_eq_true.mp (hl w K hv) p hp
    obtain ⟨x, hx, e⟩ := List.mem_filterMap.mp hp
    obtain ⟨dd, hd⟩ := Option.isSome_iff_exists.mp (List.all_eq_true.mp hq x hx)
    obtain ⟨z1, z2⟩ := PySem.W.tab_of G.T hKX hd e
    exact ⟨z2, Option.isNone_iff_eq_none.mp hnone, z1⟩
  exact law_run hKX G.T.g G.T.b G.T.builtins G.T.nolimit hg (fun p hp => (hT p hp).1) (fun p hp => (hT p hp).2.1) (fun p hp => (hT p hp).2.2) G.T.bmain hobj hints (Nat.le_trans hlen hn2) hr (fun base h1 h2 h3 => hf base h1 h2 fun x hx c P ht => h3 (c, P) (List.mem_filterMap.mpr ⟨x, hx, ht⟩)) hb fun H hH hS => hsp _ H a ns hlen hH hS
theorem fnA_ok {K : PySem.W.Frag} {a : Addr} {x q : Str} {st : Stmt} (e : fnA K a = some (x, q, defArgs st, .stmts (defBody st), defScope st, mainGlobals, [], builtinsNs)) (c : fnC K a q = true) :
    ∃ (oc : Value) (od : Option Addr) (kV dc pm : Value) (an : Option Addr) (cd ct : Value) (sl : Array (Option Value)), K.lookup a = some ⟨oc, od, .func (PySem.W.fnOf x q (defArgs st) (defBody st) (defScope st) .none kV dc pm an cd ct), sl⟩ ∧ PySem.W.codeIn K cd q = true := by
  unfold fnA at e
  unfold fnC at c
  cases hk : K.lookup a with
  | none =>
    rw [hk] at c
    cases c
  | some o =>
    obtain ⟨oc, od, dt, osl⟩ := o
    rw [hk] at c e
    cases dt with
    | func fd =>
      obtain ⟨n1, n2, n3, n4, n5, n6, n7, n8, n9, n10, n11, n12, n13, n14, n15⟩ := fd
      have e2 : (some (n1, n2, n3, n4, n5, n6, n7, n15) : He.FnW) = some (x, q, defArgs st, .stmts (defBody st), defScope st, mainGlobals, [], builtinsNs) := e
      simp only [Option.some.injEq, Prod.mk.injEq] at e2
      obtain ⟨h1, h2, h3, h4, h5, h6, h7, h8⟩ := e2
      subst h1 h2 h3 h4 h5 h6 h7 h8
      have c3 : (decide (n8 = .none) && PySem.W.codeIn K n13 n2) = true := c
      obtain ⟨k1, k2⟩ := Bool.and_eq_true_iff.mp c3
      obtain rfl := of_decide_eq_true k1
      exact ⟨oc, od, n9, n10, n11, n12, n13, n14, osl, rfl, k2⟩
    | _ => cases c
theorem exl_ok {K : PySem.W.Frag} {C : Addr} (h : exlB K C = true) : ∃ (nm q : Str) (N : Addr) (bs bm : List Value) (sn : List Str) (sub : List Value) (ab : Bool) (col : Option Bool) (dd : Option Addr) (k0 k1 k2 k3 k5 : Option Value),
    K.lookup C = some (excClassObj nm q C N bs bm true sn sub ab col dd k0 k1 k2 k3 k5 "ValueError.__new__") ∧ PySem.HandSPX.refsVE bm = true := by
  unfold exlB at h
  split at h
  · rename_i dd cd sl ho
    split at h
    · rename_i C' bm k0 k1 k2 k3 n k5 hm hs
      simp only [Bool.and_eq_true, beq_iff_eq, Bool.not_eq_true'] at h
      obtain ⟨⟨⟨⟨rfl, rfl⟩, hdel⟩, hd⟩, ht⟩ := h
      obtain ⟨nm, bs, mro, ns, qn, hd', sn, sub, ab, col, del⟩ := cd
      dsimp only at hm hdel hd
      subst hm hdel hd
      have hsl : sl = #[k0, k1, k2, k3, some (.builtin "ValueError.__new__"), k5] := by
        obtain ⟨l⟩ := sl
        simp only at hs
        rw [hs]
      subst hsl
      exact ⟨nm, qn, ns, bs, bm, sn, sub, ab, col, dd, k0, k1, k2, k3, k5, ho, ht⟩
    · cases h
  · cases h
end PP
end
section
namespace PP
open PySem PySem.Spec PyProof.Rows L2
theorem and1 {a b : Bool} (h : (a && b) = true) : a = true := by cases a <;> simp_all
theorem and2 {a b : Bool} (h : (a && b) = true) : b = true := by cases a <;> simp_all
end PP
end
section
set_option maxHeartbeats 1000000
namespace GF
open PySem PySem.Spec PyProof.Rows L2 PP
section
variable (T : Tbl) (P : Program) (w : World) (K : PySem.W.Frag) (mg : Str → Option Value) (base : Heap) (outer : List PySem.Env) (k : Nat) (L : Nat)
/-- what a run that is woken in s comes to, if rem is still to be yielded -/
def Phi (rem : List D) (s : Shared) (H0 H : Hp) (pn : List (Addr × Obj)) (e : End) (s₁ : Shared) : Prop := match rem with
  | [] => (e = .ret (.ok .next) ∨ e = .ret (.ok (.ret .none))) ∧ ∃ H0' H', AF T P w outer L s H0 H pn s₁ H0' H'
  | d :: r => ∃ v l c kk p fs x own' H0' H', e = .susp v false l kk c p fs ∧ e.quiet = true ∧ AF T P w outer L s H0 H pn s₁ H0' H' ∧ OwnOk L outer pn own' H' s₁ ∧ RelV x v ∧ Rep T H0' d x ∧ StrG T P w K mg base outer k L r e.genState own' H0'
end
/-- running -/
structure Live (T : Tbl) (X : Cx) (k : Nat) (A : Around) (s0 : Shared) (H0c Hc : Hp) (pn ip : List (Addr × Obj)) (C : PP.Ctx) (σ : L2.St) (H0 H : Hp) (env : PP.Env) (s : Shared) : Prop where
  I : L2.Inv (nx X A s0 Hc pn) ip σ H s
  S : Sim C σ H0 H env
  ct : C.T = T
  c0 : C.H0e = H0c
  ce : C.He = Hc
  io : ∀ a, ¬ C.io a
  room : Room k A
  gd : A.guards = some []
  ipl : ∀ p ∈ ip, X.env.locals ≤ p.1 ∧ ∀ q ∈ pn, q.1 ≠ p.1
  sz : X.env.locals < s0.heap.objs.size
def KOk (T : Tbl) (X : Cx) (k : Nat) (c : Code) (fs : List Frame) (t : Sem PySem.Fin) (env : PP.Env) (rem : List D) (ip : List (Addr × Obj)) (G : Hp) : Prop :=
  ∀ A s0 H0c Hc pn C σ H0 H s, Live T X k A s0 H0c Hc pn ip C σ H0 H env s → PP.Ext G H0 → SX (model X.prog X.w) A (Phi T X.prog X.w X.K X.mg X.base X.outer k X.env.locals rem s0 H0c Hc pn) c t fs s
/-- where the code stands -/
structure GCx (X : Cx) (c : Code) (fs : List Frame) (gd : Bool → Bool) : Prop where
  ov : ∀ A : Around, A.over c fs = A.deeper X.env
  split : splitAtGen fs = none
  guard : fs.any Frame.guarded = false
  gd : gd false = false
/-- a run of statements: from env it yields ys and comes to env' -/
def GOk (T : Tbl) (X : Cx) (k : Nat) (m : Sem Flow) (R : PP.Env → List D → PP.Env → Prop) : Prop :=
  ∀ (c : Code) (fs : List Frame) (K : Flow → Sem PySem.Fin) (J : Value → Sem PySem.Fin) (gd : Bool → Bool) (lv : List Value → List Value) A s0 H0c Hc pn ip C σ H0 H env s ys env' rem G, GCx X c fs gd → R env ys env' → KOk T X k c fs (K .next) env' rem ip G →
    Live T X k A s0 H0c Hc pn ip C σ H0 H env s → PP.Ext G H0 → SX (model X.prog X.w) A (Phi T X.prog X.w X.K X.mg X.base X.outer k X.env.locals (ys ++ rem) s0 H0c Hc pn) c (m.wrap K J gd lv) fs s
end GF
end
section
set_option maxHeartbeats 1000000
namespace GF
open PySem PySem.Spec PyProof.Rows L2 PP
theorem GOk.imp {T : Tbl} {X : Cx} {k : Nat} {m : Sem Flow} {R R' : PP.Env → List D → PP.Env → Prop} (h : GOk T X k m R) (hi : ∀ env ys env', R' env ys env' → R env ys env') : GOk T X k m R' :=
  fun c fs K J gd lv A s0 H0c Hc pn ip C σ H0 H env s ys env' rem G g hR => h c fs K J gd lv A s0 H0c Hc pn ip C σ H0 H env s ys env' rem G g (hi _ _ _ hR)
theorem bind_ok {α β : Type} {r : PP.R α} {f : α → PP.Env → PP.R β} {b : β} {env : PP.Env} (h : r.bind f = .ok b env) : ∃ a e, r = .ok a e ∧ f a e = .ok b env := by
  cases r with
  | ok a e => exact ⟨a, e, rfl, h⟩
  | exc x e => cases h
  | bad => cases h
end GF
end
section
set_option maxHeartbeats 400000
namespace PP
open PySem L2
mutual
def smlD : D → Bool
  | .non => true | .bl _ => true | .int i => decide (i.natAbs < 2 ^ 64) | .lst xs => smlL xs | .tup xs => smlL xs | .kst xs => smlL xs | _ => false
def smlL : List D → Bool
  | [] => true | d :: r => smlD d && smlL r
end
mutual
def szD : D → Nat
  | .lst xs => szL xs + 3 | .tup xs => szL xs + 3 | .kst xs => szL xs + 3 | _ => 70
def szL : List D → Nat
  | [] => 0 | d :: r => szD d + 2 + szL r
end
theorem textFrom_le : ∀ (ts : List Str) (k : Nat) (acc : Str), (textFrom k acc ts).length ≤ acc.length + (ts.map fun t => t.length + 2).sum
  | [], k, acc => by show acc.length ≤ _; omega
  | t :: r, k, acc => by
    have ih := textFrom_le r (k + 1) (acc ++ (if k > 0 then ", " else "" : String) ++ t)
    have e : textFrom k acc (t :: r) = textFrom (k + 1) (acc ++ (if k > 0 then ", " else "" : String) ++ t) r := rfl
    rw [e]
    refine Nat.le_trans ih ?_
    rw [len_app, len_app, len_ofS, List.map_cons, List.sum_cons]
    have : (if k > 0 then ", " else "" : String).length ≤ 2 := by split <;> decide
    omega
theorem join_le : ∀ ts : List Str, (Str.join ", " ts).length ≤ (ts.map fun t => t.length + 2).sum
  | [] => by show (0 : Nat) ≤ _; omega
  | [x] => by show x.length ≤ _; simp
  | x :: y :: r => by
    have ih := join_le (y :: r)
    have e : Str.join ", " (x :: y :: r) = x ++ ", " ++ Str.join ", " (y :: r) := rfl
    rw [e, len_app, len_app, List.map_cons, List.sum_cons]
    have : (Str.ofString ", ").length = 2 := by rw [len_ofS]; rfl
    omega
theorem log64 {i : Int} (h : i.natAbs < 2 ^ 64) : i.natAbs.log2 < 64 := by
  by_cases c : i.natAbs = 0
  · rw [c]; decide
  · exact (Nat.log2_lt c).mpr h
open PyData in
mutual
theorem rp_sm : ∀ d : D, smlD d = true → ∃ p, toPy d = some p ∧ p.showable = true ∧ p.hasDict = false ∧ p.shown.length ≤ szD d ∧ p.depth = dpD d
  | .non, _ => ⟨.none, rfl, by simp only [showable], by simp only [hasDict], by simp only [shown]; decide, by simp [PyData.depth, dpD]⟩
  | .bl b, _ => ⟨.bool b, rfl, by simp only [showable], by simp only [hasDict], by simp only [shown]; cases b <;> decide, by simp [PyData.depth, dpD]⟩
  | .int i, h => by
    simp only [smlD, decide_eq_true_eq] at h
    have hl := log64 h
    refine ⟨.int i, rfl, ?_, by simp only [hasDict], ?_, by simp [PyData.depth, dpD]⟩
    · simp only [showable, decide_eq_true_eq]; omega
    · simp only [shown, szD]
      rw [len_ofS]
      exact Nat.le_trans (int_text_length_le (by decide : 0 < 64) hl) (by decide)
  | .lst xs, h => by
    obtain ⟨ps, h1, h2, h3, h4, h5⟩ := rps_sm xs (by simpa only [smlD] using h)
    refine ⟨.list ps, by simp only [toPy, h1, Option.map_some], by simp only [showable, h2], by simp only [hasDict, h3], ?_, by simp only [PyData.depth, dpD, h5]⟩
    simp only [shown, szD, listText]
    rw [len_app, len_ofS]
    have := textFrom_le (shownAll ps) 0 (Str.ofString "[")
    rw [len_ofS] at this
    have e1 : "[".length = 1 := rfl
    have e2 : "]".length = 1 := rfl
    omega
  | .kst xs, h => by
    obtain ⟨ps, h1, h2, h3, h4, h5⟩ := rps_sm xs (by simpa only [smlD] using h)
    refine ⟨.list ps, by simp only [toPy, h1, Option.map_some], by simp only [showable, h2], by simp only [hasDict, h3], ?_, by simp only [PyData.depth, dpD, h5]⟩
    simp only [shown, szD, listText]
    rw [len_app, len_ofS]
    have := textFrom_le (shownAll ps) 0 (Str.ofString "[")
    rw [len_ofS] at this
    have e1 : "[".length = 1 := rfl
    have e2 : "]".length = 1 := rfl
    omega
  | .tup xs, h => by
    obtain ⟨ps, h1, h2, h3, h4, h5⟩ := rps_sm xs (by simpa only [smlD] using h)
    refine ⟨.tuple ps, by simp only [toPy, h1, Option.map_some], by simp only [showable, h2], by simp only [hasDict, h3], ?_, by simp only [PyData.depth, dpD, h5]⟩
    simp only [shown, szD, tupleText]
    rw [len_app, len_app, len_ofS, len_ofS]
    have := join_le (shownAll ps)
    have e1 : "(".length = 1 := rfl
    have e2 : (if (shownAll ps).length == 1 then ",)" else ")" : String).length ≤ 2 := by split <;> decide
    omega
  | .str _, h => by simp [smlD] at h
  | .dK _ _, h => by simp [smlD] at h
  | .dT _ _, h => by simp [smlD] at h
  | .obj _ _ _, h => by simp [smlD] at h
  | .cls _, h => by simp [smlD] at h
  | .err _ _ _, h => by simp [smlD] at h
theorem rps_sm : ∀ ds : List D, smlL ds = true → ∃ ps, toPyAll ds = some ps ∧ showableAll ps = true ∧ hasDictAll ps = false ∧ ((shownAll ps).map fun t => t.length + 2).sum ≤ szL ds ∧ depthAll ps = dpL ds
  | [], _ => ⟨[], rfl, by simp only [showableAll], by simp only [hasDictAll], by simp [shownAll, szL], by simp [PyData.depthAll, dpL]⟩
  | d :: r, h => by
    simp only [smlL, Bool.and_eq_true] at h
    obtain ⟨p, h1, h2, h3, h4, h5⟩ := rp_sm d h.1
    obtain ⟨ps, g1, g2, g3, g4, g5⟩ := rps_sm r h.2
    refine ⟨p :: ps, by simp only [toPyAll, h1, g1], by simp only [showableAll, h2, g2, Bool.and_self], by simp only [hasDictAll, h3, g3, Bool.or_self], ?_, by simp only [PyData.depthAll, dpL, h5, g5]⟩
    simp only [shownAll, szL, List.map_cons, List.sum_cons]
    omega
end
end PP
end
section
set_option maxHeartbeats 1000000
namespace PP
open PySem PySem.Spec PyProof.Rows L2
end PP
end
section
set_option maxHeartbeats 1000000
namespace PP
open PySem PySem.Spec PyProof.Rows L2
end PP
end
section
set_option maxHeartbeats 1000000
namespace PP
open PySem PySem.Spec PyProof.Rows L2
end PP
end
section
set_option maxHeartbeats 1000000
namespace PP
open PySem PySem.Spec PyProof.Rows L2
section
variable {X : Cx} {C : Ctx} {W : WX} {cl : CallF} {a b e : Expr} {a' b' e' x' : Ex} {pos : Pos}
/-- one field more -/
theorem Sim.setF {σ : L2.St} {H0 H : Hp} {env : Env} {i k c : Nat} {f : Str} {cs ks : List Nat} {vs : List D} {d : D} {v : V} (S : Sim C σ H0 H env) (F : FldOk X.K C.T k f) (hc : ∀ c ∈ cs, C.T.fo c k = true) (hg : getS env i = .ow (.obj c ks vs) ∨ getS env i = .io (.obj c ks vs))
    (hz : (decide (ks.length < 100) && decide (vs.length = ks.length) && cs.contains c) = true) (r2 : Rep C.T H0 d v) : ∃ a Ca dx fs, σ[i]? = some (some (.ref a)) ∧ H a = some (.ins Ca dx fs) ∧ Cls X.K Ca ∧ NoAttr X.K Ca f ∧ fs.length < 1000 ∧
      Sim C σ H0 (upd H a (.ins Ca dx (putF f v fs))) (env.set i (setIO (getS env i) (.obj c (putD ks vs k d).1 (putD ks vs k d).2))) := by
  simp only [Bool.and_eq_true, decide_eq_true_eq, List.contains_iff_mem] at hz
  obtain ⟨⟨hz1, hz2⟩, hz3⟩ := hz
  obtain ⟨a, ha, ho, hr⟩ := S.ob hg
  obtain ⟨b, Ca, dx, xs, eb, hn, hck, hp, hl, hx⟩ := hr
  cases eb
  obtain ⟨hc1, hc2⟩ := Tbl.ck_some hck
  obtain ⟨o1, o2⟩ := F.ok c Ca hc1 (hc c hz3) (Tbl.ck_ec hck)
  obtain ⟨xs', p1, p2, p3, p4⟩ := put_zip F.nm r2 (fun j hj => F.inj c j (hc c hz3) (hc2 j hj)) hx hl hz2
  refine ⟨a, Ca, dx, _, ha, hp, o1, o2, ?_, ?_⟩
  · rw [List.length_zip, List.length_map]; omega
  · rw [p1]
    refine S.mut ho ha ⟨a, Ca, dx, xs', rfl, hn, ?_, upd_same, p2, p3⟩
    unfold Tbl.ck
    rw [if_pos (Bool.and_eq_true_iff.mpr ⟨by rw [Tbl.ck_ec hck]; rfl, List.all_eq_true.mpr fun j hj => (p4 j hj).elim (hc2 j) fun z => by rw [z]; exact hc c hz3⟩)]
    exact hc1
end
end PP
end
section
set_option maxHeartbeats 1000000
namespace PP
open PySem PySem.Spec PyProof.Rows L2
end PP
end
section
set_option maxHeartbeats 1000000
namespace PP
open PySem PySem.Spec PyProof.Rows L2
def ownU : U → Option D
  | .nw d => if isMutD d = true then some d else none
  | _ => none
/-- the elements of a display one after another -/
def evP (cl : CallF) : Exs → Env → R (List U)
  | .nil, env => .ok [] env
  | .cons e es, env => (ev cl e env).bind fun u env1 => match ownU u with
    | some d => (evP cl es env1).bind fun us env2 => .ok (.nw d :: us) env2
    | none => orBad (fzU env1 u) fun p => (evP cl es p.2).bind fun us env2 => .ok (.d p.1 :: us) env2
  | .star _ _, _ => .bad
def asgX : List Nat → List U → Env → Option Env
  | [], [], env => some env
  | i :: is, .d d :: us, env => asgX is us (env.set i (.fz d))
  | i :: is, .nw d :: us, env => asgX is us (env.set i (.ow d))
  | _, _, _ => none
def parX (is : List Nat) (es : Exs) : CallF → Env → R Fl := fun cl env => (evP cl es env).bind fun us env1 => orBad (asgX is us env1) fun env2 => .ok .next env2
def PndOk (C : Ctx) (σ : L2.St) (H0 H : Hp) (env : Env) : List Addr → List U → List V → Prop
  | _, [], vs => vs = []
  | L, .d x :: us, vs => ∃ v r, vs = v :: r ∧ Rep C.T H0 x v ∧ PndOk C σ H0 H env L us r
  | L, .nw x :: us, vs => ∃ a r, vs = .ref a :: r ∧ a ∉ L ∧ C.He a = none ∧ RepO C.T H0 H x (.ref a) ∧ (∀ i, ownS (getS env i) = true → σ[i]? ≠ some (some (.ref a))) ∧ PndOk C σ H0 H env (a :: L) us r
  | _, .sl _ :: _, _ => False
section
variable {C : Ctx} {σ : L2.St} {H0 H : Hp} {env : Env} {a : Addr} {o : HO}
theorem PndOk.store {i : Nat} {s : Sl} {v : V} (hs : ownS s = true → v = .ref a) : ∀ {us : List U} {vs : List V} {L : List Addr}, (ownS s = true → a ∈ L) → PndOk C σ H0 H env L us vs → PndOk C (σ.set i (some v)) H0 H (env.set i s) L us vs
  | [], _, _, _, h => h
  | .d x :: us, _, _, hL, h => by
    obtain ⟨v, r, e, h1, h2⟩ := h
    exact ⟨v, r, e, h1, PndOk.store hs hL h2⟩
  | .nw x :: us, _, _, hL, h => by
    obtain ⟨b, r, e, h1, h2, h3, h4, h5⟩ := h
    refine ⟨b, r, e, h1, h2, h3, fun j hj => ?_, PndOk.store hs (fun z => List.mem_cons_of_mem _ (hL z)) h5⟩
    rw [getS_set] at hj
    rw [List.getElem?_set]
    by_cases z : i = j
    · subst z
      by_cases hl : i < env.length
      · simp only [hl, and_self, if_true] at hj
        have e1 := hs hj
        subst e1
        by_cases hl' : i < σ.length
        · simp only [if_true, hl']
          intro w
          cases w
          exact h1 (hL hj)
        · simp [hl']
      · simp only [hl, and_false, if_false] at hj
        simp only [if_true]
        split
        · intro w
          have := h4 i hj
          have hn : getS env i = .un := by unfold getS; rw [List.getD_eq_getElem?_getD, List.getElem?_eq_none (by omega)]; rfl
          rw [hn] at hj; cases hj
        · exact nofun
    · simp only [z, false_and, if_false] at hj ⊢
      exact h4 j hj
end
end PP
end
section
set_option maxHeartbeats 1000000
namespace PP
open PySem PySem.Spec PyProof.Rows L2
def frzI : Sl → Sl
  | .ow d => .fz d
  | .io d => .fz d
  | s => s
def frzEI (env : Env) : Env := env.map frzI
def keepI (a : Ex) : CallF → Env → R U := fun cl env => if (frzEI env).all calmS then (match ev cl a (frzEI env) with
  | .ok (.nw d) _ => if noLst d then .ok (.nw d) env else .bad
  | .ok (.d d) _ => if noLst d then .ok (.d d) env else .bad
  | _ => .bad) else .bad
end PP
end
section
set_option maxHeartbeats 1000000
namespace PP
open PySem PySem.Spec PyProof.Rows L2
def catD : D → D → Option D
  | .tup xs, .tup ys => if xs.length + ys.length ≤ LIM && !xs.isEmpty && !ys.isEmpty then some (.tup (xs ++ ys)) else none
  | _, _ => none
def catT (a b : Ex) : CallF → Env → R U := fun cl env => (ev cl a env).bind fun u env1 => orBad (fzU env1 u) fun p => (ev cl b p.2).bind fun w env2 => orBad (fzU env2 w) fun q => orBad (catD p.1 q.1) fun z => .ok (.nw z) q.2
end PP
end
section
set_option maxHeartbeats 1000000
namespace PP
open PySem PySem.Spec PyProof.Rows L2
def lenT (i : Nat) : CallF → Env → R U := fun _ env => orBad (dtR (getS env i)) fun p => .ok (.nw (.int p.1.length)) env
end PP
end
section
set_option maxHeartbeats 1000000
namespace PP
open PySem PySem.Spec PyProof.Rows L2
end PP
end
section
set_option maxHeartbeats 1000000
namespace PP
open PySem PySem.Spec PyProof.Rows L2
end PP
end
section
set_option maxHeartbeats 4000000
namespace PP
open PySem PySem.Spec PyProof.Rows L2
end PP
end
section
set_option maxHeartbeats 4000000
namespace PP
open PySem PySem.Spec PyProof.Rows L2
end PP
end
section
set_option maxHeartbeats 1000000
namespace PP
open PySem PySem.Spec PyProof.Rows L2
end PP
end
section
set_option maxHeartbeats 1000000
namespace PP
open PySem PySem.Spec PyProof.Rows L2 PySem.Calls PySem.W
/-- an operation on two values that are read -/
def opH (g : D → D → Option D) (a b : Ex) : CallF → Env → R U := fun cl env => (ev cl a env).bind fun u env1 => (ev cl b env1).bind fun w env2 =>
      orBad (rdU env2 (pend u)) fun x => orBad (rdU env2 w) fun y => orBad (g x y) fun z => .ok (.nw z) env2
end PP
end
section
set_option maxHeartbeats 1000000
namespace PP
open PySem PySem.Spec PyProof.Rows L2 PySem.Calls PySem.W
section
variable {X : Cx} {C : Ctx} {W : WX} {cl : CallF} {e : Expr} {e' : Ex} {pos p : Pos}
/-- bool(o) -/
def booL (cs : List Nat) (a : Ex) : CallF → Env → R U := fun cl env => (ev cl a env).bind fun u env1 => orBad (recvU false env1 u) fun p => if !cs.contains p.1 then .bad else orBad (rdU p.2.2 p.2.1) fun x => match cl (spec p.1 19) [.fz x] with
  | .ok (.d (.int n)) _ => if 0 ≤ n ∧ n < 2 ^ 40 then .ok (.d (.bl (n != 0))) p.2.2 else .bad
  | _ => .bad
end
end PP
end
section
set_option maxHeartbeats 1000000
namespace PP
open PySem PySem.Spec PyProof.Rows L2
def itTy : D → Option String
  | .non => some "NoneType" | .str _ => some "str" | .lst _ => some "list" | .tup _ => some "tuple" | .dT _ _ => some "dict"
  | _ => none
/-- each of the list's things is plain and is not the object -/
def inLL (cl : CallF) (cs : List Nat) : D → D → Bool
  | .obj c ks vs, .lst ds => cs.contains c && ds.all fun d => (itTy d).isSome && (match cl (spec c 16) [.fz (.obj c ks vs), .fz d] with
    | .ok (.d (.bl false)) _ => true
    | _ => false)
  | _, _ => false
def inH (neg : Bool) (cs : List Nat) (a b : Ex) : CallF → Env → R U := fun cl env => (ev cl a env).bind fun u env1 => orBad (fzU env1 u) fun p => (ev cl b p.2).bind fun w env2 => orBad (fzU env2 w) fun q => if inLL cl cs p.1 q.1 then .ok (.nw (.bl neg)) q.2 else .bad
end PP
end
section
set_option maxHeartbeats 1000000
namespace PP
open PySem PySem.Spec PyProof.Rows L2
def ownON (cl : CallF) (o : O2) (cs ts : List Nat) (x y : D) (env : Env) : R U := match x with
  | .obj c ks vs => ownOp cl o cs ts (.obj c ks vs) y env
  | _ => .bad
def opoN (o : O2) (cs ts : List Nat) (a b : Ex) : CallF → Env → R U := fun cl env => (ev cl a env).bind fun u env1 => orBad (fzU env1 u) fun p => (ev cl b p.2).bind fun w env2 => orBad (fzU env2 w) fun q => ownON cl o cs ts p.1 q.1 q.2
end PP
end
section
set_option maxHeartbeats 1000000
namespace PP
open PySem PySem.Spec PyProof.Rows L2
def isKls : D → Bool
  | .cls _ => true
  | _ => false
def isoD (cs : List Nat) (a : Ex) : CallF → Env → R U := fun cl env => (ev cl a env).bind fun u env1 => orBad (rdU env1 u) fun x => if isKls x then .bad else .ok (.nw (.bl (isObjOf cs x))) env1
end PP
end
section
set_option maxHeartbeats 4000000
namespace PP
open PySem PySem.Spec PyProof.Rows L2
/-- try: b, except c1 as i: return i.k, except cs2 as i: j = i -/
def tryF (b : Ss) (c1 i k : Nat) (cs2 : List Nat) (j : Nat) : CallF → Env → R Fl := fun cl env => match exs cl b env with
  | .exc x env1 => if x.1 = c1 then (match fldD x.2.1 x.2.2 k with
      | some z => .ok (.ret (.d z)) env1
      | none => .bad) else if cs2.contains x.1 then .ok .next (((env1.set i .un).set j (.fz (.err x.1 x.2.1 x.2.2))).set i .un) else .bad
  | r => r
end PP
end
section
set_option maxHeartbeats 1000000
namespace PP
open PySem PySem.Spec PyProof.Rows L2
end PP
end
section
set_option maxHeartbeats 1000000
namespace PP
open PySem PySem.Spec PyProof.Rows L2
end PP
end
section
set_option maxHeartbeats 1000000
namespace PP
open PySem PySem.Spec PyProof.Rows L2
end PP
end
section
set_option maxHeartbeats 1000000
namespace PP
open PySem PySem.Spec PyProof.Rows L2
end PP
end
section
set_option maxHeartbeats 1000000
namespace PP
open PySem PySem.Spec PyProof.Rows L2
def biH (f : List D → Option D) (es : Exs) : CallF → Env → R U := fun cl env => (evR cl es env).bind fun us env1 => orBad (rdAll env1 us) fun ds => orBad (f ds) fun z => .ok (.nw z) env1
section
variable {X : Cx} {C : Ctx} {W : WX} {cl : CallF} {e : Expr} {es : List Expr} {es' : Exs} {pos : Pos}
theorem readBH {σ : L2.St} {H : Hp} {Q : VK} {f : List D → Option D} (h : tI C W cl (.hk (biH f es')) σ H Q) : tCB (rDn C.T f) (tAR C W cl es') σ H Q := by
  obtain ⟨H0, env, S, q⟩ := h
  simp only [ev, biH] at q
  refine ⟨H0, env, S, ?_⟩
  cases z : evR cl es' env with
  | ok us env3 =>
    simp only [z, R.bind_ok] at q
    intro H1 H1' e1 S1 vs hv
    obtain ⟨ds, hd, q1⟩ := (RQ.mono e1 q).orB
    obtain ⟨d, hg, q1⟩ := q1.orB
    exact ⟨H1, ds, d, S1.ex, hv.rd S1 hd, hg, fun v H0' H' g r => fin_nw S1 q1 g r⟩
  | exc x env3 => simp only [z] at q; exact q
  | bad => simp only [z] at q; exact q
theorem c_bhB {x : Str} {p : Pos} {id : String} {f : List D → Option D} (hc : CallR X (.builtin id) (rDn C.T f)) (hg : Gl X x) (hm : X.mg x = none) (hv : bootBuiltins x = some (.builtin id)) (ha : PA X (e :: es) (tAR C W cl es')) (hn : x ≠ "__name__" := by decide) (hdb : (x == ("__debug__" : Str)) = false := by decide)
    (he : starEach (e :: es) X.env = (false, eval e X.env) :: starEach es X.env := by rfl) (hpl : (backTo pos (starEach es X.env)).any (·.1) = false := by rfl) : PE X (.Call (.Name x p) (e :: es) [] pos) (tI C W cl (.hk (biH f es'))) :=
  peI (pe_callB hc hg hm hv ha hn hdb he hpl) fun _ _ _ q => readBH q
end
end PP
end
section
set_option maxHeartbeats 1000000
namespace PP
open PySem PySem.Spec PyProof.Rows L2 PySem.Calls PySem.W
end PP
end
section
set_option maxHeartbeats 1000000
namespace PP
open PySem PySem.Spec PyProof.Rows L2 PySem.Calls PySem.W
end PP
end
section
set_option maxHeartbeats 1000000
namespace PP
open PySem PySem.Spec PyProof.Rows L2
end PP
end
section
set_option maxHeartbeats 1000000
namespace PP
open PySem PySem.Spec PyProof.Rows L2 PySem.Calls PySem.W
end PP
end
section
set_option maxHeartbeats 1000000
namespace PP
open PySem PySem.Spec PyProof.Rows L2 PySem.Calls PySem.W
end PP
end
section
namespace PP
open PySem L2
end PP
end
section
set_option maxHeartbeats 1000000
namespace PP
open PySem PySem.Spec PyProof.Rows L2 PySem.Calls PySem.W
end PP
end
section
set_option maxHeartbeats 1000000
namespace PP
open PySem PySem.Spec PyProof.Rows L2
def keyPy : Key → PyData
  | .inl i => .int i | .inr s => .str s
def scalD : D → Bool
  | .non => true | .bl _ => true | .int _ => true | .str _ => true | _ => false
def toPy1 : D → Option PyData
  | .dK ks vs => if ks.length = vs.length ∧ vs.all scalD = true then (toPyAll vs).map fun ps => .dict ((ks.map keyPy).zip ps) else none
  | d => toPy d
def toPy1s : List D → Option (List PyData)
  | [] => some []
  | d :: ds => match toPy1 d, toPy1s ds with
    | some p, some ps => some (p :: ps)
    | _, _ => none
def toPyX : D → Option PyData
  | .lst ds => (toPy1s ds).map .list
  | d => toPy1 d
def reprX : List D → Option D
  | [x] => match toPyX x with
    | some p => if p.showable && decide (p.shown.length ≤ LIM) && decide (p.depth ≤ 64) then some (.str p.shown) else none
    | none => none
  | _ => none
mutual
theorem nd_toPy : ∀ (d : D) (p : PyData), toPy d = some p → p.hasDict = false
  | .non, _, h => by cases h; rfl
  | .bl _, _, h => by cases h; rfl
  | .int _, _, h => by cases h; rfl
  | .str _, _, h => by cases h; rfl
  | .lst xs, p, h => by
    simp only [toPy, Option.map_eq_some_iff] at h
    obtain ⟨ps, h1, rfl⟩ := h
    simp only [PyData.hasDict]; exact nd_all xs ps h1
  | .tup xs, p, h => by
    simp only [toPy, Option.map_eq_some_iff] at h
    obtain ⟨ps, h1, rfl⟩ := h
    simp only [PyData.hasDict]; exact nd_all xs ps h1
  | .kst xs, p, h => by
    simp only [toPy, Option.map_eq_some_iff] at h
    obtain ⟨ps, h1, rfl⟩ := h
    simp only [PyData.hasDict]; exact nd_all xs ps h1
  | .dK _ _, _, h => by cases h
  | .dT _ _, _, h => by cases h
  | .obj _ _ _, _, h => by cases h
  | .cls _, _, h => by cases h
  | .err _ _ _, _, h => by cases h
theorem nd_all : ∀ (ds : List D) (ps : List PyData), toPyAll ds = some ps → PyData.hasDictAll ps = false
  | [], _, h => by cases h; rfl
  | d :: ds, _, h => by
    simp only [toPyAll] at h
    split at h
    · rename_i p ps h1 h2
      cases h
      simp only [PyData.hasDictAll, nd_toPy d p h1, nd_all ds ps h2, Bool.or_self]
    · cases h
end
section
variable {X : Cx} {T : Tbl} {pins : List (Addr × Obj)} {σ : L2.St} {s : Shared} {H0 H : Hp}
theorem reads_keys {h : Heap} : ∀ {es : List DictEntry} {kvs : List (Key × Value)} {P : Program} {w : World}, Pairs (mixKind P w) es kvs → ReadsAll h (es.map (·.key)) ((kvs.map (·.1)).map keyPy) []
  | [], _, _, _, h => by cases h; exact .nil
  | e :: es, _, _, _, h => by
    cases h with
    | cons h1 h2 h3 =>
      rename_i kv kvs
      have h1' : keyIs kv.1 e.key = true := h1
      rcases keyIs_shape h1' with ⟨i, t, e1, e2⟩ | ⟨x, t, e1, e2⟩
      · rw [List.map_cons, List.map_cons, List.map_cons, e1, e2]
        exact ReadsAll.cons (as := []) (.int i t) (reads_keys h3)
      · rw [List.map_cons, List.map_cons, List.map_cons, e1, e2]
        exact ReadsAll.cons (as := []) (.str x t) (reads_keys h3)
theorem pairs_vals {es : List DictEntry} : ∀ {kvs : List (Key × Value)} {P : Program} {w : World}, Pairs (mixKind P w) es kvs → es.map (·.val) = kvs.map (·.2) := by
  induction es with
  | nil => intro kvs P w h; cases h; rfl
  | cons e es ih =>
    intro kvs P w h
    cases h with
    | cons h1 h2 h3 => rw [List.map_cons, List.map_cons, h2, ih h3]
theorem reads_scal {h : Heap} : ∀ {ds : List D} {ps : List PyData} {vs : List V} {us : List Value}, ds.all scalD = true → toPyAll ds = some ps → RepAll T H0 ds vs → Vals vs us → ReadsAll h us ps []
  | [], _, _, _, _, h, r, rv => by
    cases h
    simp only [RepAll] at r
    subst r
    cases rv
    exact .nil
  | d :: ds, _, _, _, ha, h, r, rv => by
    simp only [List.all_cons, Bool.and_eq_true] at ha
    simp only [RepAll] at r
    obtain ⟨v, r', rfl, r1, r2⟩ := r
    cases rv with
    | cons v1 v2 =>
      simp only [toPyAll] at h
      split at h
      · rename_i p ps h1 h2
        cases h
        have ih := reads_scal (h := h) ha.2 h2 r2 v2
        cases d with
        | non =>
          cases h1
          simp only [Rep] at r1
          subst r1
          cases (show _ = Value.none from v1)
          exact ReadsAll.cons (as := []) .none ih
        | bl b =>
          cases h1
          simp only [Rep] at r1
          subst r1
          cases (show _ = Value.bool b from v1)
          exact ReadsAll.cons (as := []) (.bool b) ih
        | int i =>
          cases h1
          simp only [Rep] at r1
          subst r1
          obtain ⟨t, rfl⟩ := v1
          exact ReadsAll.cons (as := []) (.int i t) ih
        | str x =>
          cases h1
          simp only [Rep] at r1
          subst r1
          obtain ⟨t, rfl⟩ := v1
          exact ReadsAll.cons (as := []) (.str x t) ih
        | _ => cases ha.1
      · cases h
theorem kv_zip : ∀ {ks : List Key} {xs : List V} {kvs : List (Key × Value)}, L2.KV (ks.zip xs) kvs → xs.length = ks.length → kvs.map (·.1) = ks ∧ Vals xs (kvs.map (·.2))
  | [], xs, _, h, hl => by
    obtain rfl : xs = [] := List.length_eq_zero_iff.mp hl
    cases h
    exact ⟨rfl, .nil⟩
  | k :: ks, x :: xs, _, h, hl => by
    rw [List.zip_cons_cons] at h
    cases h with
    | cons h1 h2 =>
      obtain ⟨e1, e2⟩ := kv_zip (ks := ks) (xs := xs) h2 (by simpa using hl)
      exact ⟨by rw [List.map_cons, e1, ← h1.1], .cons h1.2 e2⟩
  | _ :: _, [], _, _, hl => by simp at hl
/-- what is read of a thing -/
theorem reads1 (I : Inv X pins σ H s) (hK : X.K = T.K) (e : Ext H0 H) {d : D} {p : PyData} {v : V} {u : Value} (h : toPy1 d = some p) (r : RdV T H0 H d v) (rv : RelV v u) : ∃ as, Reads s.heap u p as ∧ (p.hasDict = true → sysModules ∉ as) := by
  have main : toPy d = some p → ∃ as, Reads s.heap u p as ∧ (p.hasDict = true → sysModules ∉ as) := fun h => by
    obtain ⟨as, h1⟩ := Dp.reads I p v u (dp_rd hK e h r) rv
    exact ⟨as, h1, fun z => by rw [nd_toPy d p h] at z; cases z⟩
  cases d with
  | dK ks vs =>
    simp only [toPy1] at h
    split at h
    · rename_i hl
      obtain ⟨hl, hs⟩ := hl
      rw [Option.map_eq_some_iff] at h
      obtain ⟨ps, h1, rfl⟩ := h
      obtain ⟨a, xs, rfl, h2, h3, H1, h4⟩ : ∃ a xs, v = .ref a ∧ Rd H a (.dK (ks.zip xs)) ∧ xs.length = ks.length ∧ ∃ H1, RepAll T H1 vs xs := by
        rcases r with r | r
        · simp only [Rep] at r
          obtain ⟨a, xs, rfl, q1, q2, q3⟩ := r
          exact ⟨a, xs, rfl, e.rd q1, q2, _, q3⟩
        · simp only [RepO] at r
          obtain ⟨a, xs, rfl, _, q1, q2, q3⟩ := r
          exact ⟨a, xs, rfl, .inl q1, q2, _, q3⟩
      obtain ⟨_, hs0, kvs, kv, o, es, ep, g1, hex, hdt, _, hpr, _⟩ := rd_of I.hok h2
      obtain ⟨e1, e2⟩ := kv_zip kv h3
      cases (show u = Value.ref a from rv)
      have k1 := reads_keys (h := s.heap) hpr
      rw [e1] at k1
      have k2 : ReadsAll s.heap (es.toList.map (·.val)) ps [] := by
        rw [pairs_vals hpr]
        exact reads_scal hs h1 h4 e2
      have hlp : ps.length = ks.length := by
        have : ∀ {us : List Value} {qs : List PyData} {bs : List Addr}, ReadsAll s.heap us qs bs → us.length = qs.length := by
          intro us
          induction us with
          | nil => intro qs bs h; cases h; rfl
          | cons u us ih =>
            intro qs bs h
            cases h with
            | cons _ h2 => simp [ih h2]
        have a1 := this k1
        have a2 := this k2
        rw [List.length_map] at a1 a2
        rw [List.length_map] at a1
        omega
      have z1 : ((ks.map keyPy).zip ps).map (·.1) = ks.map keyPy := List.map_fst_zip (by rw [List.length_map]; omega)
      have z2 : ((ks.map keyPy).zip ps).map (·.2) = ps := List.map_snd_zip (by rw [List.length_map]; omega)
      have := Reads.dict (kvs := (ks.map keyPy).zip ps) (as := []) (bs := []) g1 hex.1 hdt (by rw [z1]; exact k1) (by rw [z2]; exact k2)
      refine ⟨_, this, fun _ => ?_⟩
      intro z
      have z : sysModules ∈ [a] := z
      rw [List.mem_singleton] at z
      rw [← z] at hs0
      simp at hs0
    · cases h
  | _ => exact main h
/-- things in a row -/
def RX (h : Heap) : List Value → List PyData → Prop
  | [], [] => True
  | v :: vs, d :: ds => (∃ as, Reads h v d as ∧ (d.hasDict = true → sysModules ∉ as)) ∧ RX h vs ds
  | _, _ => False
theorem rx_reads {h : Heap} : ∀ {vs : List Value} {ds : List PyData}, RX h vs ds → ∃ as, ReadsAll h vs ds as
  | [], [], _ => ⟨_, .nil⟩
  | _ :: _, _ :: _, ⟨⟨_, r, _⟩, h2⟩ => let ⟨_, q⟩ := rx_reads h2; ⟨_, .cons r q⟩
  | [], _ :: _, h => h.elim
  | _ :: _, [], h => h.elim
theorem rx_K {prog : Program} {w : World} {h : Heap} : ∀ {vs : List Value} {ds : List PyData}, RX h vs ds → PyData.showableAll ds = true → (∀ t ∈ PyData.shownAll ds, t.length ≤ sizeLine) →
    ∃ bs, ReadAtMost h (PyData.depthAll ds) bs ∧ ReprAllK prog w bs h (PyData.depthAll ds) vs (PyData.shownAll ds)
  | [], [], _, _, _ => ⟨[], (fun _ h => nomatch h), by simp only [PyData.shownAll]; exact .nil⟩
  | v :: vs, d :: ds, ⟨⟨as, r, no⟩, h2⟩, hs, hz => by
    have hs' : d.showable = true ∧ PyData.showableAll ds = true := by simpa [PyData.showableAll] using hs
    obtain ⟨b1, hb1, k1⟩ := ReprK.of_reads (prog := prog) (w := w) r hs'.1 no (hz _ (by simp only [PyData.shownAll]; exact List.mem_cons_self ..))
    obtain ⟨b2, hb2, k2⟩ := rx_K (prog := prog) (w := w) h2 hs'.2 (fun t ht => hz t (by simp only [PyData.shownAll]; exact List.mem_cons_of_mem _ ht))
    refine ⟨b1 ++ b2, ?_, ?_⟩
    · intro b hm
      simp only [PyData.depthAll]
      rcases List.mem_append.mp hm with hm | hm
      · obtain ⟨d', as', r', hd'⟩ := hb1 b hm
        exact ⟨d', as', r', Nat.le_trans hd' (Nat.le_max_left _ _)⟩
      · obtain ⟨d', as', r', hd'⟩ := hb2 b hm
        exact ⟨d', as', r', Nat.le_trans hd' (Nat.le_max_right _ _)⟩
    · simp only [PyData.depthAll, PyData.shownAll]
      exact .cons ((k1.more fun b hb => List.mem_append_left _ hb).level_le (Nat.le_max_left _ _)) (k2.more_le (fun b hb => List.mem_append_right _ hb) (Nat.le_max_right _ _))
  | [], _ :: _, h, _, _ => h.elim
  | _ :: _, [], h, _, _ => h.elim
theorem shows_list {prog : Program} {w : World} {h₀ : Heap} {a : Addr} {o : Obj} {vs : Array Value} {n : Nat} {xs : List PyData} (h1 : h₀.get? a = some o) (h2 : o.cls = .type "list") (h3 : o.data = .seq vs n) (h4 : RX h₀ vs.toList xs)
    (hs : (PyData.list xs).showable = true) (hsz : (PyData.list xs).shown.length ≤ sizeLine) : ShowsBy prog w h₀ a (.list xs) "list" "list.__repr__" := by
  have hz' : (listText (PyData.shownAll xs)).length ≤ sizeLine := by simpa only [PyData.shown] using hsz
  obtain ⟨bs, hb, hk⟩ := rx_K (prog := prog) (w := w) h4 (by simpa [PyData.showable] using hs) (fun t ht => Nat.le_trans (listText_mem_le ht) hz')
  obtain ⟨as, r⟩ := rx_reads h4
  have hna : a ∉ bs := not_mem_of_deeper (.list h1 h2 h3 r) (by simp only [PyData.depth]; omega) hb
  refine ⟨PySem.F.slot_list_repr.toG, PySem.F.slot_list_str, PySem.F.slot_list_format, fun s hk0 => ⟨o, hk0 _ _ h1, h2⟩, fun A E s Q hg hu hk0 hQ => ?_⟩
  simp only [PyData.depth] at hu
  simp only [PyData.shown] at hQ
  obtain ⟨l⟩ := vs
  cases l with
  | nil =>
    have h4' : ReadsAll h₀ [] xs _ := r
    cases h4'
    simp only [PyData.shownAll, listText_nil] at hQ
    exact call_list_repr_empty ⟨o, hk0 _ _ h1, h2⟩ (hk0 _ _ h1) h3 (hQ s.heap _ _ fun _ _ e => e)
  | cons x l =>
    exact call_list_reprK h1 h2 h3 hna (by simpa using hk.length_eq) (fun i y e => hk.item i y (by simpa using e)) hg (fun b _ => Clear.nil b) hu hk0 hQ hz'
theorem repr_reads {u : Value} {v : V} {p : PyData} {as : List Addr} {Q : VK} (hgd : X.A.guards = some []) (hu : X.A.units + 200 < cLine) (I : Inv X pins σ H s) (r : Reads s.heap u p as) (no : p.hasDict = true → sysModules ∉ as)
    (h1 : p.showable = true) (h3 : p.shown.length ≤ sizeLine) (h4 : p.depth ≤ 64) (q : Q (.str p.shown) H) : wpAny (model X.prog X.w) X.A (call (.builtin "repr") [u]) (EP X pins σ Q) X.xe s := by
  cases r with
  | none => exact P.repr_of_none ⟨.str _, H, I.tok _, ⟨_, rfl⟩, by simpa only [PyData.shown] using q⟩
  | bool b => exact P.repr_of_bool ⟨.str _, H, I.tok _, ⟨_, rfl⟩, by simpa only [PyData.shown] using q⟩
  | int i t => exact P.repr_of_int (by simpa [PyData.showable] using h1) ⟨.str _, H, I.tok _, ⟨_, rfl⟩, by simpa only [PyData.shown] using q⟩
  | str z t => exact P.repr_of_str ⟨.str _, H, I.tok _, ⟨_, rfl⟩, by simpa only [PyData.shown] using q⟩ (by simpa only [PyData.shown] using h3)
  | list g1 g2 g3 g4 => exact repr_of_reads' (.list g1 g2 g3 g4) h1 no hgd (by omega) (fun b o z => z) (fun h' t tk hk => ⟨.str _, H, I.kept hk, ⟨_, rfl⟩, q⟩) h3
  | tuple g1 g2 g3 g4 => exact repr_of_reads' (.tuple g1 g2 g3 g4) h1 no hgd (by omega) (fun b o z => z) (fun h' t tk hk => ⟨.str _, H, I.kept hk, ⟨_, rfl⟩, q⟩) h3
  | dict g1 g2 g3 g4 g5 => exact repr_of_reads' (.dict g1 g2 g3 g4 g5) h1 no hgd (by omega) (fun b o z => z) (fun h' t tk hk => ⟨.str _, H, I.kept hk, ⟨_, rfl⟩, q⟩) h3
theorem rx_of (I : Inv X pins σ H s) (hK : X.K = T.K) (e : Ext H0 H) : ∀ {ds : List D} {ps : List PyData} {vs : List V} {us : List Value}, toPy1s ds = some ps → RepAll T H0 ds vs → Vals vs us → RX s.heap us ps
  | [], _, _, _, h, r, rv => by
    cases h
    simp only [RepAll] at r
    subst r
    cases rv
    exact True.intro
  | d :: ds, _, _, _, h, r, rv => by
    simp only [RepAll] at r
    obtain ⟨v, r', rfl, r1, r2⟩ := r
    cases rv with
    | cons v1 v2 =>
      simp only [toPy1s] at h
      split at h
      · rename_i p ps h1 h2
        cases h
        exact ⟨reads1 I hK e h1 (.inl r1) v1, rx_of I hK e h2 r2 v2⟩
      · cases h
theorem b_reprX {C : Ctx} (hK : X.K = C.T.K) (hgd : X.A.guards = some []) (hu : X.A.units + 200 < cLine) : CallR X (.builtin "repr") (rDn C.T reprX) := fun pins s σ H xs us Q I rx ⟨H0, ds, d, e, hr, hg, q⟩ => by
  match ds, hg with
  | [x], hg =>
    obtain ⟨v, rfl, h1⟩ := rd1 hr
    obtain ⟨u, rfl, ru⟩ := vals1 rx
    simp only [reprX] at hg
    split at hg
    · rename_i p hp
      split at hg
      · rename_i hc
        cases hg
        simp only [Bool.and_eq_true, decide_eq_true_eq] at hc
        obtain ⟨⟨c1, c3⟩, c4⟩ := hc
        have qq := q _ _ _ (Gr.rfl' e) (.flat rfl (r_str _ _ p.shown))
        have main : toPy1 x = some p → wpAny (model X.prog X.w) X.A (call (.builtin "repr") [u]) (EP X pins σ Q) X.xe s := fun hp => by
          obtain ⟨as, r, no⟩ := reads1 I hK e hp h1 ru
          exact repr_reads (v := v) hgd hu I r no c1 (Nat.le_trans c3 lim_line) c4 qq
        cases x with
        | lst ds =>
          simp only [toPyX, Option.map_eq_some_iff] at hp
          obtain ⟨ps, hp, rfl⟩ := hp
          obtain ⟨a, vs, rfl, h2, h3⟩ := rd_lst e h1
          cases (show u = Value.ref a from ru)
          obtain ⟨its, rv, ⟨o, n, ho, hcl, _, hd⟩, _⟩ := I.list (.inl h2)
          have S := shows_list (prog := X.prog) (w := X.w) ho hcl hd (rx_of I hK e hp h3 rv) c1 (Nat.le_trans c3 lim_line)
          exact call_repr_slot (by omega) (S.typeIs s fun _ _ z => z) S.slotRepr (S.call X.A.in1 X.xe s _ hgd (by show X.A.units + 1 + _ < cLine; omega) (fun _ _ z => z) fun h' u tk hk => ⟨_, _, rfl, ⟨.str _, H, I.kept hk, ⟨_, rfl⟩, qq⟩⟩)
        | _ => exact main hp
      · cases hg
    · cases hg
end
end PP
end
section
set_option maxHeartbeats 1000000
namespace PP
open PySem PySem.Spec PyProof.Rows L2
section
variable {X : Cx} {C : Ctx} {W : WX} {cl : CallF} {pos : Pos}
/-- one entry, both constants -/
def disK (k : Key) (d : D) : CallF → Env → R U := fun _ env => .ok (.nw (.dK [k] [d])) env
theorem c_disK {k : Key} {d : D} {v : V} {ek e : Expr} (hk : PE X ek (tC (kV k))) (he : PE X e (tC v)) (hr : ∀ H, Rep C.T H d v) : PE X (.Dict [some ek] [e] pos) (tI C W cl (.hk (disK k d))) :=
  peI (pe_disp (pps_cons hk he pps_nil) rfl rfl (by simp) (show 1 ≤ 15 by decide)) fun σ H Q ⟨H0, env, S, q⟩ => by
    simp only [ev, disK] at q
    intro p hp
    refine ⟨upd_same, [(k, v)], rfl, (show 1 ≤ 15 by decide), ?_⟩
    have em : mergeK [] [(k, v)] = [(k, v)] := rfl
    rw [em, upd_upd]
    refine fin_nw S q (Gr.own S.ex hp) ?_
    show (if true = true then _ else _)
    rw [if_pos rfl]
    exact ⟨p, rfl, hp, p, [v], rfl, S.ex.no hp, upd_same, rfl, v, [], rfl, hr _, rfl⟩
variable {e : Expr} {e' : Ex}
end
end PP
end
section
namespace PP
open PySem L2
end PP
end
section
set_option maxHeartbeats 2000000
namespace PySem
namespace HandSPX
open Builtin Builtin.ObjectAttr
section
variable {M : Model} {A : Around} {E : Value → Shared → Prop} {h : Heap} {g : Array GenState} {d : Drawn} {t : Nat} {os : OsState}
variable {nm q : Str} {C N : Addr} {bs bm bmB : List Value} {hdct : Bool} {sn : List Str} {sub : List Value} {ab : Bool} {col : Option Bool} {dd : Option Addr} {k0 k1 k2 k3 k5 : Option Value} {B newId initId : String}
theorem check_new_ownK (F : ExcBaseFacts B newId initId bmB) (hT : ∀ X : String, bm.contains (.type X) = bmB.contains (.type X)) {kws : List (Str × Value)} {Q : Unit → Shared → Prop}
    (hC : h.get? C = some (excClassObj nm q C N bs bm hdct sn sub ab col dd k0 k1 k2 k3 k5 newId)) (hq : Q () ⟨h, g, d, t, os⟩) : wpAny M A (checkBuiltinCall newId ⟨[.ref C], kws⟩) Q E ⟨h, g, d, t, os⟩ := by
  have hcont : (Value.ref C :: bm).contains (.type B) = true := by rw [List.contains_cons, hT, F.hasB, Bool.or_true]
  have hstar := F.noStar
  simp only [checkBuiltinCall, F.newKind, F.newSplit, F.newRow]
  repeat (first | refine wpAny_loadPart_at hC ?_ | (refine wpAny_isSubtype_exc hC ?_; rw [hcont]) | refine wpAny_staticBase_exc hC ?_ | refine wpAny_madeBy_exc hC ?_ | simp only [bne_self_eq_false, Bool.false_eq_true, if_false] | wp_step)
  exact hq
end
section
variable {prog : Program} {w : World} {A : Around} {E : Value → Shared → Prop} {R : Result → Shared → Prop} {h : Heap} {g : Array GenState} {d : Drawn} {t : Nat} {os : OsState}
variable {nm q : Str} {C N : Addr} {bs bm bmB : List Value} {hdct : Bool} {sn : List Str} {sub : List Value} {ab : Bool} {col : Option Bool} {dd : Option Addr} {k0 k1 k2 k3 k5 : Option Value} {B newId initId : String}
theorem new_ownK (F : ExcBaseFacts B newId initId bmB) (hT : ∀ X : String, bm.contains (.type X) = bmB.contains (.type X)) {kws : List (Str × Value)}
    (hC : h.get? C = some (excClassObj nm q C N bs bm hdct sn sub ab col dd k0 k1 k2 k3 k5 newId))
    (hq : R (.ok (.ret (.ref (h.objs.size + 1)))) ⟨(h.push { cls := .type "tuple", data := .seq [].toArray }).push
      { cls := .ref C, data := .fields #[.ref h.objs.size, .none, .none, .none, .bool false, .none] }, g, d, t, os⟩) :
    codeAny (model prog w) A (.builtin newId ⟨[.ref C], kws⟩) R ⟨h, g, d, t, os⟩ := by
  have hends := F.ends
  have hcB : (Value.ref C :: bm).contains (.type B) = true := by rw [List.contains_cons, hT, F.hasB, Bool.or_true]
  have hcA : (Value.ref C :: bm).contains (.type "AttributeError") = false := by rw [List.contains_cons, hT, F.noAttr]; rfl
  have hcN : (Value.ref C :: bm).contains (.type "NameError") = false := by rw [List.contains_cons, hT, F.noName]; rfl
  have hrest : ([] : List Value).length ≤ sizeLine := Nat.zero_le _
  refine codeAny_builtinAt F.entry ?_
  unfold Builtin.«BaseException.__new__»
  refine wpAt_bind ?_
  show wpAt _ _ _ (stack >>= _) _ _ _
  refine wpAt_bind (wpAt_stack fun p below => wpAt_of_wpAny ?_)
  wp_walk
  refine wpAt_of_wpAny ?_
  rw [F.owner]
  repeat (first | with_reducible refine wpAny_madeHere_exc F.canon hC ?_ | with_reducible refine wpAny_loadPart_at hC ?_ | (with_reducible refine wpAny_isSubtype_exc hC ?_; first | rw [hcB] | rw [hcA] | rw [hcN]) | wp_step)
  show R _ _
  rw [Heap.size_push]
  exact hq
theorem type_call_ownK (F : ExcBaseFacts B newId initId bmB) (hT : ∀ X : String, bm.contains (.type X) = bmB.contains (.type X)) {kws : List (Str × Value)} {fI : Addr} {Q : Fin → Shared → Prop}
    (hC : h.get? C = some (excClassObj nm q C N bs bm hdct sn sub ab col dd k0 k1 k2 k3 k5 newId))
    (hi : W.Looks (model prog w) h (typeLookup (.ref C) "__init__") (some (.ref fI))) (hb : ∀ self, W.Looks (model prog w) h (bindSpecial (.ref fI) self) (.ref fI, [self]))
    (hq : codeAny (model prog w) A (.call (.ref fI) ⟨[.ref (h.objs.size + 1)], kws⟩)
      (fun r s' => match r with | .ok (.ret v) => v = .none ∧ Q (.done (.ret (.ref (h.objs.size + 1)))) s' | .ok _ => False | .error e => E e s')
      ⟨(h.push (W.kdv_tup [])).push (excO C h.objs.size), g, d, t, os⟩) :
    wpAny (model prog w) A (Builtin.«type.__call__» ⟨[.ref C], kws⟩) Q E ⟨h, g, d, t, os⟩ := by
  repeat (first | with_reducible refine wpAny_loadPart_at hC ?_ | with_reducible refine wpAny_madeBy_exc hC ?_ | wp_step)
  refine codeAny_call_builtin_code (Code.quiet_builtin _ F.quiet) (check_new_ownK F hT hC ?_)
  refine new_ownK F hT hC ?_
  show wpAny _ _ _ _ _ _
  have k : ∀ b o, h.get? b = some o → ((h.push (W.kdv_tup [])).push (excO C h.objs.size)).get? b = some o := fun b o e => Heap.get?_push_of_some _ (Heap.get?_push_of_some _ e)
  have hC₁ := k _ _ hC
  have hget : ((h.push (W.kdv_tup [])).push (excO C h.objs.size)).get? (h.objs.size + 1) = some (excO C h.objs.size) := by heap_get
  have hcC : (Value.ref C :: bm).contains (.ref C) = true := by simp
  have i1 := hi.keeps k
  have b1 := (hb (.ref (h.objs.size + 1))).keeps k
  unfold isInstance
  repeat (first | with_reducible refine wpAny_loadPart_at hget ?_ | (with_reducible refine wpAny_isSubtype_exc hC₁ ?_; rw [hcC]) | wp_step)
  show wpAny _ _ (typeLookup (.ref C) _) _ _ _
  refine i1.at ?_
  refine wpAny_holding (wpAny_bind (b1.at ?_))
  refine wpAny_bind (wpAny_call (codeAny_mono hq fun r s' z => ?_))
  rcases r with e | (v | _ | _ | _) <;> first | exact z | exact z.elim | skip
  obtain ⟨rfl, z⟩ := z
  first
    | exact wpAny_pure (wpAny_pure z)
    | (wp_walk; exact z)
theorem call_ownK (F : ExcBaseFacts B newId initId bmB) (hT : ∀ X : String, bm.contains (.type X) = bmB.contains (.type X)) {kws : List (Str × Value)} {fI : Addr}
    (hC : h.get? C = some (excClassObj nm q C N bs bm hdct sn sub ab col dd k0 k1 k2 k3 k5 newId))
    (hi : W.Looks (model prog w) h (typeLookup (.ref C) "__init__") (some (.ref fI))) (hb : ∀ self, W.Looks (model prog w) h (bindSpecial (.ref fI) self) (.ref fI, [self]))
    (hq : codeAny (model prog w) (A.under (.builtin "type.__call__" ⟨[.ref C], kws⟩)) (.call (.ref fI) ⟨[.ref (h.objs.size + 1)], kws⟩) (W.InitBack (h.objs.size + 1) R)
      ⟨(h.push (W.kdv_tup [])).push (excO C h.objs.size), g, d, t, os⟩) :
    codeAny (model prog w) A (.call (.ref C) ⟨[], kws⟩) R ⟨h, g, d, t, os⟩ := by
  have f1 := tc_lookup
  have f2 := tc_bind (.ref C)
  have hTy : (⟨h, g, d, t, os⟩ : Shared).TypeIs (.ref C) "type" := ⟨_, hC, rfl⟩
  refine codeAny_of_tree ?_
  show wpAny _ _ (callAny (.ref C) _) _ _ _
  repeat (any_goals (first | assumption | with_reducible refine wpAny_loadPart_at hC ?_ | wp_step))
  refine ⟨rfl, ?_⟩
  refine codeAny_call_builtin_at (Code.quiet_builtin _ (by decide +kernel)) entry_typeCall (wpAny_check_type_call_sub hC (type_call_ownK F hT hC hi hb ?_))
  refine codeAny_mono hq fun r s' z => ?_
  rcases r with e | (v | _ | _ | _) <;> exact z
end
end HandSPX
end PySem
end
section
set_option maxHeartbeats 2000000
namespace PP
open PySem PySem.Spec PyProof.Rows L2
section
variable {X : Cx} {C : Ctx} {W : WX} {cl : CallF} {e : Expr} {e' : Ex} {es' : Exs} {pos : Pos}
theorem fk_nil : PK X [] (tAF C W cl .nil) := ⟨fun pos pins s σ H Q I ⟨H0, env, S, q⟩ => pk_nil.run pos pins s σ H Q I (q H0 H (Ext.rfl' _) S [] (by simp only [RepAll]))⟩
theorem fk_cons {kws : List Keyword} {nm : Option Str} {kpos : Pos} (ha : PE X e (tI C W cl e')) (hr : PK X kws (tAF C W cl es')) : PK X (⟨nm, e, kpos⟩ :: kws) (tAF C W cl (.cons e' es')) :=
  ⟨fun pos pins s σ H Q I ⟨H0, env, S, q⟩ => (pk_cons ha hr).run pos pins s σ H Q I (by
    simp only [evF] at q
    refine seqI S q fun u env1 x H1 H1' e1 S1 u1 q1 => ?_
    obtain ⟨⟨d, env2⟩, hf, q1⟩ := q1.orB
    obtain ⟨H2, e2, S2, r2⟩ := S1.take u1 hf
    have q2 := RQ.mono e2 q1
    refine ⟨H2, env2, S2, ?_⟩
    cases z : evF cl es' env2 with
    | ok ds env3 =>
      simp only [z] at q2
      exact fun H3 H3' e3 S3 vs hv => q2 H3 H3' e3 S3 (x :: vs) (by simp only [RepAll]; exact ⟨x, vs, rfl, Rep.mono e3 _ _ r2, hv⟩)
    | exc x env3 => simp only [z] at q2; exact q2
    | bad => simp only [z] at q2; exact q2)⟩
theorem repAll_perm {T : Tbl} {H : Hp} {ds : List D} {vs : List V} (h : RepAll T H ds vs) : ∀ pm : List Nat, RepAll T H (permL pm ds) (permL pm vs)
  | [] => by simp only [permL, List.filterMap_nil, RepAll]
  | i :: pm => by
    have ih := repAll_perm h pm
    unfold permL at ih ⊢
    simp only [List.filterMap_cons]
    cases z : ds[i]? with
    | none =>
      have zl : vs[i]? = none := by rw [List.getElem?_eq_none_iff] at z ⊢; rw [h.len]; exact z
      simp only [zl]
      exact ih
    | some d =>
      obtain ⟨v, hv, hd⟩ := h.get z
      simp only [hv, RepAll]
      exact ⟨v, _, rfl, hd, ih⟩
def tMkXK (Ca : Addr) (ns : List Str) (pm : List Nat) (ta : TA) : L2.St → Hp → XK → Prop := fun σ H Q => ta σ H fun vs H1 => vs.length = pm.length ∧ (permL pm vs).length = ns.length ∧ ∀ d, H1 d = none → Q (.ref Ca) (some d) (upd H1 d (.xd ((ns.zip (permL pm vs)).reverse)))
theorem pmk_XK {x : Str} {Ca fI : Addr} {k : Nat} {fd : FuncData} {ps ns ks : List Str} {pm : List Nat} {kws : List Keyword} {ta : TA} {p : Pos} (T : OexC X.K Ca) (iC : PySem.W.findIn X.K (.ref Ca) "__init__" = some (some (.ref fI))) (tI : PySem.W.typeIn X.K (.ref fI) = some (.type "function"))
    (F1 : FnG X.prog X.w X.K X.mg X.base k fI fd ps (spI Ca ns)) (hgd : X.A.guards = some []) (hr : Room (k + 1) X.A) (hb : KwBindsS X.K fd ps ks pm) (tk : Takes X W) (hlen : ns.length ≤ 100) (hg : Gl X x) (hm : X.mg x = some (.ref Ca)) (ha : PK X kws ta) (hkn : ks.length = pm.length := by rfl)
    (hall : (backToKw pos (keywordEach kws X.env)).all (·.1.isSome) = true := by rfl) (hks : (backToKw pos (keywordEach kws X.env)).filterMap (·.1) = ks := by rfl) (hdb : (x == ("__debug__" : Str)) = false := by decide)
    (hpl : ((backTo pos (starEach [] X.env)).any (·.1) || (backToKw pos (keywordEach kws X.env)).any (·.1.isNone)) = false := by rfl) :
    PMk X (.Call (.Name x p) [] kws pos) (tMkXK Ca ns pm ta) := by
  intro pins s σ H Q I h
  obtain ⟨nm, q, N, bs, bm, sn, sub, ab, col, dd, k0, k1, k2, k3, k5, hC, hbm⟩ := T.cls
  refine wpAny_Call_Name_kw (ld_glob I hg hm ?_ hdb)
  refine PySem.W.callWith_KW0 (h₀ := X.base) I.ok.mod.kin T.kC hall ?_ hpl
  refine thn (ha.run pos pins s σ H _ I h) fun us s1 ⟨vs, H1, I1, r1, hv0, hz, q1⟩ => ⟨I1.kIn, ?_⟩
  rw [hks]
  obtain ⟨hp, g, dr, tk1, os⟩ := s1
  have hsz : hp.objs.size ≤ hp.objs.size + 1 := Nat.le_succ _
  have hn : H1 (hp.objs.size + 1) = none := I1.hok.fresh hsz
  have kk : ∀ b o, hp.get? b = some o → ((hp.push (PySem.W.kdv_tup [])).push (PySem.HandSPX.excO Ca hp.objs.size)).get? b = some o := fun b o e => Heap.get?_push_of_some _ (Heap.get?_push_of_some _ e)
  have hget : ((hp.push (PySem.W.kdv_tup [])).push (PySem.HandSPX.excO Ca hp.objs.size)).get? (hp.objs.size + 1) = some (PySem.HandSPX.excO Ca hp.objs.size) := by heap_get
  have I2 : Inv X pins σ (upd H1 (hp.objs.size + 1) (exo (hp.objs.size + 1) Ca none)) ⟨(hp.push (PySem.W.kdv_tup [])).push (PySem.HandSPX.excO Ca hp.objs.size), g, dr, tk1, os⟩ :=
    I1.laid (t' := tk1) (a := hp.objs.size + 1) (o := exo (hp.objs.size + 1) Ca none) (h' := (hp.push (PySem.W.kdv_tup [])).push (PySem.HandSPX.excO Ca hp.objs.size)) kk hsz (exo_ok hget)
  have hq : spI Ca ns (.ref (hp.objs.size + 1) :: permL pm vs) (upd H1 (hp.objs.size + 1) (exo (hp.objs.size + 1) Ca none))
      (fun v H2 => v = .non ∧ ∃ (d : Addr) (fs : List (Str × V)), H2 (hp.objs.size + 1) = some (exo (hp.objs.size + 1) Ca (some d)) ∧ H2 d = some (exd d fs) ∧ H1 d = none ∧ Q (.ref Ca) (some d) (upd (del H2 (hp.objs.size + 1)) d (.xd fs))) (fun _ _ _ => False) := by
    refine ⟨_, permL pm vs, rfl, hz, upd_same, fun dx hd hne => ⟨rfl, dx, _, upd_same, by rw [upd_ne hne, upd_same], ?_, ?_⟩⟩
    · rw [upd_ne hne] at hd; exact hd
    · have hd1 : H1 dx = none := by rw [upd_ne hne] at hd; exact hd
      have ee : upd (del (upd (upd (upd H1 (hp.objs.size + 1) (exo (hp.objs.size + 1) Ca none)) dx (exd dx ((ns.zip (permL pm vs)).reverse))) (hp.objs.size + 1) (exo (hp.objs.size + 1) Ca (some dx))) (hp.objs.size + 1)) dx (.xd ((ns.zip (permL pm vs)).reverse)) = upd H1 dx (.xd ((ns.zip (permL pm vs)).reverse)) := by
        funext b
        by_cases h1 : b = dx
        · subst h1; rw [upd_same, upd_same]
        · rw [upd_ne h1, upd_ne h1]
          by_cases h2 : b = hp.objs.size + 1
          · subst h2; rw [del_same, hn]
          · rw [del_ne h2, upd_ne h2, upd_ne h1, upd_ne h2]
      rw [ee]
      exact q1 dx hd1
  have r2 : Vals (V.ref (hp.objs.size + 1) :: permL pm vs) (Value.ref (hp.objs.size + 1) :: permL pm us) := .cons rfl (vals_perm r1 pm)
  have hb2 := hb ⟨(hp.push (PySem.W.kdv_tup [])).push (PySem.HandSPX.excO Ca hp.objs.size), g, dr, tk1, os⟩ (Value.ref (hp.objs.size + 1)) us I2.kIn (by rw [← r1.length, hv0, hkn])
  refine wpAny_call (PySem.HandSPX.call_ownK F.excBase_ValueError (fun Y => PySem.HandSPX.refsVE_contains Y bm hbm) (I1.kIn _ _ hC) (PySem.W.looks_findIn I1.kIn iC) (fun self => PySem.W.bind_fn I1.kIn self tI)
    (codeAny_mono (F1.run _ X.stack _ _ ⟨[Value.ref (hp.objs.size + 1)], ks.zip us⟩ (Value.ref (hp.objs.size + 1) :: permL pm us) _ _ (fun _ _ _ => False) hgd (hr.make Ca [] (ks.zip us)) (I2.env0.make Ca [] (ks.zip us)) hb2 r2 hq) fun r s' hq' => ?_))
  cases r with
  | error er => exact (passes_call (W := fun _ _ _ _ => False) (Takes.imp tk fun _ _ _ _ z => z.elim) (fun _ _ _ _ z => z)) pins σ _ _ er s' I2 hq'
  | ok fl =>
    cases fl with
    | ret u =>
      obtain ⟨v, H2, os2, bare2, un2, hok2, rv, ev, d, fs, ea, ed, hd1, q2⟩ := hq'
      subst ev
      obtain ⟨h2, g2, d2, t2, os'⟩ := s'
      exact ⟨rv, mk_end (raises_own T.exC T.tyC) I1 hsz kk un2 hok2 os2 bare2 ea ed hd1 q2⟩
    | next => exact False.elim hq'
    | brk => exact False.elim hq'
    | cont => exact False.elim hq'
theorem c_mkEP {c : Nat} {ks : List Nat} {ns : List Str} {pm : List Nat} {Ca : Addr} (hcx : C.T.cx c ks = some Ca) (hns : ks.map C.T.fn = ns.reverse) (hlp : ks.length = pm.length) (hM : PMk X e (tMkXK Ca ns pm (tAF C W cl es'))) : PE X e (tI C W cl (.mkEP c ks pm es')) :=
  peI (pe_ofMk hM) fun σ H Q ⟨H0, env, S, q⟩ => by
    simp only [ev] at q
    refine ⟨H0, env, S, ?_⟩
    cases z : evF cl es' env with
    | bad => rw [z] at q; exact q
    | exc x env1 => rw [z] at q; exact q
    | ok ds env1 =>
      rw [z] at q
      simp only [R.bind_ok] at q
      split at q
      rotate_left
      · exact q.elim
      rename_i hl
      intro H1 H1' e1 S1 vs hv
      have ln : ns.length = ks.length := by have := congrArg List.length hns; simpa using this.symm
      have hv2 := repAll_perm hv pm
      refine ⟨by rw [hv.len, hl.2, hlp], by rw [hv2.len, hl.1, ln], fun d hd => ⟨Ca, rfl, fun a ha => ?_⟩⟩
      obtain ⟨g, r⟩ := made_rep hcx hns S1 hv2 hl.1 hd ha
      exact q _ _ (e1.tr g.e0) (S1.gr g) (.ref a) r
/-- X(), X an own exception class without an own __init__ -/
theorem pmk_own0 {Ca : Addr} {bmB : List Value} {B newId initId : String} {x : Str} {p : Pos} (F : ExcBaseFacts B newId initId bmB) (q : PySem.W.excIn X.K Ca bmB newId = true) (gC : X.mg x = some (.ref Ca)) (kC : PySem.W.keepIn X.K (.ref Ca) = true) (r : Raises X (.ref Ca)) (hg : Gl X x)
    (hdb : (x == ("__debug__" : Str)) = false := by decide) : PMk X (.Call (.Name x p) [] [] pos) (fun σ H Q => Q (.ref Ca) none H) := by
  intro pins s σ H Q I h
  refine wpAny_Call_Name_kw (ld_glob I hg gC ?_ hdb)
  refine PySem.W.callWith_K0 I.kIn kC ?_
  obtain ⟨bm, N, nm, qn, bs, hdct, sn, sub, ab, col, dd, k0, k1, k2, k3, k5, mN, hC, hN, hni, T⟩ := exc_obj I.kIn q
  refine wpAny_call_exc_subT F T hC hN hni (fun h' e hm => ?_) (Nat.zero_le _)
  exact mk_of I hm r h (I.hok.gone hm.new)
def mkE0 (c : Nat) : CallF → Env → PP.R U := fun _ env => .ok (.d (.err c [] [])) env
theorem c_mkE0 {c : Nat} {Ca : Addr} (hcx : C.T.cx c [] = some Ca) (hM : PMk X e (fun σ H Q => Q (.ref Ca) none H)) : PE X e (tI C W cl (.hk (mkE0 c))) :=
  peI (pe_ofMk hM) fun σ H Q ⟨H0, env, S, q⟩ => by
    simp only [ev, mkE0] at q
    refine ⟨Ca, rfl, fun a ha => ?_⟩
    have g : Gr C.T H0 H (upd H0 a (ErrO Ca none a)) (upd H a (ErrO Ca none a)) := Gr.froz S.ex ha
    exact q _ _ g.e0 (S.gr g) (.ref a) (by show Rep _ _ _ _; simp only [Rep]; exact ⟨a, Ca, none, rfl, hcx, upd_same, by simp⟩)
end
end PP
end
section
namespace PP
open PySem L2
def keepR (env : Env) (r : R U) : R U := match r with
  | .ok (.nw d) _ => if noLst d then .ok (.nw d) env else .bad
  | .ok (.d d) _ => if noLst d then .ok (.d d) env else .bad
  | _ => .bad
theorem keepI_w (a : Ex) (cl : CallF) (env : Env) : keepI a cl env = if (frzEI env).all calmS then keepR env (ev cl a (frzEI env)) else .bad := rfl
theorem keepR_nw (env env1 : Env) (d : D) : keepR env (.ok (.nw d) env1) = if noLst d then .ok (.nw d) env else .bad := rfl
theorem keepR_d (env env1 : Env) (d : D) : keepR env (.ok (.d d) env1) = if noLst d then .ok (.d d) env else .bad := rfl
theorem frzEI_c (s : Sl) (r : Env) : frzEI (s :: r) = frzI s :: frzEI r := rfl
theorem frzEI_n : frzEI [] = [] := rfl
theorem frzI_fz (d : D) : frzI (.fz d) = .fz d := rfl
theorem frzI_ow (d : D) : frzI (.ow d) = .fz d := rfl
theorem frzI_io (d : D) : frzI (.io d) = .fz d := rfl
theorem frzI_un : frzI .un = .un := rfl
theorem frzI_fn : frzI .fn = .fn := rfl
theorem parX_w (is : List Nat) (es : Exs) (cl : CallF) (env : Env) : parX is es cl env = (evP cl es env).bind fun us env1 => orBad (asgX is us env1) fun env2 => .ok .next env2 := rfl
theorem evP_n (cl : CallF) (env : Env) : evP cl .nil env = .ok [] env := rfl
def evPt (cl : CallF) (es : Exs) (env1 : Env) (u : U) : R (List U) := match ownU u with
  | some d => (evP cl es env1).bind fun us env2 => .ok (.nw d :: us) env2
  | none => orBad (fzU env1 u) fun p => (evP cl es p.2).bind fun us env2 => .ok (.d p.1 :: us) env2
theorem evP_c (cl : CallF) (e : Ex) (es : Exs) (env : Env) : evP cl (.cons e es) env = (ev cl e env).bind fun u env1 => evPt cl es env1 u := rfl
theorem evPt_d (cl : CallF) (es : Exs) (env1 : Env) (d : D) : evPt cl es env1 (.d d) = (evP cl es env1).bind fun us env2 => .ok (.d d :: us) env2 := rfl
theorem evPt_int (cl : CallF) (es : Exs) (env1 : Env) (i : Int) : evPt cl es env1 (.nw (.int i)) = (evP cl es env1).bind fun us env2 => .ok (.d (.int i) :: us) env2 := rfl
theorem evPt_obj (cl : CallF) (es : Exs) (env1 : Env) (c : Nat) (ks : List Nat) (vs : List D) : evPt cl es env1 (.nw (.obj c ks vs)) = (evP cl es env1).bind fun us env2 => .ok (.nw (.obj c ks vs) :: us) env2 := rfl
theorem evPt_lst (cl : CallF) (es : Exs) (env1 : Env) (vs : List D) : evPt cl es env1 (.nw (.lst vs)) = (evP cl es env1).bind fun us env2 => .ok (.nw (.lst vs) :: us) env2 := rfl
theorem evPt_dT (cl : CallF) (es : Exs) (env1 : Env) (ks : List (List Int)) (vs : List D) : evPt cl es env1 (.nw (.dT ks vs)) = (evP cl es env1).bind fun us env2 => .ok (.nw (.dT ks vs) :: us) env2 := rfl
theorem asgX_n (env : Env) : asgX [] [] env = some env := rfl
theorem asgX_d (i : Nat) (is : List Nat) (d : D) (us : List U) (env : Env) : asgX (i :: is) (.d d :: us) env = asgX is us (env.set i (.fz d)) := rfl
theorem asgX_w (i : Nat) (is : List Nat) (d : D) (us : List U) (env : Env) : asgX (i :: is) (.nw d :: us) env = asgX is us (env.set i (.ow d)) := rfl
theorem setFs_n (cs : List Nat) (env : Env) : setFs 0 cs [] [] env = some env := rfl
theorem setFs_io (cs ks : List Nat) (k c : Nat) (d : D) (ds : List D) (fs : List Nat) (vs : List D) (r : Env) : setFs 0 cs (k :: ks) (d :: ds) (.io (.obj c fs vs) :: r) =
  if (decide (fs.length < 100) && decide (vs.length = fs.length) && cs.contains c) = true then setFs 0 cs ks ds (.io (.obj c (putD fs vs k d).1 (putD fs vs k d).2) :: r) else none := rfl
theorem setFs_ow (cs ks : List Nat) (k c : Nat) (d : D) (ds : List D) (fs : List Nat) (vs : List D) (r : Env) : setFs 0 cs (k :: ks) (d :: ds) (.ow (.obj c fs vs) :: r) =
  if (decide (fs.length < 100) && decide (vs.length = fs.length) && cs.contains c) = true then setFs 0 cs ks ds (.ow (.obj c (putD fs vs k d).1 (putD fs vs k d).2) :: r) else none := rfl
theorem catT_w (a b : Ex) (cl : CallF) (env : Env) : catT a b cl env = (ev cl a env).bind fun u env1 => orBad (fzU env1 u) fun p => (ev cl b p.2).bind fun w env2 => orBad (fzU env2 w) fun q => orBad (catD p.1 q.1) fun z => .ok (.nw z) q.2 := rfl
theorem lenT_w (i : Nat) (cl : CallF) (env : Env) : lenT i cl env = orBad (dtR (getS env i)) fun p => .ok (.nw (.int p.1.length)) env := rfl
theorem dtR_fz (ks : List (List Int)) (vs : List D) : dtR (.fz (.dT ks vs)) = some (ks, vs) := rfl
theorem dtR_ow (ks : List (List Int)) (vs : List D) : dtR (.ow (.dT ks vs)) = some (ks, vs) := rfl
theorem dtR_io (ks : List (List Int)) (vs : List D) : dtR (.io (.dT ks vs)) = some (ks, vs) := rfl
end PP
end
section
namespace PP
open PySem L2
theorem opH_w (g : D → D → Option D) (a b : Ex) (cl : CallF) (env : Env) : opH g a b cl env = (ev cl a env).bind fun u env1 => (ev cl b env1).bind fun w env2 =>
  orBad (rdU env2 (pend u)) fun x => orBad (rdU env2 w) fun y => orBad (g x y) fun z => .ok (.nw z) env2 := rfl
def booR (env : Env) : RC → R U
  | .ok (.d (.int n)) _ => if 0 ≤ n ∧ n < 2 ^ 40 then .ok (.d (.bl (n != 0))) env else .bad
  | _ => .bad
theorem booL_w' (cs : List Nat) (a : Ex) (cl : CallF) (env : Env) : booL cs a cl env = (ev cl a env).bind fun u env1 => orBad (recvU false env1 u) fun p => if !cs.contains p.1 then .bad else orBad (rdU p.2.2 p.2.1) fun x => booR p.2.2 (cl (spec p.1 19) [.fz x]) := rfl
theorem booR_i (env : Env) (n : Int) (outs : List D) : booR env (.ok (.d (.int n)) outs) = if 0 ≤ n ∧ n < 2 ^ 40 then .ok (.d (.bl (n != 0))) env else .bad := rfl
theorem inH_w (neg : Bool) (cs : List Nat) (a b : Ex) (cl : CallF) (env : Env) : inH neg cs a b cl env = (ev cl a env).bind fun u env1 => orBad (fzU env1 u) fun p => (ev cl b p.2).bind fun w env2 => orBad (fzU env2 w) fun q => if inLL cl cs p.1 q.1 then .ok (.nw (.bl neg)) q.2 else .bad := rfl
theorem opoN_w' (o : O2) (cs ts : List Nat) (a b : Ex) (cl : CallF) (env : Env) : opoN o cs ts a b cl env = (ev cl a env).bind fun u env1 => orBad (fzU env1 u) fun p => (ev cl b p.2).bind fun w env2 => orBad (fzU env2 w) fun q => ownON cl o cs ts p.1 q.1 q.2 := rfl
theorem ownON_o' (cl : CallF) (o : O2) (cs ts : List Nat) (c : Nat) (ks : List Nat) (vs : List D) (y : D) (env : Env) : ownON cl o cs ts (.obj c ks vs) y env = ownOp cl o cs ts (.obj c ks vs) y env := rfl
theorem isoD_w' (cs : List Nat) (a : Ex) (cl : CallF) (env : Env) : isoD cs a cl env = (ev cl a env).bind fun u env1 => orBad (rdU env1 u) fun x => if isKls x then .bad else .ok (.nw (.bl (isObjOf cs x))) env1 := rfl
theorem isKls_o (c : Nat) (ks : List Nat) (vs : List D) : isKls (.obj c ks vs) = false := rfl
def tryFR (c1 i k : Nat) (cs2 : List Nat) (j : Nat) : R Fl → R Fl
  | .exc x env1 => if x.1 = c1 then (match fldD x.2.1 x.2.2 k with
      | some z => .ok (.ret (.d z)) env1
      | none => .bad) else if cs2.contains x.1 then .ok .next (((env1.set i .un).set j (.fz (.err x.1 x.2.1 x.2.2))).set i .un) else .bad
  | r => r
theorem tryF_w (b : Ss) (c1 i k : Nat) (cs2 : List Nat) (j : Nat) (cl : CallF) (env : Env) : tryF b c1 i k cs2 j cl env = tryFR c1 i k cs2 j (exs cl b env) := by
  unfold tryF tryFR
  cases exs cl b env <;> rfl
theorem tryFR_ok (c1 i k : Nat) (cs2 : List Nat) (j : Nat) (fl : Fl) (env : Env) : tryFR c1 i k cs2 j (.ok fl env) = .ok fl env := rfl
theorem tryFR_exc (c1 i k : Nat) (cs2 : List Nat) (j c : Nat) (ks : List Nat) (vs : List D) (env1 : Env) : tryFR c1 i k cs2 j (.exc (c, ks, vs) env1) = if c = c1 then orBad (fldD ks vs k) fun z => .ok (.ret (.d z)) env1 else if cs2.contains c then .ok .next (((env1.set i .un).set j (.fz (.err c ks vs))).set i .un) else .bad := by
  unfold tryFR
  simp only
  split
  · cases fldD ks vs k <;> rfl
  · rfl
end PP
end
section
namespace PP
open PySem L2
theorem exs_step {cl : CallF} {s : S} {r : Ss} {env env1 : PP.Env} (h : ex cl s env = .ok .next env1) : exs cl (.cons s r) env = exs cl r env1 := by
  show (ex cl s env).bind _ = _
  rw [h]; rfl
theorem exs_ret {cl : CallF} {s : S} {r : Ss} {u : U} {env env1 : PP.Env} (h : ex cl s env = .ok (.ret u) env1) : exs cl (.cons s r) env = .ok (.ret u) env1 := by
  show (ex cl s env).bind _ = _
  rw [h]; rfl
theorem forD_cX {body : PP.Env → R Fl} {i : Nat} {d : D} {r : List D} {env : PP.Env} : forD body i (d :: r) env = (body (env.set i (.fz d))).bind fun fl env1 => match fl with
    | .next => forD body i r env1
    | .cont => forD body i r env1
    | .brk => .ok .next env1
    | .ret u => .ok (.ret u) env1 := rfl
theorem forD_nX {body : PP.Env → R Fl} {i : Nat} {env : PP.Env} : forD body i [] env = .ok .next env := rfl
theorem forG_inv {body : PP.Env → R Fl} {tg : Tg} (I : PP.Env → Prop) : ∀ (xs : List D) (env : PP.Env), I env → (∀ d ∈ xs, ∀ env, I env → ∃ env', (orBad (storeG tg d env) body) = .ok .next env' ∧ I env') → ∃ env', forG body tg xs env = .ok .next env' ∧ I env'
  | [], env, h, _ => ⟨env, rfl, h⟩
  | d :: r, env, h, hs => by
    obtain ⟨e1, h1, h2⟩ := hs d List.mem_cons_self env h
    obtain ⟨e2, h3, h4⟩ := forG_inv I r e1 h2 fun d' hd => hs d' (List.mem_cons_of_mem _ hd)
    refine ⟨e2, ?_, h4⟩
    cases z : storeG tg d env with
    | none => rw [z] at h1; cases h1
    | some e0 =>
      rw [z, orBad_some] at h1
      unfold forG
      rw [z, orBad_some, h1, R.bind_ok]
      exact h3
theorem use_forGI {body : PP.Env → R Fl} {tg : Tg} {xs : List D} {env : PP.Env} {q : R Fl} (hq : forG body tg xs env = q) (I : PP.Env → Prop) (h0 : I env) (hs : ∀ d ∈ xs, ∀ env, I env → ∃ env', (orBad (storeG tg d env) body) = .ok .next env' ∧ I env') : ∃ env', q = .ok .next env' ∧ I env' := by
  subst hq
  exact forG_inv I xs env h0 hs
theorem map_at {α β : Type} {f g : α → β} {l : List α} (h : l.map f = l.map g) {a : α} (ha : a ∈ l) : f a = g a := List.map_inj_left.mp h a ha
end PP
end
section
set_option maxHeartbeats 4000000
namespace LW
open PySem PySem.Spec PyProof.Rows L2 PP
def fn18 : Fn := { n := 1, body := (.cons (.ret (.lst (.cons (.bi .list (.cons (.slice (.var 0) false true (.cst .non) (.cst (.int 63))) .nil)) (.cons (.cst (.int 0)) (.cons (.cst (.int 0)) .nil))))) .nil) }
def fn19 : Fn := { n := 7, body := (.cons (.iff (.op2 .gt (.ix (.var 0) (.cst (.int 2))) (.cst (.int 0))) (.cons (.asg 2 (.op2 .mod (.bi .int (.cons (.ix (.var 0) (.cst (.int 2))) .nil)) (.var 1))) (.cons (.setI 0 (.cst (.int 2)) (.op2 .fdiv (.bi .int (.cons (.ix (.var 0) (.cst (.int 2))) .nil)) (.var 1))) (.cons (.ret (.var 2)) .nil))) .nil) (.cons (.asg 3 (.ix (.var 0) (.cst (.int 1)))) (.cons (.setI 0 (.cst (.int 1)) (.op2 .add (.var 3) (.cst (.int 1)))) (.cons (.asg 4 (.op2 .add (.op2 .mul (.cst (.int 40123)) (.var 3)) (.cst (.int 3617)))) (.cons (.iff (.op2 .ne (.ix (.var 0) (.cst (.int 0))) (.lst .nil)) (.cons (.asg 4 (.ix (.ix (.var 0) (.cst (.int 0))) (.op2 .mod (.bi .int (.cons (.var 3) .nil)) (.bi .len (.cons (.ix (.var 0) (.cst (.int 0))) .nil))))) .nil) .nil) (.cons (.iff (.and (.op2 .lt (.var 3) (.bi .len (.cons (.ix (.var 0) (.cst (.int 0))) .nil))) (.op2 .ge (.bi .abs (.cons (.var 4) .nil)) (.op2 .pow (.cst (.int 10)) (.cst (.int 18))))) (.cons (.asg 5 (.op2 .add (.op2 .mul (.cst (.int 2)) (.op2 .sub (.bi .abs (.cons (.var 4) .nil)) (.op2 .pow (.cst (.int 10)) (.cst (.int 18))))) (.bi .int (.cons (.op2 .lt (.var 4) (.cst (.int 0))) .nil)))) (.cons (.setI 0 (.cst (.int 2)) (.op2 .fdiv (.bi .int (.cons (.var 5) .nil)) (.var 1))) (.cons (.ret (.op2 .mod (.bi .int (.cons (.var 5) .nil)) (.var 1))) .nil))) .nil) (.cons (.asg 6 (.op2 .mod (.bi .int (.cons (.op2 .pow (.op2 .add (.op2 .add (.op2 .mod (.bi .int (.cons (.var 4) .nil)) (.cst (.int 2147483563))) (.op2 .mul (.cst (.int 48409)) (.var 3))) (.cst (.int 821))) (.cst (.int 5))) .nil)) (.cst (.int 2147483629)))) (.cons (.asg 6 (.op2 .mod (.bi .int (.cons (.op2 .pow (.op2 .add (.op2 .add (.op2 .mul (.var 6) (.op2 .add (.op2 .mul (.cst (.int 2)) (.var 3)) (.cst (.int 383)))) (.op2 .mul (.op2 .mul (.cst (.int 54679)) (.var 3)) (.var 3))) (.cst (.int 97))) (.cst (.int 3))) .nil)) (.cst (.int 2147483587)))) (.cons (.ret (.op2 .mod (.bi .int (.cons (.op2 .fdiv (.var 6) (.cst (.int 32))) .nil)) (.var 1))) .nil))))))))) }
def fn20 : Fn := { n := 2, body := (.cons (.ret (.ix (.var 1) (.call 501 [true, false] (.cons (.var 0) (.cons (.bi .len (.cons (.var 1) .nil)) .nil))))) .nil) }
def fn21 : Fn := { n := 2, body := (.cons (.asg 1 (.lst (.cons (.cst .non) (.cons (.cst (.bl true)) (.cons (.cst (.int 0)) (.cons (.op1 .neg (.cst (.int 5))) (.cons (.op2 .pow (.cst (.int 10)) (.cst (.int 57))) (.cons (.cst (.str "")) (.cons (.cst (.str "curve")) (.cons (.tup (.cons (.cst (.str "a")) (.cons (.cst (.int 1)) .nil))) (.cons (.lst (.cons (.lst .nil) .nil)) (.cons (.hk (disK (.inr "c") (.int 3))) (.cons (.op2 .mul (.cst (.str "w")) (.cst (.int 30))) (.cons (.lst .nil) .nil)))))))))))))) (.cons (.ret (.call 502 [true, false] (.cons (.var 0) (.cons (.op2 .add (.var 1) (.lst (.cons (.call 501 [true, false] (.cons (.var 0) (.cons (.op2 .pow (.cst (.int 10)) (.cst (.int 8))) .nil))) .nil))) .nil)))) .nil)) }
def fn22 : Fn := { n := 2, body := (.cons (.asg 1 (.lst (.cons (.tup (.cons (.cst (.str "input")) (.cons (.isObj [1, 8, 2, 10, 12, 3, 15, 4, 29, 27, 24, 20, 6, 30] (.var 0)) .nil))) (.cons (.tup (.cons (.cst (.str "refused")) (.cons (.isObj [18, 31, 32, 28, 19] (.var 0)) .nil))) .nil)))) (.cons (.asg 1 (.op2 .add (.var 1) (.lst (.cons (.tup (.cons (.cst (.str "answer")) (.cons (.isObj [23, 25, 33] (.var 0)) .nil))) (.cons (.tup (.cons (.cst (.str "curve")) (.cons (.isObj [8] (.var 0)) .nil))) .nil))))) (.cons (.asg 1 (.op2 .add (.var 1) (.lst (.cons (.tup (.cons (.cst (.str "level")) (.cons (.isObj [2] (.var 0)) .nil))) (.cons (.tup (.cons (.cst (.str "place")) (.cons (.isObj [10] (.var 0)) .nil))) .nil))))) (.cons (.asg 1 (.op2 .add (.var 1) (.lst (.cons (.tup (.cons (.cst (.str "key")) (.cons (.isObj [12] (.var 0)) .nil))) (.cons (.tup (.cons (.cst (.str "box")) (.cons (.isObj [3] (.var 0)) .nil))) .nil))))) (.cons (.asg 1 (.op2 .add (.var 1) (.lst (.cons (.tup (.cons (.cst (.str "spans")) (.cons (.isObj [15] (.var 0)) .nil))) (.cons (.tup (.cons (.cst (.str "many")) (.cons (.isObj [4] (.var 0)) .nil))) .nil))))) (.cons (.asg 1 (.op2 .add (.var 1) (.lst (.cons (.tup (.cons (.cst (.str "rule")) (.cons (.isObj [29] (.var 0)) .nil))) (.cons (.tup (.cons (.cst (.str "store")) (.cons (.isObj [27] (.var 0)) .nil))) .nil))))) (.cons (.asg 1 (.op2 .add (.var 1) (.lst (.cons (.tup (.cons (.cst (.str "row")) (.cons (.isObj [24] (.var 0)) .nil))) (.cons (.tup (.cons (.cst (.str "book")) (.cons (.isObj [20] (.var 0)) .nil))) .nil))))) (.cons (.asg 1 (.op2 .add (.var 1) (.lst (.cons (.tup (.cons (.cst (.str "text")) (.cons (.isObj [6] (.var 0)) .nil))) (.cons (.tup (.cons (.cst (.str "line")) (.cons (.isObj [30] (.var 0)) .nil))) .nil))))) (.cons (.asg 1 (.op2 .add (.var 1) (.lst (.cons (.tup (.cons (.cst (.str "endless")) (.cons (.isObj [31] (.var 0)) .nil))) (.cons (.tup (.cons (.cst (.str "unlike")) (.cons (.isObj [32] (.var 0)) .nil))) .nil))))) (.cons (.asg 1 (.op2 .add (.var 1) (.lst (.cons (.tup (.cons (.cst (.str "outside")) (.cons (.isObj [28] (.var 0)) .nil))) (.cons (.tup (.cons (.cst (.str "too many")) (.cons (.isObj [19] (.var 0)) .nil))) .nil))))) (.cons (.ret (.op2 .add (.var 1) (.lst (.cons (.tup (.cons (.cst (.str "no row")) (.cons (.isObj [25] (.var 0)) .nil))) (.cons (.tup (.cons (.cst (.str "no deed")) (.cons (.isObj [33] (.var 0)) .nil))) .nil))))) .nil))))))))))) }
def fn23 : Fn := { n := 3, body := (.cons (.ret (.ife (.isObj [0, 1, 18, 23, 8, 2, 10, 12, 3, 15, 4, 29, 27, 24, 20, 6, 30, 31, 32, 28, 19, 25, 33] (.var 0)) (.lc [1, 2] (.tup (.cons (.nm 1) (.cons (.nm 2) .nil))) (.seq (.call 504 [false] (.cons (.var 0) .nil))) true (.var 2) (.var 1)) (.cst .non))) .nil) }
def fn24 : Fn := { n := 10, body := (.cons (.asg 1 (.lst (.cons (.tup (.cons (.mkE 8 [1] (.cons (.var 0) .nil)) (.cons (.cst (.str "curve")) .nil))) (.cons (.tup (.cons (.mkEP 8 [1] [0] (.cons (.var 0) .nil)) (.cons (.cst (.str "curve")) .nil))) (.cons (.tup (.cons (.mkE 3 [1] (.cons (.var 0) .nil)) (.cons (.cst (.str "box")) .nil))) .nil))))) (.cons (.asg 1 (.op2 .add (.var 1) (.lst (.cons (.tup (.cons (.mkEP 3 [1] [0] (.cons (.var 0) .nil)) (.cons (.cst (.str "box")) .nil))) (.cons (.tup (.cons (.mkE 15 [1] (.cons (.var 0) .nil)) (.cons (.cst (.str "spans")) .nil))) (.cons (.tup (.cons (.mkEP 15 [1] [0] (.cons (.var 0) .nil)) (.cons (.cst (.str "spans")) .nil))) .nil)))))) (.cons (.asg 1 (.op2 .add (.var 1) (.lst (.cons (.tup (.cons (.mkE 29 [1] (.cons (.var 0) .nil)) (.cons (.cst (.str "rule")) .nil))) (.cons (.tup (.cons (.mkEP 29 [1] [0] (.cons (.var 0) .nil)) (.cons (.cst (.str "rule")) .nil))) (.cons (.tup (.cons (.mkE 27 [1] (.cons (.var 0) .nil)) (.cons (.cst (.str "store")) .nil))) .nil)))))) (.cons (.asg 1 (.op2 .add (.var 1) (.lst (.cons (.tup (.cons (.mkEP 27 [1] [0] (.cons (.var 0) .nil)) (.cons (.cst (.str "store")) .nil))) (.cons (.tup (.cons (.mkE 20 [1] (.cons (.var 0) .nil)) (.cons (.cst (.str "book")) .nil))) (.cons (.tup (.cons (.mkEP 20 [1] [0] (.cons (.var 0) .nil)) (.cons (.cst (.str "book")) .nil))) .nil)))))) (.cons (.asg 2 (.lc [3, 4] (.tup (.cons (.nm 3) (.cons (.nm 4) .nil))) (.seq (.var 1)) false (.cst .non) (.tup (.cons (.var 3) (.cons (.lst (.cons (.cst (.str "input")) (.cons (.var 4) .nil))) (.cons (.fld (.var 3) 1) .nil)))))) (.cons (.asg 5 (.lst (.cons (.tup (.cons (.mkE 2 [0] (.cons (.var 0) .nil)) (.cons (.cst (.str "level")) .nil))) (.cons (.tup (.cons (.mkEP 2 [0] [0] (.cons (.var 0) .nil)) (.cons (.cst (.str "level")) .nil))) (.cons (.tup (.cons (.mkE 10 [0] (.cons (.var 0) .nil)) (.cons (.cst (.str "place")) .nil))) .nil))))) (.cons (.asg 5 (.op2 .add (.var 5) (.lst (.cons (.tup (.cons (.mkEP 10 [0] [0] (.cons (.var 0) .nil)) (.cons (.cst (.str "place")) .nil))) (.cons (.tup (.cons (.mkE 12 [0] (.cons (.var 0) .nil)) (.cons (.cst (.str "key")) .nil))) (.cons (.tup (.cons (.mkEP 12 [0] [0] (.cons (.var 0) .nil)) (.cons (.cst (.str "key")) .nil))) .nil)))))) (.cons (.asg 5 (.op2 .add (.var 5) (.lst (.cons (.tup (.cons (.mkE 4 [0] (.cons (.var 0) .nil)) (.cons (.cst (.str "many")) .nil))) (.cons (.tup (.cons (.mkEP 4 [0] [0] (.cons (.var 0) .nil)) (.cons (.cst (.str "many")) .nil))) (.cons (.tup (.cons (.mkE 24 [0] (.cons (.var 0) .nil)) (.cons (.cst (.str "row")) .nil))) .nil)))))) (.cons (.asg 2 (.op2 .add (.var 2) (.lc [3, 4] (.tup (.cons (.nm 3) (.cons (.nm 4) .nil))) (.seq (.op2 .add (.var 5) (.lst (.cons (.tup (.cons (.mkEP 24 [0] [0] (.cons (.var 0) .nil)) (.cons (.cst (.str "row")) .nil))) .nil)))) false (.cst .non) (.tup (.cons (.var 3) (.cons (.lst (.cons (.cst (.str "input")) (.cons (.var 4) .nil))) (.cons (.fld (.var 3) 0) .nil))))))) (.cons (.forl 6 (.lst (.cons (.mkE 30 [7] (.cons (.var 0) .nil)) (.cons (.mkEP 30 [7] [0] (.cons (.var 0) .nil)) .nil))) (.cons (.app 2 (.tup (.cons (.var 6) (.cons (.lst (.cons (.cst (.str "input")) (.cons (.cst (.str "line")) .nil))) (.cons (.fld (.var 6) 7) .nil))))) .nil)) (.cons (.forl 7 (.lst (.cons (.mkE 32 [1] (.cons (.var 0) .nil)) (.cons (.mkEP 32 [1] [0] (.cons (.var 0) .nil)) .nil))) (.cons (.app 2 (.tup (.cons (.var 7) (.cons (.lst (.cons (.cst (.str "refused")) (.cons (.cst (.str "unlike")) .nil))) (.cons (.fld (.var 7) 1) .nil))))) .nil)) (.cons (.forl 8 (.lst (.cons (.mkE 28 [24] (.cons (.var 0) .nil)) (.cons (.mkEP 28 [24] [0] (.cons (.var 0) .nil)) .nil))) (.cons (.app 2 (.tup (.cons (.var 8) (.cons (.lst (.cons (.cst (.str "refused")) (.cons (.cst (.str "outside")) .nil))) (.cons (.fld (.var 8) 24) .nil))))) .nil)) (.cons (.forl 9 (.lst (.cons (.mkE 25 [24] (.cons (.var 0) .nil)) (.cons (.mkEP 25 [24] [0] (.cons (.var 0) .nil)) .nil))) (.cons (.app 2 (.tup (.cons (.var 9) (.cons (.lst (.cons (.cst (.str "answer")) (.cons (.cst (.str "no row")) .nil))) (.cons (.fld (.var 9) 24) .nil))))) .nil)) (.cons (.ret (.var 2)) .nil)))))))))))))) }
def fn25 : Fn := { n := 6, body := (.cons (.asg 2 (.lst .nil)) (.cons (.forl 3 (.lst (.cons (.mkE 6 [7, 6] (.cons (.var 0) (.cons (.var 1) .nil))) (.cons (.mkEP 6 [7, 6] [1, 0] (.cons (.var 1) (.cons (.var 0) .nil))) .nil))) (.cons (.app 2 (.op2 .eq (.call 505 [false] (.cons (.var 3) .nil)) (.lst (.cons (.cst (.str "input")) (.cons (.cst (.str "text")) .nil))))) (.cons (.app 2 (.op2 .eq (.hk (biH reprX (.cons (.lst (.cons (.fld (.var 3) 6) (.cons (.fld (.var 3) 7) .nil))) .nil))) (.hk (biH reprX (.cons (.lst (.cons (.var 0) (.cons (.var 1) .nil))) .nil))))) .nil))) (.cons (.forl 4 (.lst (.cons (.mkE 19 [20, 19] (.cons (.var 0) (.cons (.var 1) .nil))) (.cons (.mkEP 19 [20, 19] [1, 0] (.cons (.var 1) (.cons (.var 0) .nil))) .nil))) (.cons (.app 2 (.op2 .eq (.call 505 [false] (.cons (.var 4) .nil)) (.lst (.cons (.cst (.str "refused")) (.cons (.cst (.str "too many")) .nil))))) (.cons (.app 2 (.op2 .eq (.hk (biH reprX (.cons (.lst (.cons (.fld (.var 4) 19) (.cons (.fld (.var 4) 20) .nil))) .nil))) (.hk (biH reprX (.cons (.lst (.cons (.var 0) (.cons (.var 1) .nil))) .nil))))) .nil))) (.cons (.forl 5 (.lst (.cons (.mkE 31 [12, 10] (.cons (.var 0) (.cons (.var 1) .nil))) (.cons (.mkEP 31 [12, 10] [1, 0] (.cons (.var 1) (.cons (.var 0) .nil))) .nil))) (.cons (.app 2 (.op2 .eq (.call 505 [false] (.cons (.var 5) .nil)) (.lst (.cons (.cst (.str "refused")) (.cons (.cst (.str "endless")) .nil))))) (.cons (.app 2 (.op2 .eq (.hk (biH reprX (.cons (.lst (.cons (.fld (.var 5) 10) (.cons (.fld (.var 5) 12) .nil))) .nil))) (.hk (biH reprX (.cons (.lst (.cons (.var 0) (.cons (.var 1) .nil))) .nil))))) .nil))) (.cons (.ret (.op2 .notin (.cst (.bl false)) (.var 2))) .nil))))) }
def fn26 : Fn := { n := 9, body := (.cons (.asg 1 (.call 500 [false] (.cons (.var 0) .nil))) (.cons (.forr 2 (.cst (.int 5)) (.cons (.par [3, 4] (.cons (.call 503 [true] (.cons (.var 1) .nil)) (.cons (.call 503 [true] (.cons (.var 1) .nil)) .nil))) (.cons (.fort (.tup (.cons (.nm 5) (.cons (.nm 6) (.cons (.nm 7) .nil)))) (.seq (.call 506 [false] (.cons (.var 3) .nil))) (.cons (.iff (.or (.op2 .ne (.hk (biH reprX (.cons (.var 7) .nil))) (.hk (biH reprX (.cons (.var 3) .nil)))) (.op2 .ne (.call 505 [false] (.cons (.var 5) .nil)) (.var 6))) (.cons (.ret (.cst (.bl false))) .nil) .nil) .nil)) (.cons (.iff (.not (.call 507 [false, false] (.cons (.var 3) (.cons (.var 4) .nil)))) (.cons (.ret (.cst (.bl false))) .nil) .nil) .nil)))) (.cons (.iff (.or (.op2 .ne (.call 505 [false] (.cons (.hk (mkE0 33)) .nil)) (.lst (.cons (.cst (.str "answer")) (.cons (.cst (.str "no deed")) .nil)))) (.not (.isObj [0, 1, 18, 23, 8, 2, 10, 12, 3, 15, 4, 29, 27, 24, 20, 6, 30, 31, 32, 28, 19, 25, 33] (.hk (mkE0 0))))) (.cons (.ret (.cst (.bl false))) .nil) .nil) (.cons (.asg 8 (.lst (.cons (.call 505 [false] (.cons (.hk (mkE0 0)) .nil)) (.cons (.call 505 [false] (.cons (.hk (mkE0 1)) .nil)) (.cons (.call 505 [false] (.cons (.hk (mkE0 18)) .nil)) (.cons (.call 505 [false] (.cons (.hk (mkE0 23)) .nil)) .nil)))))) (.cons (.ret (.op2 .eq (.var 8) (.lst (.cons (.lst .nil) (.cons (.lst (.cons (.cst (.str "input")) .nil)) (.cons (.lst (.cons (.cst (.str "refused")) .nil)) (.cons (.lst (.cons (.cst (.str "answer")) .nil)) .nil))))))) .nil))))) }
def fs : Nat → Option Fn
  | 500 => some fn18
  | 501 => some fn19
  | 502 => some fn20
  | 503 => some fn21
  | 504 => some fn22
  | 505 => some fn23
  | 506 => some fn24
  | 507 => some fn25
  | 508 => some fn26
  | _ => none
def fnm : Nat → Str
  | 0 => "value"
  | 1 => "part"
  | 6 => "line"
  | 7 => "word"
  | 10 => "level"
  | 12 => "key"
  | 19 => "what"
  | 20 => "most"
  | 24 => "place"
  | _ => ""
def cnm (K : PySem.W.Frag) : Nat → Option Addr
  | 0 => adr K "CurveError"
  | 1 => adr K "BadInput"
  | 18 => adr K "Refused"
  | 23 => adr K "NoAnswer"
  | 8 => adr K "BadCurve"
  | 2 => adr K "BadLevel"
  | 10 => adr K "BadPlace"
  | 12 => adr K "BadKey"
  | 3 => adr K "BadBox"
  | 15 => adr K "BadSpans"
  | 4 => adr K "BadMany"
  | 29 => adr K "BadRule"
  | 27 => adr K "BadStore"
  | 24 => adr K "BadRow"
  | 20 => adr K "BadBook"
  | 6 => adr K "BadText"
  | 30 => adr K "BadLine"
  | 31 => adr K "Endless"
  | 32 => adr K "Unlike"
  | 28 => adr K "Outside"
  | 19 => adr K "TooMany"
  | 25 => adr K "NoRow"
  | 33 => adr K "NoDeed"
  | _ => none
def foL : List (Nat × Nat) := [(8, 1), (2, 0), (10, 0), (12, 0), (3, 1), (15, 1), (4, 0), (29, 1), (27, 1), (24, 0), (20, 1), (6, 6), (6, 7), (30, 7), (31, 10), (31, 12), (32, 1), (28, 24), (19, 19), (19, 20), (25, 24)]
def ecL : Nat → Bool
  | 0 => true
  | 1 => true
  | 18 => true
  | 23 => true
  | 8 => true
  | 2 => true
  | 10 => true
  | 12 => true
  | 3 => true
  | 15 => true
  | 4 => true
  | 29 => true
  | 27 => true
  | 24 => true
  | 20 => true
  | 6 => true
  | 30 => true
  | 31 => true
  | 32 => true
  | 28 => true
  | 19 => true
  | 25 => true
  | 33 => true
  | _ => false
def tb (K : PySem.W.Frag) : Tbl := ⟨K, cnm K, fnm, fun c k => foL.contains (c, k), ttOf K lamN, ecL⟩
structure Tx (K : PySem.W.Frag) (mg : Str → Option Value) (fa ca pa cc ta : Nat → Addr) (fd : Nat → FuncData) : Prop where
  mC0 : mg "CurveError" = some (.ref (ca 0))
  cn0 : cnm K 0 = some (ca 0)
  mC1 : mg "BadInput" = some (.ref (ca 1))
  cn1 : cnm K 1 = some (ca 1)
  mC18 : mg "Refused" = some (.ref (ca 18))
  cn18 : cnm K 18 = some (ca 18)
  mC23 : mg "NoAnswer" = some (.ref (ca 23))
  cn23 : cnm K 23 = some (ca 23)
  mC8 : mg "BadCurve" = some (.ref (ca 8))
  cn8 : cnm K 8 = some (ca 8)
  mC2 : mg "BadLevel" = some (.ref (ca 2))
  cn2 : cnm K 2 = some (ca 2)
  mC10 : mg "BadPlace" = some (.ref (ca 10))
  cn10 : cnm K 10 = some (ca 10)
  mC12 : mg "BadKey" = some (.ref (ca 12))
  cn12 : cnm K 12 = some (ca 12)
  mC3 : mg "BadBox" = some (.ref (ca 3))
  cn3 : cnm K 3 = some (ca 3)
  mC15 : mg "BadSpans" = some (.ref (ca 15))
  cn15 : cnm K 15 = some (ca 15)
  mC4 : mg "BadMany" = some (.ref (ca 4))
  cn4 : cnm K 4 = some (ca 4)
  mC29 : mg "BadRule" = some (.ref (ca 29))
  cn29 : cnm K 29 = some (ca 29)
  mC27 : mg "BadStore" = some (.ref (ca 27))
  cn27 : cnm K 27 = some (ca 27)
  mC24 : mg "BadRow" = some (.ref (ca 24))
  cn24 : cnm K 24 = some (ca 24)
  mC20 : mg "BadBook" = some (.ref (ca 20))
  cn20 : cnm K 20 = some (ca 20)
  mC6 : mg "BadText" = some (.ref (ca 6))
  cn6 : cnm K 6 = some (ca 6)
  mC30 : mg "BadLine" = some (.ref (ca 30))
  cn30 : cnm K 30 = some (ca 30)
  mC31 : mg "Endless" = some (.ref (ca 31))
  cn31 : cnm K 31 = some (ca 31)
  mC32 : mg "Unlike" = some (.ref (ca 32))
  cn32 : cnm K 32 = some (ca 32)
  mC28 : mg "Outside" = some (.ref (ca 28))
  cn28 : cnm K 28 = some (ca 28)
  mC19 : mg "TooMany" = some (.ref (ca 19))
  cn19 : cnm K 19 = some (ca 19)
  mC25 : mg "NoRow" = some (.ref (ca 25))
  cn25 : cnm K 25 = some (ca 25)
  mC33 : mg "NoDeed" = some (.ref (ca 33))
  cn33 : cnm K 33 = some (ca 33)
  xr0 : XfC K (ca 0)
  xe0 : ExcC K (ca 0)
  na0 : ∀ f ∈ ([] : List Str), NoAttr K (ca 0) f
  ey0 : PySem.W.excIn K (ca 0) [.type "ValueError", .type "Exception", .type "BaseException", .type "object"] "ValueError.__new__" = true
  ky0 : PySem.W.keepIn K (.ref (ca 0)) = true
  ez0 : PySem.W.subIn K (.ref (ca 0)) (.type "BaseException") = some true
  ew0 : PySem.W.typeIn K (.ref (ca 0)) = some (.type "type")
  cy0 : (tb K).cx 0 [] = some (ca 0)
  xr1 : XfC K (ca 1)
  xe1 : ExcC K (ca 1)
  na1 : ∀ f ∈ ([] : List Str), NoAttr K (ca 1) f
  ey1 : PySem.W.excIn K (ca 1) [.type "ValueError", .type "Exception", .type "BaseException", .type "object"] "ValueError.__new__" = true
  ky1 : PySem.W.keepIn K (.ref (ca 1)) = true
  ez1 : PySem.W.subIn K (.ref (ca 1)) (.type "BaseException") = some true
  ew1 : PySem.W.typeIn K (.ref (ca 1)) = some (.type "type")
  cy1 : (tb K).cx 1 [] = some (ca 1)
  xr18 : XfC K (ca 18)
  xe18 : ExcC K (ca 18)
  na18 : ∀ f ∈ ([] : List Str), NoAttr K (ca 18) f
  ey18 : PySem.W.excIn K (ca 18) [.type "ValueError", .type "Exception", .type "BaseException", .type "object"] "ValueError.__new__" = true
  ky18 : PySem.W.keepIn K (.ref (ca 18)) = true
  ez18 : PySem.W.subIn K (.ref (ca 18)) (.type "BaseException") = some true
  ew18 : PySem.W.typeIn K (.ref (ca 18)) = some (.type "type")
  cy18 : (tb K).cx 18 [] = some (ca 18)
  xr23 : XfC K (ca 23)
  xe23 : ExcC K (ca 23)
  na23 : ∀ f ∈ ([] : List Str), NoAttr K (ca 23) f
  ey23 : PySem.W.excIn K (ca 23) [.type "ValueError", .type "Exception", .type "BaseException", .type "object"] "ValueError.__new__" = true
  ky23 : PySem.W.keepIn K (.ref (ca 23)) = true
  ez23 : PySem.W.subIn K (.ref (ca 23)) (.type "BaseException") = some true
  ew23 : PySem.W.typeIn K (.ref (ca 23)) = some (.type "type")
  cy23 : (tb K).cx 23 [] = some (ca 23)
  xr8 : XfC K (ca 8)
  xe8 : ExcC K (ca 8)
  na8 : ∀ f ∈ (["part"] : List Str), NoAttr K (ca 8) f
  ox8 : OexC K (ca 8)
  xi8 : PySem.W.findIn K (.ref (ca 8)) "__init__" = some (some (.ref (fa 0)))
  xt8 : PySem.W.typeIn K (.ref (fa 0)) = some (.type "function")
  cx8 : (tb K).cx 8 [1] = some (ca 8)
  xr2 : XfC K (ca 2)
  xe2 : ExcC K (ca 2)
  na2 : ∀ f ∈ (["value"] : List Str), NoAttr K (ca 2) f
  ox2 : OexC K (ca 2)
  xi2 : PySem.W.findIn K (.ref (ca 2)) "__init__" = some (some (.ref (fa 1)))
  xt2 : PySem.W.typeIn K (.ref (fa 1)) = some (.type "function")
  cx2 : (tb K).cx 2 [0] = some (ca 2)
  xr10 : XfC K (ca 10)
  xe10 : ExcC K (ca 10)
  na10 : ∀ f ∈ (["value"] : List Str), NoAttr K (ca 10) f
  ox10 : OexC K (ca 10)
  xi10 : PySem.W.findIn K (.ref (ca 10)) "__init__" = some (some (.ref (fa 2)))
  xt10 : PySem.W.typeIn K (.ref (fa 2)) = some (.type "function")
  cx10 : (tb K).cx 10 [0] = some (ca 10)
  xr12 : XfC K (ca 12)
  xe12 : ExcC K (ca 12)
  na12 : ∀ f ∈ (["value"] : List Str), NoAttr K (ca 12) f
  ox12 : OexC K (ca 12)
  xi12 : PySem.W.findIn K (.ref (ca 12)) "__init__" = some (some (.ref (fa 3)))
  xt12 : PySem.W.typeIn K (.ref (fa 3)) = some (.type "function")
  cx12 : (tb K).cx 12 [0] = some (ca 12)
  xr3 : XfC K (ca 3)
  xe3 : ExcC K (ca 3)
  na3 : ∀ f ∈ (["part"] : List Str), NoAttr K (ca 3) f
  ox3 : OexC K (ca 3)
  xi3 : PySem.W.findIn K (.ref (ca 3)) "__init__" = some (some (.ref (fa 4)))
  xt3 : PySem.W.typeIn K (.ref (fa 4)) = some (.type "function")
  cx3 : (tb K).cx 3 [1] = some (ca 3)
  xr15 : XfC K (ca 15)
  xe15 : ExcC K (ca 15)
  na15 : ∀ f ∈ (["part"] : List Str), NoAttr K (ca 15) f
  ox15 : OexC K (ca 15)
  xi15 : PySem.W.findIn K (.ref (ca 15)) "__init__" = some (some (.ref (fa 5)))
  xt15 : PySem.W.typeIn K (.ref (fa 5)) = some (.type "function")
  cx15 : (tb K).cx 15 [1] = some (ca 15)
  xr4 : XfC K (ca 4)
  xe4 : ExcC K (ca 4)
  na4 : ∀ f ∈ (["value"] : List Str), NoAttr K (ca 4) f
  ox4 : OexC K (ca 4)
  xi4 : PySem.W.findIn K (.ref (ca 4)) "__init__" = some (some (.ref (fa 6)))
  xt4 : PySem.W.typeIn K (.ref (fa 6)) = some (.type "function")
  cx4 : (tb K).cx 4 [0] = some (ca 4)
  xr29 : XfC K (ca 29)
  xe29 : ExcC K (ca 29)
  na29 : ∀ f ∈ (["part"] : List Str), NoAttr K (ca 29) f
  ox29 : OexC K (ca 29)
  xi29 : PySem.W.findIn K (.ref (ca 29)) "__init__" = some (some (.ref (fa 7)))
  xt29 : PySem.W.typeIn K (.ref (fa 7)) = some (.type "function")
  cx29 : (tb K).cx 29 [1] = some (ca 29)
  xr27 : XfC K (ca 27)
  xe27 : ExcC K (ca 27)
  na27 : ∀ f ∈ (["part"] : List Str), NoAttr K (ca 27) f
  ox27 : OexC K (ca 27)
  xi27 : PySem.W.findIn K (.ref (ca 27)) "__init__" = some (some (.ref (fa 8)))
  xt27 : PySem.W.typeIn K (.ref (fa 8)) = some (.type "function")
  cx27 : (tb K).cx 27 [1] = some (ca 27)
  xr24 : XfC K (ca 24)
  xe24 : ExcC K (ca 24)
  na24 : ∀ f ∈ (["value"] : List Str), NoAttr K (ca 24) f
  ox24 : OexC K (ca 24)
  xi24 : PySem.W.findIn K (.ref (ca 24)) "__init__" = some (some (.ref (fa 9)))
  xt24 : PySem.W.typeIn K (.ref (fa 9)) = some (.type "function")
  cx24 : (tb K).cx 24 [0] = some (ca 24)
  xr20 : XfC K (ca 20)
  xe20 : ExcC K (ca 20)
  na20 : ∀ f ∈ (["part"] : List Str), NoAttr K (ca 20) f
  ox20 : OexC K (ca 20)
  xi20 : PySem.W.findIn K (.ref (ca 20)) "__init__" = some (some (.ref (fa 10)))
  xt20 : PySem.W.typeIn K (.ref (fa 10)) = some (.type "function")
  cx20 : (tb K).cx 20 [1] = some (ca 20)
  xr6 : XfC K (ca 6)
  xe6 : ExcC K (ca 6)
  na6 : ∀ f ∈ (["line", "word"] : List Str), NoAttr K (ca 6) f
  ox6 : OexC K (ca 6)
  xi6 : PySem.W.findIn K (.ref (ca 6)) "__init__" = some (some (.ref (fa 11)))
  xt6 : PySem.W.typeIn K (.ref (fa 11)) = some (.type "function")
  cx6 : (tb K).cx 6 [7, 6] = some (ca 6)
  xr30 : XfC K (ca 30)
  xe30 : ExcC K (ca 30)
  na30 : ∀ f ∈ (["word"] : List Str), NoAttr K (ca 30) f
  ox30 : OexC K (ca 30)
  xi30 : PySem.W.findIn K (.ref (ca 30)) "__init__" = some (some (.ref (fa 12)))
  xt30 : PySem.W.typeIn K (.ref (fa 12)) = some (.type "function")
  cx30 : (tb K).cx 30 [7] = some (ca 30)
  xr31 : XfC K (ca 31)
  xe31 : ExcC K (ca 31)
  na31 : ∀ f ∈ (["level", "key"] : List Str), NoAttr K (ca 31) f
  ox31 : OexC K (ca 31)
  xi31 : PySem.W.findIn K (.ref (ca 31)) "__init__" = some (some (.ref (fa 13)))
  xt31 : PySem.W.typeIn K (.ref (fa 13)) = some (.type "function")
  cx31 : (tb K).cx 31 [12, 10] = some (ca 31)
  xr32 : XfC K (ca 32)
  xe32 : ExcC K (ca 32)
  na32 : ∀ f ∈ (["part"] : List Str), NoAttr K (ca 32) f
  ox32 : OexC K (ca 32)
  xi32 : PySem.W.findIn K (.ref (ca 32)) "__init__" = some (some (.ref (fa 14)))
  xt32 : PySem.W.typeIn K (.ref (fa 14)) = some (.type "function")
  cx32 : (tb K).cx 32 [1] = some (ca 32)
  xr28 : XfC K (ca 28)
  xe28 : ExcC K (ca 28)
  na28 : ∀ f ∈ (["place"] : List Str), NoAttr K (ca 28) f
  ox28 : OexC K (ca 28)
  xi28 : PySem.W.findIn K (.ref (ca 28)) "__init__" = some (some (.ref (fa 15)))
  xt28 : PySem.W.typeIn K (.ref (fa 15)) = some (.type "function")
  cx28 : (tb K).cx 28 [24] = some (ca 28)
  xr19 : XfC K (ca 19)
  xe19 : ExcC K (ca 19)
  na19 : ∀ f ∈ (["what", "most"] : List Str), NoAttr K (ca 19) f
  ox19 : OexC K (ca 19)
  xi19 : PySem.W.findIn K (.ref (ca 19)) "__init__" = some (some (.ref (fa 16)))
  xt19 : PySem.W.typeIn K (.ref (fa 16)) = some (.type "function")
  cx19 : (tb K).cx 19 [20, 19] = some (ca 19)
  xr25 : XfC K (ca 25)
  xe25 : ExcC K (ca 25)
  na25 : ∀ f ∈ (["place"] : List Str), NoAttr K (ca 25) f
  ox25 : OexC K (ca 25)
  xi25 : PySem.W.findIn K (.ref (ca 25)) "__init__" = some (some (.ref (fa 17)))
  xt25 : PySem.W.typeIn K (.ref (fa 17)) = some (.type "function")
  cx25 : (tb K).cx 25 [24] = some (ca 25)
  xr33 : XfC K (ca 33)
  xe33 : ExcC K (ca 33)
  na33 : ∀ f ∈ ([] : List Str), NoAttr K (ca 33) f
  ey33 : PySem.W.excIn K (ca 33) [.type "ValueError", .type "Exception", .type "BaseException", .type "object"] "ValueError.__new__" = true
  ky33 : PySem.W.keepIn K (.ref (ca 33)) = true
  ez33 : PySem.W.subIn K (.ref (ca 33)) (.type "BaseException") = some true
  ew33 : PySem.W.typeIn K (.ref (ca 33)) = some (.type "type")
  cy33 : (tb K).cx 33 [] = some (ca 33)
  ks0_part : KwBindsS K (fd 0) ["self", "part"] ["part"] [0]
  f0 : FunV K "__init__" "BadCurve.__init__" st0 (fa 0) (fd 0)
  b0 : Binds K (fd 0) ["self", "part"] []
  ks1_value : KwBindsS K (fd 1) ["self", "value"] ["value"] [0]
  f1 : FunV K "__init__" "BadLevel.__init__" st1 (fa 1) (fd 1)
  b1 : Binds K (fd 1) ["self", "value"] []
  ks2_value : KwBindsS K (fd 2) ["self", "value"] ["value"] [0]
  f2 : FunV K "__init__" "BadPlace.__init__" st2 (fa 2) (fd 2)
  b2 : Binds K (fd 2) ["self", "value"] []
  ks3_value : KwBindsS K (fd 3) ["self", "value"] ["value"] [0]
  f3 : FunV K "__init__" "BadKey.__init__" st3 (fa 3) (fd 3)
  b3 : Binds K (fd 3) ["self", "value"] []
  ks4_part : KwBindsS K (fd 4) ["self", "part"] ["part"] [0]
  f4 : FunV K "__init__" "BadBox.__init__" st4 (fa 4) (fd 4)
  b4 : Binds K (fd 4) ["self", "part"] []
  ks5_part : KwBindsS K (fd 5) ["self", "part"] ["part"] [0]
  f5 : FunV K "__init__" "BadSpans.__init__" st5 (fa 5) (fd 5)
  b5 : Binds K (fd 5) ["self", "part"] []
  ks6_value : KwBindsS K (fd 6) ["self", "value"] ["value"] [0]
  f6 : FunV K "__init__" "BadMany.__init__" st6 (fa 6) (fd 6)
  b6 : Binds K (fd 6) ["self", "value"] []
  ks7_part : KwBindsS K (fd 7) ["self", "part"] ["part"] [0]
  f7 : FunV K "__init__" "BadRule.__init__" st7 (fa 7) (fd 7)
  b7 : Binds K (fd 7) ["self", "part"] []
  ks8_part : KwBindsS K (fd 8) ["self", "part"] ["part"] [0]
  f8 : FunV K "__init__" "BadStore.__init__" st8 (fa 8) (fd 8)
  b8 : Binds K (fd 8) ["self", "part"] []
  ks9_value : KwBindsS K (fd 9) ["self", "value"] ["value"] [0]
  f9 : FunV K "__init__" "BadRow.__init__" st9 (fa 9) (fd 9)
  b9 : Binds K (fd 9) ["self", "value"] []
  ks10_part : KwBindsS K (fd 10) ["self", "part"] ["part"] [0]
  f10 : FunV K "__init__" "BadBook.__init__" st10 (fa 10) (fd 10)
  b10 : Binds K (fd 10) ["self", "part"] []
  ks11_word_line : KwBindsS K (fd 11) ["self", "line", "word"] ["word", "line"] [1, 0]
  f11 : FunV K "__init__" "BadText.__init__" st11 (fa 11) (fd 11)
  b11 : Binds K (fd 11) ["self", "line", "word"] []
  ks12_word : KwBindsS K (fd 12) ["self", "word"] ["word"] [0]
  f12 : FunV K "__init__" "BadLine.__init__" st12 (fa 12) (fd 12)
  b12 : Binds K (fd 12) ["self", "word"] []
  ks13_key_level : KwBindsS K (fd 13) ["self", "level", "key"] ["key", "level"] [1, 0]
  f13 : FunV K "__init__" "Endless.__init__" st13 (fa 13) (fd 13)
  b13 : Binds K (fd 13) ["self", "level", "key"] []
  ks14_part : KwBindsS K (fd 14) ["self", "part"] ["part"] [0]
  f14 : FunV K "__init__" "Unlike.__init__" st14 (fa 14) (fd 14)
  b14 : Binds K (fd 14) ["self", "part"] []
  ks15_place : KwBindsS K (fd 15) ["self", "place"] ["place"] [0]
  f15 : FunV K "__init__" "Outside.__init__" st15 (fa 15) (fd 15)
  b15 : Binds K (fd 15) ["self", "place"] []
  ks16_most_what : KwBindsS K (fd 16) ["self", "what", "most"] ["most", "what"] [1, 0]
  f16 : FunV K "__init__" "TooMany.__init__" st16 (fa 16) (fd 16)
  b16 : Binds K (fd 16) ["self", "what", "most"] []
  ks17_place : KwBindsS K (fd 17) ["self", "place"] ["place"] [0]
  f17 : FunV K "__init__" "NoRow.__init__" st17 (fa 17) (fd 17)
  b17 : Binds K (fd 17) ["self", "place"] []
  m18 : mg "_law_pen" = some (.ref (fa 18))
  f18 : FunV K "_law_pen" "_law_pen" st18 (fa 18) (fd 18)
  b18 : Binds K (fd 18) ["_law_script"] []
  m19 : mg "_law_draw" = some (.ref (fa 19))
  f19 : FunV K "_law_draw" "_law_draw" st19 (fa 19) (fd 19)
  b19 : Binds K (fd 19) ["_law_pen_here", "_law_many"] []
  m20 : mg "_law_pick" = some (.ref (fa 20))
  f20 : FunV K "_law_pick" "_law_pick" st20 (fa 20) (fd 20)
  b20 : Binds K (fd 20) ["_law_pen_here", "_law_some"] []
  m21 : mg "_law_value" = some (.ref (fa 21))
  f21 : FunV K "_law_value" "_law_value" st21 (fa 21) (fd 21)
  b21 : Binds K (fd 21) ["_law_pen_here"] []
  m22 : mg "_law_signs" = some (.ref (fa 22))
  f22 : FunV K "_law_signs" "_law_signs" st22 (fa 22) (fd 22)
  b22 : Binds K (fd 22) ["_law_error"] []
  m23 : mg "_law_kinds" = some (.ref (fa 23))
  f23 : FunV K "_law_kinds" "_law_kinds" st23 (fa 23) (fd 23)
  b23 : Binds K (fd 23) ["_law_error"] []
  m24 : mg "_law_parts" = some (.ref (fa 24))
  f24 : FunV K "_law_parts" "_law_parts" st24 (fa 24) (fd 24)
  b24 : Binds K (fd 24) ["_law_thing"] []
  m25 : mg "_law_pairs_right" = some (.ref (fa 25))
  f25 : FunV K "_law_pairs_right" "_law_pairs_right" st25 (fa 25) (fd 25)
  b25 : Binds K (fd 25) ["_law_thing", "_law_more"] []
  m26 : mg "law" = some (.ref (fa 26))
  f26 : FunV K "law" "law" st26 (fa 26) (fd 26)
  b26 : Binds K (fd 26) ["_law_script"] []
  is0 : isoB K (ca 0) [(ca 0, true), (ca 1, true), (ca 18, true), (ca 23, true), (ca 8, true), (ca 2, true), (ca 10, true), (ca 12, true), (ca 3, true), (ca 15, true), (ca 4, true), (ca 29, true), (ca 27, true), (ca 24, true), (ca 20, true), (ca 6, true), (ca 30, true), (ca 31, true), (ca 32, true), (ca 28, true), (ca 19, true), (ca 25, true), (ca 33, true)] = true
  is1 : isoB K (ca 1) [(ca 0, false), (ca 1, true), (ca 18, false), (ca 23, false), (ca 8, true), (ca 2, true), (ca 10, true), (ca 12, true), (ca 3, true), (ca 15, true), (ca 4, true), (ca 29, true), (ca 27, true), (ca 24, true), (ca 20, true), (ca 6, true), (ca 30, true), (ca 31, false), (ca 32, false), (ca 28, false), (ca 19, false), (ca 25, false), (ca 33, false)] = true
  is2 : isoB K (ca 2) [(ca 0, false), (ca 1, false), (ca 18, false), (ca 23, false), (ca 8, false), (ca 2, true), (ca 10, false), (ca 12, false), (ca 3, false), (ca 15, false), (ca 4, false), (ca 29, false), (ca 27, false), (ca 24, false), (ca 20, false), (ca 6, false), (ca 30, false), (ca 31, false), (ca 32, false), (ca 28, false), (ca 19, false), (ca 25, false), (ca 33, false)] = true
  is3 : isoB K (ca 3) [(ca 0, false), (ca 1, false), (ca 18, false), (ca 23, false), (ca 8, false), (ca 2, false), (ca 10, false), (ca 12, false), (ca 3, true), (ca 15, false), (ca 4, false), (ca 29, false), (ca 27, false), (ca 24, false), (ca 20, false), (ca 6, false), (ca 30, false), (ca 31, false), (ca 32, false), (ca 28, false), (ca 19, false), (ca 25, false), (ca 33, false)] = true
  is4 : isoB K (ca 4) [(ca 0, false), (ca 1, false), (ca 18, false), (ca 23, false), (ca 8, false), (ca 2, false), (ca 10, false), (ca 12, false), (ca 3, false), (ca 15, false), (ca 4, true), (ca 29, false), (ca 27, false), (ca 24, false), (ca 20, false), (ca 6, false), (ca 30, false), (ca 31, false), (ca 32, false), (ca 28, false), (ca 19, false), (ca 25, false), (ca 33, false)] = true
  is6 : isoB K (ca 6) [(ca 0, false), (ca 1, false), (ca 18, false), (ca 23, false), (ca 8, false), (ca 2, false), (ca 10, false), (ca 12, false), (ca 3, false), (ca 15, false), (ca 4, false), (ca 29, false), (ca 27, false), (ca 24, false), (ca 20, false), (ca 6, true), (ca 30, false), (ca 31, false), (ca 32, false), (ca 28, false), (ca 19, false), (ca 25, false), (ca 33, false)] = true
  is8 : isoB K (ca 8) [(ca 0, false), (ca 1, false), (ca 18, false), (ca 23, false), (ca 8, true), (ca 2, false), (ca 10, false), (ca 12, false), (ca 3, false), (ca 15, false), (ca 4, false), (ca 29, false), (ca 27, false), (ca 24, false), (ca 20, false), (ca 6, false), (ca 30, false), (ca 31, false), (ca 32, false), (ca 28, false), (ca 19, false), (ca 25, false), (ca 33, false)] = true
  is10 : isoB K (ca 10) [(ca 0, false), (ca 1, false), (ca 18, false), (ca 23, false), (ca 8, false), (ca 2, false), (ca 10, true), (ca 12, false), (ca 3, false), (ca 15, false), (ca 4, false), (ca 29, false), (ca 27, false), (ca 24, false), (ca 20, false), (ca 6, false), (ca 30, false), (ca 31, false), (ca 32, false), (ca 28, false), (ca 19, false), (ca 25, false), (ca 33, false)] = true
  is12 : isoB K (ca 12) [(ca 0, false), (ca 1, false), (ca 18, false), (ca 23, false), (ca 8, false), (ca 2, false), (ca 10, false), (ca 12, true), (ca 3, false), (ca 15, false), (ca 4, false), (ca 29, false), (ca 27, false), (ca 24, false), (ca 20, false), (ca 6, false), (ca 30, false), (ca 31, false), (ca 32, false), (ca 28, false), (ca 19, false), (ca 25, false), (ca 33, false)] = true
  is15 : isoB K (ca 15) [(ca 0, false), (ca 1, false), (ca 18, false), (ca 23, false), (ca 8, false), (ca 2, false), (ca 10, false), (ca 12, false), (ca 3, false), (ca 15, true), (ca 4, false), (ca 29, false), (ca 27, false), (ca 24, false), (ca 20, false), (ca 6, false), (ca 30, false), (ca 31, false), (ca 32, false), (ca 28, false), (ca 19, false), (ca 25, false), (ca 33, false)] = true
  is18 : isoB K (ca 18) [(ca 0, false), (ca 1, false), (ca 18, true), (ca 23, false), (ca 8, false), (ca 2, false), (ca 10, false), (ca 12, false), (ca 3, false), (ca 15, false), (ca 4, false), (ca 29, false), (ca 27, false), (ca 24, false), (ca 20, false), (ca 6, false), (ca 30, false), (ca 31, true), (ca 32, true), (ca 28, true), (ca 19, true), (ca 25, false), (ca 33, false)] = true
  is19 : isoB K (ca 19) [(ca 0, false), (ca 1, false), (ca 18, false), (ca 23, false), (ca 8, false), (ca 2, false), (ca 10, false), (ca 12, false), (ca 3, false), (ca 15, false), (ca 4, false), (ca 29, false), (ca 27, false), (ca 24, false), (ca 20, false), (ca 6, false), (ca 30, false), (ca 31, false), (ca 32, false), (ca 28, false), (ca 19, true), (ca 25, false), (ca 33, false)] = true
  is20 : isoB K (ca 20) [(ca 0, false), (ca 1, false), (ca 18, false), (ca 23, false), (ca 8, false), (ca 2, false), (ca 10, false), (ca 12, false), (ca 3, false), (ca 15, false), (ca 4, false), (ca 29, false), (ca 27, false), (ca 24, false), (ca 20, true), (ca 6, false), (ca 30, false), (ca 31, false), (ca 32, false), (ca 28, false), (ca 19, false), (ca 25, false), (ca 33, false)] = true
  is23 : isoB K (ca 23) [(ca 0, false), (ca 1, false), (ca 18, false), (ca 23, true), (ca 8, false), (ca 2, false), (ca 10, false), (ca 12, false), (ca 3, false), (ca 15, false), (ca 4, false), (ca 29, false), (ca 27, false), (ca 24, false), (ca 20, false), (ca 6, false), (ca 30, false), (ca 31, false), (ca 32, false), (ca 28, false), (ca 19, false), (ca 25, true), (ca 33, true)] = true
  is24 : isoB K (ca 24) [(ca 0, false), (ca 1, false), (ca 18, false), (ca 23, false), (ca 8, false), (ca 2, false), (ca 10, false), (ca 12, false), (ca 3, false), (ca 15, false), (ca 4, false), (ca 29, false), (ca 27, false), (ca 24, true), (ca 20, false), (ca 6, false), (ca 30, false), (ca 31, false), (ca 32, false), (ca 28, false), (ca 19, false), (ca 25, false), (ca 33, false)] = true
  is25 : isoB K (ca 25) [(ca 0, false), (ca 1, false), (ca 18, false), (ca 23, false), (ca 8, false), (ca 2, false), (ca 10, false), (ca 12, false), (ca 3, false), (ca 15, false), (ca 4, false), (ca 29, false), (ca 27, false), (ca 24, false), (ca 20, false), (ca 6, false), (ca 30, false), (ca 31, false), (ca 32, false), (ca 28, false), (ca 19, false), (ca 25, true), (ca 33, false)] = true
  is27 : isoB K (ca 27) [(ca 0, false), (ca 1, false), (ca 18, false), (ca 23, false), (ca 8, false), (ca 2, false), (ca 10, false), (ca 12, false), (ca 3, false), (ca 15, false), (ca 4, false), (ca 29, false), (ca 27, true), (ca 24, false), (ca 20, false), (ca 6, false), (ca 30, false), (ca 31, false), (ca 32, false), (ca 28, false), (ca 19, false), (ca 25, false), (ca 33, false)] = true
  is28 : isoB K (ca 28) [(ca 0, false), (ca 1, false), (ca 18, false), (ca 23, false), (ca 8, false), (ca 2, false), (ca 10, false), (ca 12, false), (ca 3, false), (ca 15, false), (ca 4, false), (ca 29, false), (ca 27, false), (ca 24, false), (ca 20, false), (ca 6, false), (ca 30, false), (ca 31, false), (ca 32, false), (ca 28, true), (ca 19, false), (ca 25, false), (ca 33, false)] = true
  is29 : isoB K (ca 29) [(ca 0, false), (ca 1, false), (ca 18, false), (ca 23, false), (ca 8, false), (ca 2, false), (ca 10, false), (ca 12, false), (ca 3, false), (ca 15, false), (ca 4, false), (ca 29, true), (ca 27, false), (ca 24, false), (ca 20, false), (ca 6, false), (ca 30, false), (ca 31, false), (ca 32, false), (ca 28, false), (ca 19, false), (ca 25, false), (ca 33, false)] = true
  is30 : isoB K (ca 30) [(ca 0, false), (ca 1, false), (ca 18, false), (ca 23, false), (ca 8, false), (ca 2, false), (ca 10, false), (ca 12, false), (ca 3, false), (ca 15, false), (ca 4, false), (ca 29, false), (ca 27, false), (ca 24, false), (ca 20, false), (ca 6, false), (ca 30, true), (ca 31, false), (ca 32, false), (ca 28, false), (ca 19, false), (ca 25, false), (ca 33, false)] = true
  is31 : isoB K (ca 31) [(ca 0, false), (ca 1, false), (ca 18, false), (ca 23, false), (ca 8, false), (ca 2, false), (ca 10, false), (ca 12, false), (ca 3, false), (ca 15, false), (ca 4, false), (ca 29, false), (ca 27, false), (ca 24, false), (ca 20, false), (ca 6, false), (ca 30, false), (ca 31, true), (ca 32, false), (ca 28, false), (ca 19, false), (ca 25, false), (ca 33, false)] = true
  is32 : isoB K (ca 32) [(ca 0, false), (ca 1, false), (ca 18, false), (ca 23, false), (ca 8, false), (ca 2, false), (ca 10, false), (ca 12, false), (ca 3, false), (ca 15, false), (ca 4, false), (ca 29, false), (ca 27, false), (ca 24, false), (ca 20, false), (ca 6, false), (ca 30, false), (ca 31, false), (ca 32, true), (ca 28, false), (ca 19, false), (ca 25, false), (ca 33, false)] = true
  is33 : isoB K (ca 33) [(ca 0, false), (ca 1, false), (ca 18, false), (ca 23, false), (ca 8, false), (ca 2, false), (ca 10, false), (ca 12, false), (ca 3, false), (ca 15, false), (ca 4, false), (ca 29, false), (ca 27, false), (ca 24, false), (ca 20, false), (ca 6, false), (ca 30, false), (ca 31, false), (ca 32, false), (ca 28, false), (ca 19, false), (ca 25, false), (ca 33, true)] = true
  isT : isoTB K "ValueError" [(ca 0, true), (ca 1, true), (ca 18, true), (ca 23, true), (ca 8, true), (ca 2, true), (ca 10, true), (ca 12, true), (ca 3, true), (ca 15, true), (ca 4, true), (ca 29, true), (ca 27, true), (ca 24, true), (ca 20, true), (ca 6, true), (ca 30, true), (ca 31, true), (ca 32, true), (ca 28, true), (ca 19, true), (ca 25, true), (ca 33, true)] = true
  ib : isbB K [ca 0, ca 1, ca 18, ca 23, ca 8, ca 2, ca 10, ca 12, ca 3, ca 15, ca 4, ca 29, ca 27, ca 24, ca 20, ca 6, ca 30, ca 31, ca 32, ca 28, ca 19, ca 25, ca 33] = true
  n_ValueError : mg "ValueError" = none
  n_abs : mg "abs" = none
  n_int : mg "int" = none
  n_isinstance : mg "isinstance" = none
  n_len : mg "len" = none
  n_list : mg "list" = none
  n_range : mg "range" = none
  n_repr : mg "repr" = none
structure Al (P : Program) (w : World) (K : PySem.W.Frag) (mg : Str → Option Value) (base : Heap) (fa cc ta : Nat → Addr) (fd : Nat → FuncData) (k : Nat) : Prop where
  o18 : FnG P w K mg base (5 * k) (fa 18) (fd 18) ["_law_script"] (spF (tb K) (calls fs k) 500 1)
  o19 : FnG P w K mg base (5 * k) (fa 19) (fd 19) ["_law_pen_here", "_law_many"] (spF (tb K) (calls fs k) 501 2)
  o20 : FnG P w K mg base (5 * k) (fa 20) (fd 20) ["_law_pen_here", "_law_some"] (spF (tb K) (calls fs k) 502 2)
  o21 : FnG P w K mg base (5 * k) (fa 21) (fd 21) ["_law_pen_here"] (spF (tb K) (calls fs k) 503 1)
  o22 : FnG P w K mg base (5 * k) (fa 22) (fd 22) ["_law_error"] (spF (tb K) (calls fs k) 504 1)
  o23 : FnG P w K mg base (5 * k) (fa 23) (fd 23) ["_law_error"] (spF (tb K) (calls fs k) 505 1)
  o24 : FnG P w K mg base (5 * k) (fa 24) (fd 24) ["_law_thing"] (spF (tb K) (calls fs k) 506 1)
  o25 : FnG P w K mg base (5 * k) (fa 25) (fd 25) ["_law_thing", "_law_more"] (spF (tb K) (calls fs k) 507 2)
  o26 : FnG P w K mg base (5 * k) (fa 26) (fd 26) ["_law_script"] (spF (tb K) (calls fs k) 508 1)
section
variable {P : Program} {w : World} {K : PySem.W.Frag} {mg : Str → Option Value} {base : Heap} {fa ca pa cc ta : Nat → Addr} {fd : Nat → FuncData} {k : Nat}
theorem cnc (T : Tx K mg fa ca pa cc ta fd) {c : Nat} {C : Addr} (h : (tb K).cn c = some C) : (c = 0 ∧ C = ca 0) ∨ (c = 1 ∧ C = ca 1) ∨ (c = 18 ∧ C = ca 18) ∨ (c = 23 ∧ C = ca 23) ∨ (c = 8 ∧ C = ca 8) ∨ (c = 2 ∧ C = ca 2) ∨ (c = 10 ∧ C = ca 10) ∨ (c = 12 ∧ C = ca 12) ∨ (c = 3 ∧ C = ca 3) ∨ (c = 15 ∧ C = ca 15) ∨ (c = 4 ∧ C = ca 4) ∨ (c = 29 ∧ C = ca 29) ∨ (c = 27 ∧ C = ca 27) ∨ (c = 24 ∧ C = ca 24) ∨ (c = 20 ∧ C = ca 20) ∨ (c = 6 ∧ C = ca 6) ∨ (c = 30 ∧ C = ca 30) ∨ (c = 31 ∧ C = ca 31) ∨ (c = 32 ∧ C = ca 32) ∨ (c = 28 ∧ C = ca 28) ∨ (c = 19 ∧ C = ca 19) ∨ (c = 25 ∧ C = ca 25) ∨ (c = 33 ∧ C = ca 33) := by
  have h0 : cnm K c = some C := h
  unfold cnm at h0
  split at h0
  · exact .inl (⟨rfl, Option.some.inj (h.symm.trans T.cn0)⟩)
  · exact .inr (.inl (⟨rfl, Option.some.inj (h.symm.trans T.cn1)⟩))
  · exact .inr (.inr (.inl (⟨rfl, Option.some.inj (h.symm.trans T.cn18)⟩)))
  · exact .inr (.inr (.inr (.inl (⟨rfl, Option.some.inj (h.symm.trans T.cn23)⟩))))
  · exact .inr (.inr (.inr (.inr (.inl (⟨rfl, Option.some.inj (h.symm.trans T.cn8)⟩)))))
  · exact .inr (.inr (.inr (.inr (.inr (.inl (⟨rfl, Option.some.inj (h.symm.trans T.cn2)⟩))))))
  · exact .inr (.inr (.inr (.inr (.inr (.inr (.inl (⟨rfl, Option.some.inj (h.symm.trans T.cn10)⟩)))))))
  · exact .inr (.inr (.inr (.inr (.inr (.inr (.inr (.inl (⟨rfl, Option.some.inj (h.symm.trans T.cn12)⟩))))))))
  · exact .inr (.inr (.inr (.inr (.inr (.inr (.inr (.inr (.inl (⟨rfl, Option.some.inj (h.symm.trans T.cn3)⟩)))))))))
  · exact .inr (.inr (.inr (.inr (.inr (.inr (.inr (.inr (.inr (.inl (⟨rfl, Option.some.inj (h.symm.trans T.cn15)⟩))))))))))
  · exact .inr (.inr (.inr (.inr (.inr (.inr (.inr (.inr (.inr (.inr (.inl (⟨rfl, Option.some.inj (h.symm.trans T.cn4)⟩)))))))))))
  · exact .inr (.inr (.inr (.inr (.inr (.inr (.inr (.inr (.inr (.inr (.inr (.inl (⟨rfl, Option.some.inj (h.symm.trans T.cn29)⟩))))))))))))
  · exact .inr (.inr (.inr (.inr (.inr (.inr (.inr (.inr (.inr (.inr (.inr (.inr (.inl (⟨rfl, Option.some.inj (h.symm.trans T.cn27)⟩)))))))))))))
  · exact .inr (.inr (.inr (.inr (.inr (.inr (.inr (.inr (.inr (.inr (.inr (.inr (.inr (.inl (⟨rfl, Option.some.inj (h.symm.trans T.cn24)⟩))))))))))))))
  · exact .inr (.inr (.inr (.inr (.inr (.inr (.inr (.inr (.inr (.inr (.inr (.inr (.inr (.inr (.inl (⟨rfl, Option.some.inj (h.symm.trans T.cn20)⟩)))))))))))))))
  · exact .inr (.inr (.inr (.inr (.inr (.inr (.inr (.inr (.inr (.inr (.inr (.inr (.inr (.inr (.inr (.inl (⟨rfl, Option.some.inj (h.symm.trans T.cn6)⟩))))))))))))))))
  · exact .inr (.inr (.inr (.inr (.inr (.inr (.inr (.inr (.inr (.inr (.inr (.inr (.inr (.inr (.inr (.inr (.inl (⟨rfl, Option.some.inj (h.symm.trans T.cn30)⟩)))))))))))))))))
  · exact .inr (.inr (.inr (.inr (.inr (.inr (.inr (.inr (.inr (.inr (.inr (.inr (.inr (.inr (.inr (.inr (.inr (.inl (⟨rfl, Option.some.inj (h.symm.trans T.cn31)⟩))))))))))))))))))
  · exact .inr (.inr (.inr (.inr (.inr (.inr (.inr (.inr (.inr (.inr (.inr (.inr (.inr (.inr (.inr (.inr (.inr (.inr (.inl (⟨rfl, Option.some.inj (h.symm.trans T.cn32)⟩)))))))))))))))))))
  · exact .inr (.inr (.inr (.inr (.inr (.inr (.inr (.inr (.inr (.inr (.inr (.inr (.inr (.inr (.inr (.inr (.inr (.inr (.inr (.inl (⟨rfl, Option.some.inj (h.symm.trans T.cn28)⟩))))))))))))))))))))
  · exact .inr (.inr (.inr (.inr (.inr (.inr (.inr (.inr (.inr (.inr (.inr (.inr (.inr (.inr (.inr (.inr (.inr (.inr (.inr (.inr (.inl (⟨rfl, Option.some.inj (h.symm.trans T.cn19)⟩)))))))))))))))))))))
  · exact .inr (.inr (.inr (.inr (.inr (.inr (.inr (.inr (.inr (.inr (.inr (.inr (.inr (.inr (.inr (.inr (.inr (.inr (.inr (.inr (.inr (.inl (⟨rfl, Option.some.inj (h.symm.trans T.cn25)⟩))))))))))))))))))))))
  · exact .inr (.inr (.inr (.inr (.inr (.inr (.inr (.inr (.inr (.inr (.inr (.inr (.inr (.inr (.inr (.inr (.inr (.inr (.inr (.inr (.inr (.inr (⟨rfl, Option.some.inj (h.symm.trans T.cn33)⟩))))))))))))))))))))))
  · cases h0
theorem fld_0 (T : Tx K mg fa ca pa cc ta fd) : FldOk K (tb K) 0 "value" where
  nm := rfl
  inj := fun c j _ _ h => by
    have h0 : fnm j = "value" := h
    unfold fnm at h0
    split at h0 <;> first | rfl | exact absurd h0 (by decide)
  ok := fun c C h hf he => by
    rcases cnc T h with ⟨rfl, rfl⟩ | ⟨rfl, rfl⟩ | ⟨rfl, rfl⟩ | ⟨rfl, rfl⟩ | ⟨rfl, rfl⟩ | ⟨rfl, rfl⟩ | ⟨rfl, rfl⟩ | ⟨rfl, rfl⟩ | ⟨rfl, rfl⟩ | ⟨rfl, rfl⟩ | ⟨rfl, rfl⟩ | ⟨rfl, rfl⟩ | ⟨rfl, rfl⟩ | ⟨rfl, rfl⟩ | ⟨rfl, rfl⟩ | ⟨rfl, rfl⟩ | ⟨rfl, rfl⟩ | ⟨rfl, rfl⟩ | ⟨rfl, rfl⟩ | ⟨rfl, rfl⟩ | ⟨rfl, rfl⟩ | ⟨rfl, rfl⟩ | ⟨rfl, rfl⟩
    · cases (show false = true from hf)
    · cases (show false = true from hf)
    · cases (show false = true from hf)
    · cases (show false = true from hf)
    · cases (show false = true from hf)
    · cases (show true = false from he)
    · cases (show true = false from he)
    · cases (show true = false from he)
    · cases (show false = true from hf)
    · cases (show false = true from hf)
    · cases (show true = false from he)
    · cases (show false = true from hf)
    · cases (show false = true from hf)
    · cases (show true = false from he)
    · cases (show false = true from hf)
    · cases (show false = true from hf)
    · cases (show false = true from hf)
    · cases (show false = true from hf)
    · cases (show false = true from hf)
    · cases (show false = true from hf)
    · cases (show false = true from hf)
    · cases (show false = true from hf)
    · cases (show false = true from hf)
  ex := fun c C h hf he => by
    rcases cnc T h with ⟨rfl, rfl⟩ | ⟨rfl, rfl⟩ | ⟨rfl, rfl⟩ | ⟨rfl, rfl⟩ | ⟨rfl, rfl⟩ | ⟨rfl, rfl⟩ | ⟨rfl, rfl⟩ | ⟨rfl, rfl⟩ | ⟨rfl, rfl⟩ | ⟨rfl, rfl⟩ | ⟨rfl, rfl⟩ | ⟨rfl, rfl⟩ | ⟨rfl, rfl⟩ | ⟨rfl, rfl⟩ | ⟨rfl, rfl⟩ | ⟨rfl, rfl⟩ | ⟨rfl, rfl⟩ | ⟨rfl, rfl⟩ | ⟨rfl, rfl⟩ | ⟨rfl, rfl⟩ | ⟨rfl, rfl⟩ | ⟨rfl, rfl⟩ | ⟨rfl, rfl⟩
    · cases (show false = true from hf)
    · cases (show false = true from hf)
    · cases (show false = true from hf)
    · cases (show false = true from hf)
    · cases (show false = true from hf)
    · exact ⟨T.xr2, T.na2 _ (by decide)⟩
    · exact ⟨T.xr10, T.na10 _ (by decide)⟩
    · exact ⟨T.xr12, T.na12 _ (by decide)⟩
    · cases (show false = true from hf)
    · cases (show false = true from hf)
    · exact ⟨T.xr4, T.na4 _ (by decide)⟩
    · cases (show false = true from hf)
    · cases (show false = true from hf)
    · exact ⟨T.xr24, T.na24 _ (by decide)⟩
    · cases (show false = true from hf)
    · cases (show false = true from hf)
    · cases (show false = true from hf)
    · cases (show false = true from hf)
    · cases (show false = true from hf)
    · cases (show false = true from hf)
    · cases (show false = true from hf)
    · cases (show false = true from hf)
    · cases (show false = true from hf)
theorem fld_1 (T : Tx K mg fa ca pa cc ta fd) : FldOk K (tb K) 1 "part" where
  nm := rfl
  inj := fun c j _ _ h => by
    have h0 : fnm j = "part" := h
    unfold fnm at h0
    split at h0 <;> first | rfl | exact absurd h0 (by decide)
  ok := fun c C h hf he => by
    rcases cnc T h with ⟨rfl, rfl⟩ | ⟨rfl, rfl⟩ | ⟨rfl, rfl⟩ | ⟨rfl, rfl⟩ | ⟨rfl, rfl⟩ | ⟨rfl, rfl⟩ | ⟨rfl, rfl⟩ | ⟨rfl, rfl⟩ | ⟨rfl, rfl⟩ | ⟨rfl, rfl⟩ | ⟨rfl, rfl⟩ | ⟨rfl, rfl⟩ | ⟨rfl, rfl⟩ | ⟨rfl, rfl⟩ | ⟨rfl, rfl⟩ | ⟨rfl, rfl⟩ | ⟨rfl, rfl⟩ | ⟨rfl, rfl⟩ | ⟨rfl, rfl⟩ | ⟨rfl, rfl⟩ | ⟨rfl, rfl⟩ | ⟨rfl, rfl⟩ | ⟨rfl, rfl⟩
    · cases (show false = true from hf)
    · cases (show false = true from hf)
    · cases (show false = true from hf)
    · cases (show false = true from hf)
    · cases (show true = false from he)
    · cases (show false = true from hf)
    · cases (show false = true from hf)
    · cases (show false = true from hf)
    · cases (show true = false from he)
    · cases (show true = false from he)
    · cases (show false = true from hf)
    · cases (show true = false from he)
    · cases (show true = false from he)
    · cases (show false = true from hf)
    · cases (show true = false from he)
    · cases (show false = true from hf)
    · cases (show false = true from hf)
    · cases (show false = true from hf)
    · cases (show true = false from he)
    · cases (show false = true from hf)
    · cases (show false = true from hf)
    · cases (show false = true from hf)
    · cases (show false = true from hf)
  ex := fun c C h hf he => by
    rcases cnc T h with ⟨rfl, rfl⟩ | ⟨rfl, rfl⟩ | ⟨rfl, rfl⟩ | ⟨rfl, rfl⟩ | ⟨rfl, rfl⟩ | ⟨rfl, rfl⟩ | ⟨rfl, rfl⟩ | ⟨rfl, rfl⟩ | ⟨rfl, rfl⟩ | ⟨rfl, rfl⟩ | ⟨rfl, rfl⟩ | ⟨rfl, rfl⟩ | ⟨rfl, rfl⟩ | ⟨rfl, rfl⟩ | ⟨rfl, rfl⟩ | ⟨rfl, rfl⟩ | ⟨rfl, rfl⟩ | ⟨rfl, rfl⟩ | ⟨rfl, rfl⟩ | ⟨rfl, rfl⟩ | ⟨rfl, rfl⟩ | ⟨rfl, rfl⟩ | ⟨rfl, rfl⟩
    · cases (show false = true from hf)
    · cases (show false = true from hf)
    · cases (show false = true from hf)
    · cases (show false = true from hf)
    · exact ⟨T.xr8, T.na8 _ (by decide)⟩
    · cases (show false = true from hf)
    · cases (show false = true from hf)
    · cases (show false = true from hf)
    · exact ⟨T.xr3, T.na3 _ (by decide)⟩
    · exact ⟨T.xr15, T.na15 _ (by decide)⟩
    · cases (show false = true from hf)
    · exact ⟨T.xr29, T.na29 _ (by decide)⟩
    · exact ⟨T.xr27, T.na27 _ (by decide)⟩
    · cases (show false = true from hf)
    · exact ⟨T.xr20, T.na20 _ (by decide)⟩
    · cases (show false = true from hf)
    · cases (show false = true from hf)
    · cases (show false = true from hf)
    · exact ⟨T.xr32, T.na32 _ (by decide)⟩
    · cases (show false = true from hf)
    · cases (show false = true from hf)
    · cases (show false = true from hf)
    · cases (show false = true from hf)
theorem fld_6 (T : Tx K mg fa ca pa cc ta fd) : FldOk K (tb K) 6 "line" where
  nm := rfl
  inj := fun c j _ _ h => by
    have h0 : fnm j = "line" := h
    unfold fnm at h0
    split at h0 <;> first | rfl | exact absurd h0 (by decide)
  ok := fun c C h hf he => by
    rcases cnc T h with ⟨rfl, rfl⟩ | ⟨rfl, rfl⟩ | ⟨rfl, rfl⟩ | ⟨rfl, rfl⟩ | ⟨rfl, rfl⟩ | ⟨rfl, rfl⟩ | ⟨rfl, rfl⟩ | ⟨rfl, rfl⟩ | ⟨rfl, rfl⟩ | ⟨rfl, rfl⟩ | ⟨rfl, rfl⟩ | ⟨rfl, rfl⟩ | ⟨rfl, rfl⟩ | ⟨rfl, rfl⟩ | ⟨rfl, rfl⟩ | ⟨rfl, rfl⟩ | ⟨rfl, rfl⟩ | ⟨rfl, rfl⟩ | ⟨rfl, rfl⟩ | ⟨rfl, rfl⟩ | ⟨rfl, rfl⟩ | ⟨rfl, rfl⟩ | ⟨rfl, rfl⟩
    · cases (show false = true from hf)
    · cases (show false = true from hf)
    · cases (show false = true from hf)
    · cases (show false = true from hf)
    · cases (show false = true from hf)
    · cases (show false = true from hf)
    · cases (show false = true from hf)
    · cases (show false = true from hf)
    · cases (show false = true from hf)
    · cases (show false = true from hf)
    · cases (show false = true from hf)
    · cases (show false = true from hf)
    · cases (show false = true from hf)
    · cases (show false = true from hf)
    · cases (show false = true from hf)
    · cases (show true = false from he)
    · cases (show false = true from hf)
    · cases (show false = true from hf)
    · cases (show false = true from hf)
    · cases (show false = true from hf)
    · cases (show false = true from hf)
    · cases (show false = true from hf)
    · cases (show false = true from hf)
  ex := fun c C h hf he => by
    rcases cnc T h with ⟨rfl, rfl⟩ | ⟨rfl, rfl⟩ | ⟨rfl, rfl⟩ | ⟨rfl, rfl⟩ | ⟨rfl, rfl⟩ | ⟨rfl, rfl⟩ | ⟨rfl, rfl⟩ | ⟨rfl, rfl⟩ | ⟨rfl, rfl⟩ | ⟨rfl, rfl⟩ | ⟨rfl, rfl⟩ | ⟨rfl, rfl⟩ | ⟨rfl, rfl⟩ | ⟨rfl, rfl⟩ | ⟨rfl, rfl⟩ | ⟨rfl, rfl⟩ | ⟨rfl, rfl⟩ | ⟨rfl, rfl⟩ | ⟨rfl, rfl⟩ | ⟨rfl, rfl⟩ | ⟨rfl, rfl⟩ | ⟨rfl, rfl⟩ | ⟨rfl, rfl⟩
    · cases (show false = true from hf)
    · cases (show false = true from hf)
    · cases (show false = true from hf)
    · cases (show false = true from hf)
    · cases (show false = true from hf)
    · cases (show false = true from hf)
    · cases (show false = true from hf)
    · cases (show false = true from hf)
    · cases (show false = true from hf)
    · cases (show false = true from hf)
    · cases (show false = true from hf)
    · cases (show false = true from hf)
    · cases (show false = true from hf)
    · cases (show false = true from hf)
    · cases (show false = true from hf)
    · exact ⟨T.xr6, T.na6 _ (by decide)⟩
    · cases (show false = true from hf)
    · cases (show false = true from hf)
    · cases (show false = true from hf)
    · cases (show false = true from hf)
    · cases (show false = true from hf)
    · cases (show false = true from hf)
    · cases (show false = true from hf)
theorem fld_7 (T : Tx K mg fa ca pa cc ta fd) : FldOk K (tb K) 7 "word" where
  nm := rfl
  inj := fun c j _ _ h => by
    have h0 : fnm j = "word" := h
    unfold fnm at h0
    split at h0 <;> first | rfl | exact absurd h0 (by decide)
  ok := fun c C h hf he => by
    rcases cnc T h with ⟨rfl, rfl⟩ | ⟨rfl, rfl⟩ | ⟨rfl, rfl⟩ | ⟨rfl, rfl⟩ | ⟨rfl, rfl⟩ | ⟨rfl, rfl⟩ | ⟨rfl, rfl⟩ | ⟨rfl, rfl⟩ | ⟨rfl, rfl⟩ | ⟨rfl, rfl⟩ | ⟨rfl, rfl⟩ | ⟨rfl, rfl⟩ | ⟨rfl, rfl⟩ | ⟨rfl, rfl⟩ | ⟨rfl, rfl⟩ | ⟨rfl, rfl⟩ | ⟨rfl, rfl⟩ | ⟨rfl, rfl⟩ | ⟨rfl, rfl⟩ | ⟨rfl, rfl⟩ | ⟨rfl, rfl⟩ | ⟨rfl, rfl⟩ | ⟨rfl, rfl⟩
    · cases (show false = true from hf)
    · cases (show false = true from hf)
    · cases (show false = true from hf)
    · cases (show false = true from hf)
    · cases (show false = true from hf)
    · cases (show false = true from hf)
    · cases (show false = true from hf)
    · cases (show false = true from hf)
    · cases (show false = true from hf)
    · cases (show false = true from hf)
    · cases (show false = true from hf)
    · cases (show false = true from hf)
    · cases (show false = true from hf)
    · cases (show false = true from hf)
    · cases (show false = true from hf)
    · cases (show true = false from he)
    · cases (show true = false from he)
    · cases (show false = true from hf)
    · cases (show false = true from hf)
    · cases (show false = true from hf)
    · cases (show false = true from hf)
    · cases (show false = true from hf)
    · cases (show false = true from hf)
  ex := fun c C h hf he => by
    rcases cnc T h with ⟨rfl, rfl⟩ | ⟨rfl, rfl⟩ | ⟨rfl, rfl⟩ | ⟨rfl, rfl⟩ | ⟨rfl, rfl⟩ | ⟨rfl, rfl⟩ | ⟨rfl, rfl⟩ | ⟨rfl, rfl⟩ | ⟨rfl, rfl⟩ | ⟨rfl, rfl⟩ | ⟨rfl, rfl⟩ | ⟨rfl, rfl⟩ | ⟨rfl, rfl⟩ | ⟨rfl, rfl⟩ | ⟨rfl, rfl⟩ | ⟨rfl, rfl⟩ | ⟨rfl, rfl⟩ | ⟨rfl, rfl⟩ | ⟨rfl, rfl⟩ | ⟨rfl, rfl⟩ | ⟨rfl, rfl⟩ | ⟨rfl, rfl⟩ | ⟨rfl, rfl⟩
    · cases (show false = true from hf)
    · cases (show false = true from hf)
    · cases (show false = true from hf)
    · cases (show false = true from hf)
    · cases (show false = true from hf)
    · cases (show false = true from hf)
    · cases (show false = true from hf)
    · cases (show false = true from hf)
    · cases (show false = true from hf)
    · cases (show false = true from hf)
    · cases (show false = true from hf)
    · cases (show false = true from hf)
    · cases (show false = true from hf)
    · cases (show false = true from hf)
    · cases (show false = true from hf)
    · exact ⟨T.xr6, T.na6 _ (by decide)⟩
    · exact ⟨T.xr30, T.na30 _ (by decide)⟩
    · cases (show false = true from hf)
    · cases (show false = true from hf)
    · cases (show false = true from hf)
    · cases (show false = true from hf)
    · cases (show false = true from hf)
    · cases (show false = true from hf)
theorem fld_10 (T : Tx K mg fa ca pa cc ta fd) : FldOk K (tb K) 10 "level" where
  nm := rfl
  inj := fun c j _ _ h => by
    have h0 : fnm j = "level" := h
    unfold fnm at h0
    split at h0 <;> first | rfl | exact absurd h0 (by decide)
  ok := fun c C h hf he => by
    rcases cnc T h with ⟨rfl, rfl⟩ | ⟨rfl, rfl⟩ | ⟨rfl, rfl⟩ | ⟨rfl, rfl⟩ | ⟨rfl, rfl⟩ | ⟨rfl, rfl⟩ | ⟨rfl, rfl⟩ | ⟨rfl, rfl⟩ | ⟨rfl, rfl⟩ | ⟨rfl, rfl⟩ | ⟨rfl, rfl⟩ | ⟨rfl, rfl⟩ | ⟨rfl, rfl⟩ | ⟨rfl, rfl⟩ | ⟨rfl, rfl⟩ | ⟨rfl, rfl⟩ | ⟨rfl, rfl⟩ | ⟨rfl, rfl⟩ | ⟨rfl, rfl⟩ | ⟨rfl, rfl⟩ | ⟨rfl, rfl⟩ | ⟨rfl, rfl⟩ | ⟨rfl, rfl⟩
    · cases (show false = true from hf)
    · cases (show false = true from hf)
    · cases (show false = true from hf)
    · cases (show false = true from hf)
    · cases (show false = true from hf)
    · cases (show false = true from hf)
    · cases (show false = true from hf)
    · cases (show false = true from hf)
    · cases (show false = true from hf)
    · cases (show false = true from hf)
    · cases (show false = true from hf)
    · cases (show false = true from hf)
    · cases (show false = true from hf)
    · cases (show false = true from hf)
    · cases (show false = true from hf)
    · cases (show false = true from hf)
    · cases (show false = true from hf)
    · cases (show true = false from he)
    · cases (show false = true from hf)
    · cases (show false = true from hf)
    · cases (show false = true from hf)
    · cases (show false = true from hf)
    · cases (show false = true from hf)
  ex := fun c C h hf he => by
    rcases cnc T h with ⟨rfl, rfl⟩ | ⟨rfl, rfl⟩ | ⟨rfl, rfl⟩ | ⟨rfl, rfl⟩ | ⟨rfl, rfl⟩ | ⟨rfl, rfl⟩ | ⟨rfl, rfl⟩ | ⟨rfl, rfl⟩ | ⟨rfl, rfl⟩ | ⟨rfl, rfl⟩ | ⟨rfl, rfl⟩ | ⟨rfl, rfl⟩ | ⟨rfl, rfl⟩ | ⟨rfl, rfl⟩ | ⟨rfl, rfl⟩ | ⟨rfl, rfl⟩ | ⟨rfl, rfl⟩ | ⟨rfl, rfl⟩ | ⟨rfl, rfl⟩ | ⟨rfl, rfl⟩ | ⟨rfl, rfl⟩ | ⟨rfl, rfl⟩ | ⟨rfl, rfl⟩
    · cases (show false = true from hf)
    · cases (show false = true from hf)
    · cases (show false = true from hf)
    · cases (show false = true from hf)
    · cases (show false = true from hf)
    · cases (show false = true from hf)
    · cases (show false = true from hf)
    · cases (show false = true from hf)
    · cases (show false = true from hf)
    · cases (show false = true from hf)
    · cases (show false = true from hf)
    · cases (show false = true from hf)
    · cases (show false = true from hf)
    · cases (show false = true from hf)
    · cases (show false = true from hf)
    · cases (show false = true from hf)
    · cases (show false = true from hf)
    · exact ⟨T.xr31, T.na31 _ (by decide)⟩
    · cases (show false = true from hf)
    · cases (show false = true from hf)
    · cases (show false = true from hf)
    · cases (show false = true from hf)
    · cases (show false = true from hf)
theorem fld_12 (T : Tx K mg fa ca pa cc ta fd) : FldOk K (tb K) 12 "key" where
  nm := rfl
  inj := fun c j _ _ h => by
    have h0 : fnm j = "key" := h
    unfold fnm at h0
    split at h0 <;> first | rfl | exact absurd h0 (by decide)
  ok := fun c C h hf he => by
    rcases cnc T h with ⟨rfl, rfl⟩ | ⟨rfl, rfl⟩ | ⟨rfl, rfl⟩ | ⟨rfl, rfl⟩ | ⟨rfl, rfl⟩ | ⟨rfl, rfl⟩ | ⟨rfl, rfl⟩ | ⟨rfl, rfl⟩ | ⟨rfl, rfl⟩ | ⟨rfl, rfl⟩ | ⟨rfl, rfl⟩ | ⟨rfl, rfl⟩ | ⟨rfl, rfl⟩ | ⟨rfl, rfl⟩ | ⟨rfl, rfl⟩ | ⟨rfl, rfl⟩ | ⟨rfl, rfl⟩ | ⟨rfl, rfl⟩ | ⟨rfl, rfl⟩ | ⟨rfl, rfl⟩ | ⟨rfl, rfl⟩ | ⟨rfl, rfl⟩ | ⟨rfl, rfl⟩
    · cases (show false = true from hf)
    · cases (show false = true from hf)
    · cases (show false = true from hf)
    · cases (show false = true from hf)
    · cases (show false = true from hf)
    · cases (show false = true from hf)
    · cases (show false = true from hf)
    · cases (show false = true from hf)
    · cases (show false = true from hf)
    · cases (show false = true from hf)
    · cases (show false = true from hf)
    · cases (show false = true from hf)
    · cases (show false = true from hf)
    · cases (show false = true from hf)
    · cases (show false = true from hf)
    · cases (show false = true from hf)
    · cases (show false = true from hf)
    · cases (show true = false from he)
    · cases (show false = true from hf)
    · cases (show false = true from hf)
    · cases (show false = true from hf)
    · cases (show false = true from hf)
    · cases (show false = true from hf)
  ex := fun c C h hf he => by
    rcases cnc T h with ⟨rfl, rfl⟩ | ⟨rfl, rfl⟩ | ⟨rfl, rfl⟩ | ⟨rfl, rfl⟩ | ⟨rfl, rfl⟩ | ⟨rfl, rfl⟩ | ⟨rfl, rfl⟩ | ⟨rfl, rfl⟩ | ⟨rfl, rfl⟩ | ⟨rfl, rfl⟩ | ⟨rfl, rfl⟩ | ⟨rfl, rfl⟩ | ⟨rfl, rfl⟩ | ⟨rfl, rfl⟩ | ⟨rfl, rfl⟩ | ⟨rfl, rfl⟩ | ⟨rfl, rfl⟩ | ⟨rfl, rfl⟩ | ⟨rfl, rfl⟩ | ⟨rfl, rfl⟩ | ⟨rfl, rfl⟩ | ⟨rfl, rfl⟩ | ⟨rfl, rfl⟩
    · cases (show false = true from hf)
    · cases (show false = true from hf)
    · cases (show false = true from hf)
    · cases (show false = true from hf)
    · cases (show false = true from hf)
    · cases (show false = true from hf)
    · cases (show false = true from hf)
    · cases (show false = true from hf)
    · cases (show false = true from hf)
    · cases (show false = true from hf)
    · cases (show false = true from hf)
    · cases (show false = true from hf)
    · cases (show false = true from hf)
    · cases (show false = true from hf)
    · cases (show false = true from hf)
    · cases (show false = true from hf)
    · cases (show false = true from hf)
    · exact ⟨T.xr31, T.na31 _ (by decide)⟩
    · cases (show false = true from hf)
    · cases (show false = true from hf)
    · cases (show false = true from hf)
    · cases (show false = true from hf)
    · cases (show false = true from hf)
theorem fld_19 (T : Tx K mg fa ca pa cc ta fd) : FldOk K (tb K) 19 "what" where
  nm := rfl
  inj := fun c j _ _ h => by
    have h0 : fnm j = "what" := h
    unfold fnm at h0
    split at h0 <;> first | rfl | exact absurd h0 (by decide)
  ok := fun c C h hf he => by
    rcases cnc T h with ⟨rfl, rfl⟩ | ⟨rfl, rfl⟩ | ⟨rfl, rfl⟩ | ⟨rfl, rfl⟩ | ⟨rfl, rfl⟩ | ⟨rfl, rfl⟩ | ⟨rfl, rfl⟩ | ⟨rfl, rfl⟩ | ⟨rfl, rfl⟩ | ⟨rfl, rfl⟩ | ⟨rfl, rfl⟩ | ⟨rfl, rfl⟩ | ⟨rfl, rfl⟩ | ⟨rfl, rfl⟩ | ⟨rfl, rfl⟩ | ⟨rfl, rfl⟩ | ⟨rfl, rfl⟩ | ⟨rfl, rfl⟩ | ⟨rfl, rfl⟩ | ⟨rfl, rfl⟩ | ⟨rfl, rfl⟩ | ⟨rfl, rfl⟩ | ⟨rfl, rfl⟩
    · cases (show false = true from hf)
    · cases (show false = true from hf)
    · cases (show false = true from hf)
    · cases (show false = true from hf)
    · cases (show false = true from hf)
    · cases (show false = true from hf)
    · cases (show false = true from hf)
    · cases (show false = true from hf)
    · cases (show false = true from hf)
    · cases (show false = true from hf)
    · cases (show false = true from hf)
    · cases (show false = true from hf)
    · cases (show false = true from hf)
    · cases (show false = true from hf)
    · cases (show false = true from hf)
    · cases (show false = true from hf)
    · cases (show false = true from hf)
    · cases (show false = true from hf)
    · cases (show false = true from hf)
    · cases (show false = true from hf)
    · cases (show true = false from he)
    · cases (show false = true from hf)
    · cases (show false = true from hf)
  ex := fun c C h hf he => by
    rcases cnc T h with ⟨rfl, rfl⟩ | ⟨rfl, rfl⟩ | ⟨rfl, rfl⟩ | ⟨rfl, rfl⟩ | ⟨rfl, rfl⟩ | ⟨rfl, rfl⟩ | ⟨rfl, rfl⟩ | ⟨rfl, rfl⟩ | ⟨rfl, rfl⟩ | ⟨rfl, rfl⟩ | ⟨rfl, rfl⟩ | ⟨rfl, rfl⟩ | ⟨rfl, rfl⟩ | ⟨rfl, rfl⟩ | ⟨rfl, rfl⟩ | ⟨rfl, rfl⟩ | ⟨rfl, rfl⟩ | ⟨rfl, rfl⟩ | ⟨rfl, rfl⟩ | ⟨rfl, rfl⟩ | ⟨rfl, rfl⟩ | ⟨rfl, rfl⟩ | ⟨rfl, rfl⟩
    · cases (show false = true from hf)
    · cases (show false = true from hf)
    · cases (show false = true from hf)
    · cases (show false = true from hf)
    · cases (show false = true from hf)
    · cases (show false = true from hf)
    · cases (show false = true from hf)
    · cases (show false = true from hf)
    · cases (show false = true from hf)
    · cases (show false = true from hf)
    · cases (show false = true from hf)
    · cases (show false = true from hf)
    · cases (show false = true from hf)
    · cases (show false = true from hf)
    · cases (show false = true from hf)
    · cases (show false = true from hf)
    · cases (show false = true from hf)
    · cases (show false = true from hf)
    · cases (show false = true from hf)
    · cases (show false = true from hf)
    · exact ⟨T.xr19, T.na19 _ (by decide)⟩
    · cases (show false = true from hf)
    · cases (show false = true from hf)
theorem fld_20 (T : Tx K mg fa ca pa cc ta fd) : FldOk K (tb K) 20 "most" where
  nm := rfl
  inj := fun c j _ _ h => by
    have h0 : fnm j = "most" := h
    unfold fnm at h0
    split at h0 <;> first | rfl | exact absurd h0 (by decide)
  ok := fun c C h hf he => by
    rcases cnc T h with ⟨rfl, rfl⟩ | ⟨rfl, rfl⟩ | ⟨rfl, rfl⟩ | ⟨rfl, rfl⟩ | ⟨rfl, rfl⟩ | ⟨rfl, rfl⟩ | ⟨rfl, rfl⟩ | ⟨rfl, rfl⟩ | ⟨rfl, rfl⟩ | ⟨rfl, rfl⟩ | ⟨rfl, rfl⟩ | ⟨rfl, rfl⟩ | ⟨rfl, rfl⟩ | ⟨rfl, rfl⟩ | ⟨rfl, rfl⟩ | ⟨rfl, rfl⟩ | ⟨rfl, rfl⟩ | ⟨rfl, rfl⟩ | ⟨rfl, rfl⟩ | ⟨rfl, rfl⟩ | ⟨rfl, rfl⟩ | ⟨rfl, rfl⟩ | ⟨rfl, rfl⟩
    · cases (show false = true from hf)
    · cases (show false = true from hf)
    · cases (show false = true from hf)
    · cases (show false = true from hf)
    · cases (show false = true from hf)
    · cases (show false = true from hf)
    · cases (show false = true from hf)
    · cases (show false = true from hf)
    · cases (show false = true from hf)
    · cases (show false = true from hf)
    · cases (show false = true from hf)
    · cases (show false = true from hf)
    · cases (show false = true from hf)
    · cases (show false = true from hf)
    · cases (show false = true from hf)
    · cases (show false = true from hf)
    · cases (show false = true from hf)
    · cases (show false = true from hf)
    · cases (show false = true from hf)
    · cases (show false = true from hf)
    · cases (show true = false from he)
    · cases (show false = true from hf)
    · cases (show false = true from hf)
  ex := fun c C h hf he => by
    rcases cnc T h with ⟨rfl, rfl⟩ | ⟨rfl, rfl⟩ | ⟨rfl, rfl⟩ | ⟨rfl, rfl⟩ | ⟨rfl, rfl⟩ | ⟨rfl, rfl⟩ | ⟨rfl, rfl⟩ | ⟨rfl, rfl⟩ | ⟨rfl, rfl⟩ | ⟨rfl, rfl⟩ | ⟨rfl, rfl⟩ | ⟨rfl, rfl⟩ | ⟨rfl, rfl⟩ | ⟨rfl, rfl⟩ | ⟨rfl, rfl⟩ | ⟨rfl, rfl⟩ | ⟨rfl, rfl⟩ | ⟨rfl, rfl⟩ | ⟨rfl, rfl⟩ | ⟨rfl, rfl⟩ | ⟨rfl, rfl⟩ | ⟨rfl, rfl⟩ | ⟨rfl, rfl⟩
    · cases (show false = true from hf)
    · cases (show false = true from hf)
    · cases (show false = true from hf)
    · cases (show false = true from hf)
    · cases (show false = true from hf)
    · cases (show false = true from hf)
    · cases (show false = true from hf)
    · cases (show false = true from hf)
    · cases (show false = true from hf)
    · cases (show false = true from hf)
    · cases (show false = true from hf)
    · cases (show false = true from hf)
    · cases (show false = true from hf)
    · cases (show false = true from hf)
    · cases (show false = true from hf)
    · cases (show false = true from hf)
    · cases (show false = true from hf)
    · cases (show false = true from hf)
    · cases (show false = true from hf)
    · cases (show false = true from hf)
    · exact ⟨T.xr19, T.na19 _ (by decide)⟩
    · cases (show false = true from hf)
    · cases (show false = true from hf)
theorem fld_24 (T : Tx K mg fa ca pa cc ta fd) : FldOk K (tb K) 24 "place" where
  nm := rfl
  inj := fun c j _ _ h => by
    have h0 : fnm j = "place" := h
    unfold fnm at h0
    split at h0 <;> first | rfl | exact absurd h0 (by decide)
  ok := fun c C h hf he => by
    rcases cnc T h with ⟨rfl, rfl⟩ | ⟨rfl, rfl⟩ | ⟨rfl, rfl⟩ | ⟨rfl, rfl⟩ | ⟨rfl, rfl⟩ | ⟨rfl, rfl⟩ | ⟨rfl, rfl⟩ | ⟨rfl, rfl⟩ | ⟨rfl, rfl⟩ | ⟨rfl, rfl⟩ | ⟨rfl, rfl⟩ | ⟨rfl, rfl⟩ | ⟨rfl, rfl⟩ | ⟨rfl, rfl⟩ | ⟨rfl, rfl⟩ | ⟨rfl, rfl⟩ | ⟨rfl, rfl⟩ | ⟨rfl, rfl⟩ | ⟨rfl, rfl⟩ | ⟨rfl, rfl⟩ | ⟨rfl, rfl⟩ | ⟨rfl, rfl⟩ | ⟨rfl, rfl⟩
    · cases (show false = true from hf)
    · cases (show false = true from hf)
    · cases (show false = true from hf)
    · cases (show false = true from hf)
    · cases (show false = true from hf)
    · cases (show false = true from hf)
    · cases (show false = true from hf)
    · cases (show false = true from hf)
    · cases (show false = true from hf)
    · cases (show false = true from hf)
    · cases (show false = true from hf)
    · cases (show false = true from hf)
    · cases (show false = true from hf)
    · cases (show false = true from hf)
    · cases (show false = true from hf)
    · cases (show false = true from hf)
    · cases (show false = true from hf)
    · cases (show false = true from hf)
    · cases (show false = true from hf)
    · cases (show true = false from he)
    · cases (show false = true from hf)
    · cases (show true = false from he)
    · cases (show false = true from hf)
  ex := fun c C h hf he => by
    rcases cnc T h with ⟨rfl, rfl⟩ | ⟨rfl, rfl⟩ | ⟨rfl, rfl⟩ | ⟨rfl, rfl⟩ | ⟨rfl, rfl⟩ | ⟨rfl, rfl⟩ | ⟨rfl, rfl⟩ | ⟨rfl, rfl⟩ | ⟨rfl, rfl⟩ | ⟨rfl, rfl⟩ | ⟨rfl, rfl⟩ | ⟨rfl, rfl⟩ | ⟨rfl, rfl⟩ | ⟨rfl, rfl⟩ | ⟨rfl, rfl⟩ | ⟨rfl, rfl⟩ | ⟨rfl, rfl⟩ | ⟨rfl, rfl⟩ | ⟨rfl, rfl⟩ | ⟨rfl, rfl⟩ | ⟨rfl, rfl⟩ | ⟨rfl, rfl⟩ | ⟨rfl, rfl⟩
    · cases (show false = true from hf)
    · cases (show false = true from hf)
    · cases (show false = true from hf)
    · cases (show false = true from hf)
    · cases (show false = true from hf)
    · cases (show false = true from hf)
    · cases (show false = true from hf)
    · cases (show false = true from hf)
    · cases (show false = true from hf)
    · cases (show false = true from hf)
    · cases (show false = true from hf)
    · cases (show false = true from hf)
    · cases (show false = true from hf)
    · cases (show false = true from hf)
    · cases (show false = true from hf)
    · cases (show false = true from hf)
    · cases (show false = true from hf)
    · cases (show false = true from hf)
    · cases (show false = true from hf)
    · exact ⟨T.xr28, T.na28 _ (by decide)⟩
    · cases (show false = true from hf)
    · exact ⟨T.xr25, T.na25 _ (by decide)⟩
    · cases (show false = true from hf)
theorem iso_0 (T : Tx K mg fa ca pa cc ta fd) {X : Cx} (e : X.K = K) : IsO X (tb K) [0, 1, 18, 23, 8, 2, 10, 12, 3, 15, 4, 29, 27, 24, 20, 6, 30, 31, 32, 28, 19, 25, 33] (.ref (ca 0)) := by
  subst e
  refine iso_of T.is0 fun c C h => ?_
  rcases cnc T h with ⟨rfl, rfl⟩ | ⟨rfl, rfl⟩ | ⟨rfl, rfl⟩ | ⟨rfl, rfl⟩ | ⟨rfl, rfl⟩ | ⟨rfl, rfl⟩ | ⟨rfl, rfl⟩ | ⟨rfl, rfl⟩ | ⟨rfl, rfl⟩ | ⟨rfl, rfl⟩ | ⟨rfl, rfl⟩ | ⟨rfl, rfl⟩ | ⟨rfl, rfl⟩ | ⟨rfl, rfl⟩ | ⟨rfl, rfl⟩ | ⟨rfl, rfl⟩ | ⟨rfl, rfl⟩ | ⟨rfl, rfl⟩ | ⟨rfl, rfl⟩ | ⟨rfl, rfl⟩ | ⟨rfl, rfl⟩ | ⟨rfl, rfl⟩ | ⟨rfl, rfl⟩
  · exact ⟨by simp, fun _ => T.xe0, fun z => (by cases (show true = false from z))⟩
  · exact ⟨by simp, fun _ => T.xe1, fun z => (by cases (show true = false from z))⟩
  · exact ⟨by simp, fun _ => T.xe18, fun z => (by cases (show true = false from z))⟩
  · exact ⟨by simp, fun _ => T.xe23, fun z => (by cases (show true = false from z))⟩
  · exact ⟨by simp, fun _ => T.xe8, fun z => (by cases (show true = false from z))⟩
  · exact ⟨by simp, fun _ => T.xe2, fun z => (by cases (show true = false from z))⟩
  · exact ⟨by simp, fun _ => T.xe10, fun z => (by cases (show true = false from z))⟩
  · exact ⟨by simp, fun _ => T.xe12, fun z => (by cases (show true = false from z))⟩
  · exact ⟨by simp, fun _ => T.xe3, fun z => (by cases (show true = false from z))⟩
  · exact ⟨by simp, fun _ => T.xe15, fun z => (by cases (show true = false from z))⟩
  · exact ⟨by simp, fun _ => T.xe4, fun z => (by cases (show true = false from z))⟩
  · exact ⟨by simp, fun _ => T.xe29, fun z => (by cases (show true = false from z))⟩
  · exact ⟨by simp, fun _ => T.xe27, fun z => (by cases (show true = false from z))⟩
  · exact ⟨by simp, fun _ => T.xe24, fun z => (by cases (show true = false from z))⟩
  · exact ⟨by simp, fun _ => T.xe20, fun z => (by cases (show true = false from z))⟩
  · exact ⟨by simp, fun _ => T.xe6, fun z => (by cases (show true = false from z))⟩
  · exact ⟨by simp, fun _ => T.xe30, fun z => (by cases (show true = false from z))⟩
  · exact ⟨by simp, fun _ => T.xe31, fun z => (by cases (show true = false from z))⟩
  · exact ⟨by simp, fun _ => T.xe32, fun z => (by cases (show true = false from z))⟩
  · exact ⟨by simp, fun _ => T.xe28, fun z => (by cases (show true = false from z))⟩
  · exact ⟨by simp, fun _ => T.xe19, fun z => (by cases (show true = false from z))⟩
  · exact ⟨by simp, fun _ => T.xe25, fun z => (by cases (show true = false from z))⟩
  · exact ⟨by simp, fun _ => T.xe33, fun z => (by cases (show true = false from z))⟩
theorem iso_1 (T : Tx K mg fa ca pa cc ta fd) {X : Cx} (e : X.K = K) : IsO X (tb K) [1, 8, 2, 10, 12, 3, 15, 4, 29, 27, 24, 20, 6, 30] (.ref (ca 1)) := by
  subst e
  refine iso_of T.is1 fun c C h => ?_
  rcases cnc T h with ⟨rfl, rfl⟩ | ⟨rfl, rfl⟩ | ⟨rfl, rfl⟩ | ⟨rfl, rfl⟩ | ⟨rfl, rfl⟩ | ⟨rfl, rfl⟩ | ⟨rfl, rfl⟩ | ⟨rfl, rfl⟩ | ⟨rfl, rfl⟩ | ⟨rfl, rfl⟩ | ⟨rfl, rfl⟩ | ⟨rfl, rfl⟩ | ⟨rfl, rfl⟩ | ⟨rfl, rfl⟩ | ⟨rfl, rfl⟩ | ⟨rfl, rfl⟩ | ⟨rfl, rfl⟩ | ⟨rfl, rfl⟩ | ⟨rfl, rfl⟩ | ⟨rfl, rfl⟩ | ⟨rfl, rfl⟩ | ⟨rfl, rfl⟩ | ⟨rfl, rfl⟩
  · exact ⟨by simp, fun _ => T.xe0, fun z => (by cases (show true = false from z))⟩
  · exact ⟨by simp, fun _ => T.xe1, fun z => (by cases (show true = false from z))⟩
  · exact ⟨by simp, fun _ => T.xe18, fun z => (by cases (show true = false from z))⟩
  · exact ⟨by simp, fun _ => T.xe23, fun z => (by cases (show true = false from z))⟩
  · exact ⟨by simp, fun _ => T.xe8, fun z => (by cases (show true = false from z))⟩
  · exact ⟨by simp, fun _ => T.xe2, fun z => (by cases (show true = false from z))⟩
  · exact ⟨by simp, fun _ => T.xe10, fun z => (by cases (show true = false from z))⟩
  · exact ⟨by simp, fun _ => T.xe12, fun z => (by cases (show true = false from z))⟩
  · exact ⟨by simp, fun _ => T.xe3, fun z => (by cases (show true = false from z))⟩
  · exact ⟨by simp, fun _ => T.xe15, fun z => (by cases (show true = false from z))⟩
  · exact ⟨by simp, fun _ => T.xe4, fun z => (by cases (show true = false from z))⟩
  · exact ⟨by simp, fun _ => T.xe29, fun z => (by cases (show true = false from z))⟩
  · exact ⟨by simp, fun _ => T.xe27, fun z => (by cases (show true = false from z))⟩
  · exact ⟨by simp, fun _ => T.xe24, fun z => (by cases (show true = false from z))⟩
  · exact ⟨by simp, fun _ => T.xe20, fun z => (by cases (show true = false from z))⟩
  · exact ⟨by simp, fun _ => T.xe6, fun z => (by cases (show true = false from z))⟩
  · exact ⟨by simp, fun _ => T.xe30, fun z => (by cases (show true = false from z))⟩
  · exact ⟨by simp, fun _ => T.xe31, fun z => (by cases (show true = false from z))⟩
  · exact ⟨by simp, fun _ => T.xe32, fun z => (by cases (show true = false from z))⟩
  · exact ⟨by simp, fun _ => T.xe28, fun z => (by cases (show true = false from z))⟩
  · exact ⟨by simp, fun _ => T.xe19, fun z => (by cases (show true = false from z))⟩
  · exact ⟨by simp, fun _ => T.xe25, fun z => (by cases (show true = false from z))⟩
  · exact ⟨by simp, fun _ => T.xe33, fun z => (by cases (show true = false from z))⟩
theorem iso_2 (T : Tx K mg fa ca pa cc ta fd) {X : Cx} (e : X.K = K) : IsO X (tb K) [2] (.ref (ca 2)) := by
  subst e
  refine iso_of T.is2 fun c C h => ?_
  rcases cnc T h with ⟨rfl, rfl⟩ | ⟨rfl, rfl⟩ | ⟨rfl, rfl⟩ | ⟨rfl, rfl⟩ | ⟨rfl, rfl⟩ | ⟨rfl, rfl⟩ | ⟨rfl, rfl⟩ | ⟨rfl, rfl⟩ | ⟨rfl, rfl⟩ | ⟨rfl, rfl⟩ | ⟨rfl, rfl⟩ | ⟨rfl, rfl⟩ | ⟨rfl, rfl⟩ | ⟨rfl, rfl⟩ | ⟨rfl, rfl⟩ | ⟨rfl, rfl⟩ | ⟨rfl, rfl⟩ | ⟨rfl, rfl⟩ | ⟨rfl, rfl⟩ | ⟨rfl, rfl⟩ | ⟨rfl, rfl⟩ | ⟨rfl, rfl⟩ | ⟨rfl, rfl⟩
  · exact ⟨by simp, fun _ => T.xe0, fun z => (by cases (show true = false from z))⟩
  · exact ⟨by simp, fun _ => T.xe1, fun z => (by cases (show true = false from z))⟩
  · exact ⟨by simp, fun _ => T.xe18, fun z => (by cases (show true = false from z))⟩
  · exact ⟨by simp, fun _ => T.xe23, fun z => (by cases (show true = false from z))⟩
  · exact ⟨by simp, fun _ => T.xe8, fun z => (by cases (show true = false from z))⟩
  · exact ⟨by simp, fun _ => T.xe2, fun z => (by cases (show true = false from z))⟩
  · exact ⟨by simp, fun _ => T.xe10, fun z => (by cases (show true = false from z))⟩
  · exact ⟨by simp, fun _ => T.xe12, fun z => (by cases (show true = false from z))⟩
  · exact ⟨by simp, fun _ => T.xe3, fun z => (by cases (show true = false from z))⟩
  · exact ⟨by simp, fun _ => T.xe15, fun z => (by cases (show true = false from z))⟩
  · exact ⟨by simp, fun _ => T.xe4, fun z => (by cases (show true = false from z))⟩
  · exact ⟨by simp, fun _ => T.xe29, fun z => (by cases (show true = false from z))⟩
  · exact ⟨by simp, fun _ => T.xe27, fun z => (by cases (show true = false from z))⟩
  · exact ⟨by simp, fun _ => T.xe24, fun z => (by cases (show true = false from z))⟩
  · exact ⟨by simp, fun _ => T.xe20, fun z => (by cases (show true = false from z))⟩
  · exact ⟨by simp, fun _ => T.xe6, fun z => (by cases (show true = false from z))⟩
  · exact ⟨by simp, fun _ => T.xe30, fun z => (by cases (show true = false from z))⟩
  · exact ⟨by simp, fun _ => T.xe31, fun z => (by cases (show true = false from z))⟩
  · exact ⟨by simp, fun _ => T.xe32, fun z => (by cases (show true = false from z))⟩
  · exact ⟨by simp, fun _ => T.xe28, fun z => (by cases (show true = false from z))⟩
  · exact ⟨by simp, fun _ => T.xe19, fun z => (by cases (show true = false from z))⟩
  · exact ⟨by simp, fun _ => T.xe25, fun z => (by cases (show true = false from z))⟩
  · exact ⟨by simp, fun _ => T.xe33, fun z => (by cases (show true = false from z))⟩
theorem iso_3 (T : Tx K mg fa ca pa cc ta fd) {X : Cx} (e : X.K = K) : IsO X (tb K) [3] (.ref (ca 3)) := by
  subst e
  refine iso_of T.is3 fun c C h => ?_
  rcases cnc T h with ⟨rfl, rfl⟩ | ⟨rfl, rfl⟩ | ⟨rfl, rfl⟩ | ⟨rfl, rfl⟩ | ⟨rfl, rfl⟩ | ⟨rfl, rfl⟩ | ⟨rfl, rfl⟩ | ⟨rfl, rfl⟩ | ⟨rfl, rfl⟩ | ⟨rfl, rfl⟩ | ⟨rfl, rfl⟩ | ⟨rfl, rfl⟩ | ⟨rfl, rfl⟩ | ⟨rfl, rfl⟩ | ⟨rfl, rfl⟩ | ⟨rfl, rfl⟩ | ⟨rfl, rfl⟩ | ⟨rfl, rfl⟩ | ⟨rfl, rfl⟩ | ⟨rfl, rfl⟩ | ⟨rfl, rfl⟩ | ⟨rfl, rfl⟩ | ⟨rfl, rfl⟩
  · exact ⟨by simp, fun _ => T.xe0, fun z => (by cases (show true = false from z))⟩
  · exact ⟨by simp, fun _ => T.xe1, fun z => (by cases (show true = false from z))⟩
  · exact ⟨by simp, fun _ => T.xe18, fun z => (by cases (show true = false from z))⟩
  · exact ⟨by simp, fun _ => T.xe23, fun z => (by cases (show true = false from z))⟩
  · exact ⟨by simp, fun _ => T.xe8, fun z => (by cases (show true = false from z))⟩
  · exact ⟨by simp, fun _ => T.xe2, fun z => (by cases (show true = false from z))⟩
  · exact ⟨by simp, fun _ => T.xe10, fun z => (by cases (show true = false from z))⟩
  · exact ⟨by simp, fun _ => T.xe12, fun z => (by cases (show true = false from z))⟩
  · exact ⟨by simp, fun _ => T.xe3, fun z => (by cases (show true = false from z))⟩
  · exact ⟨by simp, fun _ => T.xe15, fun z => (by cases (show true = false from z))⟩
  · exact ⟨by simp, fun _ => T.xe4, fun z => (by cases (show true = false from z))⟩
  · exact ⟨by simp, fun _ => T.xe29, fun z => (by cases (show true = false from z))⟩
  · exact ⟨by simp, fun _ => T.xe27, fun z => (by cases (show true = false from z))⟩
  · exact ⟨by simp, fun _ => T.xe24, fun z => (by cases (show true = false from z))⟩
  · exact ⟨by simp, fun _ => T.xe20, fun z => (by cases (show true = false from z))⟩
  · exact ⟨by simp, fun _ => T.xe6, fun z => (by cases (show true = false from z))⟩
  · exact ⟨by simp, fun _ => T.xe30, fun z => (by cases (show true = false from z))⟩
  · exact ⟨by simp, fun _ => T.xe31, fun z => (by cases (show true = false from z))⟩
  · exact ⟨by simp, fun _ => T.xe32, fun z => (by cases (show true = false from z))⟩
  · exact ⟨by simp, fun _ => T.xe28, fun z => (by cases (show true = false from z))⟩
  · exact ⟨by simp, fun _ => T.xe19, fun z => (by cases (show true = false from z))⟩
  · exact ⟨by simp, fun _ => T.xe25, fun z => (by cases (show true = false from z))⟩
  · exact ⟨by simp, fun _ => T.xe33, fun z => (by cases (show true = false from z))⟩
theorem iso_4 (T : Tx K mg fa ca pa cc ta fd) {X : Cx} (e : X.K = K) : IsO X (tb K) [4] (.ref (ca 4)) := by
  subst e
  refine iso_of T.is4 fun c C h => ?_
  rcases cnc T h with ⟨rfl, rfl⟩ | ⟨rfl, rfl⟩ | ⟨rfl, rfl⟩ | ⟨rfl, rfl⟩ | ⟨rfl, rfl⟩ | ⟨rfl, rfl⟩ | ⟨rfl, rfl⟩ | ⟨rfl, rfl⟩ | ⟨rfl, rfl⟩ | ⟨rfl, rfl⟩ | ⟨rfl, rfl⟩ | ⟨rfl, rfl⟩ | ⟨rfl, rfl⟩ | ⟨rfl, rfl⟩ | ⟨rfl, rfl⟩ | ⟨rfl, rfl⟩ | ⟨rfl, rfl⟩ | ⟨rfl, rfl⟩ | ⟨rfl, rfl⟩ | ⟨rfl, rfl⟩ | ⟨rfl, rfl⟩ | ⟨rfl, rfl⟩ | ⟨rfl, rfl⟩
  · exact ⟨by simp, fun _ => T.xe0, fun z => (by cases (show true = false from z))⟩
  · exact ⟨by simp, fun _ => T.xe1, fun z => (by cases (show true = false from z))⟩
  · exact ⟨by simp, fun _ => T.xe18, fun z => (by cases (show true = false from z))⟩
  · exact ⟨by simp, fun _ => T.xe23, fun z => (by cases (show true = false from z))⟩
  · exact ⟨by simp, fun _ => T.xe8, fun z => (by cases (show true = false from z))⟩
  · exact ⟨by simp, fun _ => T.xe2, fun z => (by cases (show true = false from z))⟩
  · exact ⟨by simp, fun _ => T.xe10, fun z => (by cases (show true = false from z))⟩
  · exact ⟨by simp, fun _ => T.xe12, fun z => (by cases (show true = false from z))⟩
  · exact ⟨by simp, fun _ => T.xe3, fun z => (by cases (show true = false from z))⟩
  · exact ⟨by simp, fun _ => T.xe15, fun z => (by cases (show true = false from z))⟩
  · exact ⟨by simp, fun _ => T.xe4, fun z => (by cases (show true = false from z))⟩
  · exact ⟨by simp, fun _ => T.xe29, fun z => (by cases (show true = false from z))⟩
  · exact ⟨by simp, fun _ => T.xe27, fun z => (by cases (show true = false from z))⟩
  · exact ⟨by simp, fun _ => T.xe24, fun z => (by cases (show true = false from z))⟩
  · exact ⟨by simp, fun _ => T.xe20, fun z => (by cases (show true = false from z))⟩
  · exact ⟨by simp, fun _ => T.xe6, fun z => (by cases (show true = false from z))⟩
  · exact ⟨by simp, fun _ => T.xe30, fun z => (by cases (show true = false from z))⟩
  · exact ⟨by simp, fun _ => T.xe31, fun z => (by cases (show true = false from z))⟩
  · exact ⟨by simp, fun _ => T.xe32, fun z => (by cases (show true = false from z))⟩
  · exact ⟨by simp, fun _ => T.xe28, fun z => (by cases (show true = false from z))⟩
  · exact ⟨by simp, fun _ => T.xe19, fun z => (by cases (show true = false from z))⟩
  · exact ⟨by simp, fun _ => T.xe25, fun z => (by cases (show true = false from z))⟩
  · exact ⟨by simp, fun _ => T.xe33, fun z => (by cases (show true = false from z))⟩
theorem iso_6 (T : Tx K mg fa ca pa cc ta fd) {X : Cx} (e : X.K = K) : IsO X (tb K) [6] (.ref (ca 6)) := by
  subst e
  refine iso_of T.is6 fun c C h => ?_
  rcases cnc T h with ⟨rfl, rfl⟩ | ⟨rfl, rfl⟩ | ⟨rfl, rfl⟩ | ⟨rfl, rfl⟩ | ⟨rfl, rfl⟩ | ⟨rfl, rfl⟩ | ⟨rfl, rfl⟩ | ⟨rfl, rfl⟩ | ⟨rfl, rfl⟩ | ⟨rfl, rfl⟩ | ⟨rfl, rfl⟩ | ⟨rfl, rfl⟩ | ⟨rfl, rfl⟩ | ⟨rfl, rfl⟩ | ⟨rfl, rfl⟩ | ⟨rfl, rfl⟩ | ⟨rfl, rfl⟩ | ⟨rfl, rfl⟩ | ⟨rfl, rfl⟩ | ⟨rfl, rfl⟩ | ⟨rfl, rfl⟩ | ⟨rfl, rfl⟩ | ⟨rfl, rfl⟩
  · exact ⟨by simp, fun _ => T.xe0, fun z => (by cases (show true = false from z))⟩
  · exact ⟨by simp, fun _ => T.xe1, fun z => (by cases (show true = false from z))⟩
  · exact ⟨by simp, fun _ => T.xe18, fun z => (by cases (show true = false from z))⟩
  · exact ⟨by simp, fun _ => T.xe23, fun z => (by cases (show true = false from z))⟩
  · exact ⟨by simp, fun _ => T.xe8, fun z => (by cases (show true = false from z))⟩
  · exact ⟨by simp, fun _ => T.xe2, fun z => (by cases (show true = false from z))⟩
  · exact ⟨by simp, fun _ => T.xe10, fun z => (by cases (show true = false from z))⟩
  · exact ⟨by simp, fun _ => T.xe12, fun z => (by cases (show true = false from z))⟩
  · exact ⟨by simp, fun _ => T.xe3, fun z => (by cases (show true = false from z))⟩
  · exact ⟨by simp, fun _ => T.xe15, fun z => (by cases (show true = false from z))⟩
  · exact ⟨by simp, fun _ => T.xe4, fun z => (by cases (show true = false from z))⟩
  · exact ⟨by simp, fun _ => T.xe29, fun z => (by cases (show true = false from z))⟩
  · exact ⟨by simp, fun _ => T.xe27, fun z => (by cases (show true = false from z))⟩
  · exact ⟨by simp, fun _ => T.xe24, fun z => (by cases (show true = false from z))⟩
  · exact ⟨by simp, fun _ => T.xe20, fun z => (by cases (show true = false from z))⟩
  · exact ⟨by simp, fun _ => T.xe6, fun z => (by cases (show true = false from z))⟩
  · exact ⟨by simp, fun _ => T.xe30, fun z => (by cases (show true = false from z))⟩
  · exact ⟨by simp, fun _ => T.xe31, fun z => (by cases (show true = false from z))⟩
  · exact ⟨by simp, fun _ => T.xe32, fun z => (by cases (show true = false from z))⟩
  · exact ⟨by simp, fun _ => T.xe28, fun z => (by cases (show true = false from z))⟩
  · exact ⟨by simp, fun _ => T.xe19, fun z => (by cases (show true = false from z))⟩
  · exact ⟨by simp, fun _ => T.xe25, fun z => (by cases (show true = false from z))⟩
  · exact ⟨by simp, fun _ => T.xe33, fun z => (by cases (show true = false from z))⟩
theorem iso_8 (T : Tx K mg fa ca pa cc ta fd) {X : Cx} (e : X.K = K) : IsO X (tb K) [8] (.ref (ca 8)) := by
  subst e
  refine iso_of T.is8 fun c C h => ?_
  rcases cnc T h with ⟨rfl, rfl⟩ | ⟨rfl, rfl⟩ | ⟨rfl, rfl⟩ | ⟨rfl, rfl⟩ | ⟨rfl, rfl⟩ | ⟨rfl, rfl⟩ | ⟨rfl, rfl⟩ | ⟨rfl, rfl⟩ | ⟨rfl, rfl⟩ | ⟨rfl, rfl⟩ | ⟨rfl, rfl⟩ | ⟨rfl, rfl⟩ | ⟨rfl, rfl⟩ | ⟨rfl, rfl⟩ | ⟨rfl, rfl⟩ | ⟨rfl, rfl⟩ | ⟨rfl, rfl⟩ | ⟨rfl, rfl⟩ | ⟨rfl, rfl⟩ | ⟨rfl, rfl⟩ | ⟨rfl, rfl⟩ | ⟨rfl, rfl⟩ | ⟨rfl, rfl⟩
  · exact ⟨by simp, fun _ => T.xe0, fun z => (by cases (show true = false from z))⟩
  · exact ⟨by simp, fun _ => T.xe1, fun z => (by cases (show true = false from z))⟩
  · exact ⟨by simp, fun _ => T.xe18, fun z => (by cases (show true = false from z))⟩
  · exact ⟨by simp, fun _ => T.xe23, fun z => (by cases (show true = false from z))⟩
  · exact ⟨by simp, fun _ => T.xe8, fun z => (by cases (show true = false from z))⟩
  · exact ⟨by simp, fun _ => T.xe2, fun z => (by cases (show true = false from z))⟩
  · exact ⟨by simp, fun _ => T.xe10, fun z => (by cases (show true = false from z))⟩
  · exact ⟨by simp, fun _ => T.xe12, fun z => (by cases (show true = false from z))⟩
  · exact ⟨by simp, fun _ => T.xe3, fun z => (by cases (show true = false from z))⟩
  · exact ⟨by simp, fun _ => T.xe15, fun z => (by cases (show true = false from z))⟩
  · exact ⟨by simp, fun _ => T.xe4, fun z => (by cases (show true = false from z))⟩
  · exact ⟨by simp, fun _ => T.xe29, fun z => (by cases (show true = false from z))⟩
  · exact ⟨by simp, fun _ => T.xe27, fun z => (by cases (show true = false from z))⟩
  · exact ⟨by simp, fun _ => T.xe24, fun z => (by cases (show true = false from z))⟩
  · exact ⟨by simp, fun _ => T.xe20, fun z => (by cases (show true = false from z))⟩
  · exact ⟨by simp, fun _ => T.xe6, fun z => (by cases (show true = false from z))⟩
  · exact ⟨by simp, fun _ => T.xe30, fun z => (by cases (show true = false from z))⟩
  · exact ⟨by simp, fun _ => T.xe31, fun z => (by cases (show true = false from z))⟩
  · exact ⟨by simp, fun _ => T.xe32, fun z => (by cases (show true = false from z))⟩
  · exact ⟨by simp, fun _ => T.xe28, fun z => (by cases (show true = false from z))⟩
  · exact ⟨by simp, fun _ => T.xe19, fun z => (by cases (show true = false from z))⟩
  · exact ⟨by simp, fun _ => T.xe25, fun z => (by cases (show true = false from z))⟩
  · exact ⟨by simp, fun _ => T.xe33, fun z => (by cases (show true = false from z))⟩
theorem iso_10 (T : Tx K mg fa ca pa cc ta fd) {X : Cx} (e : X.K = K) : IsO X (tb K) [10] (.ref (ca 10)) := by
  subst e
  refine iso_of T.is10 fun c C h => ?_
  rcases cnc T h with ⟨rfl, rfl⟩ | ⟨rfl, rfl⟩ | ⟨rfl, rfl⟩ | ⟨rfl, rfl⟩ | ⟨rfl, rfl⟩ | ⟨rfl, rfl⟩ | ⟨rfl, rfl⟩ | ⟨rfl, rfl⟩ | ⟨rfl, rfl⟩ | ⟨rfl, rfl⟩ | ⟨rfl, rfl⟩ | ⟨rfl, rfl⟩ | ⟨rfl, rfl⟩ | ⟨rfl, rfl⟩ | ⟨rfl, rfl⟩ | ⟨rfl, rfl⟩ | ⟨rfl, rfl⟩ | ⟨rfl, rfl⟩ | ⟨rfl, rfl⟩ | ⟨rfl, rfl⟩ | ⟨rfl, rfl⟩ | ⟨rfl, rfl⟩ | ⟨rfl, rfl⟩
  · exact ⟨by simp, fun _ => T.xe0, fun z => (by cases (show true = false from z))⟩
  · exact ⟨by simp, fun _ => T.xe1, fun z => (by cases (show true = false from z))⟩
  · exact ⟨by simp, fun _ => T.xe18, fun z => (by cases (show true = false from z))⟩
  · exact ⟨by simp, fun _ => T.xe23, fun z => (by cases (show true = false from z))⟩
  · exact ⟨by simp, fun _ => T.xe8, fun z => (by cases (show true = false from z))⟩
  · exact ⟨by simp, fun _ => T.xe2, fun z => (by cases (show true = false from z))⟩
  · exact ⟨by simp, fun _ => T.xe10, fun z => (by cases (show true = false from z))⟩
  · exact ⟨by simp, fun _ => T.xe12, fun z => (by cases (show true = false from z))⟩
  · exact ⟨by simp, fun _ => T.xe3, fun z => (by cases (show true = false from z))⟩
  · exact ⟨by simp, fun _ => T.xe15, fun z => (by cases (show true = false from z))⟩
  · exact ⟨by simp, fun _ => T.xe4, fun z => (by cases (show true = false from z))⟩
  · exact ⟨by simp, fun _ => T.xe29, fun z => (by cases (show true = false from z))⟩
  · exact ⟨by simp, fun _ => T.xe27, fun z => (by cases (show true = false from z))⟩
  · exact ⟨by simp, fun _ => T.xe24, fun z => (by cases (show true = false from z))⟩
  · exact ⟨by simp, fun _ => T.xe20, fun z => (by cases (show true = false from z))⟩
  · exact ⟨by simp, fun _ => T.xe6, fun z => (by cases (show true = false from z))⟩
  · exact ⟨by simp, fun _ => T.xe30, fun z => (by cases (show true = false from z))⟩
  · exact ⟨by simp, fun _ => T.xe31, fun z => (by cases (show true = false from z))⟩
  · exact ⟨by simp, fun _ => T.xe32, fun z => (by cases (show true = false from z))⟩
  · exact ⟨by simp, fun _ => T.xe28, fun z => (by cases (show true = false from z))⟩
  · exact ⟨by simp, fun _ => T.xe19, fun z => (by cases (show true = false from z))⟩
  · exact ⟨by simp, fun _ => T.xe25, fun z => (by cases (show true = false from z))⟩
  · exact ⟨by simp, fun _ => T.xe33, fun z => (by cases (show true = false from z))⟩
theorem iso_12 (T : Tx K mg fa ca pa cc ta fd) {X : Cx} (e : X.K = K) : IsO X (tb K) [12] (.ref (ca 12)) := by
  subst e
  refine iso_of T.is12 fun c C h => ?_
  rcases cnc T h with ⟨rfl, rfl⟩ | ⟨rfl, rfl⟩ | ⟨rfl, rfl⟩ | ⟨rfl, rfl⟩ | ⟨rfl, rfl⟩ | ⟨rfl, rfl⟩ | ⟨rfl, rfl⟩ | ⟨rfl, rfl⟩ | ⟨rfl, rfl⟩ | ⟨rfl, rfl⟩ | ⟨rfl, rfl⟩ | ⟨rfl, rfl⟩ | ⟨rfl, rfl⟩ | ⟨rfl, rfl⟩ | ⟨rfl, rfl⟩ | ⟨rfl, rfl⟩ | ⟨rfl, rfl⟩ | ⟨rfl, rfl⟩ | ⟨rfl, rfl⟩ | ⟨rfl, rfl⟩ | ⟨rfl, rfl⟩ | ⟨rfl, rfl⟩ | ⟨rfl, rfl⟩
  · exact ⟨by simp, fun _ => T.xe0, fun z => (by cases (show true = false from z))⟩
  · exact ⟨by simp, fun _ => T.xe1, fun z => (by cases (show true = false from z))⟩
  · exact ⟨by simp, fun _ => T.xe18, fun z => (by cases (show true = false from z))⟩
  · exact ⟨by simp, fun _ => T.xe23, fun z => (by cases (show true = false from z))⟩
  · exact ⟨by simp, fun _ => T.xe8, fun z => (by cases (show true = false from z))⟩
  · exact ⟨by simp, fun _ => T.xe2, fun z => (by cases (show true = false from z))⟩
  · exact ⟨by simp, fun _ => T.xe10, fun z => (by cases (show true = false from z))⟩
  · exact ⟨by simp, fun _ => T.xe12, fun z => (by cases (show true = false from z))⟩
  · exact ⟨by simp, fun _ => T.xe3, fun z => (by cases (show true = false from z))⟩
  · exact ⟨by simp, fun _ => T.xe15, fun z => (by cases (show true = false from z))⟩
  · exact ⟨by simp, fun _ => T.xe4, fun z => (by cases (show true = false from z))⟩
  · exact ⟨by simp, fun _ => T.xe29, fun z => (by cases (show true = false from z))⟩
  · exact ⟨by simp, fun _ => T.xe27, fun z => (by cases (show true = false from z))⟩
  · exact ⟨by simp, fun _ => T.xe24, fun z => (by cases (show true = false from z))⟩
  · exact ⟨by simp, fun _ => T.xe20, fun z => (by cases (show true = false from z))⟩
  · exact ⟨by simp, fun _ => T.xe6, fun z => (by cases (show true = false from z))⟩
  · exact ⟨by simp, fun _ => T.xe30, fun z => (by cases (show true = false from z))⟩
  · exact ⟨by simp, fun _ => T.xe31, fun z => (by cases (show true = false from z))⟩
  · exact ⟨by simp, fun _ => T.xe32, fun z => (by cases (show true = false from z))⟩
  · exact ⟨by simp, fun _ => T.xe28, fun z => (by cases (show true = false from z))⟩
  · exact ⟨by simp, fun _ => T.xe19, fun z => (by cases (show true = false from z))⟩
  · exact ⟨by simp, fun _ => T.xe25, fun z => (by cases (show true = false from z))⟩
  · exact ⟨by simp, fun _ => T.xe33, fun z => (by cases (show true = false from z))⟩
theorem iso_15 (T : Tx K mg fa ca pa cc ta fd) {X : Cx} (e : X.K = K) : IsO X (tb K) [15] (.ref (ca 15)) := by
  subst e
  refine iso_of T.is15 fun c C h => ?_
  rcases cnc T h with ⟨rfl, rfl⟩ | ⟨rfl, rfl⟩ | ⟨rfl, rfl⟩ | ⟨rfl, rfl⟩ | ⟨rfl, rfl⟩ | ⟨rfl, rfl⟩ | ⟨rfl, rfl⟩ | ⟨rfl, rfl⟩ | ⟨rfl, rfl⟩ | ⟨rfl, rfl⟩ | ⟨rfl, rfl⟩ | ⟨rfl, rfl⟩ | ⟨rfl, rfl⟩ | ⟨rfl, rfl⟩ | ⟨rfl, rfl⟩ | ⟨rfl, rfl⟩ | ⟨rfl, rfl⟩ | ⟨rfl, rfl⟩ | ⟨rfl, rfl⟩ | ⟨rfl, rfl⟩ | ⟨rfl, rfl⟩ | ⟨rfl, rfl⟩ | ⟨rfl, rfl⟩
  · exact ⟨by simp, fun _ => T.xe0, fun z => (by cases (show true = false from z))⟩
  · exact ⟨by simp, fun _ => T.xe1, fun z => (by cases (show true = false from z))⟩
  · exact ⟨by simp, fun _ => T.xe18, fun z => (by cases (show true = false from z))⟩
  · exact ⟨by simp, fun _ => T.xe23, fun z => (by cases (show true = false from z))⟩
  · exact ⟨by simp, fun _ => T.xe8, fun z => (by cases (show true = false from z))⟩
  · exact ⟨by simp, fun _ => T.xe2, fun z => (by cases (show true = false from z))⟩
  · exact ⟨by simp, fun _ => T.xe10, fun z => (by cases (show true = false from z))⟩
  · exact ⟨by simp, fun _ => T.xe12, fun z => (by cases (show true = false from z))⟩
  · exact ⟨by simp, fun _ => T.xe3, fun z => (by cases (show true = false from z))⟩
  · exact ⟨by simp, fun _ => T.xe15, fun z => (by cases (show true = false from z))⟩
  · exact ⟨by simp, fun _ => T.xe4, fun z => (by cases (show true = false from z))⟩
  · exact ⟨by simp, fun _ => T.xe29, fun z => (by cases (show true = false from z))⟩
  · exact ⟨by simp, fun _ => T.xe27, fun z => (by cases (show true = false from z))⟩
  · exact ⟨by simp, fun _ => T.xe24, fun z => (by cases (show true = false from z))⟩
  · exact ⟨by simp, fun _ => T.xe20, fun z => (by cases (show true = false from z))⟩
  · exact ⟨by simp, fun _ => T.xe6, fun z => (by cases (show true = false from z))⟩
  · exact ⟨by simp, fun _ => T.xe30, fun z => (by cases (show true = false from z))⟩
  · exact ⟨by simp, fun _ => T.xe31, fun z => (by cases (show true = false from z))⟩
  · exact ⟨by simp, fun _ => T.xe32, fun z => (by cases (show true = false from z))⟩
  · exact ⟨by simp, fun _ => T.xe28, fun z => (by cases (show true = false from z))⟩
  · exact ⟨by simp, fun _ => T.xe19, fun z => (by cases (show true = false from z))⟩
  · exact ⟨by simp, fun _ => T.xe25, fun z => (by cases (show true = false from z))⟩
  · exact ⟨by simp, fun _ => T.xe33, fun z => (by cases (show true = false from z))⟩
theorem iso_18 (T : Tx K mg fa ca pa cc ta fd) {X : Cx} (e : X.K = K) : IsO X (tb K) [18, 31, 32, 28, 19] (.ref (ca 18)) := by
  subst e
  refine iso_of T.is18 fun c C h => ?_
  rcases cnc T h with ⟨rfl, rfl⟩ | ⟨rfl, rfl⟩ | ⟨rfl, rfl⟩ | ⟨rfl, rfl⟩ | ⟨rfl, rfl⟩ | ⟨rfl, rfl⟩ | ⟨rfl, rfl⟩ | ⟨rfl, rfl⟩ | ⟨rfl, rfl⟩ | ⟨rfl, rfl⟩ | ⟨rfl, rfl⟩ | ⟨rfl, rfl⟩ | ⟨rfl, rfl⟩ | ⟨rfl, rfl⟩ | ⟨rfl, rfl⟩ | ⟨rfl, rfl⟩ | ⟨rfl, rfl⟩ | ⟨rfl, rfl⟩ | ⟨rfl, rfl⟩ | ⟨rfl, rfl⟩ | ⟨rfl, rfl⟩ | ⟨rfl, rfl⟩ | ⟨rfl, rfl⟩
  · exact ⟨by simp, fun _ => T.xe0, fun z => (by cases (show true = false from z))⟩
  · exact ⟨by simp, fun _ => T.xe1, fun z => (by cases (show true = false from z))⟩
  · exact ⟨by simp, fun _ => T.xe18, fun z => (by cases (show true = false from z))⟩
  · exact ⟨by simp, fun _ => T.xe23, fun z => (by cases (show true = false from z))⟩
  · exact ⟨by simp, fun _ => T.xe8, fun z => (by cases (show true = false from z))⟩
  · exact ⟨by simp, fun _ => T.xe2, fun z => (by cases (show true = false from z))⟩
  · exact ⟨by simp, fun _ => T.xe10, fun z => (by cases (show true = false from z))⟩
  · exact ⟨by simp, fun _ => T.xe12, fun z => (by cases (show true = false from z))⟩
  · exact ⟨by simp, fun _ => T.xe3, fun z => (by cases (show true = false from z))⟩
  · exact ⟨by simp, fun _ => T.xe15, fun z => (by cases (show true = false from z))⟩
  · exact ⟨by simp, fun _ => T.xe4, fun z => (by cases (show true = false from z))⟩
  · exact ⟨by simp, fun _ => T.xe29, fun z => (by cases (show true = false from z))⟩
  · exact ⟨by simp, fun _ => T.xe27, fun z => (by cases (show true = false from z))⟩
  · exact ⟨by simp, fun _ => T.xe24, fun z => (by cases (show true = false from z))⟩
  · exact ⟨by simp, fun _ => T.xe20, fun z => (by cases (show true = false from z))⟩
  · exact ⟨by simp, fun _ => T.xe6, fun z => (by cases (show true = false from z))⟩
  · exact ⟨by simp, fun _ => T.xe30, fun z => (by cases (show true = false from z))⟩
  · exact ⟨by simp, fun _ => T.xe31, fun z => (by cases (show true = false from z))⟩
  · exact ⟨by simp, fun _ => T.xe32, fun z => (by cases (show true = false from z))⟩
  · exact ⟨by simp, fun _ => T.xe28, fun z => (by cases (show true = false from z))⟩
  · exact ⟨by simp, fun _ => T.xe19, fun z => (by cases (show true = false from z))⟩
  · exact ⟨by simp, fun _ => T.xe25, fun z => (by cases (show true = false from z))⟩
  · exact ⟨by simp, fun _ => T.xe33, fun z => (by cases (show true = false from z))⟩
theorem iso_19 (T : Tx K mg fa ca pa cc ta fd) {X : Cx} (e : X.K = K) : IsO X (tb K) [19] (.ref (ca 19)) := by
  subst e
  refine iso_of T.is19 fun c C h => ?_
  rcases cnc T h with ⟨rfl, rfl⟩ | ⟨rfl, rfl⟩ | ⟨rfl, rfl⟩ | ⟨rfl, rfl⟩ | ⟨rfl, rfl⟩ | ⟨rfl, rfl⟩ | ⟨rfl, rfl⟩ | ⟨rfl, rfl⟩ | ⟨rfl, rfl⟩ | ⟨rfl, rfl⟩ | ⟨rfl, rfl⟩ | ⟨rfl, rfl⟩ | ⟨rfl, rfl⟩ | ⟨rfl, rfl⟩ | ⟨rfl, rfl⟩ | ⟨rfl, rfl⟩ | ⟨rfl, rfl⟩ | ⟨rfl, rfl⟩ | ⟨rfl, rfl⟩ | ⟨rfl, rfl⟩ | ⟨rfl, rfl⟩ | ⟨rfl, rfl⟩ | ⟨rfl, rfl⟩
  · exact ⟨by simp, fun _ => T.xe0, fun z => (by cases (show true = false from z))⟩
  · exact ⟨by simp, fun _ => T.xe1, fun z => (by cases (show true = false from z))⟩
  · exact ⟨by simp, fun _ => T.xe18, fun z => (by cases (show true = false from z))⟩
  · exact ⟨by simp, fun _ => T.xe23, fun z => (by cases (show true = false from z))⟩
  · exact ⟨by simp, fun _ => T.xe8, fun z => (by cases (show true = false from z))⟩
  · exact ⟨by simp, fun _ => T.xe2, fun z => (by cases (show true = false from z))⟩
  · exact ⟨by simp, fun _ => T.xe10, fun z => (by cases (show true = false from z))⟩
  · exact ⟨by simp, fun _ => T.xe12, fun z => (by cases (show true = false from z))⟩
  · exact ⟨by simp, fun _ => T.xe3, fun z => (by cases (show true = false from z))⟩
  · exact ⟨by simp, fun _ => T.xe15, fun z => (by cases (show true = false from z))⟩
  · exact ⟨by simp, fun _ => T.xe4, fun z => (by cases (show true = false from z))⟩
  · exact ⟨by simp, fun _ => T.xe29, fun z => (by cases (show true = false from z))⟩
  · exact ⟨by simp, fun _ => T.xe27, fun z => (by cases (show true = false from z))⟩
  · exact ⟨by simp, fun _ => T.xe24, fun z => (by cases (show true = false from z))⟩
  · exact ⟨by simp, fun _ => T.xe20, fun z => (by cases (show true = false from z))⟩
  · exact ⟨by simp, fun _ => T.xe6, fun z => (by cases (show true = false from z))⟩
  · exact ⟨by simp, fun _ => T.xe30, fun z => (by cases (show true = false from z))⟩
  · exact ⟨by simp, fun _ => T.xe31, fun z => (by cases (show true = false from z))⟩
  · exact ⟨by simp, fun _ => T.xe32, fun z => (by cases (show true = false from z))⟩
  · exact ⟨by simp, fun _ => T.xe28, fun z => (by cases (show true = false from z))⟩
  · exact ⟨by simp, fun _ => T.xe19, fun z => (by cases (show true = false from z))⟩
  · exact ⟨by simp, fun _ => T.xe25, fun z => (by cases (show true = false from z))⟩
  · exact ⟨by simp, fun _ => T.xe33, fun z => (by cases (show true = false from z))⟩
theorem iso_20 (T : Tx K mg fa ca pa cc ta fd) {X : Cx} (e : X.K = K) : IsO X (tb K) [20] (.ref (ca 20)) := by
  subst e
  refine iso_of T.is20 fun c C h => ?_
  rcases cnc T h with ⟨rfl, rfl⟩ | ⟨rfl, rfl⟩ | ⟨rfl, rfl⟩ | ⟨rfl, rfl⟩ | ⟨rfl, rfl⟩ | ⟨rfl, rfl⟩ | ⟨rfl, rfl⟩ | ⟨rfl, rfl⟩ | ⟨rfl, rfl⟩ | ⟨rfl, rfl⟩ | ⟨rfl, rfl⟩ | ⟨rfl, rfl⟩ | ⟨rfl, rfl⟩ | ⟨rfl, rfl⟩ | ⟨rfl, rfl⟩ | ⟨rfl, rfl⟩ | ⟨rfl, rfl⟩ | ⟨rfl, rfl⟩ | ⟨rfl, rfl⟩ | ⟨rfl, rfl⟩ | ⟨rfl, rfl⟩ | ⟨rfl, rfl⟩ | ⟨rfl, rfl⟩
  · exact ⟨by simp, fun _ => T.xe0, fun z => (by cases (show true = false from z))⟩
  · exact ⟨by simp, fun _ => T.xe1, fun z => (by cases (show true = false from z))⟩
  · exact ⟨by simp, fun _ => T.xe18, fun z => (by cases (show true = false from z))⟩
  · exact ⟨by simp, fun _ => T.xe23, fun z => (by cases (show true = false from z))⟩
  · exact ⟨by simp, fun _ => T.xe8, fun z => (by cases (show true = false from z))⟩
  · exact ⟨by simp, fun _ => T.xe2, fun z => (by cases (show true = false from z))⟩
  · exact ⟨by simp, fun _ => T.xe10, fun z => (by cases (show true = false from z))⟩
  · exact ⟨by simp, fun _ => T.xe12, fun z => (by cases (show true = false from z))⟩
  · exact ⟨by simp, fun _ => T.xe3, fun z => (by cases (show true = false from z))⟩
  · exact ⟨by simp, fun _ => T.xe15, fun z => (by cases (show true = false from z))⟩
  · exact ⟨by simp, fun _ => T.xe4, fun z => (by cases (show true = false from z))⟩
  · exact ⟨by simp, fun _ => T.xe29, fun z => (by cases (show true = false from z))⟩
  · exact ⟨by simp, fun _ => T.xe27, fun z => (by cases (show true = false from z))⟩
  · exact ⟨by simp, fun _ => T.xe24, fun z => (by cases (show true = false from z))⟩
  · exact ⟨by simp, fun _ => T.xe20, fun z => (by cases (show true = false from z))⟩
  · exact ⟨by simp, fun _ => T.xe6, fun z => (by cases (show true = false from z))⟩
  · exact ⟨by simp, fun _ => T.xe30, fun z => (by cases (show true = false from z))⟩
  · exact ⟨by simp, fun _ => T.xe31, fun z => (by cases (show true = false from z))⟩
  · exact ⟨by simp, fun _ => T.xe32, fun z => (by cases (show true = false from z))⟩
  · exact ⟨by simp, fun _ => T.xe28, fun z => (by cases (show true = false from z))⟩
  · exact ⟨by simp, fun _ => T.xe19, fun z => (by cases (show true = false from z))⟩
  · exact ⟨by simp, fun _ => T.xe25, fun z => (by cases (show true = false from z))⟩
  · exact ⟨by simp, fun _ => T.xe33, fun z => (by cases (show true = false from z))⟩
theorem iso_23 (T : Tx K mg fa ca pa cc ta fd) {X : Cx} (e : X.K = K) : IsO X (tb K) [23, 25, 33] (.ref (ca 23)) := by
  subst e
  refine iso_of T.is23 fun c C h => ?_
  rcases cnc T h with ⟨rfl, rfl⟩ | ⟨rfl, rfl⟩ | ⟨rfl, rfl⟩ | ⟨rfl, rfl⟩ | ⟨rfl, rfl⟩ | ⟨rfl, rfl⟩ | ⟨rfl, rfl⟩ | ⟨rfl, rfl⟩ | ⟨rfl, rfl⟩ | ⟨rfl, rfl⟩ | ⟨rfl, rfl⟩ | ⟨rfl, rfl⟩ | ⟨rfl, rfl⟩ | ⟨rfl, rfl⟩ | ⟨rfl, rfl⟩ | ⟨rfl, rfl⟩ | ⟨rfl, rfl⟩ | ⟨rfl, rfl⟩ | ⟨rfl, rfl⟩ | ⟨rfl, rfl⟩ | ⟨rfl, rfl⟩ | ⟨rfl, rfl⟩ | ⟨rfl, rfl⟩
  · exact ⟨by simp, fun _ => T.xe0, fun z => (by cases (show true = false from z))⟩
  · exact ⟨by simp, fun _ => T.xe1, fun z => (by cases (show true = false from z))⟩
  · exact ⟨by simp, fun _ => T.xe18, fun z => (by cases (show true = false from z))⟩
  · exact ⟨by simp, fun _ => T.xe23, fun z => (by cases (show true = false from z))⟩
  · exact ⟨by simp, fun _ => T.xe8, fun z => (by cases (show true = false from z))⟩
  · exact ⟨by simp, fun _ => T.xe2, fun z => (by cases (show true = false from z))⟩
  · exact ⟨by simp, fun _ => T.xe10, fun z => (by cases (show true = false from z))⟩
  · exact ⟨by simp, fun _ => T.xe12, fun z => (by cases (show true = false from z))⟩
  · exact ⟨by simp, fun _ => T.xe3, fun z => (by cases (show true = false from z))⟩
  · exact ⟨by simp, fun _ => T.xe15, fun z => (by cases (show true = false from z))⟩
  · exact ⟨by simp, fun _ => T.xe4, fun z => (by cases (show true = false from z))⟩
  · exact ⟨by simp, fun _ => T.xe29, fun z => (by cases (show true = false from z))⟩
  · exact ⟨by simp, fun _ => T.xe27, fun z => (by cases (show true = false from z))⟩
  · exact ⟨by simp, fun _ => T.xe24, fun z => (by cases (show true = false from z))⟩
  · exact ⟨by simp, fun _ => T.xe20, fun z => (by cases (show true = false from z))⟩
  · exact ⟨by simp, fun _ => T.xe6, fun z => (by cases (show true = false from z))⟩
  · exact ⟨by simp, fun _ => T.xe30, fun z => (by cases (show true = false from z))⟩
  · exact ⟨by simp, fun _ => T.xe31, fun z => (by cases (show true = false from z))⟩
  · exact ⟨by simp, fun _ => T.xe32, fun z => (by cases (show true = false from z))⟩
  · exact ⟨by simp, fun _ => T.xe28, fun z => (by cases (show true = false from z))⟩
  · exact ⟨by simp, fun _ => T.xe19, fun z => (by cases (show true = false from z))⟩
  · exact ⟨by simp, fun _ => T.xe25, fun z => (by cases (show true = false from z))⟩
  · exact ⟨by simp, fun _ => T.xe33, fun z => (by cases (show true = false from z))⟩
theorem iso_24 (T : Tx K mg fa ca pa cc ta fd) {X : Cx} (e : X.K = K) : IsO X (tb K) [24] (.ref (ca 24)) := by
  subst e
  refine iso_of T.is24 fun c C h => ?_
  rcases cnc T h with ⟨rfl, rfl⟩ | ⟨rfl, rfl⟩ | ⟨rfl, rfl⟩ | ⟨rfl, rfl⟩ | ⟨rfl, rfl⟩ | ⟨rfl, rfl⟩ | ⟨rfl, rfl⟩ | ⟨rfl, rfl⟩ | ⟨rfl, rfl⟩ | ⟨rfl, rfl⟩ | ⟨rfl, rfl⟩ | ⟨rfl, rfl⟩ | ⟨rfl, rfl⟩ | ⟨rfl, rfl⟩ | ⟨rfl, rfl⟩ | ⟨rfl, rfl⟩ | ⟨rfl, rfl⟩ | ⟨rfl, rfl⟩ | ⟨rfl, rfl⟩ | ⟨rfl, rfl⟩ | ⟨rfl, rfl⟩ | ⟨rfl, rfl⟩ | ⟨rfl, rfl⟩
  · exact ⟨by simp, fun _ => T.xe0, fun z => (by cases (show true = false from z))⟩
  · exact ⟨by simp, fun _ => T.xe1, fun z => (by cases (show true = false from z))⟩
  · exact ⟨by simp, fun _ => T.xe18, fun z => (by cases (show true = false from z))⟩
  · exact ⟨by simp, fun _ => T.xe23, fun z => (by cases (show true = false from z))⟩
  · exact ⟨by simp, fun _ => T.xe8, fun z => (by cases (show true = false from z))⟩
  · exact ⟨by simp, fun _ => T.xe2, fun z => (by cases (show true = false from z))⟩
  · exact ⟨by simp, fun _ => T.xe10, fun z => (by cases (show true = false from z))⟩
  · exact ⟨by simp, fun _ => T.xe12, fun z => (by cases (show true = false from z))⟩
  · exact ⟨by simp, fun _ => T.xe3, fun z => (by cases (show true = false from z))⟩
  · exact ⟨by simp, fun _ => T.xe15, fun z => (by cases (show true = false from z))⟩
  · exact ⟨by simp, fun _ => T.xe4, fun z => (by cases (show true = false from z))⟩
  · exact ⟨by simp, fun _ => T.xe29, fun z => (by cases (show true = false from z))⟩
  · exact ⟨by simp, fun _ => T.xe27, fun z => (by cases (show true = false from z))⟩
  · exact ⟨by simp, fun _ => T.xe24, fun z => (by cases (show true = false from z))⟩
  · exact ⟨by simp, fun _ => T.xe20, fun z => (by cases (show true = false from z))⟩
  · exact ⟨by simp, fun _ => T.xe6, fun z => (by cases (show true = false from z))⟩
  · exact ⟨by simp, fun _ => T.xe30, fun z => (by cases (show true = false from z))⟩
  · exact ⟨by simp, fun _ => T.xe31, fun z => (by cases (show true = false from z))⟩
  · exact ⟨by simp, fun _ => T.xe32, fun z => (by cases (show true = false from z))⟩
  · exact ⟨by simp, fun _ => T.xe28, fun z => (by cases (show true = false from z))⟩
  · exact ⟨by simp, fun _ => T.xe19, fun z => (by cases (show true = false from z))⟩
  · exact ⟨by simp, fun _ => T.xe25, fun z => (by cases (show true = false from z))⟩
  · exact ⟨by simp, fun _ => T.xe33, fun z => (by cases (show true = false from z))⟩
theorem iso_25 (T : Tx K mg fa ca pa cc ta fd) {X : Cx} (e : X.K = K) : IsO X (tb K) [25] (.ref (ca 25)) := by
  subst e
  refine iso_of T.is25 fun c C h => ?_
  rcases cnc T h with ⟨rfl, rfl⟩ | ⟨rfl, rfl⟩ | ⟨rfl, rfl⟩ | ⟨rfl, rfl⟩ | ⟨rfl, rfl⟩ | ⟨rfl, rfl⟩ | ⟨rfl, rfl⟩ | ⟨rfl, rfl⟩ | ⟨rfl, rfl⟩ | ⟨rfl, rfl⟩ | ⟨rfl, rfl⟩ | ⟨rfl, rfl⟩ | ⟨rfl, rfl⟩ | ⟨rfl, rfl⟩ | ⟨rfl, rfl⟩ | ⟨rfl, rfl⟩ | ⟨rfl, rfl⟩ | ⟨rfl, rfl⟩ | ⟨rfl, rfl⟩ | ⟨rfl, rfl⟩ | ⟨rfl, rfl⟩ | ⟨rfl, rfl⟩ | ⟨rfl, rfl⟩
  · exact ⟨by simp, fun _ => T.xe0, fun z => (by cases (show true = false from z))⟩
  · exact ⟨by simp, fun _ => T.xe1, fun z => (by cases (show true = false from z))⟩
  · exact ⟨by simp, fun _ => T.xe18, fun z => (by cases (show true = false from z))⟩
  · exact ⟨by simp, fun _ => T.xe23, fun z => (by cases (show true = false from z))⟩
  · exact ⟨by simp, fun _ => T.xe8, fun z => (by cases (show true = false from z))⟩
  · exact ⟨by simp, fun _ => T.xe2, fun z => (by cases (show true = false from z))⟩
  · exact ⟨by simp, fun _ => T.xe10, fun z => (by cases (show true = false from z))⟩
  · exact ⟨by simp, fun _ => T.xe12, fun z => (by cases (show true = false from z))⟩
  · exact ⟨by simp, fun _ => T.xe3, fun z => (by cases (show true = false from z))⟩
  · exact ⟨by simp, fun _ => T.xe15, fun z => (by cases (show true = false from z))⟩
  · exact ⟨by simp, fun _ => T.xe4, fun z => (by cases (show true = false from z))⟩
  · exact ⟨by simp, fun _ => T.xe29, fun z => (by cases (show true = false from z))⟩
  · exact ⟨by simp, fun _ => T.xe27, fun z => (by cases (show true = false from z))⟩
  · exact ⟨by simp, fun _ => T.xe24, fun z => (by cases (show true = false from z))⟩
  · exact ⟨by simp, fun _ => T.xe20, fun z => (by cases (show true = false from z))⟩
  · exact ⟨by simp, fun _ => T.xe6, fun z => (by cases (show true = false from z))⟩
  · exact ⟨by simp, fun _ => T.xe30, fun z => (by cases (show true = false from z))⟩
  · exact ⟨by simp, fun _ => T.xe31, fun z => (by cases (show true = false from z))⟩
  · exact ⟨by simp, fun _ => T.xe32, fun z => (by cases (show true = false from z))⟩
  · exact ⟨by simp, fun _ => T.xe28, fun z => (by cases (show true = false from z))⟩
  · exact ⟨by simp, fun _ => T.xe19, fun z => (by cases (show true = false from z))⟩
  · exact ⟨by simp, fun _ => T.xe25, fun z => (by cases (show true = false from z))⟩
  · exact ⟨by simp, fun _ => T.xe33, fun z => (by cases (show true = false from z))⟩
theorem iso_27 (T : Tx K mg fa ca pa cc ta fd) {X : Cx} (e : X.K = K) : IsO X (tb K) [27] (.ref (ca 27)) := by
  subst e
  refine iso_of T.is27 fun c C h => ?_
  rcases cnc T h with ⟨rfl, rfl⟩ | ⟨rfl, rfl⟩ | ⟨rfl, rfl⟩ | ⟨rfl, rfl⟩ | ⟨rfl, rfl⟩ | ⟨rfl, rfl⟩ | ⟨rfl, rfl⟩ | ⟨rfl, rfl⟩ | ⟨rfl, rfl⟩ | ⟨rfl, rfl⟩ | ⟨rfl, rfl⟩ | ⟨rfl, rfl⟩ | ⟨rfl, rfl⟩ | ⟨rfl, rfl⟩ | ⟨rfl, rfl⟩ | ⟨rfl, rfl⟩ | ⟨rfl, rfl⟩ | ⟨rfl, rfl⟩ | ⟨rfl, rfl⟩ | ⟨rfl, rfl⟩ | ⟨rfl, rfl⟩ | ⟨rfl, rfl⟩ | ⟨rfl, rfl⟩
  · exact ⟨by simp, fun _ => T.xe0, fun z => (by cases (show true = false from z))⟩
  · exact ⟨by simp, fun _ => T.xe1, fun z => (by cases (show true = false from z))⟩
  · exact ⟨by simp, fun _ => T.xe18, fun z => (by cases (show true = false from z))⟩
  · exact ⟨by simp, fun _ => T.xe23, fun z => (by cases (show true = false from z))⟩
  · exact ⟨by simp, fun _ => T.xe8, fun z => (by cases (show true = false from z))⟩
  · exact ⟨by simp, fun _ => T.xe2, fun z => (by cases (show true = false from z))⟩
  · exact ⟨by simp, fun _ => T.xe10, fun z => (by cases (show true = false from z))⟩
  · exact ⟨by simp, fun _ => T.xe12, fun z => (by cases (show true = false from z))⟩
  · exact ⟨by simp, fun _ => T.xe3, fun z => (by cases (show true = false from z))⟩
  · exact ⟨by simp, fun _ => T.xe15, fun z => (by cases (show true = false from z))⟩
  · exact ⟨by simp, fun _ => T.xe4, fun z => (by cases (show true = false from z))⟩
  · exact ⟨by simp, fun _ => T.xe29, fun z => (by cases (show true = false from z))⟩
  · exact ⟨by simp, fun _ => T.xe27, fun z => (by cases (show true = false from z))⟩
  · exact ⟨by simp, fun _ => T.xe24, fun z => (by cases (show true = false from z))⟩
  · exact ⟨by simp, fun _ => T.xe20, fun z => (by cases (show true = false from z))⟩
  · exact ⟨by simp, fun _ => T.xe6, fun z => (by cases (show true = false from z))⟩
  · exact ⟨by simp, fun _ => T.xe30, fun z => (by cases (show true = false from z))⟩
  · exact ⟨by simp, fun _ => T.xe31, fun z => (by cases (show true = false from z))⟩
  · exact ⟨by simp, fun _ => T.xe32, fun z => (by cases (show true = false from z))⟩
  · exact ⟨by simp, fun _ => T.xe28, fun z => (by cases (show true = false from z))⟩
  · exact ⟨by simp, fun _ => T.xe19, fun z => (by cases (show true = false from z))⟩
  · exact ⟨by simp, fun _ => T.xe25, fun z => (by cases (show true = false from z))⟩
  · exact ⟨by simp, fun _ => T.xe33, fun z => (by cases (show true = false from z))⟩
theorem iso_28 (T : Tx K mg fa ca pa cc ta fd) {X : Cx} (e : X.K = K) : IsO X (tb K) [28] (.ref (ca 28)) := by
  subst e
  refine iso_of T.is28 fun c C h => ?_
  rcases cnc T h with ⟨rfl, rfl⟩ | ⟨rfl, rfl⟩ | ⟨rfl, rfl⟩ | ⟨rfl, rfl⟩ | ⟨rfl, rfl⟩ | ⟨rfl, rfl⟩ | ⟨rfl, rfl⟩ | ⟨rfl, rfl⟩ | ⟨rfl, rfl⟩ | ⟨rfl, rfl⟩ | ⟨rfl, rfl⟩ | ⟨rfl, rfl⟩ | ⟨rfl, rfl⟩ | ⟨rfl, rfl⟩ | ⟨rfl, rfl⟩ | ⟨rfl, rfl⟩ | ⟨rfl, rfl⟩ | ⟨rfl, rfl⟩ | ⟨rfl, rfl⟩ | ⟨rfl, rfl⟩ | ⟨rfl, rfl⟩ | ⟨rfl, rfl⟩ | ⟨rfl, rfl⟩
  · exact ⟨by simp, fun _ => T.xe0, fun z => (by cases (show true = false from z))⟩
  · exact ⟨by simp, fun _ => T.xe1, fun z => (by cases (show true = false from z))⟩
  · exact ⟨by simp, fun _ => T.xe18, fun z => (by cases (show true = false from z))⟩
  · exact ⟨by simp, fun _ => T.xe23, fun z => (by cases (show true = false from z))⟩
  · exact ⟨by simp, fun _ => T.xe8, fun z => (by cases (show true = false from z))⟩
  · exact ⟨by simp, fun _ => T.xe2, fun z => (by cases (show true = false from z))⟩
  · exact ⟨by simp, fun _ => T.xe10, fun z => (by cases (show true = false from z))⟩
  · exact ⟨by simp, fun _ => T.xe12, fun z => (by cases (show true = false from z))⟩
  · exact ⟨by simp, fun _ => T.xe3, fun z => (by cases (show true = false from z))⟩
  · exact ⟨by simp, fun _ => T.xe15, fun z => (by cases (show true = false from z))⟩
  · exact ⟨by simp, fun _ => T.xe4, fun z => (by cases (show true = false from z))⟩
  · exact ⟨by simp, fun _ => T.xe29, fun z => (by cases (show true = false from z))⟩
  · exact ⟨by simp, fun _ => T.xe27, fun z => (by cases (show true = false from z))⟩
  · exact ⟨by simp, fun _ => T.xe24, fun z => (by cases (show true = false from z))⟩
  · exact ⟨by simp, fun _ => T.xe20, fun z => (by cases (show true = false from z))⟩
  · exact ⟨by simp, fun _ => T.xe6, fun z => (by cases (show true = false from z))⟩
  · exact ⟨by simp, fun _ => T.xe30, fun z => (by cases (show true = false from z))⟩
  · exact ⟨by simp, fun _ => T.xe31, fun z => (by cases (show true = false from z))⟩
  · exact ⟨by simp, fun _ => T.xe32, fun z => (by cases (show true = false from z))⟩
  · exact ⟨by simp, fun _ => T.xe28, fun z => (by cases (show true = false from z))⟩
  · exact ⟨by simp, fun _ => T.xe19, fun z => (by cases (show true = false from z))⟩
  · exact ⟨by simp, fun _ => T.xe25, fun z => (by cases (show true = false from z))⟩
  · exact ⟨by simp, fun _ => T.xe33, fun z => (by cases (show true = false from z))⟩
theorem iso_29 (T : Tx K mg fa ca pa cc ta fd) {X : Cx} (e : X.K = K) : IsO X (tb K) [29] (.ref (ca 29)) := by
  subst e
  refine iso_of T.is29 fun c C h => ?_
  rcases cnc T h with ⟨rfl, rfl⟩ | ⟨rfl, rfl⟩ | ⟨rfl, rfl⟩ | ⟨rfl, rfl⟩ | ⟨rfl, rfl⟩ | ⟨rfl, rfl⟩ | ⟨rfl, rfl⟩ | ⟨rfl, rfl⟩ | ⟨rfl, rfl⟩ | ⟨rfl, rfl⟩ | ⟨rfl, rfl⟩ | ⟨rfl, rfl⟩ | ⟨rfl, rfl⟩ | ⟨rfl, rfl⟩ | ⟨rfl, rfl⟩ | ⟨rfl, rfl⟩ | ⟨rfl, rfl⟩ | ⟨rfl, rfl⟩ | ⟨rfl, rfl⟩ | ⟨rfl, rfl⟩ | ⟨rfl, rfl⟩ | ⟨rfl, rfl⟩ | ⟨rfl, rfl⟩
  · exact ⟨by simp, fun _ => T.xe0, fun z => (by cases (show true = false from z))⟩
  · exact ⟨by simp, fun _ => T.xe1, fun z => (by cases (show true = false from z))⟩
  · exact ⟨by simp, fun _ => T.xe18, fun z => (by cases (show true = false from z))⟩
  · exact ⟨by simp, fun _ => T.xe23, fun z => (by cases (show true = false from z))⟩
  · exact ⟨by simp, fun _ => T.xe8, fun z => (by cases (show true = false from z))⟩
  · exact ⟨by simp, fun _ => T.xe2, fun z => (by cases (show true = false from z))⟩
  · exact ⟨by simp, fun _ => T.xe10, fun z => (by cases (show true = false from z))⟩
  · exact ⟨by simp, fun _ => T.xe12, fun z => (by cases (show true = false from z))⟩
  · exact ⟨by simp, fun _ => T.xe3, fun z => (by cases (show true = false from z))⟩
  · exact ⟨by simp, fun _ => T.xe15, fun z => (by cases (show true = false from z))⟩
  · exact ⟨by simp, fun _ => T.xe4, fun z => (by cases (show true = false from z))⟩
  · exact ⟨by simp, fun _ => T.xe29, fun z => (by cases (show true = false from z))⟩
  · exact ⟨by simp, fun _ => T.xe27, fun z => (by cases (show true = false from z))⟩
  · exact ⟨by simp, fun _ => T.xe24, fun z => (by cases (show true = false from z))⟩
  · exact ⟨by simp, fun _ => T.xe20, fun z => (by cases (show true = false from z))⟩
  · exact ⟨by simp, fun _ => T.xe6, fun z => (by cases (show true = false from z))⟩
  · exact ⟨by simp, fun _ => T.xe30, fun z => (by cases (show true = false from z))⟩
  · exact ⟨by simp, fun _ => T.xe31, fun z => (by cases (show true = false from z))⟩
  · exact ⟨by simp, fun _ => T.xe32, fun z => (by cases (show true = false from z))⟩
  · exact ⟨by simp, fun _ => T.xe28, fun z => (by cases (show true = false from z))⟩
  · exact ⟨by simp, fun _ => T.xe19, fun z => (by cases (show true = false from z))⟩
  · exact ⟨by simp, fun _ => T.xe25, fun z => (by cases (show true = false from z))⟩
  · exact ⟨by simp, fun _ => T.xe33, fun z => (by cases (show true = false from z))⟩
theorem iso_30 (T : Tx K mg fa ca pa cc ta fd) {X : Cx} (e : X.K = K) : IsO X (tb K) [30] (.ref (ca 30)) := by
  subst e
  refine iso_of T.is30 fun c C h => ?_
  rcases cnc T h with ⟨rfl, rfl⟩ | ⟨rfl, rfl⟩ | ⟨rfl, rfl⟩ | ⟨rfl, rfl⟩ | ⟨rfl, rfl⟩ | ⟨rfl, rfl⟩ | ⟨rfl, rfl⟩ | ⟨rfl, rfl⟩ | ⟨rfl, rfl⟩ | ⟨rfl, rfl⟩ | ⟨rfl, rfl⟩ | ⟨rfl, rfl⟩ | ⟨rfl, rfl⟩ | ⟨rfl, rfl⟩ | ⟨rfl, rfl⟩ | ⟨rfl, rfl⟩ | ⟨rfl, rfl⟩ | ⟨rfl, rfl⟩ | ⟨rfl, rfl⟩ | ⟨rfl, rfl⟩ | ⟨rfl, rfl⟩ | ⟨rfl, rfl⟩ | ⟨rfl, rfl⟩
  · exact ⟨by simp, fun _ => T.xe0, fun z => (by cases (show true = false from z))⟩
  · exact ⟨by simp, fun _ => T.xe1, fun z => (by cases (show true = false from z))⟩
  · exact ⟨by simp, fun _ => T.xe18, fun z => (by cases (show true = false from z))⟩
  · exact ⟨by simp, fun _ => T.xe23, fun z => (by cases (show true = false from z))⟩
  · exact ⟨by simp, fun _ => T.xe8, fun z => (by cases (show true = false from z))⟩
  · exact ⟨by simp, fun _ => T.xe2, fun z => (by cases (show true = false from z))⟩
  · exact ⟨by simp, fun _ => T.xe10, fun z => (by cases (show true = false from z))⟩
  · exact ⟨by simp, fun _ => T.xe12, fun z => (by cases (show true = false from z))⟩
  · exact ⟨by simp, fun _ => T.xe3, fun z => (by cases (show true = false from z))⟩
  · exact ⟨by simp, fun _ => T.xe15, fun z => (by cases (show true = false from z))⟩
  · exact ⟨by simp, fun _ => T.xe4, fun z => (by cases (show true = false from z))⟩
  · exact ⟨by simp, fun _ => T.xe29, fun z => (by cases (show true = false from z))⟩
  · exact ⟨by simp, fun _ => T.xe27, fun z => (by cases (show true = false from z))⟩
  · exact ⟨by simp, fun _ => T.xe24, fun z => (by cases (show true = false from z))⟩
  · exact ⟨by simp, fun _ => T.xe20, fun z => (by cases (show true = false from z))⟩
  · exact ⟨by simp, fun _ => T.xe6, fun z => (by cases (show true = false from z))⟩
  · exact ⟨by simp, fun _ => T.xe30, fun z => (by cases (show true = false from z))⟩
  · exact ⟨by simp, fun _ => T.xe31, fun z => (by cases (show true = false from z))⟩
  · exact ⟨by simp, fun _ => T.xe32, fun z => (by cases (show true = false from z))⟩
  · exact ⟨by simp, fun _ => T.xe28, fun z => (by cases (show true = false from z))⟩
  · exact ⟨by simp, fun _ => T.xe19, fun z => (by cases (show true = false from z))⟩
  · exact ⟨by simp, fun _ => T.xe25, fun z => (by cases (show true = false from z))⟩
  · exact ⟨by simp, fun _ => T.xe33, fun z => (by cases (show true = false from z))⟩
theorem iso_31 (T : Tx K mg fa ca pa cc ta fd) {X : Cx} (e : X.K = K) : IsO X (tb K) [31] (.ref (ca 31)) := by
  subst e
  refine iso_of T.is31 fun c C h => ?_
  rcases cnc T h with ⟨rfl, rfl⟩ | ⟨rfl, rfl⟩ | ⟨rfl, rfl⟩ | ⟨rfl, rfl⟩ | ⟨rfl, rfl⟩ | ⟨rfl, rfl⟩ | ⟨rfl, rfl⟩ | ⟨rfl, rfl⟩ | ⟨rfl, rfl⟩ | ⟨rfl, rfl⟩ | ⟨rfl, rfl⟩ | ⟨rfl, rfl⟩ | ⟨rfl, rfl⟩ | ⟨rfl, rfl⟩ | ⟨rfl, rfl⟩ | ⟨rfl, rfl⟩ | ⟨rfl, rfl⟩ | ⟨rfl, rfl⟩ | ⟨rfl, rfl⟩ | ⟨rfl, rfl⟩ | ⟨rfl, rfl⟩ | ⟨rfl, rfl⟩ | ⟨rfl, rfl⟩
  · exact ⟨by simp, fun _ => T.xe0, fun z => (by cases (show true = false from z))⟩
  · exact ⟨by simp, fun _ => T.xe1, fun z => (by cases (show true = false from z))⟩
  · exact ⟨by simp, fun _ => T.xe18, fun z => (by cases (show true = false from z))⟩
  · exact ⟨by simp, fun _ => T.xe23, fun z => (by cases (show true = false from z))⟩
  · exact ⟨by simp, fun _ => T.xe8, fun z => (by cases (show true = false from z))⟩
  · exact ⟨by simp, fun _ => T.xe2, fun z => (by cases (show true = false from z))⟩
  · exact ⟨by simp, fun _ => T.xe10, fun z => (by cases (show true = false from z))⟩
  · exact ⟨by simp, fun _ => T.xe12, fun z => (by cases (show true = false from z))⟩
  · exact ⟨by simp, fun _ => T.xe3, fun z => (by cases (show true = false from z))⟩
  · exact ⟨by simp, fun _ => T.xe15, fun z => (by cases (show true = false from z))⟩
  · exact ⟨by simp, fun _ => T.xe4, fun z => (by cases (show true = false from z))⟩
  · exact ⟨by simp, fun _ => T.xe29, fun z => (by cases (show true = false from z))⟩
  · exact ⟨by simp, fun _ => T.xe27, fun z => (by cases (show true = false from z))⟩
  · exact ⟨by simp, fun _ => T.xe24, fun z => (by cases (show true = false from z))⟩
  · exact ⟨by simp, fun _ => T.xe20, fun z => (by cases (show true = false from z))⟩
  · exact ⟨by simp, fun _ => T.xe6, fun z => (by cases (show true = false from z))⟩
  · exact ⟨by simp, fun _ => T.xe30, fun z => (by cases (show true = false from z))⟩
  · exact ⟨by simp, fun _ => T.xe31, fun z => (by cases (show true = false from z))⟩
  · exact ⟨by simp, fun _ => T.xe32, fun z => (by cases (show true = false from z))⟩
  · exact ⟨by simp, fun _ => T.xe28, fun z => (by cases (show true = false from z))⟩
  · exact ⟨by simp, fun _ => T.xe19, fun z => (by cases (show true = false from z))⟩
  · exact ⟨by simp, fun _ => T.xe25, fun z => (by cases (show true = false from z))⟩
  · exact ⟨by simp, fun _ => T.xe33, fun z => (by cases (show true = false from z))⟩
theorem iso_32 (T : Tx K mg fa ca pa cc ta fd) {X : Cx} (e : X.K = K) : IsO X (tb K) [32] (.ref (ca 32)) := by
  subst e
  refine iso_of T.is32 fun c C h => ?_
  rcases cnc T h with ⟨rfl, rfl⟩ | ⟨rfl, rfl⟩ | ⟨rfl, rfl⟩ | ⟨rfl, rfl⟩ | ⟨rfl, rfl⟩ | ⟨rfl, rfl⟩ | ⟨rfl, rfl⟩ | ⟨rfl, rfl⟩ | ⟨rfl, rfl⟩ | ⟨rfl, rfl⟩ | ⟨rfl, rfl⟩ | ⟨rfl, rfl⟩ | ⟨rfl, rfl⟩ | ⟨rfl, rfl⟩ | ⟨rfl, rfl⟩ | ⟨rfl, rfl⟩ | ⟨rfl, rfl⟩ | ⟨rfl, rfl⟩ | ⟨rfl, rfl⟩ | ⟨rfl, rfl⟩ | ⟨rfl, rfl⟩ | ⟨rfl, rfl⟩ | ⟨rfl, rfl⟩
  · exact ⟨by simp, fun _ => T.xe0, fun z => (by cases (show true = false from z))⟩
  · exact ⟨by simp, fun _ => T.xe1, fun z => (by cases (show true = false from z))⟩
  · exact ⟨by simp, fun _ => T.xe18, fun z => (by cases (show true = false from z))⟩
  · exact ⟨by simp, fun _ => T.xe23, fun z => (by cases (show true = false from z))⟩
  · exact ⟨by simp, fun _ => T.xe8, fun z => (by cases (show true = false from z))⟩
  · exact ⟨by simp, fun _ => T.xe2, fun z => (by cases (show true = false from z))⟩
  · exact ⟨by simp, fun _ => T.xe10, fun z => (by cases (show true = false from z))⟩
  · exact ⟨by simp, fun _ => T.xe12, fun z => (by cases (show true = false from z))⟩
  · exact ⟨by simp, fun _ => T.xe3, fun z => (by cases (show true = false from z))⟩
  · exact ⟨by simp, fun _ => T.xe15, fun z => (by cases (show true = false from z))⟩
  · exact ⟨by simp, fun _ => T.xe4, fun z => (by cases (show true = false from z))⟩
  · exact ⟨by simp, fun _ => T.xe29, fun z => (by cases (show true = false from z))⟩
  · exact ⟨by simp, fun _ => T.xe27, fun z => (by cases (show true = false from z))⟩
  · exact ⟨by simp, fun _ => T.xe24, fun z => (by cases (show true = false from z))⟩
  · exact ⟨by simp, fun _ => T.xe20, fun z => (by cases (show true = false from z))⟩
  · exact ⟨by simp, fun _ => T.xe6, fun z => (by cases (show true = false from z))⟩
  · exact ⟨by simp, fun _ => T.xe30, fun z => (by cases (show true = false from z))⟩
  · exact ⟨by simp, fun _ => T.xe31, fun z => (by cases (show true = false from z))⟩
  · exact ⟨by simp, fun _ => T.xe32, fun z => (by cases (show true = false from z))⟩
  · exact ⟨by simp, fun _ => T.xe28, fun z => (by cases (show true = false from z))⟩
  · exact ⟨by simp, fun _ => T.xe19, fun z => (by cases (show true = false from z))⟩
  · exact ⟨by simp, fun _ => T.xe25, fun z => (by cases (show true = false from z))⟩
  · exact ⟨by simp, fun _ => T.xe33, fun z => (by cases (show true = false from z))⟩
theorem iso_33 (T : Tx K mg fa ca pa cc ta fd) {X : Cx} (e : X.K = K) : IsO X (tb K) [33] (.ref (ca 33)) := by
  subst e
  refine iso_of T.is33 fun c C h => ?_
  rcases cnc T h with ⟨rfl, rfl⟩ | ⟨rfl, rfl⟩ | ⟨rfl, rfl⟩ | ⟨rfl, rfl⟩ | ⟨rfl, rfl⟩ | ⟨rfl, rfl⟩ | ⟨rfl, rfl⟩ | ⟨rfl, rfl⟩ | ⟨rfl, rfl⟩ | ⟨rfl, rfl⟩ | ⟨rfl, rfl⟩ | ⟨rfl, rfl⟩ | ⟨rfl, rfl⟩ | ⟨rfl, rfl⟩ | ⟨rfl, rfl⟩ | ⟨rfl, rfl⟩ | ⟨rfl, rfl⟩ | ⟨rfl, rfl⟩ | ⟨rfl, rfl⟩ | ⟨rfl, rfl⟩ | ⟨rfl, rfl⟩ | ⟨rfl, rfl⟩ | ⟨rfl, rfl⟩
  · exact ⟨by simp, fun _ => T.xe0, fun z => (by cases (show true = false from z))⟩
  · exact ⟨by simp, fun _ => T.xe1, fun z => (by cases (show true = false from z))⟩
  · exact ⟨by simp, fun _ => T.xe18, fun z => (by cases (show true = false from z))⟩
  · exact ⟨by simp, fun _ => T.xe23, fun z => (by cases (show true = false from z))⟩
  · exact ⟨by simp, fun _ => T.xe8, fun z => (by cases (show true = false from z))⟩
  · exact ⟨by simp, fun _ => T.xe2, fun z => (by cases (show true = false from z))⟩
  · exact ⟨by simp, fun _ => T.xe10, fun z => (by cases (show true = false from z))⟩
  · exact ⟨by simp, fun _ => T.xe12, fun z => (by cases (show true = false from z))⟩
  · exact ⟨by simp, fun _ => T.xe3, fun z => (by cases (show true = false from z))⟩
  · exact ⟨by simp, fun _ => T.xe15, fun z => (by cases (show true = false from z))⟩
  · exact ⟨by simp, fun _ => T.xe4, fun z => (by cases (show true = false from z))⟩
  · exact ⟨by simp, fun _ => T.xe29, fun z => (by cases (show true = false from z))⟩
  · exact ⟨by simp, fun _ => T.xe27, fun z => (by cases (show true = false from z))⟩
  · exact ⟨by simp, fun _ => T.xe24, fun z => (by cases (show true = false from z))⟩
  · exact ⟨by simp, fun _ => T.xe20, fun z => (by cases (show true = false from z))⟩
  · exact ⟨by simp, fun _ => T.xe6, fun z => (by cases (show true = false from z))⟩
  · exact ⟨by simp, fun _ => T.xe30, fun z => (by cases (show true = false from z))⟩
  · exact ⟨by simp, fun _ => T.xe31, fun z => (by cases (show true = false from z))⟩
  · exact ⟨by simp, fun _ => T.xe32, fun z => (by cases (show true = false from z))⟩
  · exact ⟨by simp, fun _ => T.xe28, fun z => (by cases (show true = false from z))⟩
  · exact ⟨by simp, fun _ => T.xe19, fun z => (by cases (show true = false from z))⟩
  · exact ⟨by simp, fun _ => T.xe25, fun z => (by cases (show true = false from z))⟩
  · exact ⟨by simp, fun _ => T.xe33, fun z => (by cases (show true = false from z))⟩
theorem isoT (T : Tx K mg fa ca pa cc ta fd) {X : Cx} (e : X.K = K) : IsO X (tb K) [0, 1, 18, 23, 8, 2, 10, 12, 3, 15, 4, 29, 27, 24, 20, 6, 30, 31, 32, 28, 19, 25, 33] (.type "ValueError") := by
  subst e
  refine isoT_of T.isT fun c C h => ?_
  rcases cnc T h with ⟨rfl, rfl⟩ | ⟨rfl, rfl⟩ | ⟨rfl, rfl⟩ | ⟨rfl, rfl⟩ | ⟨rfl, rfl⟩ | ⟨rfl, rfl⟩ | ⟨rfl, rfl⟩ | ⟨rfl, rfl⟩ | ⟨rfl, rfl⟩ | ⟨rfl, rfl⟩ | ⟨rfl, rfl⟩ | ⟨rfl, rfl⟩ | ⟨rfl, rfl⟩ | ⟨rfl, rfl⟩ | ⟨rfl, rfl⟩ | ⟨rfl, rfl⟩ | ⟨rfl, rfl⟩ | ⟨rfl, rfl⟩ | ⟨rfl, rfl⟩ | ⟨rfl, rfl⟩ | ⟨rfl, rfl⟩ | ⟨rfl, rfl⟩ | ⟨rfl, rfl⟩
  · exact ⟨by simp, fun _ => T.xe0, fun z => (by cases (show true = false from z))⟩
  · exact ⟨by simp, fun _ => T.xe1, fun z => (by cases (show true = false from z))⟩
  · exact ⟨by simp, fun _ => T.xe18, fun z => (by cases (show true = false from z))⟩
  · exact ⟨by simp, fun _ => T.xe23, fun z => (by cases (show true = false from z))⟩
  · exact ⟨by simp, fun _ => T.xe8, fun z => (by cases (show true = false from z))⟩
  · exact ⟨by simp, fun _ => T.xe2, fun z => (by cases (show true = false from z))⟩
  · exact ⟨by simp, fun _ => T.xe10, fun z => (by cases (show true = false from z))⟩
  · exact ⟨by simp, fun _ => T.xe12, fun z => (by cases (show true = false from z))⟩
  · exact ⟨by simp, fun _ => T.xe3, fun z => (by cases (show true = false from z))⟩
  · exact ⟨by simp, fun _ => T.xe15, fun z => (by cases (show true = false from z))⟩
  · exact ⟨by simp, fun _ => T.xe4, fun z => (by cases (show true = false from z))⟩
  · exact ⟨by simp, fun _ => T.xe29, fun z => (by cases (show true = false from z))⟩
  · exact ⟨by simp, fun _ => T.xe27, fun z => (by cases (show true = false from z))⟩
  · exact ⟨by simp, fun _ => T.xe24, fun z => (by cases (show true = false from z))⟩
  · exact ⟨by simp, fun _ => T.xe20, fun z => (by cases (show true = false from z))⟩
  · exact ⟨by simp, fun _ => T.xe6, fun z => (by cases (show true = false from z))⟩
  · exact ⟨by simp, fun _ => T.xe30, fun z => (by cases (show true = false from z))⟩
  · exact ⟨by simp, fun _ => T.xe31, fun z => (by cases (show true = false from z))⟩
  · exact ⟨by simp, fun _ => T.xe32, fun z => (by cases (show true = false from z))⟩
  · exact ⟨by simp, fun _ => T.xe28, fun z => (by cases (show true = false from z))⟩
  · exact ⟨by simp, fun _ => T.xe19, fun z => (by cases (show true = false from z))⟩
  · exact ⟨by simp, fun _ => T.xe25, fun z => (by cases (show true = false from z))⟩
  · exact ⟨by simp, fun _ => T.xe33, fun z => (by cases (show true = false from z))⟩
theorem sc0 : FnScope ["self", "part"] ["self", "part"] (defScope st0) := ⟨rfl, rfl, rfl, by decide +kernel, rfl, by decide +kernel, by decide +kernel⟩
theorem sc1 : FnScope ["self", "value"] ["self", "value"] (defScope st1) := ⟨rfl, rfl, rfl, by decide +kernel, rfl, by decide +kernel, by decide +kernel⟩
theorem sc2 : FnScope ["self", "value"] ["self", "value"] (defScope st2) := ⟨rfl, rfl, rfl, by decide +kernel, rfl, by decide +kernel, by decide +kernel⟩
theorem sc3 : FnScope ["self", "value"] ["self", "value"] (defScope st3) := ⟨rfl, rfl, rfl, by decide +kernel, rfl, by decide +kernel, by decide +kernel⟩
theorem sc4 : FnScope ["self", "part"] ["self", "part"] (defScope st4) := ⟨rfl, rfl, rfl, by decide +kernel, rfl, by decide +kernel, by decide +kernel⟩
theorem sc5 : FnScope ["self", "part"] ["self", "part"] (defScope st5) := ⟨rfl, rfl, rfl, by decide +kernel, rfl, by decide +kernel, by decide +kernel⟩
theorem sc6 : FnScope ["self", "value"] ["self", "value"] (defScope st6) := ⟨rfl, rfl, rfl, by decide +kernel, rfl, by decide +kernel, by decide +kernel⟩
theorem sc7 : FnScope ["self", "part"] ["self", "part"] (defScope st7) := ⟨rfl, rfl, rfl, by decide +kernel, rfl, by decide +kernel, by decide +kernel⟩
theorem sc8 : FnScope ["self", "part"] ["self", "part"] (defScope st8) := ⟨rfl, rfl, rfl, by decide +kernel, rfl, by decide +kernel, by decide +kernel⟩
theorem sc9 : FnScope ["self", "value"] ["self", "value"] (defScope st9) := ⟨rfl, rfl, rfl, by decide +kernel, rfl, by decide +kernel, by decide +kernel⟩
theorem sc10 : FnScope ["self", "part"] ["self", "part"] (defScope st10) := ⟨rfl, rfl, rfl, by decide +kernel, rfl, by decide +kernel, by decide +kernel⟩
theorem sc11 : FnScope ["self", "line", "word"] ["self", "line", "word"] (defScope st11) := ⟨rfl, rfl, rfl, by decide +kernel, rfl, by decide +kernel, by decide +kernel⟩
theorem sc12 : FnScope ["self", "word"] ["self", "word"] (defScope st12) := ⟨rfl, rfl, rfl, by decide +kernel, rfl, by decide +kernel, by decide +kernel⟩
theorem sc13 : FnScope ["self", "level", "key"] ["self", "level", "key"] (defScope st13) := ⟨rfl, rfl, rfl, by decide +kernel, rfl, by decide +kernel, by decide +kernel⟩
theorem sc14 : FnScope ["self", "part"] ["self", "part"] (defScope st14) := ⟨rfl, rfl, rfl, by decide +kernel, rfl, by decide +kernel, by decide +kernel⟩
theorem sc15 : FnScope ["self", "place"] ["self", "place"] (defScope st15) := ⟨rfl, rfl, rfl, by decide +kernel, rfl, by decide +kernel, by decide +kernel⟩
theorem sc16 : FnScope ["self", "what", "most"] ["self", "what", "most"] (defScope st16) := ⟨rfl, rfl, rfl, by decide +kernel, rfl, by decide +kernel, by decide +kernel⟩
theorem sc17 : FnScope ["self", "place"] ["self", "place"] (defScope st17) := ⟨rfl, rfl, rfl, by decide +kernel, rfl, by decide +kernel, by decide +kernel⟩
theorem sc18 : FnScope ["_law_script"] ["_law_script"] (defScope st18) := ⟨rfl, rfl, rfl, by decide +kernel, rfl, by decide +kernel, by decide +kernel⟩
theorem sc19 : FnScope ["_law_pen_here", "_law_many", "_law_digit", "_law_at", "_law_cell", "_law_great", "_law_mixed"] ["_law_pen_here", "_law_many"] (defScope st19) := ⟨rfl, rfl, rfl, by decide +kernel, rfl, by decide +kernel, by decide +kernel⟩
theorem sc20 : FnScope ["_law_pen_here", "_law_some"] ["_law_pen_here", "_law_some"] (defScope st20) := ⟨rfl, rfl, rfl, by decide +kernel, rfl, by decide +kernel, by decide +kernel⟩
theorem sc21 : FnScope ["_law_pen_here", "_law_some"] ["_law_pen_here"] (defScope st21) := ⟨rfl, rfl, rfl, by decide +kernel, rfl, by decide +kernel, by decide +kernel⟩
theorem sc22 : FnScope ["_law_error", "_law_found"] ["_law_error"] (defScope st22) := ⟨rfl, rfl, rfl, by decide +kernel, rfl, by decide +kernel, by decide +kernel⟩
theorem sc23 : FnScope ["_law_error", "_law_sign", "_law_is_so"] ["_law_error"] (defScope st23) := ⟨rfl, rfl, rfl, by decide +kernel, rfl, by decide +kernel, by decide +kernel⟩
theorem sc24 : FnScope ["_law_thing", "_law_made", "_law_found", "_law_error", "_law_sign", "_law_told", "_law_line_so", "_law_apart", "_law_far", "_law_lone"] ["_law_thing"] (defScope st24) := ⟨rfl, rfl, rfl, by decide +kernel, rfl, by decide +kernel, by decide +kernel⟩
theorem sc25 : FnScope ["_law_thing", "_law_more", "_law_told", "_law_text_so", "_law_much", "_law_far"] ["_law_thing", "_law_more"] (defScope st25) := ⟨rfl, rfl, rfl, by decide +kernel, rfl, by decide +kernel, by decide +kernel⟩
theorem sc26 : FnScope ["_law_script", "_law_pen_here", "_law_turn", "_law_thing", "_law_more", "_law_error", "_law_signs_here", "_law_field", "_law_groups"] ["_law_script"] (defScope st26) := ⟨rfl, rfl, rfl, by decide +kernel, rfl, by decide +kernel, by decide +kernel⟩
theorem xf8 (T : Tx K mg fa ca pa cc ta fd) : FnG P w K mg base 1 (fa 0) (fd 0) ["self", "part"] (spI (ca 8) ["part"]) := exc_fn1 (k := 0) T.f0 sc0 rfl T.ox8 (T.na8 _ (by decide)) (fun {X} hX => by
    have sc := sc0
    obtain ⟨cdv, A0, outer, s0, H0, E0, rfl⟩ := hX
    exact (pss_cons (ps_ost (pv 0) (pv 1)) pss_nil))
theorem xf2 (T : Tx K mg fa ca pa cc ta fd) : FnG P w K mg base 1 (fa 1) (fd 1) ["self", "value"] (spI (ca 2) ["value"]) := exc_fn1 (k := 0) T.f1 sc1 rfl T.ox2 (T.na2 _ (by decide)) (fun {X} hX => by
    have sc := sc1
    obtain ⟨cdv, A0, outer, s0, H0, E0, rfl⟩ := hX
    exact (pss_cons (ps_ost (pv 0) (pv 1)) pss_nil))
theorem xf10 (T : Tx K mg fa ca pa cc ta fd) : FnG P w K mg base 1 (fa 2) (fd 2) ["self", "value"] (spI (ca 10) ["value"]) := exc_fn1 (k := 0) T.f2 sc2 rfl T.ox10 (T.na10 _ (by decide)) (fun {X} hX => by
    have sc := sc2
    obtain ⟨cdv, A0, outer, s0, H0, E0, rfl⟩ := hX
    exact (pss_cons (ps_ost (pv 0) (pv 1)) pss_nil))
theorem xf12 (T : Tx K mg fa ca pa cc ta fd) : FnG P w K mg base 1 (fa 3) (fd 3) ["self", "value"] (spI (ca 12) ["value"]) := exc_fn1 (k := 0) T.f3 sc3 rfl T.ox12 (T.na12 _ (by decide)) (fun {X} hX => by
    have sc := sc3
    obtain ⟨cdv, A0, outer, s0, H0, E0, rfl⟩ := hX
    exact (pss_cons (ps_ost (pv 0) (pv 1)) pss_nil))
theorem xf3 (T : Tx K mg fa ca pa cc ta fd) : FnG P w K mg base 1 (fa 4) (fd 4) ["self", "part"] (spI (ca 3) ["part"]) := exc_fn1 (k := 0) T.f4 sc4 rfl T.ox3 (T.na3 _ (by decide)) (fun {X} hX => by
    have sc := sc4
    obtain ⟨cdv, A0, outer, s0, H0, E0, rfl⟩ := hX
    exact (pss_cons (ps_ost (pv 0) (pv 1)) pss_nil))
theorem xf15 (T : Tx K mg fa ca pa cc ta fd) : FnG P w K mg base 1 (fa 5) (fd 5) ["self", "part"] (spI (ca 15) ["part"]) := exc_fn1 (k := 0) T.f5 sc5 rfl T.ox15 (T.na15 _ (by decide)) (fun {X} hX => by
    have sc := sc5
    obtain ⟨cdv, A0, outer, s0, H0, E0, rfl⟩ := hX
    exact (pss_cons (ps_ost (pv 0) (pv 1)) pss_nil))
theorem xf4 (T : Tx K mg fa ca pa cc ta fd) : FnG P w K mg base 1 (fa 6) (fd 6) ["self", "value"] (spI (ca 4) ["value"]) := exc_fn1 (k := 0) T.f6 sc6 rfl T.ox4 (T.na4 _ (by decide)) (fun {X} hX => by
    have sc := sc6
    obtain ⟨cdv, A0, outer, s0, H0, E0, rfl⟩ := hX
    exact (pss_cons (ps_ost (pv 0) (pv 1)) pss_nil))
theorem xf29 (T : Tx K mg fa ca pa cc ta fd) : FnG P w K mg base 1 (fa 7) (fd 7) ["self", "part"] (spI (ca 29) ["part"]) := exc_fn1 (k := 0) T.f7 sc7 rfl T.ox29 (T.na29 _ (by decide)) (fun {X} hX => by
    have sc := sc7
    obtain ⟨cdv, A0, outer, s0, H0, E0, rfl⟩ := hX
    exact (pss_cons (ps_ost (pv 0) (pv 1)) pss_nil))
theorem xf27 (T : Tx K mg fa ca pa cc ta fd) : FnG P w K mg base 1 (fa 8) (fd 8) ["self", "part"] (spI (ca 27) ["part"]) := exc_fn1 (k := 0) T.f8 sc8 rfl T.ox27 (T.na27 _ (by decide)) (fun {X} hX => by
    have sc := sc8
    obtain ⟨cdv, A0, outer, s0, H0, E0, rfl⟩ := hX
    exact (pss_cons (ps_ost (pv 0) (pv 1)) pss_nil))
theorem xf24 (T : Tx K mg fa ca pa cc ta fd) : FnG P w K mg base 1 (fa 9) (fd 9) ["self", "value"] (spI (ca 24) ["value"]) := exc_fn1 (k := 0) T.f9 sc9 rfl T.ox24 (T.na24 _ (by decide)) (fun {X} hX => by
    have sc := sc9
    obtain ⟨cdv, A0, outer, s0, H0, E0, rfl⟩ := hX
    exact (pss_cons (ps_ost (pv 0) (pv 1)) pss_nil))
theorem xf20 (T : Tx K mg fa ca pa cc ta fd) : FnG P w K mg base 1 (fa 10) (fd 10) ["self", "part"] (spI (ca 20) ["part"]) := exc_fn1 (k := 0) T.f10 sc10 rfl T.ox20 (T.na20 _ (by decide)) (fun {X} hX => by
    have sc := sc10
    obtain ⟨cdv, A0, outer, s0, H0, E0, rfl⟩ := hX
    exact (pss_cons (ps_ost (pv 0) (pv 1)) pss_nil))
theorem xf6 (T : Tx K mg fa ca pa cc ta fd) : FnG P w K mg base 1 (fa 11) (fd 11) ["self", "line", "word"] (spI (ca 6) ["line", "word"]) := exc_fn2 (k := 0) T.f11 sc11 rfl T.ox6 (T.na6 _ (by decide)) (T.na6 _ (by decide)) (fun {X} hX => by
    have sc := sc11
    obtain ⟨cdv, A0, outer, s0, H0, E0, rfl⟩ := hX
    exact (pss_cons (ps_ost (pv 0) (pv 1)) (pss_cons (ps_ost (pv 0) (pv 2)) pss_nil)))
theorem xf30 (T : Tx K mg fa ca pa cc ta fd) : FnG P w K mg base 1 (fa 12) (fd 12) ["self", "word"] (spI (ca 30) ["word"]) := exc_fn1 (k := 0) T.f12 sc12 rfl T.ox30 (T.na30 _ (by decide)) (fun {X} hX => by
    have sc := sc12
    obtain ⟨cdv, A0, outer, s0, H0, E0, rfl⟩ := hX
    exact (pss_cons (ps_ost (pv 0) (pv 1)) pss_nil))
theorem xf31 (T : Tx K mg fa ca pa cc ta fd) : FnG P w K mg base 1 (fa 13) (fd 13) ["self", "level", "key"] (spI (ca 31) ["level", "key"]) := exc_fn2 (k := 0) T.f13 sc13 rfl T.ox31 (T.na31 _ (by decide)) (T.na31 _ (by decide)) (fun {X} hX => by
    have sc := sc13
    obtain ⟨cdv, A0, outer, s0, H0, E0, rfl⟩ := hX
    exact (pss_cons (ps_ost (pv 0) (pv 1)) (pss_cons (ps_ost (pv 0) (pv 2)) pss_nil)))
theorem xf32 (T : Tx K mg fa ca pa cc ta fd) : FnG P w K mg base 1 (fa 14) (fd 14) ["self", "part"] (spI (ca 32) ["part"]) := exc_fn1 (k := 0) T.f14 sc14 rfl T.ox32 (T.na32 _ (by decide)) (fun {X} hX => by
    have sc := sc14
    obtain ⟨cdv, A0, outer, s0, H0, E0, rfl⟩ := hX
    exact (pss_cons (ps_ost (pv 0) (pv 1)) pss_nil))
theorem xf28 (T : Tx K mg fa ca pa cc ta fd) : FnG P w K mg base 1 (fa 15) (fd 15) ["self", "place"] (spI (ca 28) ["place"]) := exc_fn1 (k := 0) T.f15 sc15 rfl T.ox28 (T.na28 _ (by decide)) (fun {X} hX => by
    have sc := sc15
    obtain ⟨cdv, A0, outer, s0, H0, E0, rfl⟩ := hX
    exact (pss_cons (ps_ost (pv 0) (pv 1)) pss_nil))
theorem xf19 (T : Tx K mg fa ca pa cc ta fd) : FnG P w K mg base 1 (fa 16) (fd 16) ["self", "what", "most"] (spI (ca 19) ["what", "most"]) := exc_fn2 (k := 0) T.f16 sc16 rfl T.ox19 (T.na19 _ (by decide)) (T.na19 _ (by decide)) (fun {X} hX => by
    have sc := sc16
    obtain ⟨cdv, A0, outer, s0, H0, E0, rfl⟩ := hX
    exact (pss_cons (ps_ost (pv 0) (pv 1)) (pss_cons (ps_ost (pv 0) (pv 2)) pss_nil)))
theorem xf25 (T : Tx K mg fa ca pa cc ta fd) : FnG P w K mg base 1 (fa 17) (fd 17) ["self", "place"] (spI (ca 25) ["place"]) := exc_fn1 (k := 0) T.f17 sc17 rfl T.ox25 (T.na25 _ (by decide)) (fun {X} hX => by
    have sc := sc17
    obtain ⟨cdv, A0, outer, s0, H0, E0, rfl⟩ := hX
    exact (pss_cons (ps_ost (pv 0) (pv 1)) pss_nil))
theorem ok18 (T : Tx K mg fa ca pa cc ta fd) (A : Al P w K mg base fa cc ta fd k) (A' : Al P w K mg base fa cc ta fd (k - 1)) : FnG P w K mg base (5 * (k + 1)) (fa 18) (fd 18) ["_law_script"] (spF (tb K) (calls fs (k + 1)) 500 1) := def_ok (F := fn18) T.f18 sc18 rfl (by decide) rfl (fun _ => rfl) (fun {X} {C} {W} hK hu hu2 hgd hr tk hp hX => by
    have sc := sc18
    obtain ⟨qu, cdv, A0_, outer_, s0_, H0_, E0_, rfl, hC, rfl, hcd⟩ := hX
    obtain ⟨CT, h0_, he_, io_, fa_⟩ := C
    have hC : CT = tb K := hC
    subst hC
    have hcalm : (cxOf (L2.CX P w) P w K mg base ["_law_script"] "_law_pen" (defScope st18) (fa 18) cdv A0_ outer_ s0_ H0_ E0_).calm = true := rfl
    have hu65 : (cxOf (L2.CX P w) P w K mg base ["_law_script"] "_law_pen" (defScope st18) (fa 18) cdv A0_ outer_ s0_ H0_ E0_).A.units + 65 < cLine := by omega
    have hr0 : Room (5 * k) _ := hr.mono (by omega)
    have hr1 : Room (5 * k + 1) _ := hr.mono (by omega)
    have hr2 : Room (5 * k + 2) _ := hr.mono (by omega)
    have hr3 : Room (5 * k + 3) _ := hr.mono (by omega)
    exact (ss_cons (s_ret (c_lst (f_cons (c_biT (B := .list) (b_list hK) (by rfl) T.n_list (by decide +kernel) (r_cons (c_slice hK (c_var (pv 0)) so_none (so_some (c_cst pe_int (fun H => r_int _ H _)))) r_nil)) (f_cons (c_cst pe_int (fun H => r_int _ H _)) (f_cons (c_cst pe_int (fun H => r_int _ H _)) f_nil)))))
      ss_nil)) rfl
theorem ok19 (T : Tx K mg fa ca pa cc ta fd) (A : Al P w K mg base fa cc ta fd k) (A' : Al P w K mg base fa cc ta fd (k - 1)) : FnG P w K mg base (5 * (k + 1)) (fa 19) (fd 19) ["_law_pen_here", "_law_many"] (spF (tb K) (calls fs (k + 1)) 501 2) := def_ok (F := fn19) T.f19 sc19 rfl (by decide) rfl (fun _ => rfl) (fun {X} {C} {W} hK hu hu2 hgd hr tk hp hX => by
    have sc := sc19
    obtain ⟨qu, cdv, A0_, outer_, s0_, H0_, E0_, rfl, hC, rfl, hcd⟩ := hX
    obtain ⟨CT, h0_, he_, io_, fa_⟩ := C
    have hC : CT = tb K := hC
    subst hC
    have hcalm : (cxOf (L2.CX P w) P w K mg base ["_law_pen_here", "_law_many", "_law_digit", "_law_at", "_law_cell", "_law_great", "_law_mixed"] "_law_draw" (defScope st19) (fa 19) cdv A0_ outer_ s0_ H0_ E0_).calm = true := rfl
    have hu65 : (cxOf (L2.CX P w) P w K mg base ["_law_pen_here", "_law_many", "_law_digit", "_law_at", "_law_cell", "_law_great", "_law_mixed"] "_law_draw" (defScope st19) (fa 19) cdv A0_ outer_ s0_ H0_ E0_).A.units + 65 < cLine := by omega
    have hr0 : Room (5 * k) _ := hr.mono (by omega)
    have hr1 : Room (5 * k + 1) _ := hr.mono (by omega)
    have hr2 : Room (5 * k + 2) _ := hr.mono (by omega)
    have hr3 : Room (5 * k + 3) _ := hr.mono (by omega)
    exact (ss_cons (s_iff (t_cmp o_gt (c_ix hK hu (c_var (pv 0)) (c_cst pe_int (fun H => r_int _ H _))) (c_cst pe_int (fun H => r_int _ H _)) (nomark _)) (ss_cons (s_asg (ps_set (i := 2) sc.nd rfl (Or.inl rfl) (c_bin o_mod (c_biT (B := .int) b_int (by rfl) T.n_int (by decide +kernel) (r_cons (c_ix hK hu (c_var (pv 0)) (c_cst pe_int (fun H => r_int _ H _))) r_nil)) (c_var (pv 1)))))
      (ss_cons (s_setI (ps_asg (c_bin o_fdiv (c_biT (B := .int) b_int (by rfl) T.n_int (by decide +kernel) (r_cons (c_ix hK hu (c_var (pv 0)) (c_cst pe_int (fun H => r_int _ H _))) r_nil)) (c_var (pv 1))) (pg_sub (pv 0) (c_cst pe_int (fun H => r_int _ H _)) set_list)))
      (ss_cons (s_ret (c_var (pv 2)))
      ss_nil))) ss_nil)
      (ss_cons (s_asg (ps_set (i := 3) sc.nd rfl (Or.inl rfl) (c_ix hK hu (c_var (pv 0)) (c_cst pe_int (fun H => r_int _ H _)))))
      (ss_cons (s_setI (ps_asg (c_bin o_add (c_var (pv 3)) (c_cst pe_int (fun H => r_int _ H _))) (pg_sub (pv 0) (c_cst pe_int (fun H => r_int _ H _)) set_list)))
      (ss_cons (s_asg (ps_set (i := 4) sc.nd rfl (Or.inl rfl) (c_bin o_add (c_bin o_mul (c_cst pe_int (fun H => r_int _ H _)) (c_var (pv 3))) (c_cst pe_int (fun H => r_int _ H _)))))
      (ss_cons (s_iff (t_cmp (o_ne hK hu) (c_ix hK hu (c_var (pv 0)) (c_cst pe_int (fun H => r_int _ H _))) (c_lst f_nil) (nomark _)) (ss_cons (s_asg (ps_set (i := 4) sc.nd rfl (Or.inl rfl) (c_ix hK hu (c_ix hK hu (c_var (pv 0)) (c_cst pe_int (fun H => r_int _ H _))) (c_bin o_mod (c_biT (B := .int) b_int (by rfl) T.n_int (by decide +kernel) (r_cons (c_var (pv 3)) r_nil)) (c_biB (B := .len) (b_len hK) (by rfl) T.n_len (by decide +kernel) (r_cons (c_ix hK hu (c_var (pv 0)) (c_cst pe_int (fun H => r_int _ H _))) r_nil))))))
      ss_nil) ss_nil)
      (ss_cons (s_iff (PW.pt (w_and (t_cmp o_lt (c_var (pv 3)) (c_biB (B := .len) (b_len hK) (by rfl) T.n_len (by decide +kernel) (r_cons (c_ix hK hu (c_var (pv 0)) (c_cst pe_int (fun H => r_int _ H _))) r_nil)) (nomark _)) (w_and1 (op := .And) (t_cmp o_ge (c_biB (B := .abs) b_abs (by rfl) T.n_abs (by decide +kernel) (r_cons (c_var (pv 4)) r_nil)) (c_bin o_pow (c_cst pe_int (fun H => r_int _ H _)) (c_cst pe_int (fun H => r_int _ H _))) (nomark _))))) (ss_cons (s_asg (ps_set (i := 5) sc.nd rfl (Or.inl rfl) (c_bin o_add (c_bin o_mul (c_cst pe_int (fun H => r_int _ H _)) (c_bin o_sub (c_biB (B := .abs) b_abs (by rfl) T.n_abs (by decide +kernel) (r_cons (c_var (pv 4)) r_nil)) (c_bin o_pow (c_cst pe_int (fun H => r_int _ H _)) (c_cst pe_int (fun H => r_int _ H _))))) (c_biT (B := .int) b_int (by rfl) T.n_int (by decide +kernel) (r_cons (c_cmp o_lt (c_var (pv 4)) (c_cst pe_int (fun H => r_int _ H _)) (nomark _)) r_nil)))))
      (ss_cons (s_setI (ps_asg (c_bin o_fdiv (c_biT (B := .int) b_int (by rfl) T.n_int (by decide +kernel) (r_cons (c_var (pv 5)) r_nil)) (c_var (pv 1))) (pg_sub (pv 0) (c_cst pe_int (fun H => r_int _ H _)) set_list)))
      (ss_cons (s_ret (c_bin o_mod (c_biT (B := .int) b_int (by rfl) T.n_int (by decide +kernel) (r_cons (c_var (pv 5)) r_nil)) (c_var (pv 1))))
      ss_nil))) ss_nil)
      (ss_cons (s_asg (ps_set (i := 6) sc.nd rfl (Or.inl rfl) (c_bin o_mod (c_biT (B := .int) b_int (by rfl) T.n_int (by decide +kernel) (r_cons (c_bin o_pow (c_bin o_add (c_bin o_add (c_bin o_mod (c_biT (B := .int) b_int (by rfl) T.n_int (by decide +kernel) (r_cons (c_var (pv 4)) r_nil)) (c_cst pe_int (fun H => r_int _ H _))) (c_bin o_mul (c_cst pe_int (fun H => r_int _ H _)) (c_var (pv 3)))) (c_cst pe_int (fun H => r_int _ H _))) (c_cst pe_int (fun H => r_int _ H _))) r_nil)) (c_cst pe_int (fun H => r_int _ H _)))))
      (ss_cons (s_asg (ps_set (i := 6) sc.nd rfl (Or.inl rfl) (c_bin o_mod (c_biT (B := .int) b_int (by rfl) T.n_int (by decide +kernel) (r_cons (c_bin o_pow (c_bin o_add (c_bin o_add (c_bin o_mul (c_var (pv 6)) (c_bin o_add (c_bin o_mul (c_cst pe_int (fun H => r_int _ H _)) (c_var (pv 3))) (c_cst pe_int (fun H => r_int _ H _)))) (c_bin o_mul (c_bin o_mul (c_cst pe_int (fun H => r_int _ H _)) (c_var (pv 3))) (c_var (pv 3)))) (c_cst pe_int (fun H => r_int _ H _))) (c_cst pe_int (fun H => r_int _ H _))) r_nil)) (c_cst pe_int (fun H => r_int _ H _)))))
      (ss_cons (s_ret (c_bin o_mod (c_biT (B := .int) b_int (by rfl) T.n_int (by decide +kernel) (r_cons (c_bin o_fdiv (c_var (pv 6)) (c_cst pe_int (fun H => r_int _ H _))) r_nil)) (c_var (pv 1))))
      ss_nil)))))))))) rfl
theorem ok20 (T : Tx K mg fa ca pa cc ta fd) (A : Al P w K mg base fa cc ta fd k) (A' : Al P w K mg base fa cc ta fd (k - 1)) : FnG P w K mg base (5 * (k + 1)) (fa 20) (fd 20) ["_law_pen_here", "_law_some"] (spF (tb K) (calls fs (k + 1)) 502 2) := def_ok (F := fn20) T.f20 sc20 rfl (by decide) rfl (fun _ => rfl) (fun {X} {C} {W} hK hu hu2 hgd hr tk hp hX => by
    have sc := sc20
    obtain ⟨qu, cdv, A0_, outer_, s0_, H0_, E0_, rfl, hC, rfl, hcd⟩ := hX
    obtain ⟨CT, h0_, he_, io_, fa_⟩ := C
    have hC : CT = tb K := hC
    subst hC
    have hcalm : (cxOf (L2.CX P w) P w K mg base ["_law_pen_here", "_law_some"] "_law_pick" (defScope st20) (fa 20) cdv A0_ outer_ s0_ H0_ E0_).calm = true := rfl
    have hu65 : (cxOf (L2.CX P w) P w K mg base ["_law_pen_here", "_law_some"] "_law_pick" (defScope st20) (fa 20) cdv A0_ outer_ s0_ H0_ E0_).A.units + 65 < cLine := by omega
    have hr0 : Room (5 * k) _ := hr.mono (by omega)
    have hr1 : Room (5 * k + 1) _ := hr.mono (by omega)
    have hr2 : Room (5 * k + 2) _ := hr.mono (by omega)
    have hr3 : Room (5 * k + 3) _ := hr.mono (by omega)
    exact (ss_cons (s_ret (c_ix hK hu (c_var (pv 1)) (c_call A.o19 hgd hr0 tk (by rfl) T.m19 T.f19.kp T.b19 (k_cons (m := true) (c_var (pv 0)) (k_cons (m := false) (c_biB (B := .len) (b_len hK) (by rfl) T.n_len (by decide +kernel) (r_cons (c_var (pv 1)) r_nil)) k_nil)))))
      ss_nil)) rfl
theorem ok21 (T : Tx K mg fa ca pa cc ta fd) (A : Al P w K mg base fa cc ta fd k) (A' : Al P w K mg base fa cc ta fd (k - 1)) : FnG P w K mg base (5 * (k + 1)) (fa 21) (fd 21) ["_law_pen_here"] (spF (tb K) (calls fs (k + 1)) 503 1) := def_ok (F := fn21) T.f21 sc21 rfl (by decide) rfl (fun _ => rfl) (fun {X} {C} {W} hK hu hu2 hgd hr tk hp hX => by
    have sc := sc21
    obtain ⟨qu, cdv, A0_, outer_, s0_, H0_, E0_, rfl, hC, rfl, hcd⟩ := hX
    obtain ⟨CT, h0_, he_, io_, fa_⟩ := C
    have hC : CT = tb K := hC
    subst hC
    have hcalm : (cxOf (L2.CX P w) P w K mg base ["_law_pen_here", "_law_some"] "_law_value" (defScope st21) (fa 21) cdv A0_ outer_ s0_ H0_ E0_).calm = true := rfl
    have hu65 : (cxOf (L2.CX P w) P w K mg base ["_law_pen_here", "_law_some"] "_law_value" (defScope st21) (fa 21) cdv A0_ outer_ s0_ H0_ E0_).A.units + 65 < cLine := by omega
    have hr0 : Room (5 * k) _ := hr.mono (by omega)
    have hr1 : Room (5 * k + 1) _ := hr.mono (by omega)
    have hr2 : Room (5 * k + 2) _ := hr.mono (by omega)
    have hr3 : Room (5 * k + 3) _ := hr.mono (by omega)
    exact (ss_cons (s_asg (ps_set (i := 1) sc.nd rfl (Or.inl rfl) (c_lst (f_cons (c_cst pe_non (fun H => r_non _ H)) (f_cons (c_cst pe_bl (fun H => r_bl _ H _)) (f_cons (c_cst pe_int (fun H => r_int _ H _)) (f_cons (c_un o_neg (c_cst pe_int (fun H => r_int _ H _))) (f_cons (c_bin o_pow (c_cst pe_int (fun H => r_int _ H _)) (c_cst pe_int (fun H => r_int _ H _))) (f_cons (c_cst pe_str (fun H => r_str _ H _)) (f_cons (c_cst pe_str (fun H => r_str _ H _)) (f_cons (c_tup (f_cons (c_cst pe_str (fun H => r_str _ H _)) (f_cons (c_cst pe_int (fun H => r_int _ H _)) f_nil))) (f_cons (c_lst (f_cons (c_lst f_nil) f_nil)) (f_cons (c_disK (k := (.inr "c")) (d := (.int 3)) pe_str pe_int (fun H => r_int _ H _)) (f_cons (c_bin o_mul (c_cst pe_str (fun H => r_str _ H _)) (c_cst pe_int (fun H => r_int _ H _))) (f_cons (c_lst f_nil) f_nil)))))))))))))))
      (ss_cons (s_ret (c_call A.o20 hgd hr0 tk (by rfl) T.m20 T.f20.kp T.b20 (k_cons (m := true) (c_var (pv 0)) (k_cons (m := false) (c_bin o_add (c_var (pv 1)) (c_lst (f_cons (c_call A.o19 hgd hr0 tk (by rfl) T.m19 T.f19.kp T.b19 (k_cons (m := true) (c_var (pv 0)) (k_cons (m := false) (c_bin o_pow (c_cst pe_int (fun H => r_int _ H _)) (c_cst pe_int (fun H => r_int _ H _))) k_nil))) f_nil))) k_nil))))
      ss_nil))) rfl
theorem ok22 (T : Tx K mg fa ca pa cc ta fd) (A : Al P w K mg base fa cc ta fd k) (A' : Al P w K mg base fa cc ta fd (k - 1)) : FnG P w K mg base (5 * (k + 1)) (fa 22) (fd 22) ["_law_error"] (spF (tb K) (calls fs (k + 1)) 504 1) := def_ok (F := fn22) T.f22 sc22 rfl (by decide) rfl (fun _ => rfl) (fun {X} {C} {W} hK hu hu2 hgd hr tk hp hX => by
    have sc := sc22
    obtain ⟨qu, cdv, A0_, outer_, s0_, H0_, E0_, rfl, hC, rfl, hcd⟩ := hX
    obtain ⟨CT, h0_, he_, io_, fa_⟩ := C
    have hC : CT = tb K := hC
    subst hC
    have hcalm : (cxOf (L2.CX P w) P w K mg base ["_law_error", "_law_found"] "_law_signs" (defScope st22) (fa 22) cdv A0_ outer_ s0_ H0_ E0_).calm = true := rfl
    have hu65 : (cxOf (L2.CX P w) P w K mg base ["_law_error", "_law_found"] "_law_signs" (defScope st22) (fa 22) cdv A0_ outer_ s0_ H0_ E0_).A.units + 65 < cLine := by omega
    have hr0 : Room (5 * k) _ := hr.mono (by omega)
    have hr1 : Room (5 * k + 1) _ := hr.mono (by omega)
    have hr2 : Room (5 * k + 2) _ := hr.mono (by omega)
    have hr3 : Room (5 * k + 3) _ := hr.mono (by omega)
    exact (ss_cons (s_asg (ps_set (i := 1) sc.nd rfl (Or.inl rfl) (c_lst (f_cons (c_tup (f_cons (c_cst pe_str (fun H => r_str _ H _)) (f_cons (c_isO hK (iso_1 T rfl) (by rfl) T.n_isinstance (c_var (pv 0)) (pe_glob (v := .ref (ca 1)) (by rfl) T.mC1 rfl)) f_nil))) (f_cons (c_tup (f_cons (c_cst pe_str (fun H => r_str _ H _)) (f_cons (c_isO hK (iso_18 T rfl) (by rfl) T.n_isinstance (c_var (pv 0)) (pe_glob (v := .ref (ca 18)) (by rfl) T.mC18 rfl)) f_nil))) f_nil)))))
      (ss_cons (s_asg (ps_set (i := 1) sc.nd rfl (Or.inl rfl) (c_bin o_add (c_var (pv 1)) (c_lst (f_cons (c_tup (f_cons (c_cst pe_str (fun H => r_str _ H _)) (f_cons (c_isO hK (iso_23 T rfl) (by rfl) T.n_isinstance (c_var (pv 0)) (pe_glob (v := .ref (ca 23)) (by rfl) T.mC23 rfl)) f_nil))) (f_cons (c_tup (f_cons (c_cst pe_str (fun H => r_str _ H _)) (f_cons (c_isO hK (iso_8 T rfl) (by rfl) T.n_isinstance (c_var (pv 0)) (pe_glob (v := .ref (ca 8)) (by rfl) T.mC8 rfl)) f_nil))) f_nil))))))
      (ss_cons (s_asg (ps_set (i := 1) sc.nd rfl (Or.inl rfl) (c_bin o_add (c_var (pv 1)) (c_lst (f_cons (c_tup (f_cons (c_cst pe_str (fun H => r_str _ H _)) (f_cons (c_isO hK (iso_2 T rfl) (by rfl) T.n_isinstance (c_var (pv 0)) (pe_glob (v := .ref (ca 2)) (by rfl) T.mC2 rfl)) f_nil))) (f_cons (c_tup (f_cons (c_cst pe_str (fun H => r_str _ H _)) (f_cons (c_isO hK (iso_10 T rfl) (by rfl) T.n_isinstance (c_var (pv 0)) (pe_glob (v := .ref (ca 10)) (by rfl) T.mC10 rfl)) f_nil))) f_nil))))))
      (ss_cons (s_asg (ps_set (i := 1) sc.nd rfl (Or.inl rfl) (c_bin o_add (c_var (pv 1)) (c_lst (f_cons (c_tup (f_cons (c_cst pe_str (fun H => r_str _ H _)) (f_cons (c_isO hK (iso_12 T rfl) (by rfl) T.n_isinstance (c_var (pv 0)) (pe_glob (v := .ref (ca 12)) (by rfl) T.mC12 rfl)) f_nil))) (f_cons (c_tup (f_cons (c_cst pe_str (fun H => r_str _ H _)) (f_cons (c_isO hK (iso_3 T rfl) (by rfl) T.n_isinstance (c_var (pv 0)) (pe_glob (v := .ref (ca 3)) (by rfl) T.mC3 rfl)) f_nil))) f_nil))))))
      (ss_cons (s_asg (ps_set (i := 1) sc.nd rfl (Or.inl rfl) (c_bin o_add (c_var (pv 1)) (c_lst (f_cons (c_tup (f_cons (c_cst pe_str (fun H => r_str _ H _)) (f_cons (c_isO hK (iso_15 T rfl) (by rfl) T.n_isinstance (c_var (pv 0)) (pe_glob (v := .ref (ca 15)) (by rfl) T.mC15 rfl)) f_nil))) (f_cons (c_tup (f_cons (c_cst pe_str (fun H => r_str _ H _)) (f_cons (c_isO hK (iso_4 T rfl) (by rfl) T.n_isinstance (c_var (pv 0)) (pe_glob (v := .ref (ca 4)) (by rfl) T.mC4 rfl)) f_nil))) f_nil))))))
      (ss_cons (s_asg (ps_set (i := 1) sc.nd rfl (Or.inl rfl) (c_bin o_add (c_var (pv 1)) (c_lst (f_cons (c_tup (f_cons (c_cst pe_str (fun H => r_str _ H _)) (f_cons (c_isO hK (iso_29 T rfl) (by rfl) T.n_isinstance (c_var (pv 0)) (pe_glob (v := .ref (ca 29)) (by rfl) T.mC29 rfl)) f_nil))) (f_cons (c_tup (f_cons (c_cst pe_str (fun H => r_str _ H _)) (f_cons (c_isO hK (iso_27 T rfl) (by rfl) T.n_isinstance (c_var (pv 0)) (pe_glob (v := .ref (ca 27)) (by rfl) T.mC27 rfl)) f_nil))) f_nil))))))
      (ss_cons (s_asg (ps_set (i := 1) sc.nd rfl (Or.inl rfl) (c_bin o_add (c_var (pv 1)) (c_lst (f_cons (c_tup (f_cons (c_cst pe_str (fun H => r_str _ H _)) (f_cons (c_isO hK (iso_24 T rfl) (by rfl) T.n_isinstance (c_var (pv 0)) (pe_glob (v := .ref (ca 24)) (by rfl) T.mC24 rfl)) f_nil))) (f_cons (c_tup (f_cons (c_cst pe_str (fun H => r_str _ H _)) (f_cons (c_isO hK (iso_20 T rfl) (by rfl) T.n_isinstance (c_var (pv 0)) (pe_glob (v := .ref (ca 20)) (by rfl) T.mC20 rfl)) f_nil))) f_nil))))))
      (ss_cons (s_asg (ps_set (i := 1) sc.nd rfl (Or.inl rfl) (c_bin o_add (c_var (pv 1)) (c_lst (f_cons (c_tup (f_cons (c_cst pe_str (fun H => r_str _ H _)) (f_cons (c_isO hK (iso_6 T rfl) (by rfl) T.n_isinstance (c_var (pv 0)) (pe_glob (v := .ref (ca 6)) (by rfl) T.mC6 rfl)) f_nil))) (f_cons (c_tup (f_cons (c_cst pe_str (fun H => r_str _ H _)) (f_cons (c_isO hK (iso_30 T rfl) (by rfl) T.n_isinstance (c_var (pv 0)) (pe_glob (v := .ref (ca 30)) (by rfl) T.mC30 rfl)) f_nil))) f_nil))))))
      (ss_cons (s_asg (ps_set (i := 1) sc.nd rfl (Or.inl rfl) (c_bin o_add (c_var (pv 1)) (c_lst (f_cons (c_tup (f_cons (c_cst pe_str (fun H => r_str _ H _)) (f_cons (c_isO hK (iso_31 T rfl) (by rfl) T.n_isinstance (c_var (pv 0)) (pe_glob (v := .ref (ca 31)) (by rfl) T.mC31 rfl)) f_nil))) (f_cons (c_tup (f_cons (c_cst pe_str (fun H => r_str _ H _)) (f_cons (c_isO hK (iso_32 T rfl) (by rfl) T.n_isinstance (c_var (pv 0)) (pe_glob (v := .ref (ca 32)) (by rfl) T.mC32 rfl)) f_nil))) f_nil))))))
      (ss_cons (s_asg (ps_set (i := 1) sc.nd rfl (Or.inl rfl) (c_bin o_add (c_var (pv 1)) (c_lst (f_cons (c_tup (f_cons (c_cst pe_str (fun H => r_str _ H _)) (f_cons (c_isO hK (iso_28 T rfl) (by rfl) T.n_isinstance (c_var (pv 0)) (pe_glob (v := .ref (ca 28)) (by rfl) T.mC28 rfl)) f_nil))) (f_cons (c_tup (f_cons (c_cst pe_str (fun H => r_str _ H _)) (f_cons (c_isO hK (iso_19 T rfl) (by rfl) T.n_isinstance (c_var (pv 0)) (pe_glob (v := .ref (ca 19)) (by rfl) T.mC19 rfl)) f_nil))) f_nil))))))
      (ss_cons (s_ret (c_bin o_add (c_var (pv 1)) (c_lst (f_cons (c_tup (f_cons (c_cst pe_str (fun H => r_str _ H _)) (f_cons (c_isO hK (iso_25 T rfl) (by rfl) T.n_isinstance (c_var (pv 0)) (pe_glob (v := .ref (ca 25)) (by rfl) T.mC25 rfl)) f_nil))) (f_cons (c_tup (f_cons (c_cst pe_str (fun H => r_str _ H _)) (f_cons (c_isO hK (iso_33 T rfl) (by rfl) T.n_isinstance (c_var (pv 0)) (pe_glob (v := .ref (ca 33)) (by rfl) T.mC33 rfl)) f_nil))) f_nil)))))
      ss_nil)))))))))))) rfl
theorem ok23 (T : Tx K mg fa ca pa cc ta fd) (A : Al P w K mg base fa cc ta fd k) (A' : Al P w K mg base fa cc ta fd (k - 1)) : FnG P w K mg base (5 * (k + 1)) (fa 23) (fd 23) ["_law_error"] (spF (tb K) (calls fs (k + 1)) 505 1) := def_ok (F := fn23) T.f23 sc23 rfl (by decide) rfl (fun _ => rfl) (fun {X} {C} {W} hK hu hu2 hgd hr tk hp hX => by
    have sc := sc23
    obtain ⟨qu, cdv, A0_, outer_, s0_, H0_, E0_, rfl, hC, rfl, hcd⟩ := hX
    obtain ⟨CT, h0_, he_, io_, fa_⟩ := C
    have hC : CT = tb K := hC
    subst hC
    have hcalm : (cxOf (L2.CX P w) P w K mg base ["_law_error", "_law_sign", "_law_is_so"] "_law_kinds" (defScope st23) (fa 23) cdv A0_ outer_ s0_ H0_ E0_).calm = true := rfl
    have hu65 : (cxOf (L2.CX P w) P w K mg base ["_law_error", "_law_sign", "_law_is_so"] "_law_kinds" (defScope st23) (fa 23) cdv A0_ outer_ s0_ H0_ E0_).A.units + 65 < cLine := by omega
    have hr0 : Room (5 * k) _ := hr.mono (by omega)
    have hr1 : Room (5 * k + 1) _ := hr.mono (by omega)
    have hr2 : Room (5 * k + 2) _ := hr.mono (by omega)
    have hr3 : Room (5 * k + 3) _ := hr.mono (by omega)
    exact (ss_cons (s_ret (c_ife (t_tru hK (c_isO hK (iso_0 T rfl) (by rfl) T.n_isinstance (c_var (pv 0)) (pe_glob (v := .ref (ca 0)) (by rfl) T.mC0 rfl))) (c_lc (vs := [1, 2]) hK hcalm sc.nd (i_seq hK (c_call A.o22 hgd hr0 tk (by rfl) T.m22 T.f22.kp T.b22 (k_cons (m := false) (c_var (pv 0)) k_nil))) (blkOk_by (own := [("_law_sign", 1), ("_law_is_so", 2)]) (by kernel_rfl)) (fun _ _ _ _ _ => (pg_tup rfl (pgs_cons (pg_name (i := 1) sc.nd rfl (Or.inl rfl)) (pgs_cons (pg_name (i := 2) sc.nd rfl (Or.inl rfl)) pgs_nil)))) (fun _ _ _ _ _ => pt_tst fun _ _ _ _ => (t_tru hK (c_var (pv 2)))) (fun _ _ _ _ _ => pe_elt fun _ _ _ _ => (c_var (pv 1)))) (c_cst pe_non (fun H => r_non _ H))))
      ss_nil)) rfl
theorem ok24 (T : Tx K mg fa ca pa cc ta fd) (A : Al P w K mg base fa cc ta fd k) (A' : Al P w K mg base fa cc ta fd (k - 1)) : FnG P w K mg base (5 * (k + 1)) (fa 24) (fd 24) ["_law_thing"] (spF (tb K) (calls fs (k + 1)) 506 1) := def_ok (F := fn24) T.f24 sc24 rfl (by decide) rfl (fun _ => rfl) (fun {X} {C} {W} hK hu hu2 hgd hr tk hp hX => by
    have sc := sc24
    obtain ⟨qu, cdv, A0_, outer_, s0_, H0_, E0_, rfl, hC, rfl, hcd⟩ := hX
    obtain ⟨CT, h0_, he_, io_, fa_⟩ := C
    have hC : CT = tb K := hC
    subst hC
    have hcalm : (cxOf (L2.CX P w) P w K mg base ["_law_thing", "_law_made", "_law_found", "_law_error", "_law_sign", "_law_told", "_law_line_so", "_law_apart", "_law_far", "_law_lone"] "_law_parts" (defScope st24) (fa 24) cdv A0_ outer_ s0_ H0_ E0_).calm = true := rfl
    have hu65 : (cxOf (L2.CX P w) P w K mg base ["_law_thing", "_law_made", "_law_found", "_law_error", "_law_sign", "_law_told", "_law_line_so", "_law_apart", "_law_far", "_law_lone"] "_law_parts" (defScope st24) (fa 24) cdv A0_ outer_ s0_ H0_ E0_).A.units + 65 < cLine := by omega
    have hr0 : Room (5 * k) _ := hr.mono (by omega)
    have hr1 : Room (5 * k + 1) _ := hr.mono (by omega)
    have hr2 : Room (5 * k + 2) _ := hr.mono (by omega)
    have hr3 : Room (5 * k + 3) _ := hr.mono (by omega)
    exact (ss_cons (s_asg (ps_set (i := 1) sc.nd rfl (Or.inl rfl) (c_lst (f_cons (c_tup (f_cons (c_mkE (T.cx8) rfl (pmk_X T.ox8 T.xi8 T.xt8 ((xf8 T).up (by omega)) hgd hr2 T.b0 tk (by decide) (by rfl) T.mC8 (f_cons (c_var (pv 0)) f_nil))) (f_cons (c_cst pe_str (fun H => r_str _ H _)) f_nil))) (f_cons (c_tup (f_cons (c_mkEP (T.cx8) rfl rfl (pmk_XK T.ox8 T.xi8 T.xt8 ((xf8 T).up (by omega)) hgd hr2 T.ks0_part tk (by decide) (by rfl) T.mC8 (fk_cons (c_var (pv 0)) fk_nil))) (f_cons (c_cst pe_str (fun H => r_str _ H _)) f_nil))) (f_cons (c_tup (f_cons (c_mkE (T.cx3) rfl (pmk_X T.ox3 T.xi3 T.xt3 ((xf3 T).up (by omega)) hgd hr2 T.b4 tk (by decide) (by rfl) T.mC3 (f_cons (c_var (pv 0)) f_nil))) (f_cons (c_cst pe_str (fun H => r_str _ H _)) f_nil))) f_nil))))))
      (ss_cons (s_asg (ps_set (i := 1) sc.nd rfl (Or.inl rfl) (c_bin o_add (c_var (pv 1)) (c_lst (f_cons (c_tup (f_cons (c_mkEP (T.cx3) rfl rfl (pmk_XK T.ox3 T.xi3 T.xt3 ((xf3 T).up (by omega)) hgd hr2 T.ks4_part tk (by decide) (by rfl) T.mC3 (fk_cons (c_var (pv 0)) fk_nil))) (f_cons (c_cst pe_str (fun H => r_str _ H _)) f_nil))) (f_cons (c_tup (f_cons (c_mkE (T.cx15) rfl (pmk_X T.ox15 T.xi15 T.xt15 ((xf15 T).up (by omega)) hgd hr2 T.b5 tk (by decide) (by rfl) T.mC15 (f_cons (c_var (pv 0)) f_nil))) (f_cons (c_cst pe_str (fun H => r_str _ H _)) f_nil))) (f_cons (c_tup (f_cons (c_mkEP (T.cx15) rfl rfl (pmk_XK T.ox15 T.xi15 T.xt15 ((xf15 T).up (by omega)) hgd hr2 T.ks5_part tk (by decide) (by rfl) T.mC15 (fk_cons (c_var (pv 0)) fk_nil))) (f_cons (c_cst pe_str (fun H => r_str _ H _)) f_nil))) f_nil)))))))
      (ss_cons (s_asg (ps_set (i := 1) sc.nd rfl (Or.inl rfl) (c_bin o_add (c_var (pv 1)) (c_lst (f_cons (c_tup (f_cons (c_mkE (T.cx29) rfl (pmk_X T.ox29 T.xi29 T.xt29 ((xf29 T).up (by omega)) hgd hr2 T.b7 tk (by decide) (by rfl) T.mC29 (f_cons (c_var (pv 0)) f_nil))) (f_cons (c_cst pe_str (fun H => r_str _ H _)) f_nil))) (f_cons (c_tup (f_cons (c_mkEP (T.cx29) rfl rfl (pmk_XK T.ox29 T.xi29 T.xt29 ((xf29 T).up (by omega)) hgd hr2 T.ks7_part tk (by decide) (by rfl) T.mC29 (fk_cons (c_var (pv 0)) fk_nil))) (f_cons (c_cst pe_str (fun H => r_str _ H _)) f_nil))) (f_cons (c_tup (f_cons (c_mkE (T.cx27) rfl (pmk_X T.ox27 T.xi27 T.xt27 ((xf27 T).up (by omega)) hgd hr2 T.b8 tk (by decide) (by rfl) T.mC27 (f_cons (c_var (pv 0)) f_nil))) (f_cons (c_cst pe_str (fun H => r_str _ H _)) f_nil))) f_nil)))))))
      (ss_cons (s_asg (ps_set (i := 1) sc.nd rfl (Or.inl rfl) (c_bin o_add (c_var (pv 1)) (c_lst (f_cons (c_tup (f_cons (c_mkEP (T.cx27) rfl rfl (pmk_XK T.ox27 T.xi27 T.xt27 ((xf27 T).up (by omega)) hgd hr2 T.ks8_part tk (by decide) (by rfl) T.mC27 (fk_cons (c_var (pv 0)) fk_nil))) (f_cons (c_cst pe_str (fun H => r_str _ H _)) f_nil))) (f_cons (c_tup (f_cons (c_mkE (T.cx20) rfl (pmk_X T.ox20 T.xi20 T.xt20 ((xf20 T).up (by omega)) hgd hr2 T.b10 tk (by decide) (by rfl) T.mC20 (f_cons (c_var (pv 0)) f_nil))) (f_cons (c_cst pe_str (fun H => r_str _ H _)) f_nil))) (f_cons (c_tup (f_cons (c_mkEP (T.cx20) rfl rfl (pmk_XK T.ox20 T.xi20 T.xt20 ((xf20 T).up (by omega)) hgd hr2 T.ks10_part tk (by decide) (by rfl) T.mC20 (fk_cons (c_var (pv 0)) fk_nil))) (f_cons (c_cst pe_str (fun H => r_str _ H _)) f_nil))) f_nil)))))))
      (ss_cons (s_asgLc (vs := [3, 4]) hK hcalm sc.nd rfl rfl (by rfl) (i_seq hK (c_var (pv 1))) (blkOk_by (own := [("_law_error", 3), ("_law_sign", 4)]) (by kernel_rfl)) (fun _ _ _ _ _ => (pg_tup rfl (pgs_cons (pg_name (i := 3) sc.nd rfl (Or.inl rfl)) (pgs_cons (pg_name (i := 4) sc.nd rfl (Or.inl rfl)) pgs_nil)))) (fun _ _ _ _ _ => pt_tst0) (fun _ _ _ _ _ => pe_elt fun _ _ _ _ => (c_tup (f_cons (c_var (pv 3)) (f_cons (c_lst (f_cons (c_cst pe_str (fun H => r_str _ H _)) (f_cons (c_var (pv 4)) f_nil))) (f_cons (c_fld hK (c_var (pv 3)) (fld_1 T)) f_nil))))))
      (ss_cons (s_asg (ps_set (i := 5) sc.nd rfl (Or.inl rfl) (c_lst (f_cons (c_tup (f_cons (c_mkE (T.cx2) rfl (pmk_X T.ox2 T.xi2 T.xt2 ((xf2 T).up (by omega)) hgd hr2 T.b1 tk (by decide) (by rfl) T.mC2 (f_cons (c_var (pv 0)) f_nil))) (f_cons (c_cst pe_str (fun H => r_str _ H _)) f_nil))) (f_cons (c_tup (f_cons (c_mkEP (T.cx2) rfl rfl (pmk_XK T.ox2 T.xi2 T.xt2 ((xf2 T).up (by omega)) hgd hr2 T.ks1_value tk (by decide) (by rfl) T.mC2 (fk_cons (c_var (pv 0)) fk_nil))) (f_cons (c_cst pe_str (fun H => r_str _ H _)) f_nil))) (f_cons (c_tup (f_cons (c_mkE (T.cx10) rfl (pmk_X T.ox10 T.xi10 T.xt10 ((xf10 T).up (by omega)) hgd hr2 T.b2 tk (by decide) (by rfl) T.mC10 (f_cons (c_var (pv 0)) f_nil))) (f_cons (c_cst pe_str (fun H => r_str _ H _)) f_nil))) f_nil))))))
      (ss_cons (s_asg (ps_set (i := 5) sc.nd rfl (Or.inl rfl) (c_bin o_add (c_var (pv 5)) (c_lst (f_cons (c_tup (f_cons (c_mkEP (T.cx10) rfl rfl (pmk_XK T.ox10 T.xi10 T.xt10 ((xf10 T).up (by omega)) hgd hr2 T.ks2_value tk (by decide) (by rfl) T.mC10 (fk_cons (c_var (pv 0)) fk_nil))) (f_cons (c_cst pe_str (fun H => r_str _ H _)) f_nil))) (f_cons (c_tup (f_cons (c_mkE (T.cx12) rfl (pmk_X T.ox12 T.xi12 T.xt12 ((xf12 T).up (by omega)) hgd hr2 T.b3 tk (by decide) (by rfl) T.mC12 (f_cons (c_var (pv 0)) f_nil))) (f_cons (c_cst pe_str (fun H => r_str _ H _)) f_nil))) (f_cons (c_tup (f_cons (c_mkEP (T.cx12) rfl rfl (pmk_XK T.ox12 T.xi12 T.xt12 ((xf12 T).up (by omega)) hgd hr2 T.ks3_value tk (by decide) (by rfl) T.mC12 (fk_cons (c_var (pv 0)) fk_nil))) (f_cons (c_cst pe_str (fun H => r_str _ H _)) f_nil))) f_nil)))))))
      (ss_cons (s_asg (ps_set (i := 5) sc.nd rfl (Or.inl rfl) (c_bin o_add (c_var (pv 5)) (c_lst (f_cons (c_tup (f_cons (c_mkE (T.cx4) rfl (pmk_X T.ox4 T.xi4 T.xt4 ((xf4 T).up (by omega)) hgd hr2 T.b6 tk (by decide) (by rfl) T.mC4 (f_cons (c_var (pv 0)) f_nil))) (f_cons (c_cst pe_str (fun H => r_str _ H _)) f_nil))) (f_cons (c_tup (f_cons (c_mkEP (T.cx4) rfl rfl (pmk_XK T.ox4 T.xi4 T.xt4 ((xf4 T).up (by omega)) hgd hr2 T.ks6_value tk (by decide) (by rfl) T.mC4 (fk_cons (c_var (pv 0)) fk_nil))) (f_cons (c_cst pe_str (fun H => r_str _ H _)) f_nil))) (f_cons (c_tup (f_cons (c_mkE (T.cx24) rfl (pmk_X T.ox24 T.xi24 T.xt24 ((xf24 T).up (by omega)) hgd hr2 T.b9 tk (by decide) (by rfl) T.mC24 (f_cons (c_var (pv 0)) f_nil))) (f_cons (c_cst pe_str (fun H => r_str _ H _)) f_nil))) f_nil)))))))
      (ss_cons (s_asg (ps_set (i := 2) sc.nd rfl (Or.inl rfl) (c_bin o_add (c_var (pv 2)) (c_lc (vs := [3, 4]) hK hcalm sc.nd (i_seq hK (c_bin o_add (c_var (pv 5)) (c_lst (f_cons (c_tup (f_cons (c_mkEP (T.cx24) rfl rfl (pmk_XK T.ox24 T.xi24 T.xt24 ((xf24 T).up (by omega)) hgd hr2 T.ks9_value tk (by decide) (by rfl) T.mC24 (fk_cons (c_var (pv 0)) fk_nil))) (f_cons (c_cst pe_str (fun H => r_str _ H _)) f_nil))) f_nil)))) (blkOk_by (own := [("_law_error", 3), ("_law_sign", 4)]) (by kernel_rfl)) (fun _ _ _ _ _ => (pg_tup rfl (pgs_cons (pg_name (i := 3) sc.nd rfl (Or.inl rfl)) (pgs_cons (pg_name (i := 4) sc.nd rfl (Or.inl rfl)) pgs_nil)))) (fun _ _ _ _ _ => pt_tst0) (fun _ _ _ _ _ => pe_elt fun _ _ _ _ => (c_tup (f_cons (c_var (pv 3)) (f_cons (c_lst (f_cons (c_cst pe_str (fun H => r_str _ H _)) (f_cons (c_var (pv 4)) f_nil))) (f_cons (c_fld hK (c_var (pv 3)) (fld_0 T)) f_nil)))))))))
      (ss_cons (s_forl (ps_for hp rfl (i_any hK (c_lst (f_cons (c_mkE (T.cx30) rfl (pmk_X T.ox30 T.xi30 T.xt30 ((xf30 T).up (by omega)) hgd hr2 T.b12 tk (by decide) (by rfl) T.mC30 (f_cons (c_var (pv 0)) f_nil))) (f_cons (c_mkEP (T.cx30) rfl rfl (pmk_XK T.ox30 T.xi30 T.xt30 ((xf30 T).up (by omega)) hgd hr2 T.ks12_word tk (by decide) (by rfl) T.mC30 (fk_cons (c_var (pv 0)) fk_nil))) f_nil)))) (pg_name (i := 6) sc.nd rfl (Or.inl rfl)) (ss_cons (s_app (ps_expr (pe_bm PySem.F.plainAttrs_list PySem.F.slot_list_append PySem.F.type_list_append mt_append (pv 2) (pa_cons (c_tup (f_cons (c_var (pv 6)) (f_cons (c_lst (f_cons (c_cst pe_str (fun H => r_str _ H _)) (f_cons (c_cst pe_str (fun H => r_str _ H _)) f_nil))) (f_cons (c_fld hK (c_var (pv 6)) (fld_7 T)) f_nil)))) pa_nil))))
      ss_nil)))
      (ss_cons (s_forl (ps_for hp rfl (i_any hK (c_lst (f_cons (c_mkE (T.cx32) rfl (pmk_X T.ox32 T.xi32 T.xt32 ((xf32 T).up (by omega)) hgd hr2 T.b14 tk (by decide) (by rfl) T.mC32 (f_cons (c_var (pv 0)) f_nil))) (f_cons (c_mkEP (T.cx32) rfl rfl (pmk_XK T.ox32 T.xi32 T.xt32 ((xf32 T).up (by omega)) hgd hr2 T.ks14_part tk (by decide) (by rfl) T.mC32 (fk_cons (c_var (pv 0)) fk_nil))) f_nil)))) (pg_name (i := 7) sc.nd rfl (Or.inl rfl)) (ss_cons (s_app (ps_expr (pe_bm PySem.F.plainAttrs_list PySem.F.slot_list_append PySem.F.type_list_append mt_append (pv 2) (pa_cons (c_tup (f_cons (c_var (pv 7)) (f_cons (c_lst (f_cons (c_cst pe_str (fun H => r_str _ H _)) (f_cons (c_cst pe_str (fun H => r_str _ H _)) f_nil))) (f_cons (c_fld hK (c_var (pv 7)) (fld_1 T)) f_nil)))) pa_nil))))
      ss_nil)))
      (ss_cons (s_forl (ps_for hp rfl (i_any hK (c_lst (f_cons (c_mkE (T.cx28) rfl (pmk_X T.ox28 T.xi28 T.xt28 ((xf28 T).up (by omega)) hgd hr2 T.b15 tk (by decide) (by rfl) T.mC28 (f_cons (c_var (pv 0)) f_nil))) (f_cons (c_mkEP (T.cx28) rfl rfl (pmk_XK T.ox28 T.xi28 T.xt28 ((xf28 T).up (by omega)) hgd hr2 T.ks15_place tk (by decide) (by rfl) T.mC28 (fk_cons (c_var (pv 0)) fk_nil))) f_nil)))) (pg_name (i := 8) sc.nd rfl (Or.inl rfl)) (ss_cons (s_app (ps_expr (pe_bm PySem.F.plainAttrs_list PySem.F.slot_list_append PySem.F.type_list_append mt_append (pv 2) (pa_cons (c_tup (f_cons (c_var (pv 8)) (f_cons (c_lst (f_cons (c_cst pe_str (fun H => r_str _ H _)) (f_cons (c_cst pe_str (fun H => r_str _ H _)) f_nil))) (f_cons (c_fld hK (c_var (pv 8)) (fld_24 T)) f_nil)))) pa_nil))))
      ss_nil)))
      (ss_cons (s_forl (ps_for hp rfl (i_any hK (c_lst (f_cons (c_mkE (T.cx25) rfl (pmk_X T.ox25 T.xi25 T.xt25 ((xf25 T).up (by omega)) hgd hr2 T.b17 tk (by decide) (by rfl) T.mC25 (f_cons (c_var (pv 0)) f_nil))) (f_cons (c_mkEP (T.cx25) rfl rfl (pmk_XK T.ox25 T.xi25 T.xt25 ((xf25 T).up (by omega)) hgd hr2 T.ks17_place tk (by decide) (by rfl) T.mC25 (fk_cons (c_var (pv 0)) fk_nil))) f_nil)))) (pg_name (i := 9) sc.nd rfl (Or.inl rfl)) (ss_cons (s_app (ps_expr (pe_bm PySem.F.plainAttrs_list PySem.F.slot_list_append PySem.F.type_list_append mt_append (pv 2) (pa_cons (c_tup (f_cons (c_var (pv 9)) (f_cons (c_lst (f_cons (c_cst pe_str (fun H => r_str _ H _)) (f_cons (c_cst pe_str (fun H => r_str _ H _)) f_nil))) (f_cons (c_fld hK (c_var (pv 9)) (fld_24 T)) f_nil)))) pa_nil))))
      ss_nil)))
      (ss_cons (s_ret (c_var (pv 2)))
      ss_nil))))))))))))))) rfl
theorem ok25 (T : Tx K mg fa ca pa cc ta fd) (A : Al P w K mg base fa cc ta fd k) (A' : Al P w K mg base fa cc ta fd (k - 1)) : FnG P w K mg base (5 * (k + 1)) (fa 25) (fd 25) ["_law_thing", "_law_more"] (spF (tb K) (calls fs (k + 1)) 507 2) := def_ok (F := fn25) T.f25 sc25 rfl (by decide) rfl (fun _ => rfl) (fun {X} {C} {W} hK hu hu2 hgd hr tk hp hX => by
    have sc := sc25
    obtain ⟨qu, cdv, A0_, outer_, s0_, H0_, E0_, rfl, hC, rfl, hcd⟩ := hX
    obtain ⟨CT, h0_, he_, io_, fa_⟩ := C
    have hC : CT = tb K := hC
    subst hC
    have hcalm : (cxOf (L2.CX P w) P w K mg base ["_law_thing", "_law_more", "_law_told", "_law_text_so", "_law_much", "_law_far"] "_law_pairs_right" (defScope st25) (fa 25) cdv A0_ outer_ s0_ H0_ E0_).calm = true := rfl
    have hu65 : (cxOf (L2.CX P w) P w K mg base ["_law_thing", "_law_more", "_law_told", "_law_text_so", "_law_much", "_law_far"] "_law_pairs_right" (defScope st25) (fa 25) cdv A0_ outer_ s0_ H0_ E0_).A.units + 65 < cLine := by omega
    have hr0 : Room (5 * k) _ := hr.mono (by omega)
    have hr1 : Room (5 * k + 1) _ := hr.mono (by omega)
    have hr2 : Room (5 * k + 2) _ := hr.mono (by omega)
    have hr3 : Room (5 * k + 3) _ := hr.mono (by omega)
    exact (ss_cons (s_asg (ps_set (i := 2) sc.nd rfl (Or.inl rfl) (c_lst f_nil)))
      (ss_cons (s_forl (ps_for hp rfl (i_any hK (c_lst (f_cons (c_mkE (T.cx6) rfl (pmk_X T.ox6 T.xi6 T.xt6 ((xf6 T).up (by omega)) hgd hr2 T.b11 tk (by decide) (by rfl) T.mC6 (f_cons (c_var (pv 0)) (f_cons (c_var (pv 1)) f_nil)))) (f_cons (c_mkEP (T.cx6) rfl rfl (pmk_XK T.ox6 T.xi6 T.xt6 ((xf6 T).up (by omega)) hgd hr2 T.ks11_word_line tk (by decide) (by rfl) T.mC6 (fk_cons (c_var (pv 1)) (fk_cons (c_var (pv 0)) fk_nil)))) f_nil)))) (pg_name (i := 3) sc.nd rfl (Or.inl rfl)) (ss_cons (s_app (ps_expr (pe_bm PySem.F.plainAttrs_list PySem.F.slot_list_append PySem.F.type_list_append mt_append (pv 2) (pa_cons (c_cmp (o_eq hK hu) (c_call A.o23 hgd hr0 tk (by rfl) T.m23 T.f23.kp T.b23 (k_cons (m := false) (c_var (pv 3)) k_nil)) (c_lst (f_cons (c_cst pe_str (fun H => r_str _ H _)) (f_cons (c_cst pe_str (fun H => r_str _ H _)) f_nil))) (nomark _)) pa_nil))))
      (ss_cons (s_app (ps_expr (pe_bm PySem.F.plainAttrs_list PySem.F.slot_list_append PySem.F.type_list_append mt_append (pv 2) (pa_cons (c_cmp (o_eq hK hu) (c_bhB (b_reprX hK hgd hu2) (by rfl) T.n_repr (by decide +kernel) (r_cons (c_lst (f_cons (c_fld hK (c_var (pv 3)) (fld_6 T)) (f_cons (c_fld hK (c_var (pv 3)) (fld_7 T)) f_nil))) r_nil)) (c_bhB (b_reprX hK hgd hu2) (by rfl) T.n_repr (by decide +kernel) (r_cons (c_lst (f_cons (c_var (pv 0)) (f_cons (c_var (pv 1)) f_nil))) r_nil)) (nomark _)) pa_nil))))
      ss_nil))))
      (ss_cons (s_forl (ps_for hp rfl (i_any hK (c_lst (f_cons (c_mkE (T.cx19) rfl (pmk_X T.ox19 T.xi19 T.xt19 ((xf19 T).up (by omega)) hgd hr2 T.b16 tk (by decide) (by rfl) T.mC19 (f_cons (c_var (pv 0)) (f_cons (c_var (pv 1)) f_nil)))) (f_cons (c_mkEP (T.cx19) rfl rfl (pmk_XK T.ox19 T.xi19 T.xt19 ((xf19 T).up (by omega)) hgd hr2 T.ks16_most_what tk (by decide) (by rfl) T.mC19 (fk_cons (c_var (pv 1)) (fk_cons (c_var (pv 0)) fk_nil)))) f_nil)))) (pg_name (i := 4) sc.nd rfl (Or.inl rfl)) (ss_cons (s_app (ps_expr (pe_bm PySem.F.plainAttrs_list PySem.F.slot_list_append PySem.F.type_list_append mt_append (pv 2) (pa_cons (c_cmp (o_eq hK hu) (c_call A.o23 hgd hr0 tk (by rfl) T.m23 T.f23.kp T.b23 (k_cons (m := false) (c_var (pv 4)) k_nil)) (c_lst (f_cons (c_cst pe_str (fun H => r_str _ H _)) (f_cons (c_cst pe_str (fun H => r_str _ H _)) f_nil))) (nomark _)) pa_nil))))
      (ss_cons (s_app (ps_expr (pe_bm PySem.F.plainAttrs_list PySem.F.slot_list_append PySem.F.type_list_append mt_append (pv 2) (pa_cons (c_cmp (o_eq hK hu) (c_bhB (b_reprX hK hgd hu2) (by rfl) T.n_repr (by decide +kernel) (r_cons (c_lst (f_cons (c_fld hK (c_var (pv 4)) (fld_19 T)) (f_cons (c_fld hK (c_var (pv 4)) (fld_20 T)) f_nil))) r_nil)) (c_bhB (b_reprX hK hgd hu2) (by rfl) T.n_repr (by decide +kernel) (r_cons (c_lst (f_cons (c_var (pv 0)) (f_cons (c_var (pv 1)) f_nil))) r_nil)) (nomark _)) pa_nil))))
      ss_nil))))
      (ss_cons (s_forl (ps_for hp rfl (i_any hK (c_lst (f_cons (c_mkE (T.cx31) rfl (pmk_X T.ox31 T.xi31 T.xt31 ((xf31 T).up (by omega)) hgd hr2 T.b13 tk (by decide) (by rfl) T.mC31 (f_cons (c_var (pv 0)) (f_cons (c_var (pv 1)) f_nil)))) (f_cons (c_mkEP (T.cx31) rfl rfl (pmk_XK T.ox31 T.xi31 T.xt31 ((xf31 T).up (by omega)) hgd hr2 T.ks13_key_level tk (by decide) (by rfl) T.mC31 (fk_cons (c_var (pv 1)) (fk_cons (c_var (pv 0)) fk_nil)))) f_nil)))) (pg_name (i := 5) sc.nd rfl (Or.inl rfl)) (ss_cons (s_app (ps_expr (pe_bm PySem.F.plainAttrs_list PySem.F.slot_list_append PySem.F.type_list_append mt_append (pv 2) (pa_cons (c_cmp (o_eq hK hu) (c_call A.o23 hgd hr0 tk (by rfl) T.m23 T.f23.kp T.b23 (k_cons (m := false) (c_var (pv 5)) k_nil)) (c_lst (f_cons (c_cst pe_str (fun H => r_str _ H _)) (f_cons (c_cst pe_str (fun H => r_str _ H _)) f_nil))) (nomark _)) pa_nil))))
      (ss_cons (s_app (ps_expr (pe_bm PySem.F.plainAttrs_list PySem.F.slot_list_append PySem.F.type_list_append mt_append (pv 2) (pa_cons (c_cmp (o_eq hK hu) (c_bhB (b_reprX hK hgd hu2) (by rfl) T.n_repr (by decide +kernel) (r_cons (c_lst (f_cons (c_fld hK (c_var (pv 5)) (fld_10 T)) (f_cons (c_fld hK (c_var (pv 5)) (fld_12 T)) f_nil))) r_nil)) (c_bhB (b_reprX hK hgd hu2) (by rfl) T.n_repr (by decide +kernel) (r_cons (c_lst (f_cons (c_var (pv 0)) (f_cons (c_var (pv 1)) f_nil))) r_nil)) (nomark _)) pa_nil))))
      ss_nil))))
      (ss_cons (s_ret (c_cmp (o_notin hK hu65) (c_cst pe_bl (fun H => r_bl _ H _)) (c_var (pv 2)) (by rfl)))
      ss_nil)))))) rfl
theorem ok26 (T : Tx K mg fa ca pa cc ta fd) (A : Al P w K mg base fa cc ta fd k) (A' : Al P w K mg base fa cc ta fd (k - 1)) : FnG P w K mg base (5 * (k + 1)) (fa 26) (fd 26) ["_law_script"] (spF (tb K) (calls fs (k + 1)) 508 1) := def_ok (F := fn26) T.f26 sc26 rfl (by decide) rfl (fun _ => rfl) (fun {X} {C} {W} hK hu hu2 hgd hr tk hp hX => by
    have sc := sc26
    obtain ⟨qu, cdv, A0_, outer_, s0_, H0_, E0_, rfl, hC, rfl, hcd⟩ := hX
    obtain ⟨CT, h0_, he_, io_, fa_⟩ := C
    have hC : CT = tb K := hC
    subst hC
    have hcalm : (cxOf (L2.CX P w) P w K mg base ["_law_script", "_law_pen_here", "_law_turn", "_law_thing", "_law_more", "_law_error", "_law_signs_here", "_law_field", "_law_groups"] "law" (defScope st26) (fa 26) cdv A0_ outer_ s0_ H0_ E0_).calm = true := rfl
    have hu65 : (cxOf (L2.CX P w) P w K mg base ["_law_script", "_law_pen_here", "_law_turn", "_law_thing", "_law_more", "_law_error", "_law_signs_here", "_law_field", "_law_groups"] "law" (defScope st26) (fa 26) cdv A0_ outer_ s0_ H0_ E0_).A.units + 65 < cLine := by omega
    have hr0 : Room (5 * k) _ := hr.mono (by omega)
    have hr1 : Room (5 * k + 1) _ := hr.mono (by omega)
    have hr2 : Room (5 * k + 2) _ := hr.mono (by omega)
    have hr3 : Room (5 * k + 3) _ := hr.mono (by omega)
    exact (ss_cons (s_asg (ps_set (i := 1) sc.nd rfl (Or.inl rfl) (c_call A.o18 hgd hr0 tk (by rfl) T.m18 T.f18.kp T.b18 (k_cons (m := false) (c_var (pv 0)) k_nil))))
      (ss_cons (s_forr (ps_for hp rfl (pi_range1 (by rfl) T.n_range (pa_cons (c_cst pe_int (fun H => r_int _ H _)) pa_nil)) (pg_name (i := 2) sc.nd rfl (Or.inl rfl)) (ss_cons (s_par2 (ps_par (i := 3) (j := 4) rfl sc.nd rfl rfl (by decide) rfl rfl (f_cons (c_call A.o21 hgd hr0 tk (by rfl) T.m21 T.f21.kp T.b21 (k_cons (m := true) (c_var (pv 1)) k_nil)) (f_cons (c_call A.o21 hgd hr0 tk (by rfl) T.m21 T.f21.kp T.b21 (k_cons (m := true) (c_var (pv 1)) k_nil)) f_nil)) (by rfl)))
      (ss_cons (s_fort hK (ps_for hp rfl (i_seq hK (c_call A.o24 hgd hr0 tk (by rfl) T.m24 T.f24.kp T.b24 (k_cons (m := false) (c_var (pv 3)) k_nil))) (pg_tup rfl (pgs_cons (pg_name (i := 5) sc.nd rfl (Or.inl rfl)) (pgs_cons (pg_name (i := 6) sc.nd rfl (Or.inl rfl)) (pgs_cons (pg_name (i := 7) sc.nd rfl (Or.inl rfl)) pgs_nil)))) (ss_cons (s_iff (PW.pt (w_or (t_cmp (o_ne hK hu) (c_bhB (b_reprX hK hgd hu2) (by rfl) T.n_repr (by decide +kernel) (r_cons (c_var (pv 7)) r_nil)) (c_bhB (b_reprX hK hgd hu2) (by rfl) T.n_repr (by decide +kernel) (r_cons (c_var (pv 3)) r_nil)) (nomark _)) (w_or1 (t_cmp (o_ne hK hu) (c_call A.o23 hgd hr0 tk (by rfl) T.m23 T.f23.kp T.b23 (k_cons (m := false) (c_var (pv 5)) k_nil)) (c_var (pv 6)) (nomark _))))) (ss_cons (s_ret (c_cst pe_bl (fun H => r_bl _ H _)))
      ss_nil) ss_nil)
      ss_nil)))
      (ss_cons (s_iff (t_not (t_tru hK (c_call A.o25 hgd hr0 tk (by rfl) T.m25 T.f25.kp T.b25 (k_cons (m := false) (c_var (pv 3)) (k_cons (m := false) (c_var (pv 4)) k_nil))))) (ss_cons (s_ret (c_cst pe_bl (fun H => r_bl _ H _)))
      ss_nil) ss_nil)
      ss_nil)))))
      (ss_cons (s_iff (PW.pt (w_or (t_cmp (o_ne hK hu) (c_call A.o23 hgd hr0 tk (by rfl) T.m23 T.f23.kp T.b23 (k_cons (m := false) (c_mkE0 T.cy33 (pmk_own0 PySem.F.excBase_ValueError T.ey33 T.mC33 T.ky33 (raises_own T.ez33 T.ew33) (by rfl))) k_nil)) (c_lst (f_cons (c_cst pe_str (fun H => r_str _ H _)) (f_cons (c_cst pe_str (fun H => r_str _ H _)) f_nil))) (nomark _)) (w_or1 (t_not (t_tru hK (c_isOT hK (isoT T rfl) (by rfl) T.n_isinstance (c_mkE0 T.cy0 (pmk_own0 PySem.F.excBase_ValueError T.ey0 T.mC0 T.ky0 (raises_own T.ez0 T.ew0) (by rfl))) (pe_bltn (by rfl) T.n_ValueError (by decide +kernel) rfl))))))) (ss_cons (s_ret (c_cst pe_bl (fun H => r_bl _ H _)))
      ss_nil) ss_nil)
      (ss_cons (s_asg (ps_set (i := 8) sc.nd rfl (Or.inl rfl) (c_lst (f_cons (c_call A.o23 hgd hr0 tk (by rfl) T.m23 T.f23.kp T.b23 (k_cons (m := false) (c_mkE0 T.cy0 (pmk_own0 PySem.F.excBase_ValueError T.ey0 T.mC0 T.ky0 (raises_own T.ez0 T.ew0) (by rfl))) k_nil)) (f_cons (c_call A.o23 hgd hr0 tk (by rfl) T.m23 T.f23.kp T.b23 (k_cons (m := false) (c_mkE0 T.cy1 (pmk_own0 PySem.F.excBase_ValueError T.ey1 T.mC1 T.ky1 (raises_own T.ez1 T.ew1) (by rfl))) k_nil)) (f_cons (c_call A.o23 hgd hr0 tk (by rfl) T.m23 T.f23.kp T.b23 (k_cons (m := false) (c_mkE0 T.cy18 (pmk_own0 PySem.F.excBase_ValueError T.ey18 T.mC18 T.ky18 (raises_own T.ez18 T.ew18) (by rfl))) k_nil)) (f_cons (c_call A.o23 hgd hr0 tk (by rfl) T.m23 T.f23.kp T.b23 (k_cons (m := false) (c_mkE0 T.cy23 (pmk_own0 PySem.F.excBase_ValueError T.ey23 T.mC23 T.ky23 (raises_own T.ez23 T.ew23) (by rfl))) k_nil)) f_nil)))))))
      (ss_cons (s_ret (c_cmp (o_eq hK hu) (c_var (pv 8)) (c_lst (f_cons (c_lst f_nil) (f_cons (c_lst (f_cons (c_cst pe_str (fun H => r_str _ H _)) f_nil)) (f_cons (c_lst (f_cons (c_cst pe_str (fun H => r_str _ H _)) f_nil)) (f_cons (c_lst (f_cons (c_cst pe_str (fun H => r_str _ H _)) f_nil)) f_nil))))) (nomark _)))
      ss_nil)))))) rfl
theorem step (T : Tx K mg fa ca pa cc ta fd) (A : Al P w K mg base fa cc ta fd k) (A' : Al P w K mg base fa cc ta fd (k - 1)) : Al P w K mg base fa cc ta fd (k + 1) := ⟨ok18 T A A', ok19 T A A', ok20 T A A', ok21 T A A', ok22 T A A', ok23 T A A', ok24 T A A', ok25 T A A', ok26 T A A'⟩
theorem al (T : Tx K mg fa ca pa cc ta fd)  : ∀ k, Al P w K mg base fa cc ta fd k ∧ Al P w K mg base fa cc ta fd (k - 1)
  | 0 => ⟨⟨fn_zero rfl, fn_zero rfl, fn_zero rfl, fn_zero rfl, fn_zero rfl, fn_zero rfl, fn_zero rfl, fn_zero rfl, fn_zero rfl⟩, ⟨fn_zero rfl, fn_zero rfl, fn_zero rfl, fn_zero rfl, fn_zero rfl, fn_zero rfl, fn_zero rfl, fn_zero rfl, fn_zero rfl⟩⟩
  | k + 1 => ⟨step T (al T  k).1 (al T  k).2, (al T  k).1⟩
end
theorem all_mk {P : Program} {w : World} {K : PySem.W.Frag} {h : Heap} {mg : Str → Option Value} {fl : Addr} (X : K.In h) (G : h.Ns mainGlobals mg) (hfl : mg "law" = some (.ref fl)) {C0 C1 C18 C23 C8 C2 C10 C12 C3 C15 C4 C29 C27 C24 C20 C6 C30 C31 C32 C28 C19 C25 C33 f0 f1 f2 f3 f4 f5 f6 f7 f8 f9 f10 f11 f12 f13 f14 f15 f16 f17 f18 f19 f20 f21 f22 f23 f24 f25 f26 : Addr}
    {nm8 q8 : Str} {N8 : Addr} {bs8 bm8 : List Value} {sn8 : List Str} {sub8 : List Value} {ab8 : Bool} {col8 : Option Bool} {dd8 : Option Addr} {k08 k18 k28 k38 k58 : Option Value}
    {nm2 q2 : Str} {N2 : Addr} {bs2 bm2 : List Value} {sn2 : List Str} {sub2 : List Value} {ab2 : Bool} {col2 : Option Bool} {dd2 : Option Addr} {k02 k12 k22 k32 k52 : Option Value}
    {nm10 q10 : Str} {N10 : Addr} {bs10 bm10 : List Value} {sn10 : List Str} {sub10 : List Value} {ab10 : Bool} {col10 : Option Bool} {dd10 : Option Addr} {k010 k110 k210 k310 k510 : Option Value}
    {nm12 q12 : Str} {N12 : Addr} {bs12 bm12 : List Value} {sn12 : List Str} {sub12 : List Value} {ab12 : Bool} {col12 : Option Bool} {dd12 : Option Addr} {k012 k112 k212 k312 k512 : Option Value}
    {nm3 q3 : Str} {N3 : Addr} {bs3 bm3 : List Value} {sn3 : List Str} {sub3 : List Value} {ab3 : Bool} {col3 : Option Bool} {dd3 : Option Addr} {k03 k13 k23 k33 k53 : Option Value}
    {nm15 q15 : Str} {N15 : Addr} {bs15 bm15 : List Value} {sn15 : List Str} {sub15 : List Value} {ab15 : Bool} {col15 : Option Bool} {dd15 : Option Addr} {k015 k115 k215 k315 k515 : Option Value}
    {nm4 q4 : Str} {N4 : Addr} {bs4 bm4 : List Value} {sn4 : List Str} {sub4 : List Value} {ab4 : Bool} {col4 : Option Bool} {dd4 : Option Addr} {k04 k14 k24 k34 k54 : Option Value}
    {nm29 q29 : Str} {N29 : Addr} {bs29 bm29 : List Value} {sn29 : List Str} {sub29 : List Value} {ab29 : Bool} {col29 : Option Bool} {dd29 : Option Addr} {k029 k129 k229 k329 k529 : Option Value}
    {nm27 q27 : Str} {N27 : Addr} {bs27 bm27 : List Value} {sn27 : List Str} {sub27 : List Value} {ab27 : Bool} {col27 : Option Bool} {dd27 : Option Addr} {k027 k127 k227 k327 k527 : Option Value}
    {nm24 q24 : Str} {N24 : Addr} {bs24 bm24 : List Value} {sn24 : List Str} {sub24 : List Value} {ab24 : Bool} {col24 : Option Bool} {dd24 : Option Addr} {k024 k124 k224 k324 k524 : Option Value}
    {nm20 q20 : Str} {N20 : Addr} {bs20 bm20 : List Value} {sn20 : List Str} {sub20 : List Value} {ab20 : Bool} {col20 : Option Bool} {dd20 : Option Addr} {k020 k120 k220 k320 k520 : Option Value}
    {nm6 q6 : Str} {N6 : Addr} {bs6 bm6 : List Value} {sn6 : List Str} {sub6 : List Value} {ab6 : Bool} {col6 : Option Bool} {dd6 : Option Addr} {k06 k16 k26 k36 k56 : Option Value}
    {nm30 q30 : Str} {N30 : Addr} {bs30 bm30 : List Value} {sn30 : List Str} {sub30 : List Value} {ab30 : Bool} {col30 : Option Bool} {dd30 : Option Addr} {k030 k130 k230 k330 k530 : Option Value}
    {nm31 q31 : Str} {N31 : Addr} {bs31 bm31 : List Value} {sn31 : List Str} {sub31 : List Value} {ab31 : Bool} {col31 : Option Bool} {dd31 : Option Addr} {k031 k131 k231 k331 k531 : Option Value}
    {nm32 q32 : Str} {N32 : Addr} {bs32 bm32 : List Value} {sn32 : List Str} {sub32 : List Value} {ab32 : Bool} {col32 : Option Bool} {dd32 : Option Addr} {k032 k132 k232 k332 k532 : Option Value}
    {nm28 q28 : Str} {N28 : Addr} {bs28 bm28 : List Value} {sn28 : List Str} {sub28 : List Value} {ab28 : Bool} {col28 : Option Bool} {dd28 : Option Addr} {k028 k128 k228 k328 k528 : Option Value}
    {nm19 q19 : Str} {N19 : Addr} {bs19 bm19 : List Value} {sn19 : List Str} {sub19 : List Value} {ab19 : Bool} {col19 : Option Bool} {dd19 : Option Addr} {k019 k119 k219 k319 k519 : Option Value}
    {nm25 q25 : Str} {N25 : Addr} {bs25 bm25 : List Value} {sn25 : List Str} {sub25 : List Value} {ab25 : Bool} {col25 : Option Bool} {dd25 : Option Addr} {k025 k125 k225 k325 k525 : Option Value}
    {od0 an0 : Option Addr} {sl0 : Array (Option Value)} {oc0 kV0 dc0 pm0 ct0 : Value} {cd0 : Value}
    {od1 an1 : Option Addr} {sl1 : Array (Option Value)} {oc1 kV1 dc1 pm1 ct1 : Value} {cd1 : Value}
    {od2 an2 : Option Addr} {sl2 : Array (Option Value)} {oc2 kV2 dc2 pm2 ct2 : Value} {cd2 : Value}
    {od3 an3 : Option Addr} {sl3 : Array (Option Value)} {oc3 kV3 dc3 pm3 ct3 : Value} {cd3 : Value}
    {od4 an4 : Option Addr} {sl4 : Array (Option Value)} {oc4 kV4 dc4 pm4 ct4 : Value} {cd4 : Value}
    {od5 an5 : Option Addr} {sl5 : Array (Option Value)} {oc5 kV5 dc5 pm5 ct5 : Value} {cd5 : Value}
    {od6 an6 : Option Addr} {sl6 : Array (Option Value)} {oc6 kV6 dc6 pm6 ct6 : Value} {cd6 : Value}
    {od7 an7 : Option Addr} {sl7 : Array (Option Value)} {oc7 kV7 dc7 pm7 ct7 : Value} {cd7 : Value}
    {od8 an8 : Option Addr} {sl8 : Array (Option Value)} {oc8 kV8 dc8 pm8 ct8 : Value} {cd8 : Value}
    {od9 an9 : Option Addr} {sl9 : Array (Option Value)} {oc9 kV9 dc9 pm9 ct9 : Value} {cd9 : Value}
    {od10 an10 : Option Addr} {sl10 : Array (Option Value)} {oc10 kV10 dc10 pm10 ct10 : Value} {cd10 : Value}
    {od11 an11 : Option Addr} {sl11 : Array (Option Value)} {oc11 kV11 dc11 pm11 ct11 : Value} {cd11 : Value}
    {od12 an12 : Option Addr} {sl12 : Array (Option Value)} {oc12 kV12 dc12 pm12 ct12 : Value} {cd12 : Value}
    {od13 an13 : Option Addr} {sl13 : Array (Option Value)} {oc13 kV13 dc13 pm13 ct13 : Value} {cd13 : Value}
    {od14 an14 : Option Addr} {sl14 : Array (Option Value)} {oc14 kV14 dc14 pm14 ct14 : Value} {cd14 : Value}
    {od15 an15 : Option Addr} {sl15 : Array (Option Value)} {oc15 kV15 dc15 pm15 ct15 : Value} {cd15 : Value}
    {od16 an16 : Option Addr} {sl16 : Array (Option Value)} {oc16 kV16 dc16 pm16 ct16 : Value} {cd16 : Value}
    {od17 an17 : Option Addr} {sl17 : Array (Option Value)} {oc17 kV17 dc17 pm17 ct17 : Value} {cd17 : Value}
    {od18 an18 : Option Addr} {sl18 : Array (Option Value)} {oc18 kV18 dc18 pm18 ct18 : Value} {cd18 : Value}
    {od19 an19 : Option Addr} {sl19 : Array (Option Value)} {oc19 kV19 dc19 pm19 ct19 : Value} {cd19 : Value}
    {od20 an20 : Option Addr} {sl20 : Array (Option Value)} {oc20 kV20 dc20 pm20 ct20 : Value} {cd20 : Value}
    {od21 an21 : Option Addr} {sl21 : Array (Option Value)} {oc21 kV21 dc21 pm21 ct21 : Value} {cd21 : Value}
    {od22 an22 : Option Addr} {sl22 : Array (Option Value)} {oc22 kV22 dc22 pm22 ct22 : Value} {cd22 : Value}
    {od23 an23 : Option Addr} {sl23 : Array (Option Value)} {oc23 kV23 dc23 pm23 ct23 : Value} {cd23 : Value}
    {od24 an24 : Option Addr} {sl24 : Array (Option Value)} {oc24 kV24 dc24 pm24 ct24 : Value} {cd24 : Value}
    {od25 an25 : Option Addr} {sl25 : Array (Option Value)} {oc25 kV25 dc25 pm25 ct25 : Value} {cd25 : Value}
    {od26 an26 : Option Addr} {sl26 : Array (Option Value)} {oc26 kV26 dc26 pm26 ct26 : Value} {cd26 : Value}
    (aC0 : PySem.W.nsIn K mainGlobals "CurveError" = some (some (.ref C0)))
    (aC1 : PySem.W.nsIn K mainGlobals "BadInput" = some (some (.ref C1)))
    (aC18 : PySem.W.nsIn K mainGlobals "Refused" = some (some (.ref C18)))
    (aC23 : PySem.W.nsIn K mainGlobals "NoAnswer" = some (some (.ref C23)))
    (aC8 : PySem.W.nsIn K mainGlobals "BadCurve" = some (some (.ref C8)))
    (aC2 : PySem.W.nsIn K mainGlobals "BadLevel" = some (some (.ref C2)))
    (aC10 : PySem.W.nsIn K mainGlobals "BadPlace" = some (some (.ref C10)))
    (aC12 : PySem.W.nsIn K mainGlobals "BadKey" = some (some (.ref C12)))
    (aC3 : PySem.W.nsIn K mainGlobals "BadBox" = some (some (.ref C3)))
    (aC15 : PySem.W.nsIn K mainGlobals "BadSpans" = some (some (.ref C15)))
    (aC4 : PySem.W.nsIn K mainGlobals "BadMany" = some (some (.ref C4)))
    (aC29 : PySem.W.nsIn K mainGlobals "BadRule" = some (some (.ref C29)))
    (aC27 : PySem.W.nsIn K mainGlobals "BadStore" = some (some (.ref C27)))
    (aC24 : PySem.W.nsIn K mainGlobals "BadRow" = some (some (.ref C24)))
    (aC20 : PySem.W.nsIn K mainGlobals "BadBook" = some (some (.ref C20)))
    (aC6 : PySem.W.nsIn K mainGlobals "BadText" = some (some (.ref C6)))
    (aC30 : PySem.W.nsIn K mainGlobals "BadLine" = some (some (.ref C30)))
    (aC31 : PySem.W.nsIn K mainGlobals "Endless" = some (some (.ref C31)))
    (aC32 : PySem.W.nsIn K mainGlobals "Unlike" = some (some (.ref C32)))
    (aC28 : PySem.W.nsIn K mainGlobals "Outside" = some (some (.ref C28)))
    (aC19 : PySem.W.nsIn K mainGlobals "TooMany" = some (some (.ref C19)))
    (aC25 : PySem.W.nsIn K mainGlobals "NoRow" = some (some (.ref C25)))
    (aC33 : PySem.W.nsIn K mainGlobals "NoDeed" = some (some (.ref C33)))
    (xc0 : xcB K C0 = true)
    (na0 : naB K C0 [] = true)
    (ey0 : PySem.W.excIn K C0 [.type "ValueError", .type "Exception", .type "BaseException", .type "object"] "ValueError.__new__" = true)
    (ky0 : PySem.W.keepIn K (.ref C0) = true)
    (ez0 : PySem.W.subIn K (.ref C0) (.type "BaseException") = some true)
    (ew0 : PySem.W.typeIn K (.ref C0) = some (.type "type"))
    (xc1 : xcB K C1 = true)
    (na1 : naB K C1 [] = true)
    (ey1 : PySem.W.excIn K C1 [.type "ValueError", .type "Exception", .type "BaseException", .type "object"] "ValueError.__new__" = true)
    (ky1 : PySem.W.keepIn K (.ref C1) = true)
    (ez1 : PySem.W.subIn K (.ref C1) (.type "BaseException") = some true)
    (ew1 : PySem.W.typeIn K (.ref C1) = some (.type "type"))
    (xc18 : xcB K C18 = true)
    (na18 : naB K C18 [] = true)
    (ey18 : PySem.W.excIn K C18 [.type "ValueError", .type "Exception", .type "BaseException", .type "object"] "ValueError.__new__" = true)
    (ky18 : PySem.W.keepIn K (.ref C18) = true)
    (ez18 : PySem.W.subIn K (.ref C18) (.type "BaseException") = some true)
    (ew18 : PySem.W.typeIn K (.ref C18) = some (.type "type"))
    (xc23 : xcB K C23 = true)
    (na23 : naB K C23 [] = true)
    (ey23 : PySem.W.excIn K C23 [.type "ValueError", .type "Exception", .type "BaseException", .type "object"] "ValueError.__new__" = true)
    (ky23 : PySem.W.keepIn K (.ref C23) = true)
    (ez23 : PySem.W.subIn K (.ref C23) (.type "BaseException") = some true)
    (ew23 : PySem.W.typeIn K (.ref C23) = some (.type "type"))
    (xc8 : xcB K C8 = true)
    (na8 : naB K C8 ["part"] = true)
    (xL8 : K.lookup C8 = some (excClassObj nm8 q8 C8 N8 bs8 bm8 true sn8 sub8 ab8 col8 dd8 k08 k18 k28 k38 k58 "ValueError.__new__"))
    (xR8 : PySem.HandSPX.refsVE bm8 = true)
    (xS8 : (decide (PySem.W.findIn K (.ref C8) "__setattr__" = some (some (.builtin "object.__setattr__"))) && (decide (PySem.W.subIn K (.ref C8) (.type "BaseException") = some true) && (decide (PySem.W.typeIn K (.ref C8) = some (.type "type")) && PySem.W.keepIn K (.ref C8)))) = true)
    (xi8 : PySem.W.findIn K (.ref C8) "__init__" = some (some (.ref f0)))
    (xt8 : PySem.W.typeIn K (.ref f0) = some (.type "function"))
    (xc2 : xcB K C2 = true)
    (na2 : naB K C2 ["value"] = true)
    (xL2 : K.lookup C2 = some (excClassObj nm2 q2 C2 N2 bs2 bm2 true sn2 sub2 ab2 col2 dd2 k02 k12 k22 k32 k52 "ValueError.__new__"))
    (xR2 : PySem.HandSPX.refsVE bm2 = true)
    (xS2 : (decide (PySem.W.findIn K (.ref C2) "__setattr__" = some (some (.builtin "object.__setattr__"))) && (decide (PySem.W.subIn K (.ref C2) (.type "BaseException") = some true) && (decide (PySem.W.typeIn K (.ref C2) = some (.type "type")) && PySem.W.keepIn K (.ref C2)))) = true)
    (xi2 : PySem.W.findIn K (.ref C2) "__init__" = some (some (.ref f1)))
    (xt2 : PySem.W.typeIn K (.ref f1) = some (.type "function"))
    (xc10 : xcB K C10 = true)
    (na10 : naB K C10 ["value"] = true)
    (xL10 : K.lookup C10 = some (excClassObj nm10 q10 C10 N10 bs10 bm10 true sn10 sub10 ab10 col10 dd10 k010 k110 k210 k310 k510 "ValueError.__new__"))
    (xR10 : PySem.HandSPX.refsVE bm10 = true)
    (xS10 : (decide (PySem.W.findIn K (.ref C10) "__setattr__" = some (some (.builtin "object.__setattr__"))) && (decide (PySem.W.subIn K (.ref C10) (.type "BaseException") = some true) && (decide (PySem.W.typeIn K (.ref C10) = some (.type "type")) && PySem.W.keepIn K (.ref C10)))) = true)
    (xi10 : PySem.W.findIn K (.ref C10) "__init__" = some (some (.ref f2)))
    (xt10 : PySem.W.typeIn K (.ref f2) = some (.type "function"))
    (xc12 : xcB K C12 = true)
    (na12 : naB K C12 ["value"] = true)
    (xL12 : K.lookup C12 = some (excClassObj nm12 q12 C12 N12 bs12 bm12 true sn12 sub12 ab12 col12 dd12 k012 k112 k212 k312 k512 "ValueError.__new__"))
    (xR12 : PySem.HandSPX.refsVE bm12 = true)
    (xS12 : (decide (PySem.W.findIn K (.ref C12) "__setattr__" = some (some (.builtin "object.__setattr__"))) && (decide (PySem.W.subIn K (.ref C12) (.type "BaseException") = some true) && (decide (PySem.W.typeIn K (.ref C12) = some (.type "type")) && PySem.W.keepIn K (.ref C12)))) = true)
    (xi12 : PySem.W.findIn K (.ref C12) "__init__" = some (some (.ref f3)))
    (xt12 : PySem.W.typeIn K (.ref f3) = some (.type "function"))
    (xc3 : xcB K C3 = true)
    (na3 : naB K C3 ["part"] = true)
    (xL3 : K.lookup C3 = some (excClassObj nm3 q3 C3 N3 bs3 bm3 true sn3 sub3 ab3 col3 dd3 k03 k13 k23 k33 k53 "ValueError.__new__"))
    (xR3 : PySem.HandSPX.refsVE bm3 = true)
    (xS3 : (decide (PySem.W.findIn K (.ref C3) "__setattr__" = some (some (.builtin "object.__setattr__"))) && (decide (PySem.W.subIn K (.ref C3) (.type "BaseException") = some true) && (decide (PySem.W.typeIn K (.ref C3) = some (.type "type")) && PySem.W.keepIn K (.ref C3)))) = true)
    (xi3 : PySem.W.findIn K (.ref C3) "__init__" = some (some (.ref f4)))
    (xt3 : PySem.W.typeIn K (.ref f4) = some (.type "function"))
    (xc15 : xcB K C15 = true)
    (na15 : naB K C15 ["part"] = true)
    (xL15 : K.lookup C15 = some (excClassObj nm15 q15 C15 N15 bs15 bm15 true sn15 sub15 ab15 col15 dd15 k015 k115 k215 k315 k515 "ValueError.__new__"))
    (xR15 : PySem.HandSPX.refsVE bm15 = true)
    (xS15 : (decide (PySem.W.findIn K (.ref C15) "__setattr__" = some (some (.builtin "object.__setattr__"))) && (decide (PySem.W.subIn K (.ref C15) (.type "BaseException") = some true) && (decide (PySem.W.typeIn K (.ref C15) = some (.type "type")) && PySem.W.keepIn K (.ref C15)))) = true)
    (xi15 : PySem.W.findIn K (.ref C15) "__init__" = some (some (.ref f5)))
    (xt15 : PySem.W.typeIn K (.ref f5) = some (.type "function"))
    (xc4 : xcB K C4 = true)
    (na4 : naB K C4 ["value"] = true)
    (xL4 : K.lookup C4 = some (excClassObj nm4 q4 C4 N4 bs4 bm4 true sn4 sub4 ab4 col4 dd4 k04 k14 k24 k34 k54 "ValueError.__new__"))
    (xR4 : PySem.HandSPX.refsVE bm4 = true)
    (xS4 : (decide (PySem.W.findIn K (.ref C4) "__setattr__" = some (some (.builtin "object.__setattr__"))) && (decide (PySem.W.subIn K (.ref C4) (.type "BaseException") = some true) && (decide (PySem.W.typeIn K (.ref C4) = some (.type "type")) && PySem.W.keepIn K (.ref C4)))) = true)
    (xi4 : PySem.W.findIn K (.ref C4) "__init__" = some (some (.ref f6)))
    (xt4 : PySem.W.typeIn K (.ref f6) = some (.type "function"))
    (xc29 : xcB K C29 = true)
    (na29 : naB K C29 ["part"] = true)
    (xL29 : K.lookup C29 = some (excClassObj nm29 q29 C29 N29 bs29 bm29 true sn29 sub29 ab29 col29 dd29 k029 k129 k229 k329 k529 "ValueError.__new__"))
    (xR29 : PySem.HandSPX.refsVE bm29 = true)
    (xS29 : (decide (PySem.W.findIn K (.ref C29) "__setattr__" = some (some (.builtin "object.__setattr__"))) && (decide (PySem.W.subIn K (.ref C29) (.type "BaseException") = some true) && (decide (PySem.W.typeIn K (.ref C29) = some (.type "type")) && PySem.W.keepIn K (.ref C29)))) = true)
    (xi29 : PySem.W.findIn K (.ref C29) "__init__" = some (some (.ref f7)))
    (xt29 : PySem.W.typeIn K (.ref f7) = some (.type "function"))
    (xc27 : xcB K C27 = true)
    (na27 : naB K C27 ["part"] = true)
    (xL27 : K.lookup C27 = some (excClassObj nm27 q27 C27 N27 bs27 bm27 true sn27 sub27 ab27 col27 dd27 k027 k127 k227 k327 k527 "ValueError.__new__"))
    (xR27 : PySem.HandSPX.refsVE bm27 = true)
    (xS27 : (decide (PySem.W.findIn K (.ref C27) "__setattr__" = some (some (.builtin "object.__setattr__"))) && (decide (PySem.W.subIn K (.ref C27) (.type "BaseException") = some true) && (decide (PySem.W.typeIn K (.ref C27) = some (.type "type")) && PySem.W.keepIn K (.ref C27)))) = true)
    (xi27 : PySem.W.findIn K (.ref C27) "__init__" = some (some (.ref f8)))
    (xt27 : PySem.W.typeIn K (.ref f8) = some (.type "function"))
    (xc24 : xcB K C24 = true)
    (na24 : naB K C24 ["value"] = true)
    (xL24 : K.lookup C24 = some (excClassObj nm24 q24 C24 N24 bs24 bm24 true sn24 sub24 ab24 col24 dd24 k024 k124 k224 k324 k524 "ValueError.__new__"))
    (xR24 : PySem.HandSPX.refsVE bm24 = true)
    (xS24 : (decide (PySem.W.findIn K (.ref C24) "__setattr__" = some (some (.builtin "object.__setattr__"))) && (decide (PySem.W.subIn K (.ref C24) (.type "BaseException") = some true) && (decide (PySem.W.typeIn K (.ref C24) = some (.type "type")) && PySem.W.keepIn K (.ref C24)))) = true)
    (xi24 : PySem.W.findIn K (.ref C24) "__init__" = some (some (.ref f9)))
    (xt24 : PySem.W.typeIn K (.ref f9) = some (.type "function"))
    (xc20 : xcB K C20 = true)
    (na20 : naB K C20 ["part"] = true)
    (xL20 : K.lookup C20 = some (excClassObj nm20 q20 C20 N20 bs20 bm20 true sn20 sub20 ab20 col20 dd20 k020 k120 k220 k320 k520 "ValueError.__new__"))
    (xR20 : PySem.HandSPX.refsVE bm20 = true)
    (xS20 : (decide (PySem.W.findIn K (.ref C20) "__setattr__" = some (some (.builtin "object.__setattr__"))) && (decide (PySem.W.subIn K (.ref C20) (.type "BaseException") = some true) && (decide (PySem.W.typeIn K (.ref C20) = some (.type "type")) && PySem.W.keepIn K (.ref C20)))) = true)
    (xi20 : PySem.W.findIn K (.ref C20) "__init__" = some (some (.ref f10)))
    (xt20 : PySem.W.typeIn K (.ref f10) = some (.type "function"))
    (xc6 : xcB K C6 = true)
    (na6 : naB K C6 ["line", "word"] = true)
    (xL6 : K.lookup C6 = some (excClassObj nm6 q6 C6 N6 bs6 bm6 true sn6 sub6 ab6 col6 dd6 k06 k16 k26 k36 k56 "ValueError.__new__"))
    (xR6 : PySem.HandSPX.refsVE bm6 = true)
    (xS6 : (decide (PySem.W.findIn K (.ref C6) "__setattr__" = some (some (.builtin "object.__setattr__"))) && (decide (PySem.W.subIn K (.ref C6) (.type "BaseException") = some true) && (decide (PySem.W.typeIn K (.ref C6) = some (.type "type")) && PySem.W.keepIn K (.ref C6)))) = true)
    (xi6 : PySem.W.findIn K (.ref C6) "__init__" = some (some (.ref f11)))
    (xt6 : PySem.W.typeIn K (.ref f11) = some (.type "function"))
    (xc30 : xcB K C30 = true)
    (na30 : naB K C30 ["word"] = true)
    (xL30 : K.lookup C30 = some (excClassObj nm30 q30 C30 N30 bs30 bm30 true sn30 sub30 ab30 col30 dd30 k030 k130 k230 k330 k530 "ValueError.__new__"))
    (xR30 : PySem.HandSPX.refsVE bm30 = true)
    (xS30 : (decide (PySem.W.findIn K (.ref C30) "__setattr__" = some (some (.builtin "object.__setattr__"))) && (decide (PySem.W.subIn K (.ref C30) (.type "BaseException") = some true) && (decide (PySem.W.typeIn K (.ref C30) = some (.type "type")) && PySem.W.keepIn K (.ref C30)))) = true)
    (xi30 : PySem.W.findIn K (.ref C30) "__init__" = some (some (.ref f12)))
    (xt30 : PySem.W.typeIn K (.ref f12) = some (.type "function"))
    (xc31 : xcB K C31 = true)
    (na31 : naB K C31 ["level", "key"] = true)
    (xL31 : K.lookup C31 = some (excClassObj nm31 q31 C31 N31 bs31 bm31 true sn31 sub31 ab31 col31 dd31 k031 k131 k231 k331 k531 "ValueError.__new__"))
    (xR31 : PySem.HandSPX.refsVE bm31 = true)
    (xS31 : (decide (PySem.W.findIn K (.ref C31) "__setattr__" = some (some (.builtin "object.__setattr__"))) && (decide (PySem.W.subIn K (.ref C31) (.type "BaseException") = some true) && (decide (PySem.W.typeIn K (.ref C31) = some (.type "type")) && PySem.W.keepIn K (.ref C31)))) = true)
    (xi31 : PySem.W.findIn K (.ref C31) "__init__" = some (some (.ref f13)))
    (xt31 : PySem.W.typeIn K (.ref f13) = some (.type "function"))
    (xc32 : xcB K C32 = true)
    (na32 : naB K C32 ["part"] = true)
    (xL32 : K.lookup C32 = some (excClassObj nm32 q32 C32 N32 bs32 bm32 true sn32 sub32 ab32 col32 dd32 k032 k132 k232 k332 k532 "ValueError.__new__"))
    (xR32 : PySem.HandSPX.refsVE bm32 = true)
    (xS32 : (decide (PySem.W.findIn K (.ref C32) "__setattr__" = some (some (.builtin "object.__setattr__"))) && (decide (PySem.W.subIn K (.ref C32) (.type "BaseException") = some true) && (decide (PySem.W.typeIn K (.ref C32) = some (.type "type")) && PySem.W.keepIn K (.ref C32)))) = true)
    (xi32 : PySem.W.findIn K (.ref C32) "__init__" = some (some (.ref f14)))
    (xt32 : PySem.W.typeIn K (.ref f14) = some (.type "function"))
    (xc28 : xcB K C28 = true)
    (na28 : naB K C28 ["place"] = true)
    (xL28 : K.lookup C28 = some (excClassObj nm28 q28 C28 N28 bs28 bm28 true sn28 sub28 ab28 col28 dd28 k028 k128 k228 k328 k528 "ValueError.__new__"))
    (xR28 : PySem.HandSPX.refsVE bm28 = true)
    (xS28 : (decide (PySem.W.findIn K (.ref C28) "__setattr__" = some (some (.builtin "object.__setattr__"))) && (decide (PySem.W.subIn K (.ref C28) (.type "BaseException") = some true) && (decide (PySem.W.typeIn K (.ref C28) = some (.type "type")) && PySem.W.keepIn K (.ref C28)))) = true)
    (xi28 : PySem.W.findIn K (.ref C28) "__init__" = some (some (.ref f15)))
    (xt28 : PySem.W.typeIn K (.ref f15) = some (.type "function"))
    (xc19 : xcB K C19 = true)
    (na19 : naB K C19 ["what", "most"] = true)
    (xL19 : K.lookup C19 = some (excClassObj nm19 q19 C19 N19 bs19 bm19 true sn19 sub19 ab19 col19 dd19 k019 k119 k219 k319 k519 "ValueError.__new__"))
    (xR19 : PySem.HandSPX.refsVE bm19 = true)
    (xS19 : (decide (PySem.W.findIn K (.ref C19) "__setattr__" = some (some (.builtin "object.__setattr__"))) && (decide (PySem.W.subIn K (.ref C19) (.type "BaseException") = some true) && (decide (PySem.W.typeIn K (.ref C19) = some (.type "type")) && PySem.W.keepIn K (.ref C19)))) = true)
    (xi19 : PySem.W.findIn K (.ref C19) "__init__" = some (some (.ref f16)))
    (xt19 : PySem.W.typeIn K (.ref f16) = some (.type "function"))
    (xc25 : xcB K C25 = true)
    (na25 : naB K C25 ["place"] = true)
    (xL25 : K.lookup C25 = some (excClassObj nm25 q25 C25 N25 bs25 bm25 true sn25 sub25 ab25 col25 dd25 k025 k125 k225 k325 k525 "ValueError.__new__"))
    (xR25 : PySem.HandSPX.refsVE bm25 = true)
    (xS25 : (decide (PySem.W.findIn K (.ref C25) "__setattr__" = some (some (.builtin "object.__setattr__"))) && (decide (PySem.W.subIn K (.ref C25) (.type "BaseException") = some true) && (decide (PySem.W.typeIn K (.ref C25) = some (.type "type")) && PySem.W.keepIn K (.ref C25)))) = true)
    (xi25 : PySem.W.findIn K (.ref C25) "__init__" = some (some (.ref f17)))
    (xt25 : PySem.W.typeIn K (.ref f17) = some (.type "function"))
    (xc33 : xcB K C33 = true)
    (na33 : naB K C33 [] = true)
    (ey33 : PySem.W.excIn K C33 [.type "ValueError", .type "Exception", .type "BaseException", .type "object"] "ValueError.__new__" = true)
    (ky33 : PySem.W.keepIn K (.ref C33) = true)
    (ez33 : PySem.W.subIn K (.ref C33) (.type "BaseException") = some true)
    (ew33 : PySem.W.typeIn K (.ref C33) = some (.type "type"))
    (l0 : K.lookup f0 = some ⟨oc0, od0, .func (PySem.W.fnOf "__init__" "BadCurve.__init__" (defArgs st0) (defBody st0) (defScope st0) .none kV0 dc0 pm0 an0 cd0 ct0), sl0⟩)
    (c0 : PySem.W.codeIn K cd0 "BadCurve.__init__" = true)
    (k0 : PySem.W.keepIn K (.ref f0) = true)
    (l1 : K.lookup f1 = some ⟨oc1, od1, .func (PySem.W.fnOf "__init__" "BadLevel.__init__" (defArgs st1) (defBody st1) (defScope st1) .none kV1 dc1 pm1 an1 cd1 ct1), sl1⟩)
    (c1 : PySem.W.codeIn K cd1 "BadLevel.__init__" = true)
    (k1 : PySem.W.keepIn K (.ref f1) = true)
    (l2 : K.lookup f2 = some ⟨oc2, od2, .func (PySem.W.fnOf "__init__" "BadPlace.__init__" (defArgs st2) (defBody st2) (defScope st2) .none kV2 dc2 pm2 an2 cd2 ct2), sl2⟩)
    (c2 : PySem.W.codeIn K cd2 "BadPlace.__init__" = true)
    (k2 : PySem.W.keepIn K (.ref f2) = true)
    (l3 : K.lookup f3 = some ⟨oc3, od3, .func (PySem.W.fnOf "__init__" "BadKey.__init__" (defArgs st3) (defBody st3) (defScope st3) .none kV3 dc3 pm3 an3 cd3 ct3), sl3⟩)
    (c3 : PySem.W.codeIn K cd3 "BadKey.__init__" = true)
    (k3 : PySem.W.keepIn K (.ref f3) = true)
    (l4 : K.lookup f4 = some ⟨oc4, od4, .func (PySem.W.fnOf "__init__" "BadBox.__init__" (defArgs st4) (defBody st4) (defScope st4) .none kV4 dc4 pm4 an4 cd4 ct4), sl4⟩)
    (c4 : PySem.W.codeIn K cd4 "BadBox.__init__" = true)
    (k4 : PySem.W.keepIn K (.ref f4) = true)
    (l5 : K.lookup f5 = some ⟨oc5, od5, .func (PySem.W.fnOf "__init__" "BadSpans.__init__" (defArgs st5) (defBody st5) (defScope st5) .none kV5 dc5 pm5 an5 cd5 ct5), sl5⟩)
    (c5 : PySem.W.codeIn K cd5 "BadSpans.__init__" = true)
    (k5 : PySem.W.keepIn K (.ref f5) = true)
    (l6 : K.lookup f6 = some ⟨oc6, od6, .func (PySem.W.fnOf "__init__" "BadMany.__init__" (defArgs st6) (defBody st6) (defScope st6) .none kV6 dc6 pm6 an6 cd6 ct6), sl6⟩)
    (c6 : PySem.W.codeIn K cd6 "BadMany.__init__" = true)
    (k6 : PySem.W.keepIn K (.ref f6) = true)
    (l7 : K.lookup f7 = some ⟨oc7, od7, .func (PySem.W.fnOf "__init__" "BadRule.__init__" (defArgs st7) (defBody st7) (defScope st7) .none kV7 dc7 pm7 an7 cd7 ct7), sl7⟩)
    (c7 : PySem.W.codeIn K cd7 "BadRule.__init__" = true)
    (k7 : PySem.W.keepIn K (.ref f7) = true)
    (l8 : K.lookup f8 = some ⟨oc8, od8, .func (PySem.W.fnOf "__init__" "BadStore.__init__" (defArgs st8) (defBody st8) (defScope st8) .none kV8 dc8 pm8 an8 cd8 ct8), sl8⟩)
    (c8 : PySem.W.codeIn K cd8 "BadStore.__init__" = true)
    (k8 : PySem.W.keepIn K (.ref f8) = true)
    (l9 : K.lookup f9 = some ⟨oc9, od9, .func (PySem.W.fnOf "__init__" "BadRow.__init__" (defArgs st9) (defBody st9) (defScope st9) .none kV9 dc9 pm9 an9 cd9 ct9), sl9⟩)
    (c9 : PySem.W.codeIn K cd9 "BadRow.__init__" = true)
    (k9 : PySem.W.keepIn K (.ref f9) = true)
    (l10 : K.lookup f10 = some ⟨oc10, od10, .func (PySem.W.fnOf "__init__" "BadBook.__init__" (defArgs st10) (defBody st10) (defScope st10) .none kV10 dc10 pm10 an10 cd10 ct10), sl10⟩)
    (c10 : PySem.W.codeIn K cd10 "BadBook.__init__" = true)
    (k10 : PySem.W.keepIn K (.ref f10) = true)
    (l11 : K.lookup f11 = some ⟨oc11, od11, .func (PySem.W.fnOf "__init__" "BadText.__init__" (defArgs st11) (defBody st11) (defScope st11) .none kV11 dc11 pm11 an11 cd11 ct11), sl11⟩)
    (c11 : PySem.W.codeIn K cd11 "BadText.__init__" = true)
    (k11 : PySem.W.keepIn K (.ref f11) = true)
    (l12 : K.lookup f12 = some ⟨oc12, od12, .func (PySem.W.fnOf "__init__" "BadLine.__init__" (defArgs st12) (defBody st12) (defScope st12) .none kV12 dc12 pm12 an12 cd12 ct12), sl12⟩)
    (c12 : PySem.W.codeIn K cd12 "BadLine.__init__" = true)
    (k12 : PySem.W.keepIn K (.ref f12) = true)
    (l13 : K.lookup f13 = some ⟨oc13, od13, .func (PySem.W.fnOf "__init__" "Endless.__init__" (defArgs st13) (defBody st13) (defScope st13) .none kV13 dc13 pm13 an13 cd13 ct13), sl13⟩)
    (c13 : PySem.W.codeIn K cd13 "Endless.__init__" = true)
    (k13 : PySem.W.keepIn K (.ref f13) = true)
    (l14 : K.lookup f14 = some ⟨oc14, od14, .func (PySem.W.fnOf "__init__" "Unlike.__init__" (defArgs st14) (defBody st14) (defScope st14) .none kV14 dc14 pm14 an14 cd14 ct14), sl14⟩)
    (c14 : PySem.W.codeIn K cd14 "Unlike.__init__" = true)
    (k14 : PySem.W.keepIn K (.ref f14) = true)
    (l15 : K.lookup f15 = some ⟨oc15, od15, .func (PySem.W.fnOf "__init__" "Outside.__init__" (defArgs st15) (defBody st15) (defScope st15) .none kV15 dc15 pm15 an15 cd15 ct15), sl15⟩)
    (c15 : PySem.W.codeIn K cd15 "Outside.__init__" = true)
    (k15 : PySem.W.keepIn K (.ref f15) = true)
    (l16 : K.lookup f16 = some ⟨oc16, od16, .func (PySem.W.fnOf "__init__" "TooMany.__init__" (defArgs st16) (defBody st16) (defScope st16) .none kV16 dc16 pm16 an16 cd16 ct16), sl16⟩)
    (c16 : PySem.W.codeIn K cd16 "TooMany.__init__" = true)
    (k16 : PySem.W.keepIn K (.ref f16) = true)
    (l17 : K.lookup f17 = some ⟨oc17, od17, .func (PySem.W.fnOf "__init__" "NoRow.__init__" (defArgs st17) (defBody st17) (defScope st17) .none kV17 dc17 pm17 an17 cd17 ct17), sl17⟩)
    (c17 : PySem.W.codeIn K cd17 "NoRow.__init__" = true)
    (k17 : PySem.W.keepIn K (.ref f17) = true)
    (a18 : PySem.W.nsIn K mainGlobals "_law_pen" = some (some (.ref f18)))
    (l18 : K.lookup f18 = some ⟨oc18, od18, .func (PySem.W.fnOf "_law_pen" "_law_pen" (defArgs st18) (defBody st18) (defScope st18) .none kV18 dc18 pm18 an18 cd18 ct18), sl18⟩)
    (c18 : PySem.W.codeIn K cd18 "_law_pen" = true)
    (k18 : PySem.W.keepIn K (.ref f18) = true)
    (a19 : PySem.W.nsIn K mainGlobals "_law_draw" = some (some (.ref f19)))
    (l19 : K.lookup f19 = some ⟨oc19, od19, .func (PySem.W.fnOf "_law_draw" "_law_draw" (defArgs st19) (defBody st19) (defScope st19) .none kV19 dc19 pm19 an19 cd19 ct19), sl19⟩)
    (c19 : PySem.W.codeIn K cd19 "_law_draw" = true)
    (k19 : PySem.W.keepIn K (.ref f19) = true)
    (a20 : PySem.W.nsIn K mainGlobals "_law_pick" = some (some (.ref f20)))
    (l20 : K.lookup f20 = some ⟨oc20, od20, .func (PySem.W.fnOf "_law_pick" "_law_pick" (defArgs st20) (defBody st20) (defScope st20) .none kV20 dc20 pm20 an20 cd20 ct20), sl20⟩)
    (c20 : PySem.W.codeIn K cd20 "_law_pick" = true)
    (k20 : PySem.W.keepIn K (.ref f20) = true)
    (a21 : PySem.W.nsIn K mainGlobals "_law_value" = some (some (.ref f21)))
    (l21 : K.lookup f21 = some ⟨oc21, od21, .func (PySem.W.fnOf "_law_value" "_law_value" (defArgs st21) (defBody st21) (defScope st21) .none kV21 dc21 pm21 an21 cd21 ct21), sl21⟩)
    (c21 : PySem.W.codeIn K cd21 "_law_value" = true)
    (k21 : PySem.W.keepIn K (.ref f21) = true)
    (a22 : PySem.W.nsIn K mainGlobals "_law_signs" = some (some (.ref f22)))
    (l22 : K.lookup f22 = some ⟨oc22, od22, .func (PySem.W.fnOf "_law_signs" "_law_signs" (defArgs st22) (defBody st22) (defScope st22) .none kV22 dc22 pm22 an22 cd22 ct22), sl22⟩)
    (c22 : PySem.W.codeIn K cd22 "_law_signs" = true)
    (k22 : PySem.W.keepIn K (.ref f22) = true)
    (a23 : PySem.W.nsIn K mainGlobals "_law_kinds" = some (some (.ref f23)))
    (l23 : K.lookup f23 = some ⟨oc23, od23, .func (PySem.W.fnOf "_law_kinds" "_law_kinds" (defArgs st23) (defBody st23) (defScope st23) .none kV23 dc23 pm23 an23 cd23 ct23), sl23⟩)
    (c23 : PySem.W.codeIn K cd23 "_law_kinds" = true)
    (k23 : PySem.W.keepIn K (.ref f23) = true)
    (a24 : PySem.W.nsIn K mainGlobals "_law_parts" = some (some (.ref f24)))
    (l24 : K.lookup f24 = some ⟨oc24, od24, .func (PySem.W.fnOf "_law_parts" "_law_parts" (defArgs st24) (defBody st24) (defScope st24) .none kV24 dc24 pm24 an24 cd24 ct24), sl24⟩)
    (c24 : PySem.W.codeIn K cd24 "_law_parts" = true)
    (k24 : PySem.W.keepIn K (.ref f24) = true)
    (a25 : PySem.W.nsIn K mainGlobals "_law_pairs_right" = some (some (.ref f25)))
    (l25 : K.lookup f25 = some ⟨oc25, od25, .func (PySem.W.fnOf "_law_pairs_right" "_law_pairs_right" (defArgs st25) (defBody st25) (defScope st25) .none kV25 dc25 pm25 an25 cd25 ct25), sl25⟩)
    (c25 : PySem.W.codeIn K cd25 "_law_pairs_right" = true)
    (k25 : PySem.W.keepIn K (.ref f25) = true)
    (a26 : PySem.W.nsIn K mainGlobals "law" = some (some (.ref f26)))
    (l26 : K.lookup f26 = some ⟨oc26, od26, .func (PySem.W.fnOf "law" "law" (defArgs st26) (defBody st26) (defScope st26) .none kV26 dc26 pm26 an26 cd26 ct26), sl26⟩)
    (c26 : PySem.W.codeIn K cd26 "law" = true)
    (k26 : PySem.W.keepIn K (.ref f26) = true)
    (is0 : isoB K C0 [(C0, true), (C1, true), (C18, true), (C23, true), (C8, true), (C2, true), (C10, true), (C12, true), (C3, true), (C15, true), (C4, true), (C29, true), (C27, true), (C24, true), (C20, true), (C6, true), (C30, true), (C31, true), (C32, true), (C28, true), (C19, true), (C25, true), (C33, true)] = true)
    (is1 : isoB K C1 [(C0, false), (C1, true), (C18, false), (C23, false), (C8, true), (C2, true), (C10, true), (C12, true), (C3, true), (C15, true), (C4, true), (C29, true), (C27, true), (C24, true), (C20, true), (C6, true), (C30, true), (C31, false), (C32, false), (C28, false), (C19, false), (C25, false), (C33, false)] = true)
    (is2 : isoB K C2 [(C0, false), (C1, false), (C18, false), (C23, false), (C8, false), (C2, true), (C10, false), (C12, false), (C3, false), (C15, false), (C4, false), (C29, false), (C27, false), (C24, false), (C20, false), (C6, false), (C30, false), (C31, false), (C32, false), (C28, false), (C19, false), (C25, false), (C33, false)] = true)
    (is3 : isoB K C3 [(C0, false), (C1, false), (C18, false), (C23, false), (C8, false), (C2, false), (C10, false), (C12, false), (C3, true), (C15, false), (C4, false), (C29, false), (C27, false), (C24, false), (C20, false), (C6, false), (C30, false), (C31, false), (C32, false), (C28, false), (C19, false), (C25, false), (C33, false)] = true)
    (is4 : isoB K C4 [(C0, false), (C1, false), (C18, false), (C23, false), (C8, false), (C2, false), (C10, false), (C12, false), (C3, false), (C15, false), (C4, true), (C29, false), (C27, false), (C24, false), (C20, false), (C6, false), (C30, false), (C31, false), (C32, false), (C28, false), (C19, false), (C25, false), (C33, false)] = true)
    (is6 : isoB K C6 [(C0, false), (C1, false), (C18, false), (C23, false), (C8, false), (C2, false), (C10, false), (C12, false), (C3, false), (C15, false), (C4, false), (C29, false), (C27, false), (C24, false), (C20, false), (C6, true), (C30, false), (C31, false), (C32, false), (C28, false), (C19, false), (C25, false), (C33, false)] = true)
    (is8 : isoB K C8 [(C0, false), (C1, false), (C18, false), (C23, false), (C8, true), (C2, false), (C10, false), (C12, false), (C3, false), (C15, false), (C4, false), (C29, false), (C27, false), (C24, false), (C20, false), (C6, false), (C30, false), (C31, false), (C32, false), (C28, false), (C19, false), (C25, false), (C33, false)] = true)
    (is10 : isoB K C10 [(C0, false), (C1, false), (C18, false), (C23, false), (C8, false), (C2, false), (C10, true), (C12, false), (C3, false), (C15, false), (C4, false), (C29, false), (C27, false), (C24, false), (C20, false), (C6, false), (C30, false), (C31, false), (C32, false), (C28, false), (C19, false), (C25, false), (C33, false)] = true)
    (is12 : isoB K C12 [(C0, false), (C1, false), (C18, false), (C23, false), (C8, false), (C2, false), (C10, false), (C12, true), (C3, false), (C15, false), (C4, false), (C29, false), (C27, false), (C24, false), (C20, false), (C6, false), (C30, false), (C31, false), (C32, false), (C28, false), (C19, false), (C25, false), (C33, false)] = true)
    (is15 : isoB K C15 [(C0, false), (C1, false), (C18, false), (C23, false), (C8, false), (C2, false), (C10, false), (C12, false), (C3, false), (C15, true), (C4, false), (C29, false), (C27, false), (C24, false), (C20, false), (C6, false), (C30, false), (C31, false), (C32, false), (C28, false), (C19, false), (C25, false), (C33, false)] = true)
    (is18 : isoB K C18 [(C0, false), (C1, false), (C18, true), (C23, false), (C8, false), (C2, false), (C10, false), (C12, false), (C3, false), (C15, false), (C4, false), (C29, false), (C27, false), (C24, false), (C20, false), (C6, false), (C30, false), (C31, true), (C32, true), (C28, true), (C19, true), (C25, false), (C33, false)] = true)
    (is19 : isoB K C19 [(C0, false), (C1, false), (C18, false), (C23, false), (C8, false), (C2, false), (C10, false), (C12, false), (C3, false), (C15, false), (C4, false), (C29, false), (C27, false), (C24, false), (C20, false), (C6, false), (C30, false), (C31, false), (C32, false), (C28, false), (C19, true), (C25, false), (C33, false)] = true)
    (is20 : isoB K C20 [(C0, false), (C1, false), (C18, false), (C23, false), (C8, false), (C2, false), (C10, false), (C12, false), (C3, false), (C15, false), (C4, false), (C29, false), (C27, false), (C24, false), (C20, true), (C6, false), (C30, false), (C31, false), (C32, false), (C28, false), (C19, false), (C25, false), (C33, false)] = true)
    (is23 : isoB K C23 [(C0, false), (C1, false), (C18, false), (C23, true), (C8, false), (C2, false), (C10, false), (C12, false), (C3, false), (C15, false), (C4, false), (C29, false), (C27, false), (C24, false), (C20, false), (C6, false), (C30, false), (C31, false), (C32, false), (C28, false), (C19, false), (C25, true), (C33, true)] = true)
    (is24 : isoB K C24 [(C0, false), (C1, false), (C18, false), (C23, false), (C8, false), (C2, false), (C10, false), (C12, false), (C3, false), (C15, false), (C4, false), (C29, false), (C27, false), (C24, true), (C20, false), (C6, false), (C30, false), (C31, false), (C32, false), (C28, false), (C19, false), (C25, false), (C33, false)] = true)
    (is25 : isoB K C25 [(C0, false), (C1, false), (C18, false), (C23, false), (C8, false), (C2, false), (C10, false), (C12, false), (C3, false), (C15, false), (C4, false), (C29, false), (C27, false), (C24, false), (C20, false), (C6, false), (C30, false), (C31, false), (C32, false), (C28, false), (C19, false), (C25, true), (C33, false)] = true)
    (is27 : isoB K C27 [(C0, false), (C1, false), (C18, false), (C23, false), (C8, false), (C2, false), (C10, false), (C12, false), (C3, false), (C15, false), (C4, false), (C29, false), (C27, true), (C24, false), (C20, false), (C6, false), (C30, false), (C31, false), (C32, false), (C28, false), (C19, false), (C25, false), (C33, false)] = true)
    (is28 : isoB K C28 [(C0, false), (C1, false), (C18, false), (C23, false), (C8, false), (C2, false), (C10, false), (C12, false), (C3, false), (C15, false), (C4, false), (C29, false), (C27, false), (C24, false), (C20, false), (C6, false), (C30, false), (C31, false), (C32, false), (C28, true), (C19, false), (C25, false), (C33, false)] = true)
    (is29 : isoB K C29 [(C0, false), (C1, false), (C18, false), (C23, false), (C8, false), (C2, false), (C10, false), (C12, false), (C3, false), (C15, false), (C4, false), (C29, true), (C27, false), (C24, false), (C20, false), (C6, false), (C30, false), (C31, false), (C32, false), (C28, false), (C19, false), (C25, false), (C33, false)] = true)
    (is30 : isoB K C30 [(C0, false), (C1, false), (C18, false), (C23, false), (C8, false), (C2, false), (C10, false), (C12, false), (C3, false), (C15, false), (C4, false), (C29, false), (C27, false), (C24, false), (C20, false), (C6, false), (C30, true), (C31, false), (C32, false), (C28, false), (C19, false), (C25, false), (C33, false)] = true)
    (is31 : isoB K C31 [(C0, false), (C1, false), (C18, false), (C23, false), (C8, false), (C2, false), (C10, false), (C12, false), (C3, false), (C15, false), (C4, false), (C29, false), (C27, false), (C24, false), (C20, false), (C6, false), (C30, false), (C31, true), (C32, false), (C28, false), (C19, false), (C25, false), (C33, false)] = true)
    (is32 : isoB K C32 [(C0, false), (C1, false), (C18, false), (C23, false), (C8, false), (C2, false), (C10, false), (C12, false), (C3, false), (C15, false), (C4, false), (C29, false), (C27, false), (C24, false), (C20, false), (C6, false), (C30, false), (C31, false), (C32, true), (C28, false), (C19, false), (C25, false), (C33, false)] = true)
    (is33 : isoB K C33 [(C0, false), (C1, false), (C18, false), (C23, false), (C8, false), (C2, false), (C10, false), (C12, false), (C3, false), (C15, false), (C4, false), (C29, false), (C27, false), (C24, false), (C20, false), (C6, false), (C30, false), (C31, false), (C32, false), (C28, false), (C19, false), (C25, false), (C33, true)] = true)
    (isT : isoTB K "ValueError" [(C0, true), (C1, true), (C18, true), (C23, true), (C8, true), (C2, true), (C10, true), (C12, true), (C3, true), (C15, true), (C4, true), (C29, true), (C27, true), (C24, true), (C20, true), (C6, true), (C30, true), (C31, true), (C32, true), (C28, true), (C19, true), (C25, true), (C33, true)] = true)
    (ib : isbB K [C0, C1, C18, C23, C8, C2, C10, C12, C3, C15, C4, C29, C27, C24, C20, C6, C30, C31, C32, C28, C19, C25, C33] = true)
    (z_ValueError : PySem.W.nsIn K mainGlobals "ValueError" = some none)
    (z_abs : PySem.W.nsIn K mainGlobals "abs" = some none)
    (z_int : PySem.W.nsIn K mainGlobals "int" = some none)
    (z_isinstance : PySem.W.nsIn K mainGlobals "isinstance" = some none)
    (z_len : PySem.W.nsIn K mainGlobals "len" = some none)
    (z_list : PySem.W.nsIn K mainGlobals "list" = some none)
    (z_range : PySem.W.nsIn K mainGlobals "range" = some none)
    (z_repr : PySem.W.nsIn K mainGlobals "repr" = some none)
    : ∃ fd : FuncData, (∀ (s : Shared) (u : Value), BindsTo s fd ⟨[u], []⟩ [("_law_script", u)]) ∧ ∀ base : Heap, K.In base → base.Ns mainGlobals mg → (∀ x ∈ lamN, ∀ c P, PySem.W.tabIn K x = some (c, P) → LamX.TabB base mg c P) → FnG P w K mg base 50 fl fd ["_law_script"] (spF (tb K) (calls fs 10) 508 1) := by
  have e := hfl.symm.trans (PySem.W.mg_of X G a26)
  cases e
  have F0 := fun_mk (st := st0) l0 c0 k0
  have B0 := F0.binds (ps := ["self", "part"]) fun _ _ _ _ _ _ us hl => match us, hl with | [_, _], _ => rfl
  have F1 := fun_mk (st := st1) l1 c1 k1
  have B1 := F1.binds (ps := ["self", "value"]) fun _ _ _ _ _ _ us hl => match us, hl with | [_, _], _ => rfl
  have F2 := fun_mk (st := st2) l2 c2 k2
  have B2 := F2.binds (ps := ["self", "value"]) fun _ _ _ _ _ _ us hl => match us, hl with | [_, _], _ => rfl
  have F3 := fun_mk (st := st3) l3 c3 k3
  have B3 := F3.binds (ps := ["self", "value"]) fun _ _ _ _ _ _ us hl => match us, hl with | [_, _], _ => rfl
  have F4 := fun_mk (st := st4) l4 c4 k4
  have B4 := F4.binds (ps := ["self", "part"]) fun _ _ _ _ _ _ us hl => match us, hl with | [_, _], _ => rfl
  have F5 := fun_mk (st := st5) l5 c5 k5
  have B5 := F5.binds (ps := ["self", "part"]) fun _ _ _ _ _ _ us hl => match us, hl with | [_, _], _ => rfl
  have F6 := fun_mk (st := st6) l6 c6 k6
  have B6 := F6.binds (ps := ["self", "value"]) fun _ _ _ _ _ _ us hl => match us, hl with | [_, _], _ => rfl
  have F7 := fun_mk (st := st7) l7 c7 k7
  have B7 := F7.binds (ps := ["self", "part"]) fun _ _ _ _ _ _ us hl => match us, hl with | [_, _], _ => rfl
  have F8 := fun_mk (st := st8) l8 c8 k8
  have B8 := F8.binds (ps := ["self", "part"]) fun _ _ _ _ _ _ us hl => match us, hl with | [_, _], _ => rfl
  have F9 := fun_mk (st := st9) l9 c9 k9
  have B9 := F9.binds (ps := ["self", "value"]) fun _ _ _ _ _ _ us hl => match us, hl with | [_, _], _ => rfl
  have F10 := fun_mk (st := st10) l10 c10 k10
  have B10 := F10.binds (ps := ["self", "part"]) fun _ _ _ _ _ _ us hl => match us, hl with | [_, _], _ => rfl
  have F11 := fun_mk (st := st11) l11 c11 k11
  have B11 := F11.binds (ps := ["self", "line", "word"]) fun _ _ _ _ _ _ us hl => match us, hl with | [_, _, _], _ => rfl
  have F12 := fun_mk (st := st12) l12 c12 k12
  have B12 := F12.binds (ps := ["self", "word"]) fun _ _ _ _ _ _ us hl => match us, hl with | [_, _], _ => rfl
  have F13 := fun_mk (st := st13) l13 c13 k13
  have B13 := F13.binds (ps := ["self", "level", "key"]) fun _ _ _ _ _ _ us hl => match us, hl with | [_, _, _], _ => rfl
  have F14 := fun_mk (st := st14) l14 c14 k14
  have B14 := F14.binds (ps := ["self", "part"]) fun _ _ _ _ _ _ us hl => match us, hl with | [_, _], _ => rfl
  have F15 := fun_mk (st := st15) l15 c15 k15
  have B15 := F15.binds (ps := ["self", "place"]) fun _ _ _ _ _ _ us hl => match us, hl with | [_, _], _ => rfl
  have F16 := fun_mk (st := st16) l16 c16 k16
  have B16 := F16.binds (ps := ["self", "what", "most"]) fun _ _ _ _ _ _ us hl => match us, hl with | [_, _, _], _ => rfl
  have F17 := fun_mk (st := st17) l17 c17 k17
  have B17 := F17.binds (ps := ["self", "place"]) fun _ _ _ _ _ _ us hl => match us, hl with | [_, _], _ => rfl
  have F18 := fun_mk (st := st18) l18 c18 k18
  have B18 := F18.binds (ps := ["_law_script"]) fun _ _ _ _ _ _ us hl => match us, hl with | [_], _ => rfl
  have F19 := fun_mk (st := st19) l19 c19 k19
  have B19 := F19.binds (ps := ["_law_pen_here", "_law_many"]) fun _ _ _ _ _ _ us hl => match us, hl with | [_, _], _ => rfl
  have F20 := fun_mk (st := st20) l20 c20 k20
  have B20 := F20.binds (ps := ["_law_pen_here", "_law_some"]) fun _ _ _ _ _ _ us hl => match us, hl with | [_, _], _ => rfl
  have F21 := fun_mk (st := st21) l21 c21 k21
  have B21 := F21.binds (ps := ["_law_pen_here"]) fun _ _ _ _ _ _ us hl => match us, hl with | [_], _ => rfl
  have F22 := fun_mk (st := st22) l22 c22 k22
  have B22 := F22.binds (ps := ["_law_error"]) fun _ _ _ _ _ _ us hl => match us, hl with | [_], _ => rfl
  have F23 := fun_mk (st := st23) l23 c23 k23
  have B23 := F23.binds (ps := ["_law_error"]) fun _ _ _ _ _ _ us hl => match us, hl with | [_], _ => rfl
  have F24 := fun_mk (st := st24) l24 c24 k24
  have B24 := F24.binds (ps := ["_law_thing"]) fun _ _ _ _ _ _ us hl => match us, hl with | [_], _ => rfl
  have F25 := fun_mk (st := st25) l25 c25 k25
  have B25 := F25.binds (ps := ["_law_thing", "_law_more"]) fun _ _ _ _ _ _ us hl => match us, hl with | [_, _], _ => rfl
  have F26 := fun_mk (st := st26) l26 c26 k26
  have B26 := F26.binds (ps := ["_law_script"]) fun _ _ _ _ _ _ us hl => match us, hl with | [_], _ => rfl
  have T : Tx K mg (fun i => match i with | 0 => f0 | 1 => f1 | 2 => f2 | 3 => f3 | 4 => f4 | 5 => f5 | 6 => f6 | 7 => f7 | 8 => f8 | 9 => f9 | 10 => f10 | 11 => f11 | 12 => f12 | 13 => f13 | 14 => f14 | 15 => f15 | 16 => f16 | 17 => f17 | 18 => f18 | 19 => f19 | 20 => f20 | 21 => f21 | 22 => f22 | 23 => f23 | 24 => f24 | 25 => f25 | 26 => fl | _ => 0) (fun i => match i with | 0 => C0 | 1 => C1 | 18 => C18 | 23 => C23 | 8 => C8 | 2 => C2 | 10 => C10 | 12 => C12 | 3 => C3 | 15 => C15 | 4 => C4 | 29 => C29 | 27 => C27 | 24 => C24 | 20 => C20 | 6 => C6 | 30 => C30 | 31 => C31 | 32 => C32 | 28 => C28 | 19 => C19 | 25 => C25 | 33 => C33 | _ => 0) (fun _ => 0) (fun _ => 0) (fun _ => 0) (fun i => match i with | 0 => PySem.W.fnOf "__init__" "BadCurve.__init__" (defArgs st0) (defBody st0) (defScope st0) .none kV0 dc0 pm0 an0 cd0 ct0 | 1 => PySem.W.fnOf "__init__" "BadLevel.__init__" (defArgs st1) (defBody st1) (defScope st1) .none kV1 dc1 pm1 an1 cd1 ct1 | 2 => PySem.W.fnOf "__init__" "BadPlace.__init__" (defArgs st2) (defBody st2) (defScope st2) .none kV2 dc2 pm2 an2 cd2 ct2 | 3 => PySem.W.fnOf "__init__" "BadKey.__init__" (defArgs st3) (defBody st3) (defScope st3) .none kV3 dc3 pm3 an3 cd3 ct3 | 4 => PySem.W.fnOf "__init__" "BadBox.__init__" (defArgs st4) (defBody st4) (defScope st4) .none kV4 dc4 pm4 an4 cd4 ct4 | 5 => PySem.W.fnOf "__init__" "BadSpans.__init__" (defArgs st5) (defBody st5) (defScope st5) .none kV5 dc5 pm5 an5 cd5 ct5 | 6 => PySem.W.fnOf "__init__" "BadMany.__init__" (defArgs st6) (defBody st6) (defScope st6) .none kV6 dc6 pm6 an6 cd6 ct6 | 7 => PySem.W.fnOf "__init__" "BadRule.__init__" (defArgs st7) (defBody st7) (defScope st7) .none kV7 dc7 pm7 an7 cd7 ct7 | 8 => PySem.W.fnOf "__init__" "BadStore.__init__" (defArgs st8) (defBody st8) (defScope st8) .none kV8 dc8 pm8 an8 cd8 ct8 | 9 => PySem.W.fnOf "__init__" "BadRow.__init__" (defArgs st9) (defBody st9) (defScope st9) .none kV9 dc9 pm9 an9 cd9 ct9 | 10 => PySem.W.fnOf "__init__" "BadBook.__init__" (defArgs st10) (defBody st10) (defScope st10) .none kV10 dc10 pm10 an10 cd10 ct10 | 11 => PySem.W.fnOf "__init__" "BadText.__init__" (defArgs st11) (defBody st11) (defScope st11) .none kV11 dc11 pm11 an11 cd11 ct11 | 12 => PySem.W.fnOf "__init__" "BadLine.__init__" (defArgs st12) (defBody st12) (defScope st12) .none kV12 dc12 pm12 an12 cd12 ct12 | 13 => PySem.W.fnOf "__init__" "Endless.__init__" (defArgs st13) (defBody st13) (defScope st13) .none kV13 dc13 pm13 an13 cd13 ct13 | 14 => PySem.W.fnOf "__init__" "Unlike.__init__" (defArgs st14) (defBody st14) (defScope st14) .none kV14 dc14 pm14 an14 cd14 ct14 | 15 => PySem.W.fnOf "__init__" "Outside.__init__" (defArgs st15) (defBody st15) (defScope st15) .none kV15 dc15 pm15 an15 cd15 ct15 | 16 => PySem.W.fnOf "__init__" "TooMany.__init__" (defArgs st16) (defBody st16) (defScope st16) .none kV16 dc16 pm16 an16 cd16 ct16 | 17 => PySem.W.fnOf "__init__" "NoRow.__init__" (defArgs st17) (defBody st17) (defScope st17) .none kV17 dc17 pm17 an17 cd17 ct17 | 18 => PySem.W.fnOf "_law_pen" "_law_pen" (defArgs st18) (defBody st18) (defScope st18) .none kV18 dc18 pm18 an18 cd18 ct18 | 19 => PySem.W.fnOf "_law_draw" "_law_draw" (defArgs st19) (defBody st19) (defScope st19) .none kV19 dc19 pm19 an19 cd19 ct19 | 20 => PySem.W.fnOf "_law_pick" "_law_pick" (defArgs st20) (defBody st20) (defScope st20) .none kV20 dc20 pm20 an20 cd20 ct20 | 21 => PySem.W.fnOf "_law_value" "_law_value" (defArgs st21) (defBody st21) (defScope st21) .none kV21 dc21 pm21 an21 cd21 ct21 | 22 => PySem.W.fnOf "_law_signs" "_law_signs" (defArgs st22) (defBody st22) (defScope st22) .none kV22 dc22 pm22 an22 cd22 ct22 | 23 => PySem.W.fnOf "_law_kinds" "_law_kinds" (defArgs st23) (defBody st23) (defScope st23) .none kV23 dc23 pm23 an23 cd23 ct23 | 24 => PySem.W.fnOf "_law_parts" "_law_parts" (defArgs st24) (defBody st24) (defScope st24) .none kV24 dc24 pm24 an24 cd24 ct24 | 25 => PySem.W.fnOf "_law_pairs_right" "_law_pairs_right" (defArgs st25) (defBody st25) (defScope st25) .none kV25 dc25 pm25 an25 cd25 ct25 | 26 => PySem.W.fnOf "law" "law" (defArgs st26) (defBody st26) (defScope st26) .none kV26 dc26 pm26 an26 cd26 ct26 | _ => PySem.W.fnOf "" "" (defArgs st0) [] (defScope st0) .none .none .none .none .none .none .none) := {
    mC0 := PySem.W.mg_of X G aC0
    cn0 := adr_of aC0
    mC1 := PySem.W.mg_of X G aC1
    cn1 := adr_of aC1
    mC18 := PySem.W.mg_of X G aC18
    cn18 := adr_of aC18
    mC23 := PySem.W.mg_of X G aC23
    cn23 := adr_of aC23
    mC8 := PySem.W.mg_of X G aC8
    cn8 := adr_of aC8
    mC2 := PySem.W.mg_of X G aC2
    cn2 := adr_of aC2
    mC10 := PySem.W.mg_of X G aC10
    cn10 := adr_of aC10
    mC12 := PySem.W.mg_of X G aC12
    cn12 := adr_of aC12
    mC3 := PySem.W.mg_of X G aC3
    cn3 := adr_of aC3
    mC15 := PySem.W.mg_of X G aC15
    cn15 := adr_of aC15
    mC4 := PySem.W.mg_of X G aC4
    cn4 := adr_of aC4
    mC29 := PySem.W.mg_of X G aC29
    cn29 := adr_of aC29
    mC27 := PySem.W.mg_of X G aC27
    cn27 := adr_of aC27
    mC24 := PySem.W.mg_of X G aC24
    cn24 := adr_of aC24
    mC20 := PySem.W.mg_of X G aC20
    cn20 := adr_of aC20
    mC6 := PySem.W.mg_of X G aC6
    cn6 := adr_of aC6
    mC30 := PySem.W.mg_of X G aC30
    cn30 := adr_of aC30
    mC31 := PySem.W.mg_of X G aC31
    cn31 := adr_of aC31
    mC32 := PySem.W.mg_of X G aC32
    cn32 := adr_of aC32
    mC28 := PySem.W.mg_of X G aC28
    cn28 := adr_of aC28
    mC19 := PySem.W.mg_of X G aC19
    cn19 := adr_of aC19
    mC25 := PySem.W.mg_of X G aC25
    cn25 := adr_of aC25
    mC33 := PySem.W.mg_of X G aC33
    cn33 := adr_of aC33
    xr0 := xf_of xc0
    xe0 := xc_of xc0
    na0 := na_of na0
    ey0 := ey0
    ky0 := ky0
    ez0 := ez0
    ew0 := ew0
    cy0 := adr_of aC0
    xr1 := xf_of xc1
    xe1 := xc_of xc1
    na1 := na_of na1
    ey1 := ey1
    ky1 := ky1
    ez1 := ez1
    ew1 := ew1
    cy1 := adr_of aC1
    xr18 := xf_of xc18
    xe18 := xc_of xc18
    na18 := na_of na18
    ey18 := ey18
    ky18 := ky18
    ez18 := ez18
    ew18 := ew18
    cy18 := adr_of aC18
    xr23 := xf_of xc23
    xe23 := xc_of xc23
    na23 := na_of na23
    ey23 := ey23
    ky23 := ky23
    ez23 := ez23
    ew23 := ew23
    cy23 := adr_of aC23
    xr8 := xf_of xc8
    xe8 := xc_of xc8
    na8 := na_of na8
    ox8 := oex_of xL8 xR8 xS8
    xi8 := xi8
    xt8 := xt8
    cx8 := adr_of aC8
    xr2 := xf_of xc2
    xe2 := xc_of xc2
    na2 := na_of na2
    ox2 := oex_of xL2 xR2 xS2
    xi2 := xi2
    xt2 := xt2
    cx2 := adr_of aC2
    xr10 := xf_of xc10
    xe10 := xc_of xc10
    na10 := na_of na10
    ox10 := oex_of xL10 xR10 xS10
    xi10 := xi10
    xt10 := xt10
    cx10 := adr_of aC10
    xr12 := xf_of xc12
    xe12 := xc_of xc12
    na12 := na_of na12
    ox12 := oex_of xL12 xR12 xS12
    xi12 := xi12
    xt12 := xt12
    cx12 := adr_of aC12
    xr3 := xf_of xc3
    xe3 := xc_of xc3
    na3 := na_of na3
    ox3 := oex_of xL3 xR3 xS3
    xi3 := xi3
    xt3 := xt3
    cx3 := adr_of aC3
    xr15 := xf_of xc15
    xe15 := xc_of xc15
    na15 := na_of na15
    ox15 := oex_of xL15 xR15 xS15
    xi15 := xi15
    xt15 := xt15
    cx15 := adr_of aC15
    xr4 := xf_of xc4
    xe4 := xc_of xc4
    na4 := na_of na4
    ox4 := oex_of xL4 xR4 xS4
    xi4 := xi4
    xt4 := xt4
    cx4 := adr_of aC4
    xr29 := xf_of xc29
    xe29 := xc_of xc29
    na29 := na_of na29
    ox29 := oex_of xL29 xR29 xS29
    xi29 := xi29
    xt29 := xt29
    cx29 := adr_of aC29
    xr27 := xf_of xc27
    xe27 := xc_of xc27
    na27 := na_of na27
    ox27 := oex_of xL27 xR27 xS27
    xi27 := xi27
    xt27 := xt27
    cx27 := adr_of aC27
    xr24 := xf_of xc24
    xe24 := xc_of xc24
    na24 := na_of na24
    ox24 := oex_of xL24 xR24 xS24
    xi24 := xi24
    xt24 := xt24
    cx24 := adr_of aC24
    xr20 := xf_of xc20
    xe20 := xc_of xc20
    na20 := na_of na20
    ox20 := oex_of xL20 xR20 xS20
    xi20 := xi20
    xt20 := xt20
    cx20 := adr_of aC20
    xr6 := xf_of xc6
    xe6 := xc_of xc6
    na6 := na_of na6
    ox6 := oex_of xL6 xR6 xS6
    xi6 := xi6
    xt6 := xt6
    cx6 := adr_of aC6
    xr30 := xf_of xc30
    xe30 := xc_of xc30
    na30 := na_of na30
    ox30 := oex_of xL30 xR30 xS30
    xi30 := xi30
    xt30 := xt30
    cx30 := adr_of aC30
    xr31 := xf_of xc31
    xe31 := xc_of xc31
    na31 := na_of na31
    ox31 := oex_of xL31 xR31 xS31
    xi31 := xi31
    xt31 := xt31
    cx31 := adr_of aC31
    xr32 := xf_of xc32
    xe32 := xc_of xc32
    na32 := na_of na32
    ox32 := oex_of xL32 xR32 xS32
    xi32 := xi32
    xt32 := xt32
    cx32 := adr_of aC32
    xr28 := xf_of xc28
    xe28 := xc_of xc28
    na28 := na_of na28
    ox28 := oex_of xL28 xR28 xS28
    xi28 := xi28
    xt28 := xt28
    cx28 := adr_of aC28
    xr19 := xf_of xc19
    xe19 := xc_of xc19
    na19 := na_of na19
    ox19 := oex_of xL19 xR19 xS19
    xi19 := xi19
    xt19 := xt19
    cx19 := adr_of aC19
    xr25 := xf_of xc25
    xe25 := xc_of xc25
    na25 := na_of na25
    ox25 := oex_of xL25 xR25 xS25
    xi25 := xi25
    xt25 := xt25
    cx25 := adr_of aC25
    xr33 := xf_of xc33
    xe33 := xc_of xc33
    na33 := na_of na33
    ey33 := ey33
    ky33 := ky33
    ez33 := ez33
    ew33 := ew33
    cy33 := adr_of aC33
    ks0_part := fun s u ws _ hl => match ws, hl with | [_], _ => .of_eq rfl
    f0 := funV F0
    b0 := B0
    ks1_value := fun s u ws _ hl => match ws, hl with | [_], _ => .of_eq rfl
    f1 := funV F1
    b1 := B1
    ks2_value := fun s u ws _ hl => match ws, hl with | [_], _ => .of_eq rfl
    f2 := funV F2
    b2 := B2
    ks3_value := fun s u ws _ hl => match ws, hl with | [_], _ => .of_eq rfl
    f3 := funV F3
    b3 := B3
    ks4_part := fun s u ws _ hl => match ws, hl with | [_], _ => .of_eq rfl
    f4 := funV F4
    b4 := B4
    ks5_part := fun s u ws _ hl => match ws, hl with | [_], _ => .of_eq rfl
    f5 := funV F5
    b5 := B5
    ks6_value := fun s u ws _ hl => match ws, hl with | [_], _ => .of_eq rfl
    f6 := funV F6
    b6 := B6
    ks7_part := fun s u ws _ hl => match ws, hl with | [_], _ => .of_eq rfl
    f7 := funV F7
    b7 := B7
    ks8_part := fun s u ws _ hl => match ws, hl with | [_], _ => .of_eq rfl
    f8 := funV F8
    b8 := B8
    ks9_value := fun s u ws _ hl => match ws, hl with | [_], _ => .of_eq rfl
    f9 := funV F9
    b9 := B9
    ks10_part := fun s u ws _ hl => match ws, hl with | [_], _ => .of_eq rfl
    f10 := funV F10
    b10 := B10
    ks11_word_line := fun s u ws _ hl => match ws, hl with | [_, _], _ => .of_eq rfl
    f11 := funV F11
    b11 := B11
    ks12_word := fun s u ws _ hl => match ws, hl with | [_], _ => .of_eq rfl
    f12 := funV F12
    b12 := B12
    ks13_key_level := fun s u ws _ hl => match ws, hl with | [_, _], _ => .of_eq rfl
    f13 := funV F13
    b13 := B13
    ks14_part := fun s u ws _ hl => match ws, hl with | [_], _ => .of_eq rfl
    f14 := funV F14
    b14 := B14
    ks15_place := fun s u ws _ hl => match ws, hl with | [_], _ => .of_eq rfl
    f15 := funV F15
    b15 := B15
    ks16_most_what := fun s u ws _ hl => match ws, hl with | [_, _], _ => .of_eq rfl
    f16 := funV F16
    b16 := B16
    ks17_place := fun s u ws _ hl => match ws, hl with | [_], _ => .of_eq rfl
    f17 := funV F17
    b17 := B17
    m18 := PySem.W.mg_of X G a18
    f18 := funV F18
    b18 := B18
    m19 := PySem.W.mg_of X G a19
    f19 := funV F19
    b19 := B19
    m20 := PySem.W.mg_of X G a20
    f20 := funV F20
    b20 := B20
    m21 := PySem.W.mg_of X G a21
    f21 := funV F21
    b21 := B21
    m22 := PySem.W.mg_of X G a22
    f22 := funV F22
    b22 := B22
    m23 := PySem.W.mg_of X G a23
    f23 := funV F23
    b23 := B23
    m24 := PySem.W.mg_of X G a24
    f24 := funV F24
    b24 := B24
    m25 := PySem.W.mg_of X G a25
    f25 := funV F25
    b25 := B25
    m26 := PySem.W.mg_of X G a26
    f26 := funV F26
    b26 := B26
    is0 := is0
    is1 := is1
    is2 := is2
    is3 := is3
    is4 := is4
    is6 := is6
    is8 := is8
    is10 := is10
    is12 := is12
    is15 := is15
    is18 := is18
    is19 := is19
    is20 := is20
    is23 := is23
    is24 := is24
    is25 := is25
    is27 := is27
    is28 := is28
    is29 := is29
    is30 := is30
    is31 := is31
    is32 := is32
    is33 := is33
    isT := isT
    ib := ib
    n_ValueError := PySem.W.mg_none_of X G z_ValueError
    n_abs := PySem.W.mg_none_of X G z_abs
    n_int := PySem.W.mg_none_of X G z_int
    n_isinstance := PySem.W.mg_none_of X G z_isinstance
    n_len := PySem.W.mg_none_of X G z_len
    n_list := PySem.W.mg_none_of X G z_list
    n_range := PySem.W.mg_none_of X G z_range
    n_repr := PySem.W.mg_none_of X G z_repr
  }
  exact ⟨_, fun s u => .of_eq rfl, fun base _ _ hT => (al (base := base) T  10).1.o26⟩
end LW
end
section
namespace LW
open PP PySem L2
theorem k_pen {k : Nat} (ns : List Int) (h : ns.length ≤ 63) : calls fs (k + 1) 500 [.fz (.kst (ns.map D.int))] = .ok (.nw (.lst [.lst (ns.map D.int), .int 0, .int 0])) [] := (calls_eq fs k 500 (F := penFn) rfl _).trans (pen_ok h).1
theorem k_draw {k : Nat} : DrawOk (calls fs (k + 1)) 501 := by
  intro n p m hp hn hm hm2
  rw [calls_eq fs k 501 (F := drawFn 40123 3617 2147483563 48409 821 2147483629 383 54679 97 2147483587) rfl]
  exact draw_ok (by decide) (by decide) (by decide) (by decide) (by decide) (by decide) (by decide) (by decide) (by decide) hp hn hm hm2
theorem k_pick {k : Nat} : PickOk (calls fs (k + 2)) 502 := by
  intro n p xs hp hn h0 h1
  rw [calls_eq fs (k + 1) 502 (F := pickFn 501) rfl]
  exact pick_ok k_draw hp hn h0 h1
end LW
end
end
section
local macro_rules | `(tactic| walk_at "pp") => `(tactic| simp -implicitDefEqProofs only [PP.ownUn_o, PP.ownGet_o, PP.ownCal_o, PP.isObD_o, PP.ix_dT, PP.isin_dT, PP.notin_dT, PP.keyTI_t, PP.intsD_c, PP.intsD_n, PP.dtS_ow, PP.dtS_io, PP.isDtS_ow, PP.isDtS_io, PP.slOf_dT, PP.nrm_dT, PP.isDT_t, PP.keepI_w, PP.keepR_nw, PP.keepR_d, PP.frzEI_c, PP.frzEI_n, PP.frzI_fz, PP.frzI_ow, PP.frzI_io, PP.frzI_un, PP.frzI_fn, PP.parX_w, PP.evP_n, PP.evP_c, PP.evPt_d, PP.evPt_int, PP.evPt_obj, PP.evPt_lst, PP.evPt_dT, PP.asgX_n, PP.asgX_d, PP.asgX_w, PP.setFs_n, PP.setFs_io, PP.setFs_ow, PP.catT_w, PP.lenT_w, PP.dtR_fz, PP.dtR_ow, PP.dtR_io, PP.opH_w, PP.booL_w', PP.booR_i, PP.inH_w, PP.opoN_w', PP.ownON_o', PP.isoD_w', PP.isKls_o, PP.tryF_w, PP.tryFR_ok, PP.tryFR_exc, PP.ev_w0, PP.ev_w1, PP.ev_w2, PP.ev_w3, PP.ev_w4, PP.ev_w5, PP.ev_w6, PP.ev_w7, PP.ev_w8, PP.ev_w9, PP.ev_w10, PP.ev_w11, PP.ev_w12, PP.ev_w13, PP.ev_w14, PP.ev_w15, PP.ev_w16, PP.ev_w17, PP.ev_w18, PP.ev_w19, PP.ev_w20, PP.ev_w21, PP.ev_w22, PP.ev_w23, PP.ev_w24, PP.ev_w25, PP.ev_w26, PP.ev_w27, PP.ev_w28, PP.ev_w29, PP.ev_w30, PP.ev_w31, PP.ev_w32, PP.ev_w33, PP.ev_w34, PP.ev_w35, PP.ev_w36, PP.ev_w37, PP.ev_w38, PP.ev_w39, PP.ev_w40, PP.ev_w41, PP.ev_w42, PP.ev_w43, PP.ev_w44, PP.ev_w45, PP.ev_w46, PP.ev_w47, PP.ev_w48, PP.ev_w49, PP.ev_w50, PP.ev_w51, PP.ev_w52, PP.ev_w53, PP.ev_w54, PP.ev_w55, PP.ev_w56, PP.ev_w57, PP.ev_w58, PP.ev_w59, PP.ev_w60, PP.ev_w61, PP.ev_w62, PP.ev_w63, PP.ev_w64, PP.ev_w65, PP.ev_w66, PP.evF_w0, PP.evF_w1, PP.evF_w2, PP.evR_w0, PP.evR_w1, PP.evR_w2, PP.evC_w0, PP.evC_w1, PP.evC_w2, PP.evC_w3, PP.ex_w0, PP.ex_w1, PP.ex_w2, PP.ex_w3, PP.ex_w4, PP.ex_w5, PP.ex_w6, PP.ex_w7, PP.ex_w8, PP.ex_w9, PP.ex_w10, PP.ex_w11, PP.ex_w12, PP.ex_w13, PP.ex_w14, PP.ex_w15, PP.ex_w16, PP.ex_w17, PP.ex_w18, PP.ex_w19, PP.ex_w20, PP.ex_w21, PP.ex_w22, PP.ex_w23, PP.ex_w24, PP.ex_w25, PP.ex_w26, PP.ex_w27, PP.ex_w28, PP.ex_w29, PP.ex_w30, PP.ex_w31, PP.ex_w32, PP.ex_w33, PP.exs_w0, PP.exs_w1, PP.itD_w0, PP.itD_w1, PP.itD_w2, PP.itD_w3, PP.itD_w4, PP.itD_w5, PP.itD_w6, PP.itD_w7, PP.itD_w8, PP.itD_w9, PP.itD_w10, PP.itD_w11, PP.itD_w12, PP.gex_w0, PP.gex_w1, PP.gex_w2, PP.gex_w3, PP.gexs_w0, PP.gexs_w1, PP.evT_w, PP.getS_0, PP.getS_s, PP.set_0, PP.set_s, PP.mul_1, PP.mul_m1, PP.fin_ok, PP.fin_exc, PP.finX_s, PP.finO_next, PP.finO_d, PP.finO_nw, PP.rdU_d, PP.rdU_nw, PP.rdU_sl, PP.rdS_fz, PP.rdS_ow, PP.rdS_io, PP.pend_d, PP.pend_nw, PP.pend_sl, PP.fzU_d, PP.fzU_nw, PP.fzU_sl, PP.asgU_d, PP.asgU_nw, PP.asgU_sl, PP.slOf_non, PP.slOf_bl, PP.slOf_int, PP.slOf_str, PP.slOf_tup, PP.slOf_lst, PP.slOf_dK, PP.isLs_ow, PP.isLs_io, PP.retU_d, PP.retU_nw, PP.retU_sl, PP.nrm_non, PP.nrm_bl, PP.nrm_int, PP.nrm_str, PP.nrm_tup, PP.nrm_lst, PP.nrm_dK, PP.setIO_ow, PP.setIO_io, PP.dupF_0, PP.dupF_1, PP.optP_f, PP.optP_t, PP.truD_bl, PP.truD_non, PP.truD_lst, PP.partD_eq, PP.ix_lst_0, PP.ix_lst_1, PP.ix_lst_2, PP.ix_lst_3, PP.ix_lst_4, PP.ix_lst_5, PP.ix_tup_0, PP.ix_tup_1, PP.ix_tup_2, PP.ix_tup_3, PP.ix_tup_4, PP.ix_tup_5, PP.ix_kst_0, PP.ix_kst_1, PP.ix_kst_2, PP.ix_kst_3, PP.ix_kst_4, PP.ix_kst_5, PP.set_l3_1, PP.set_l3_2, PP.bi_int_i, PP.bi_int_b, PP.bi_abs, PP.bi_len_l, PP.bi_len_t, PP.bi_isInt_non, PP.bi_isInt_bl, PP.bi_isInt_int, PP.bi_isInt_str, PP.bi_isInt_tup, PP.bi_isInt_lst, PP.bi_isInt_kst, PP.bi_isInt_dK, PP.bi_isBool_non, PP.bi_isBool_bl, PP.bi_isBool_int, PP.bi_isBool_str, PP.bi_isBool_tup, PP.bi_isBool_lst, PP.bi_isBool_kst, PP.bi_isBool_dK, PP.bi_isTuple_non, PP.bi_isTuple_bl, PP.bi_isTuple_int, PP.bi_isTuple_str, PP.bi_isTuple_tup, PP.bi_isTuple_lst, PP.bi_isTuple_kst, PP.bi_isTuple_dK, PP.bi_isList_non, PP.bi_isList_bl, PP.bi_isList_int, PP.bi_isList_str, PP.bi_isList_tup, PP.bi_isList_lst, PP.bi_isList_kst, PP.bi_isList_dK, PP.bi_isStr_non, PP.bi_isStr_bl, PP.bi_isStr_int, PP.bi_isStr_str, PP.bi_isStr_tup, PP.bi_isStr_lst, PP.bi_isStr_kst, PP.bi_isStr_dK, PP.le_lim, PP.lt_lim, PP.pw_10_18, PP.o_gt_i, PP.o_lt_i, PP.o_ge_i, PP.o_le_i, PP.o_add_i, PP.o_sub_i, PP.o_rev_l, PP.o_rev_t, PP.o_neg_i, PP.o_eq_i, PP.o_ne_i, PP.o_eq_s, PP.o_ne_s, PP.o_eq_b, PP.ne_nil, PP.fldOf_o, PP.fldOf_e, PP.fldD_c, PP.putD_c, PP.putD_n, PP.isObj_o, PP.isObj_e, PP.isObj_non, PP.isObj_bl, PP.isObj_int, PP.isObj_str, PP.isObj_lst, PP.isObj_tup, PP.isObj_kst, PP.isObj_dK, PP.isCls_o, PP.isCls_e, PP.isCls_non, PP.isCls_bl, PP.isCls_int, PP.isCls_str, PP.isCls_lst, PP.isCls_tup, PP.isCls_kst, PP.isCls_dK, PP.runC_eq, PP.makeO_eq, PP.spec_eq, PP.allFz_0, PP.allFz_c, PP.recv_f, PP.recv_t, PP.ownOp_o, PP.ownIn_o, PP.ownNe_o, PP.opc_add, PP.opc_sub, PP.opc_mul, PP.opc_shl, PP.opc_shr, PP.opc_band, PP.opc_bor, PP.opc_lt, PP.opc_le, PP.opc_gt, PP.opc_ge, PP.opc_eq, PP.opc_ne, PP.okR_o, PP.okR_int, PP.okR_bl, PP.okR_non, PP.okR_str, PP.okR_lst, PP.okR_kst, PP.okR_tup, PP.cmp_lt, PP.cmp_le, PP.cmp_gt, PP.cmp_ge, PP.cmp_eq, PP.cmp_ne, PP.cmp_add, PP.cmp_sub, PP.cmp_band, PP.cmp_bor, PP.cmp_shl, PP.cmp_shr, PP.cmp_mul, PP.slOf_obj, PP.nrm_obj, PP.slOf_err, PP.hear_eq, PP.frz_0, PP.frz_c, PP.mask_c, PP.mask_n, PP.maskS_fz, PP.maskS_ow, PP.maskS_io, PP.maskS_un, PP.item_t, PP.item_l, PP.item_k, PP.bi_max2, PP.bi_min2, PP.bi_bool_b, PP.o_shr_i, PP.o_is_n, PP.o_isnot_n, PP.o_is_b, PP.o_isnot_b, PP.o_add_l, PP.o_mul_l, PP.set_l4_0, PP.set_l4_1, PP.set_l4_2, PP.set_l4_3, PP.ask_o, PP.outD_t, PP.outD_e, PP.keep_d, PP.noL_non, PP.noL_int, PP.noL_bl, PP.noL_str, PP.noL_tup, PP.noL_0, PP.noL_c, PP.evJ_0, PP.rv_split, PP.rv_join, PP.rv_ix_l, PP.rv_ix_k, PP.clsN_eq, PP.runF, PP.runG, PP.yldU, PP.yThen, PP.genR, PP.excR, PP.firstX, PP.allFz, PP.calmS, PP.isMutD', List.all_cons, List.all_nil, List.isEmpty_nil, List.isEmpty_cons, PP.startE, PP.rdAll, PP.argsOf, PP.ioSlots, PP.putIO, PP.permL, PP.outsOf, PP.storeAll, PP.setSE, PP.slSE, PP.R.bind_ok, PP.R.bind_exc, PP.R.bind_bad, PP.orBad_some, PP.orBad_none, Int.reduceLE, Int.reduceLT, Int.reduceToNat, Int.reducePow, Int.reduceNeg, Int.reduceAdd, Int.reduceSub, Int.reduceMul, Int.reduceBEq, Int.cast_ofNat_Int, Int.natCast_zero, Int.natCast_one, Int.reduceBNe, Int.reduceEq, Int.reduceDiv, Int.reduceMod, Nat.reduceAdd, Nat.reduceMul, Nat.reduceSub, Nat.reducePow, Nat.reduceLeDiff, Nat.reduceLT, Nat.reduceEqDiff, Nat.reduceBEq, List.cons_append, List.nil_append, List.append_nil, Nat.zero_le, List.head?_cons, List.tail_cons, Option.map_some, Option.map_none, Option.bind_some, Option.bind_none, Bool.not_true, Bool.not_false, Bool.and_self, Bool.and_true, Bool.true_and, Bool.false_and, Bool.and_false, Bool.or_true, Bool.true_or, Bool.or_false, Bool.false_or, Bool.not_not, List.contains_cons, List.contains_nil, BEq.rfl, reduceCtorEq,
  eq_self, and_self, if_true, if_false, ite_true, ite_false, Bool.false_eq_true, reduceIte, List.length_cons, List.length_nil, List.filterMap_cons, List.filterMap_nil, List.getElem?_cons_zero, List.getElem?_cons_succ, List.map_cons, List.map_nil, List.replicate_succ, List.replicate_zero, List.flatten_cons, List.flatten_nil, List.reverse_cons, List.reverse_nil, decide_true, decide_false, Bool.not_eq_true, Bool.not_eq_false, Bool.cond_true, Bool.cond_false])
local macro_rules | `(tactic| walk_at "pq") => `(tactic| simp -implicitDefEqProofs (disch := first | assumption | (with_reducible show (_ : Bool) = _; exact id rfl) | (with_reducible show (_ : Int) < _; omega) | (with_reducible show (_ : Int) ≤ _; omega) | (with_reducible show (_ : Nat) ≤ _; omega) | (with_reducible show (_ : Nat) < _; omega) | exact id (by simp only [PP.wfD, PP.wfL, PP.dpD, PP.dpL, PP.ok_ofS, PP.ok_app, PP.ok_empty, Nat.max_self, Nat.zero_max, Nat.max_zero, Nat.reduceAdd, Nat.reduceLeDiff, Bool.and_self, PP.wf_ints, PP.dp_ints, Bool.and_true, Bool.true_and, *] ; done) | fail) only [*, PP.le_lim, PP.lt_lim, PP.o_shr_i, PP.shl_p, PP.mul_w, PP.fdiv_w, PP.mod_p, PP.pow_p, PP.nrm_mut, PP.bi_len_s, PP.bi_split, PP.op_eq, PP.op_ne, PP.v_str, PP.v_nil, PP.v_cons, PP.v_nc, PP.v_cn, PP.v_tup, PP.v_lst, PP.v_kl, PP.v_lt, PP.v_tl, PP.v_int, PP.v_bl, PP.v_nn, PP.v_nt, PP.v_tn, PP.v_ni, PP.v_in, PP.v_ints, PP.ownUn_o, PP.ownGet_o, PP.ownCal_o, PP.isObD_o, PP.ix_dT, PP.isin_dT, PP.notin_dT, PP.keyTI_t, PP.intsD_c, PP.intsD_n, PP.dtS_ow, PP.dtS_io, PP.isDtS_ow, PP.isDtS_io, PP.slOf_dT, PP.nrm_dT, PP.isDT_t, PP.keepI_w, PP.keepR_nw, PP.keepR_d, PP.frzEI_c, PP.frzEI_n, PP.frzI_fz, PP.frzI_ow, PP.frzI_io, PP.frzI_un, PP.frzI_fn, PP.parX_w, PP.evP_n, PP.evP_c, PP.evPt_d, PP.evPt_int, PP.evPt_obj, PP.evPt_lst, PP.evPt_dT, PP.asgX_n, PP.asgX_d, PP.asgX_w, PP.setFs_n, PP.setFs_io, PP.setFs_ow, PP.catT_w, PP.lenT_w, PP.dtR_fz, PP.dtR_ow, PP.dtR_io, PP.opH_w, PP.booL_w', PP.booR_i, PP.inH_w, PP.opoN_w', PP.ownON_o', PP.isoD_w', PP.isKls_o, PP.tryF_w, PP.tryFR_ok, PP.tryFR_exc, PP.ev_w0, PP.ev_w1, PP.ev_w2, PP.ev_w3, PP.ev_w4, PP.ev_w5, PP.ev_w6, PP.ev_w7, PP.ev_w8, PP.ev_w9, PP.ev_w10, PP.ev_w11, PP.ev_w12, PP.ev_w13, PP.ev_w14, PP.ev_w15, PP.ev_w16, PP.ev_w17, PP.ev_w18, PP.ev_w19, PP.ev_w20, PP.ev_w21, PP.ev_w22, PP.ev_w23, PP.ev_w24, PP.ev_w25, PP.ev_w26, PP.ev_w27, PP.ev_w28, PP.ev_w29, PP.ev_w30, PP.ev_w31, PP.ev_w32, PP.ev_w33, PP.ev_w34, PP.ev_w35, PP.ev_w36, PP.ev_w37, PP.ev_w38, PP.ev_w39, PP.ev_w40, PP.ev_w41, PP.ev_w42, PP.ev_w43, PP.ev_w44, PP.ev_w45, PP.ev_w46, PP.ev_w47, PP.ev_w48, PP.ev_w49, PP.ev_w50, PP.ev_w51, PP.ev_w52, PP.ev_w53, PP.ev_w54, PP.ev_w55, PP.ev_w56, PP.ev_w57, PP.ev_w58, PP.ev_w59, PP.ev_w60, PP.ev_w61, PP.ev_w62, PP.ev_w63, PP.ev_w64, PP.ev_w65, PP.ev_w66, PP.evF_w0, PP.evF_w1, PP.evF_w2, PP.evR_w0, PP.evR_w1, PP.evR_w2, PP.evC_w0, PP.evC_w1, PP.evC_w2, PP.evC_w3, PP.ex_w0, PP.ex_w1, PP.ex_w2, PP.ex_w3, PP.ex_w4, PP.ex_w5, PP.ex_w6, PP.ex_w7, PP.ex_w8, PP.ex_w9, PP.ex_w10, PP.ex_w11, PP.ex_w12, PP.ex_w13, PP.ex_w14, PP.ex_w15, PP.ex_w16, PP.ex_w17, PP.ex_w18, PP.ex_w19, PP.ex_w20, PP.ex_w21, PP.ex_w22, PP.ex_w23, PP.ex_w24, PP.ex_w25, PP.ex_w26, PP.ex_w27, PP.ex_w28, PP.ex_w29, PP.ex_w30, PP.ex_w31, PP.ex_w32, PP.ex_w33, PP.exs_w0, PP.exs_w1, PP.itD_w0, PP.itD_w1, PP.itD_w2, PP.itD_w3, PP.itD_w4, PP.itD_w5, PP.itD_w6, PP.itD_w7, PP.itD_w8, PP.itD_w9, PP.itD_w10, PP.itD_w11, PP.itD_w12, PP.gex_w0, PP.gex_w1, PP.gex_w2, PP.gex_w3, PP.gexs_w0, PP.gexs_w1, PP.evT_w, PP.getS_0, PP.getS_s, PP.set_0, PP.set_s, PP.mul_1, PP.mul_m1, PP.fin_ok, PP.fin_exc, PP.finX_s, PP.finO_next, PP.finO_d, PP.finO_nw, PP.rdU_d, PP.rdU_nw, PP.rdU_sl, PP.rdS_fz, PP.rdS_ow, PP.rdS_io, PP.pend_d, PP.pend_nw, PP.pend_sl, PP.fzU_d, PP.fzU_nw, PP.fzU_sl, PP.asgU_d, PP.asgU_nw, PP.asgU_sl, PP.slOf_non, PP.slOf_bl, PP.slOf_int, PP.slOf_str, PP.slOf_tup, PP.slOf_lst, PP.slOf_dK, PP.isLs_ow, PP.isLs_io, PP.retU_d, PP.retU_nw, PP.retU_sl, PP.nrm_non, PP.nrm_bl, PP.nrm_int, PP.nrm_str, PP.nrm_tup, PP.nrm_lst, PP.nrm_dK, PP.setIO_ow, PP.setIO_io, PP.dupF_0, PP.dupF_1, PP.optP_f, PP.optP_t, PP.truD_bl, PP.truD_non, PP.truD_lst, PP.partD_eq, PP.ix_lst_0, PP.ix_lst_1, PP.ix_lst_2, PP.ix_lst_3, PP.ix_lst_4, PP.ix_lst_5, PP.ix_tup_0, PP.ix_tup_1, PP.ix_tup_2, PP.ix_tup_3, PP.ix_tup_4, PP.ix_tup_5, PP.ix_kst_0, PP.ix_kst_1, PP.ix_kst_2, PP.ix_kst_3, PP.ix_kst_4, PP.ix_kst_5, PP.set_l3_1, PP.set_l3_2, PP.bi_int_i, PP.bi_int_b, PP.bi_abs, PP.bi_len_l, PP.bi_len_t, PP.bi_isInt_non, PP.bi_isInt_bl, PP.bi_isInt_int, PP.bi_isInt_str, PP.bi_isInt_tup, PP.bi_isInt_lst, PP.bi_isInt_kst, PP.bi_isInt_dK, PP.bi_isBool_non, PP.bi_isBool_bl, PP.bi_isBool_int, PP.bi_isBool_str, PP.bi_isBool_tup, PP.bi_isBool_lst, PP.bi_isBool_kst, PP.bi_isBool_dK, PP.bi_isTuple_non, PP.bi_isTuple_bl, PP.bi_isTuple_int, PP.bi_isTuple_str, PP.bi_isTuple_tup, PP.bi_isTuple_lst, PP.bi_isTuple_kst, PP.bi_isTuple_dK, PP.bi_isList_non, PP.bi_isList_bl, PP.bi_isList_int, PP.bi_isList_str, PP.bi_isList_tup, PP.bi_isList_lst, PP.bi_isList_kst, PP.bi_isList_dK, PP.bi_isStr_non, PP.bi_isStr_bl, PP.bi_isStr_int, PP.bi_isStr_str, PP.bi_isStr_tup, PP.bi_isStr_lst, PP.bi_isStr_kst, PP.bi_isStr_dK, PP.le_lim, PP.lt_lim, PP.pw_10_18, PP.o_gt_i, PP.o_lt_i, PP.o_ge_i, PP.o_le_i, PP.o_add_i, PP.o_sub_i, PP.o_rev_l, PP.o_rev_t, PP.o_neg_i, PP.o_eq_i, PP.o_ne_i, PP.o_eq_s, PP.o_ne_s, PP.o_eq_b, PP.ne_nil, PP.fldOf_o, PP.fldOf_e, PP.fldD_c, PP.putD_c, PP.putD_n, PP.isObj_o, PP.isObj_e, PP.isObj_non, PP.isObj_bl, PP.isObj_int, PP.isObj_str, PP.isObj_lst, PP.isObj_tup, PP.isObj_kst, PP.isObj_dK, PP.isCls_o, PP.isCls_e, PP.isCls_non, PP.isCls_bl, PP.isCls_int, PP.isCls_str, PP.isCls_lst, PP.isCls_tup, PP.isCls_kst, PP.isCls_dK, PP.runC_eq, PP.makeO_eq, PP.spec_eq, PP.allFz_0, PP.allFz_c, PP.recv_f, PP.recv_t, PP.ownOp_o, PP.ownIn_o, PP.ownNe_o, PP.opc_add, PP.opc_sub, PP.opc_mul, PP.opc_shl, PP.opc_shr, PP.opc_band, PP.opc_bor, PP.opc_lt, PP.opc_le, PP.opc_gt, PP.opc_ge, PP.opc_eq, PP.opc_ne, PP.okR_o, PP.okR_int, PP.okR_bl, PP.okR_non, PP.okR_str, PP.okR_lst, PP.okR_kst, PP.okR_tup, PP.cmp_lt, PP.cmp_le, PP.cmp_gt, PP.cmp_ge, PP.cmp_eq, PP.cmp_ne, PP.cmp_add, PP.cmp_sub, PP.cmp_band, PP.cmp_bor, PP.cmp_shl, PP.cmp_shr, PP.cmp_mul, PP.slOf_obj, PP.nrm_obj, PP.slOf_err, PP.hear_eq, PP.frz_0, PP.frz_c, PP.mask_c, PP.mask_n, PP.maskS_fz, PP.maskS_ow, PP.maskS_io, PP.maskS_un, PP.item_t, PP.item_l, PP.item_k, PP.bi_max2, PP.bi_min2, PP.bi_bool_b, PP.o_shr_i, PP.o_is_n, PP.o_isnot_n, PP.o_is_b, PP.o_isnot_b, PP.o_add_l, PP.o_mul_l, PP.set_l4_0, PP.set_l4_1, PP.set_l4_2, PP.set_l4_3, PP.ask_o, PP.outD_t, PP.outD_e, PP.keep_d, PP.noL_non, PP.noL_int, PP.noL_bl, PP.noL_str, PP.noL_tup, PP.noL_0, PP.noL_c, PP.evJ_0, PP.rv_split, PP.rv_join, PP.rv_ix_l, PP.rv_ix_k, PP.clsN_eq, PP.runF, PP.runG, PP.yldU, PP.yThen, PP.genR, PP.excR, PP.firstX, PP.allFz, PP.calmS, PP.isMutD', List.all_cons, List.all_nil, List.isEmpty_nil, List.isEmpty_cons, PP.startE, PP.rdAll, PP.argsOf, PP.ioSlots, PP.putIO, PP.permL, PP.outsOf, PP.storeAll, PP.setSE, PP.slSE, PP.R.bind_ok, PP.R.bind_exc, PP.R.bind_bad, PP.orBad_some, PP.orBad_none, Int.reduceLE, Int.reduceLT, Int.reduceToNat, Int.reducePow, Int.reduceNeg, Int.reduceAdd, Int.reduceSub, Int.reduceMul, Int.reduceBEq, Int.cast_ofNat_Int, Int.natCast_zero, Int.natCast_one, Int.reduceBNe, Int.reduceEq, Int.reduceDiv, Int.reduceMod, Nat.reduceAdd, Nat.reduceMul, Nat.reduceSub, Nat.reducePow, Nat.reduceLeDiff, Nat.reduceLT, Nat.reduceEqDiff, Nat.reduceBEq, List.cons_append, List.nil_append, List.append_nil, Nat.zero_le, List.head?_cons, List.tail_cons, Option.map_some, Option.map_none, Option.bind_some, Option.bind_none, Bool.not_true, Bool.not_false, Bool.and_self, Bool.and_true, Bool.true_and, Bool.false_and, Bool.and_false, Bool.or_true, Bool.true_or, Bool.or_false, Bool.false_or, Bool.not_not, List.contains_cons, List.contains_nil, BEq.rfl, reduceCtorEq,
  eq_self, and_self, if_true, if_false, ite_true, ite_false, Bool.false_eq_true, reduceIte, List.length_cons, List.length_nil, List.filterMap_cons, List.filterMap_nil, List.getElem?_cons_zero, List.getElem?_cons_succ, List.map_cons, List.map_nil, List.replicate_succ, List.replicate_zero, List.flatten_cons, List.flatten_nil, List.reverse_cons, List.reverse_nil, decide_true, decide_false, Bool.not_eq_true, Bool.not_eq_false, Bool.cond_true, Bool.cond_false])
local macro_rules | `(tactic| walk_at "px") => `(tactic| simp -implicitDefEqProofs (disch := first | assumption | (with_reducible show (_ : Bool) = _; exact id rfl) | (with_reducible show (_ : Int) < _; omega) | (with_reducible show (_ : Int) ≤ _; omega) | (with_reducible show (_ : Nat) ≤ _; omega) | (with_reducible show (_ : Nat) < _; omega) | fail) only [*, PP.le_lim, PP.lt_lim, PP.o_shr_i, PP.shl_p, PP.mul_w, PP.fdiv_w, PP.mod_p, PP.pow_p, PP.nrm_mut, PP.bi_len_s, PP.bi_split, PP.ownUn_o, PP.ownGet_o, PP.ownCal_o, PP.isObD_o, PP.ix_dT, PP.isin_dT, PP.notin_dT, PP.keyTI_t, PP.intsD_c, PP.intsD_n, PP.dtS_ow, PP.dtS_io, PP.isDtS_ow, PP.isDtS_io, PP.slOf_dT, PP.nrm_dT, PP.isDT_t, PP.keepI_w, PP.keepR_nw, PP.keepR_d, PP.frzEI_c, PP.frzEI_n, PP.frzI_fz, PP.frzI_ow, PP.frzI_io, PP.frzI_un, PP.frzI_fn, PP.parX_w, PP.evP_n, PP.evP_c, PP.evPt_d, PP.evPt_int, PP.evPt_obj, PP.evPt_lst, PP.evPt_dT, PP.asgX_n, PP.asgX_d, PP.asgX_w, PP.setFs_n, PP.setFs_io, PP.setFs_ow, PP.catT_w, PP.lenT_w, PP.dtR_fz, PP.dtR_ow, PP.dtR_io, PP.opH_w, PP.booL_w', PP.booR_i, PP.inH_w, PP.opoN_w', PP.ownON_o', PP.isoD_w', PP.isKls_o, PP.tryF_w, PP.tryFR_ok, PP.tryFR_exc, PP.ev_w0, PP.ev_w1, PP.ev_w2, PP.ev_w3, PP.ev_w4, PP.ev_w5, PP.ev_w6, PP.ev_w7, PP.ev_w8, PP.ev_w9, PP.ev_w10, PP.ev_w11, PP.ev_w12, PP.ev_w13, PP.ev_w14, PP.ev_w15, PP.ev_w16, PP.ev_w17, PP.ev_w18, PP.ev_w19, PP.ev_w20, PP.ev_w21, PP.ev_w22, PP.ev_w23, PP.ev_w24, PP.ev_w25, PP.ev_w26, PP.ev_w27, PP.ev_w28, PP.ev_w29, PP.ev_w30, PP.ev_w31, PP.ev_w32, PP.ev_w33, PP.ev_w34, PP.ev_w35, PP.ev_w36, PP.ev_w37, PP.ev_w38, PP.ev_w39, PP.ev_w40, PP.ev_w41, PP.ev_w42, PP.ev_w43, PP.ev_w44, PP.ev_w45, PP.ev_w46, PP.ev_w47, PP.ev_w48, PP.ev_w49, PP.ev_w50, PP.ev_w51, PP.ev_w52, PP.ev_w53, PP.ev_w54, PP.ev_w55, PP.ev_w56, PP.ev_w57, PP.ev_w58, PP.ev_w59, PP.ev_w60, PP.ev_w61, PP.ev_w62, PP.ev_w63, PP.ev_w64, PP.ev_w65, PP.ev_w66, PP.evF_w0, PP.evF_w1, PP.evF_w2, PP.evR_w0, PP.evR_w1, PP.evR_w2, PP.evC_w0, PP.evC_w1, PP.evC_w2, PP.evC_w3, PP.ex_w0, PP.ex_w1, PP.ex_w2, PP.ex_w3, PP.ex_w4, PP.ex_w5, PP.ex_w6, PP.ex_w7, PP.ex_w8, PP.ex_w9, PP.ex_w10, PP.ex_w11, PP.ex_w12, PP.ex_w13, PP.ex_w14, PP.ex_w15, PP.ex_w16, PP.ex_w17, PP.ex_w18, PP.ex_w19, PP.ex_w20, PP.ex_w21, PP.ex_w22, PP.ex_w23, PP.ex_w24, PP.ex_w25, PP.ex_w26, PP.ex_w27, PP.ex_w28, PP.ex_w29, PP.ex_w30, PP.ex_w31, PP.ex_w32, PP.ex_w33, PP.exs_w0, PP.exs_w1, PP.itD_w0, PP.itD_w1, PP.itD_w2, PP.itD_w3, PP.itD_w4, PP.itD_w5, PP.itD_w6, PP.itD_w7, PP.itD_w8, PP.itD_w9, PP.itD_w10, PP.itD_w11, PP.itD_w12, PP.gex_w0, PP.gex_w1, PP.gex_w2, PP.gex_w3, PP.gexs_w0, PP.gexs_w1, PP.evT_w, PP.getS_0, PP.getS_s, PP.set_0, PP.set_s, PP.mul_1, PP.mul_m1, PP.fin_ok, PP.fin_exc, PP.finX_s, PP.finO_next, PP.finO_d, PP.finO_nw, PP.rdU_d, PP.rdU_nw, PP.rdU_sl, PP.rdS_fz, PP.rdS_ow, PP.rdS_io, PP.pend_d, PP.pend_nw, PP.pend_sl, PP.fzU_d, PP.fzU_nw, PP.fzU_sl, PP.asgU_d, PP.asgU_nw, PP.asgU_sl, PP.slOf_non, PP.slOf_bl, PP.slOf_int, PP.slOf_str, PP.slOf_tup, PP.slOf_lst, PP.slOf_dK, PP.isLs_ow, PP.isLs_io, PP.retU_d, PP.retU_nw, PP.retU_sl, PP.nrm_non, PP.nrm_bl, PP.nrm_int, PP.nrm_str, PP.nrm_tup, PP.nrm_lst, PP.nrm_dK, PP.setIO_ow, PP.setIO_io, PP.dupF_0, PP.dupF_1, PP.optP_f, PP.optP_t, PP.truD_bl, PP.truD_non, PP.truD_lst, PP.partD_eq, PP.ix_lst_0, PP.ix_lst_1, PP.ix_lst_2, PP.ix_lst_3, PP.ix_lst_4, PP.ix_lst_5, PP.ix_tup_0, PP.ix_tup_1, PP.ix_tup_2, PP.ix_tup_3, PP.ix_tup_4, PP.ix_tup_5, PP.ix_kst_0, PP.ix_kst_1, PP.ix_kst_2, PP.ix_kst_3, PP.ix_kst_4, PP.ix_kst_5, PP.set_l3_1, PP.set_l3_2, PP.bi_int_i, PP.bi_int_b, PP.bi_abs, PP.bi_len_l, PP.bi_len_t, PP.bi_isInt_non, PP.bi_isInt_bl, PP.bi_isInt_int, PP.bi_isInt_str, PP.bi_isInt_tup, PP.bi_isInt_lst, PP.bi_isInt_kst, PP.bi_isInt_dK, PP.bi_isBool_non, PP.bi_isBool_bl, PP.bi_isBool_int, PP.bi_isBool_str, PP.bi_isBool_tup, PP.bi_isBool_lst, PP.bi_isBool_kst, PP.bi_isBool_dK, PP.bi_isTuple_non, PP.bi_isTuple_bl, PP.bi_isTuple_int, PP.bi_isTuple_str, PP.bi_isTuple_tup, PP.bi_isTuple_lst, PP.bi_isTuple_kst, PP.bi_isTuple_dK, PP.bi_isList_non, PP.bi_isList_bl, PP.bi_isList_int, PP.bi_isList_str, PP.bi_isList_tup, PP.bi_isList_lst, PP.bi_isList_kst, PP.bi_isList_dK, PP.bi_isStr_non, PP.bi_isStr_bl, PP.bi_isStr_int, PP.bi_isStr_str, PP.bi_isStr_tup, PP.bi_isStr_lst, PP.bi_isStr_kst, PP.bi_isStr_dK, PP.le_lim, PP.lt_lim, PP.pw_10_18, PP.o_gt_i, PP.o_lt_i, PP.o_ge_i, PP.o_le_i, PP.o_add_i, PP.o_sub_i, PP.o_rev_l, PP.o_rev_t, PP.o_neg_i, PP.o_eq_i, PP.o_ne_i, PP.o_eq_s, PP.o_ne_s, PP.o_eq_b, PP.ne_nil, PP.fldOf_o, PP.fldOf_e, PP.fldD_c, PP.putD_c, PP.putD_n, PP.isObj_o, PP.isObj_e, PP.isObj_non, PP.isObj_bl, PP.isObj_int, PP.isObj_str, PP.isObj_lst, PP.isObj_tup, PP.isObj_kst, PP.isObj_dK, PP.isCls_o, PP.isCls_e, PP.isCls_non, PP.isCls_bl, PP.isCls_int, PP.isCls_str, PP.isCls_lst, PP.isCls_tup, PP.isCls_kst, PP.isCls_dK, PP.runC_eq, PP.makeO_eq, PP.spec_eq, PP.allFz_0, PP.allFz_c, PP.recv_f, PP.recv_t, PP.ownOp_o, PP.ownIn_o, PP.ownNe_o, PP.opc_add, PP.opc_sub, PP.opc_mul, PP.opc_shl, PP.opc_shr, PP.opc_band, PP.opc_bor, PP.opc_lt, PP.opc_le, PP.opc_gt, PP.opc_ge, PP.opc_eq, PP.opc_ne, PP.okR_o, PP.okR_int, PP.okR_bl, PP.okR_non, PP.okR_str, PP.okR_lst, PP.okR_kst, PP.okR_tup, PP.cmp_lt, PP.cmp_le, PP.cmp_gt, PP.cmp_ge, PP.cmp_eq, PP.cmp_ne, PP.cmp_add, PP.cmp_sub, PP.cmp_band, PP.cmp_bor, PP.cmp_shl, PP.cmp_shr, PP.cmp_mul, PP.slOf_obj, PP.nrm_obj, PP.slOf_err, PP.hear_eq, PP.frz_0, PP.frz_c, PP.mask_c, PP.mask_n, PP.maskS_fz, PP.maskS_ow, PP.maskS_io, PP.maskS_un, PP.item_t, PP.item_l, PP.item_k, PP.bi_max2, PP.bi_min2, PP.bi_bool_b, PP.o_shr_i, PP.o_is_n, PP.o_isnot_n, PP.o_is_b, PP.o_isnot_b, PP.o_add_l, PP.o_mul_l, PP.set_l4_0, PP.set_l4_1, PP.set_l4_2, PP.set_l4_3, PP.ask_o, PP.outD_t, PP.outD_e, PP.keep_d, PP.noL_non, PP.noL_int, PP.noL_bl, PP.noL_str, PP.noL_tup, PP.noL_0, PP.noL_c, PP.evJ_0, PP.rv_split, PP.rv_join, PP.rv_ix_l, PP.rv_ix_k, PP.clsN_eq, PP.runF, PP.runG, PP.yldU, PP.yThen, PP.genR, PP.excR, PP.firstX, PP.allFz, PP.calmS, PP.isMutD', List.all_cons, List.all_nil, List.isEmpty_nil, List.isEmpty_cons, PP.startE, PP.rdAll, PP.argsOf, PP.ioSlots, PP.putIO, PP.permL, PP.outsOf, PP.storeAll, PP.setSE, PP.slSE, PP.R.bind_ok, PP.R.bind_exc, PP.R.bind_bad, PP.orBad_some, PP.orBad_none, Int.reduceLE, Int.reduceLT, Int.reduceToNat, Int.reducePow, Int.reduceNeg, Int.reduceAdd, Int.reduceSub, Int.reduceMul, Int.reduceBEq, Int.cast_ofNat_Int, Int.natCast_zero, Int.natCast_one, Int.reduceBNe, Int.reduceEq, Int.reduceDiv, Int.reduceMod, Nat.reduceAdd, Nat.reduceMul, Nat.reduceSub, Nat.reducePow, Nat.reduceLeDiff, Nat.reduceLT, Nat.reduceEqDiff, Nat.reduceBEq, List.cons_append, List.nil_append, List.append_nil, Nat.zero_le, List.head?_cons, List.tail_cons, Option.map_some, Option.map_none, Option.bind_some, Option.bind_none, Bool.not_true, Bool.not_false, Bool.and_self, Bool.and_true, Bool.true_and, Bool.false_and, Bool.and_false, Bool.or_true, Bool.true_or, Bool.or_false, Bool.false_or, Bool.not_not, List.contains_cons, List.contains_nil, BEq.rfl, reduceCtorEq,
  eq_self, and_self, if_true, if_false, ite_true, ite_false, Bool.false_eq_true, reduceIte, List.length_cons, List.length_nil, List.filterMap_cons, List.filterMap_nil, List.getElem?_cons_zero, List.getElem?_cons_succ, List.map_cons, List.map_nil, List.replicate_succ, List.replicate_zero, List.flatten_cons, List.flatten_nil, List.reverse_cons, List.reverse_nil, decide_true, decide_false, Bool.not_eq_true, Bool.not_eq_false, Bool.cond_true, Bool.cond_false])
section
set_option maxHeartbeats 1000000
namespace LW
open PP PySem L2
def VA0 : S := (.asg 1 (.lst (.cons (.cst .non) (.cons (.cst (.bl true)) (.cons (.cst (.int 0)) (.cons (.op1 .neg (.cst (.int 5))) (.cons (.op2 .pow (.cst (.int 10)) (.cst (.int 57))) (.cons (.cst (.str "")) (.cons (.cst (.str "curve")) (.cons (.tup (.cons (.cst (.str "a")) (.cons (.cst (.int 1)) .nil))) (.cons (.lst (.cons (.lst .nil) .nil)) (.cons (.hk (disK (.inr "c") (.int 3))) (.cons (.op2 .mul (.cst (.str "w")) (.cst (.int 30))) (.cons (.lst .nil) .nil))))))))))))))
def VA1 : S := (.ret (.call 502 [true, false] (.cons (.var 0) (.cons (.op2 .add (.var 1) (.lst (.cons (.call 501 [true, false] (.cons (.var 0) (.cons (.op2 .pow (.cst (.int 10)) (.cst (.int 8))) .nil))) .nil))) .nil))))
theorem VA_is : fn21 = { n := 2, body := (.cons VA0 (.cons VA1 .nil)) } := rfl
def PR0 : S := (.asg 2 (.lst .nil))
def PR1 : S := (.forl 3 (.lst (.cons (.mkE 6 [7, 6] (.cons (.var 0) (.cons (.var 1) .nil))) (.cons (.mkEP 6 [7, 6] [1, 0] (.cons (.var 1) (.cons (.var 0) .nil))) .nil))) (.cons (.app 2 (.op2 .eq (.call 505 [false] (.cons (.var 3) .nil)) (.lst (.cons (.cst (.str "input")) (.cons (.cst (.str "text")) .nil))))) (.cons (.app 2 (.op2 .eq (.hk (biH reprX (.cons (.lst (.cons (.fld (.var 3) 6) (.cons (.fld (.var 3) 7) .nil))) .nil))) (.hk (biH reprX (.cons (.lst (.cons (.var 0) (.cons (.var 1) .nil))) .nil))))) .nil)))
def PR2 : S := (.forl 4 (.lst (.cons (.mkE 19 [20, 19] (.cons (.var 0) (.cons (.var 1) .nil))) (.cons (.mkEP 19 [20, 19] [1, 0] (.cons (.var 1) (.cons (.var 0) .nil))) .nil))) (.cons (.app 2 (.op2 .eq (.call 505 [false] (.cons (.var 4) .nil)) (.lst (.cons (.cst (.str "refused")) (.cons (.cst (.str "too many")) .nil))))) (.cons (.app 2 (.op2 .eq (.hk (biH reprX (.cons (.lst (.cons (.fld (.var 4) 19) (.cons (.fld (.var 4) 20) .nil))) .nil))) (.hk (biH reprX (.cons (.lst (.cons (.var 0) (.cons (.var 1) .nil))) .nil))))) .nil)))
def PR3 : S := (.forl 5 (.lst (.cons (.mkE 31 [12, 10] (.cons (.var 0) (.cons (.var 1) .nil))) (.cons (.mkEP 31 [12, 10] [1, 0] (.cons (.var 1) (.cons (.var 0) .nil))) .nil))) (.cons (.app 2 (.op2 .eq (.call 505 [false] (.cons (.var 5) .nil)) (.lst (.cons (.cst (.str "refused")) (.cons (.cst (.str "endless")) .nil))))) (.cons (.app 2 (.op2 .eq (.hk (biH reprX (.cons (.lst (.cons (.fld (.var 5) 10) (.cons (.fld (.var 5) 12) .nil))) .nil))) (.hk (biH reprX (.cons (.lst (.cons (.var 0) (.cons (.var 1) .nil))) .nil))))) .nil)))
def PR4 : S := (.ret (.op2 .notin (.cst (.bl false)) (.var 2)))
theorem PR_is : fn25 = { n := 6, body := (.cons PR0 (.cons PR1 (.cons PR2 (.cons PR3 (.cons PR4 .nil))))) } := rfl
def LA0 : S := (.asg 1 (.call 500 [false] (.cons (.var 0) .nil)))
def LA1 : S := (.forr 2 (.cst (.int 5)) (.cons (.par [3, 4] (.cons (.call 503 [true] (.cons (.var 1) .nil)) (.cons (.call 503 [true] (.cons (.var 1) .nil)) .nil))) (.cons (.fort (.tup (.cons (.nm 5) (.cons (.nm 6) (.cons (.nm 7) .nil)))) (.seq (.call 506 [false] (.cons (.var 3) .nil))) (.cons (.iff (.or (.op2 .ne (.hk (biH reprX (.cons (.var 7) .nil))) (.hk (biH reprX (.cons (.var 3) .nil)))) (.op2 .ne (.call 505 [false] (.cons (.var 5) .nil)) (.var 6))) (.cons (.ret (.cst (.bl false))) .nil) .nil) .nil)) (.cons (.iff (.not (.call 507 [false, false] (.cons (.var 3) (.cons (.var 4) .nil)))) (.cons (.ret (.cst (.bl false))) .nil) .nil) .nil))))
def LA2 : S := (.iff (.or (.op2 .ne (.call 505 [false] (.cons (.hk (mkE0 33)) .nil)) (.lst (.cons (.cst (.str "answer")) (.cons (.cst (.str "no deed")) .nil)))) (.not (.isObj [0, 1, 18, 23, 8, 2, 10, 12, 3, 15, 4, 29, 27, 24, 20, 6, 30, 31, 32, 28, 19, 25, 33] (.hk (mkE0 0))))) (.cons (.ret (.cst (.bl false))) .nil) .nil)
def LA3 : S := (.asg 8 (.lst (.cons (.call 505 [false] (.cons (.hk (mkE0 0)) .nil)) (.cons (.call 505 [false] (.cons (.hk (mkE0 1)) .nil)) (.cons (.call 505 [false] (.cons (.hk (mkE0 18)) .nil)) (.cons (.call 505 [false] (.cons (.hk (mkE0 23)) .nil)) .nil))))))
def LA4 : S := (.ret (.op2 .eq (.var 8) (.lst (.cons (.lst .nil) (.cons (.lst (.cons (.cst (.str "input")) .nil)) (.cons (.lst (.cons (.cst (.str "refused")) .nil)) (.cons (.lst (.cons (.cst (.str "answer")) .nil)) .nil)))))))
def PL (x : D) : List (D × List D) :=
  let i := D.str "input"
  let one (c k : Nat) (s : Str) := [(D.err c [k] [x], [i, D.str s]), (D.err c [k] [x], [i, D.str s])]
  one 8 1 "curve" ++ one 3 1 "box" ++ one 15 1 "spans" ++ one 29 1 "rule" ++ one 27 1 "store" ++ one 20 1 "book" ++
  one 2 0 "level" ++ one 10 0 "place" ++ one 12 0 "key" ++ one 4 0 "many" ++ one 24 0 "row" ++ one 30 7 "line" ++
  [(D.err 32 [1] [x], [.str "refused", .str "unlike"]), (D.err 32 [1] [x], [.str "refused", .str "unlike"]),
   (D.err 28 [24] [x], [.str "refused", .str "outside"]), (D.err 28 [24] [x], [.str "refused", .str "outside"]),
   (D.err 25 [24] [x], [.str "answer", .str "no row"]), (D.err 25 [24] [x], [.str "answer", .str "no row"])]
theorem parts_x (x : D) : calls fs 9 506 [.fz x] = .ok (.nw (.lst ((PL x).map fun p => .tup [p.1, .lst p.2, x]))) [] := by kernel_rfl
theorem kinds_x (x : D) : ((PL x).map fun p => calls fs 9 505 [.fz p.1]) = (PL x).map fun p => .ok (.nw (.lst p.2)) [] := by kernel_rfl
theorem same_x (x : D) : ((PL x).map fun p => op2 .ne (.lst p.2) (.lst p.2)) = (PL x).map fun _ => some (.bl false) := by kernel_rfl
theorem two_x (x y : D) : calls fs 8 505 [.fz (.err 6 [7, 6] [y, x])] = .ok (.nw (.lst [.str "input", .str "text"])) [] ∧ calls fs 8 505 [.fz (.err 19 [20, 19] [y, x])] = .ok (.nw (.lst [.str "refused", .str "too many"])) [] ∧
    calls fs 8 505 [.fz (.err 31 [12, 10] [y, x])] = .ok (.nw (.lst [.str "refused", .str "endless"])) [] := ⟨by kernel_rfl, by kernel_rfl, by kernel_rfl⟩
def goodB (x : D) : Bool := match toPy1 x with
  | some p => p.showable && decide (p.shown.length ≤ 1000) && decide (p.depth ≤ 10)
  | none => false
def strB : Option D → Bool
  | some (.str _) => true
  | _ => false
theorem strB_ex {o : Option D} (h : strB o = true) : ∃ z, o = some (.str z) := by
  unfold strB at h
  split at h
  · exact ⟨_, rfl⟩
  · cases h
def Good (x : D) : Prop := goodB x = true ∧ strB (reprX [x]) = true
theorem good_pair {x y : D} (hx : Good x) (hy : Good y) : ∃ z, reprX [.lst [x, y]] = some (.str z) := by
  have h1 := hx.1
  have h2 := hy.1
  unfold goodB at h1 h2
  cases e1 : toPy1 x with
  | none => rw [e1] at h1; cases h1
  | some p =>
    cases e2 : toPy1 y with
    | none => rw [e2] at h2; cases h2
    | some q =>
      rw [e1] at h1
      rw [e2] at h2
      simp only [Bool.and_eq_true, decide_eq_true_eq] at h1 h2
      refine ⟨(PyData.list [p, q]).shown, ?_⟩
      have e : toPyX (.lst [x, y]) = some (.list [p, q]) := by simp only [toPyX, toPy1s, e1, e2, Option.map_some]
      have hl : (PyData.list [p, q]).shown.length ≤ LIM := by
        simp only [PyData.shown, listText, PyData.shownAll]
        rw [len_app, len_ofS]
        have := textFrom_le [p.shown, q.shown] 0 (Str.ofString "[")
        rw [len_ofS] at this
        simp only [List.map_cons, List.map_nil, List.sum_cons, List.sum_nil] at this
        have e1 : "[".length = 1 := rfl
        have e2 : "]".length = 1 := rfl
        unfold LIM
        omega
      simp only [reprX, e]
      rw [if_pos (by
        simp only [PyData.showable, PyData.showableAll, h1.1.1, h2.1.1, PyData.depth, PyData.depthAll, Bool.and_self, Bool.true_and, Bool.and_eq_true, decide_eq_true_eq]
        exact ⟨hl, decide_eq_true (by omega)⟩)]
theorem good_int {i : Int} (h : i.natAbs < 2 ^ 64) : Good (.int i) := by
  obtain ⟨p, h1, h2, h3, h4, h5⟩ := rp_sm (.int i) (by simp only [smlD, decide_eq_true_eq]; exact h)
  have e : toPy1 (.int i) = some p := h1
  have hs : szD (.int i) = 70 := rfl
  have hd : dpD (.int i) = 0 := by simp [dpD]
  constructor
  · unfold goodB
    rw [e]
    simp only [h2, Bool.true_and, Bool.and_eq_true, decide_eq_true_eq]
    omega
  · have e' : toPyX (.int i) = some p := h1
    simp only [reprX, e']
    rw [if_pos (by simp only [h2, Bool.true_and, Bool.and_eq_true, decide_eq_true_eq]; unfold LIM; omega)]
    rfl
def VALS : List D := [.non, .bl true, .int 0, .int (-5), .int 1000000000000000000000000000000000000000000000000000000000, .str "", .str "curve", .tup [.str "a", .int 1], .lst [.lst []], .dK [.inr "c"] [.int 3], .str "wwwwwwwwwwwwwwwwwwwwwwwwwwwwww", .lst []]
theorem vals_good : (VALS.all fun x => goodB x && strB (reprX [x])) = true := by kernel_rfl
theorem k_value : ∀ (n : Nat) (p : D), PenOk n p → n + 100 ≤ 1000000 → ∃ x p', Good x ∧ (calls fs 9 503 [.io p] = .ok (.d x) [p']) ∧ PenOk (n + 2) p' := by
  intro n p hp hn
  obtain ⟨r, p1, e1, r0, r1, hp1⟩ := @k_draw 7 n p 100000000 hp (by omega) (by decide) (by decide)
  obtain ⟨x, hx, p2, e2, hp2⟩ := @k_pick 6 (n + 1) p1 (VALS ++ [.int r]) hp1 (by omega) (by simp) (by simp [VALS])
  refine ⟨x, p2, ?_, ?_, hp2⟩
  · rcases List.mem_append.mp hx with h | h
    · have := List.all_eq_true.mp vals_good x h
      rw [Bool.and_eq_true] at this
      exact this
    · rw [List.mem_singleton] at h
      subst h
      exact good_int (by omega)
  rw [calls_eq fs 8 503 (F := fn21) rfl, VA_is]
  have e1 : calls fs 8 501 [.io p, .fz (.int 100000000)] = .ok (.d (.int r)) [p1] := e1
  have e2 : calls fs 8 502 [.io p1, .fz (.lst (VALS ++ [.int r]))] = .ok (.d x) [p2] := e2
  generalize calls fs 8 = cl at *
  have o1 : op2 .pow (.int 10) (.int 57) = some (.int 1000000000000000000000000000000000000000000000000000000000) := by kernel_rfl
  have o2 : op2 .pow (.int 10) (.int 8) = some (.int 100000000) := by kernel_rfl
  have o3 : op2 .mul (.str "w") (.int 30) = some (.str "wwwwwwwwwwwwwwwwwwwwwwwwwwwwww") := by kernel_rfl
  have o4 : op1 .neg (.int 5) = some (.int (-5)) := rfl
  have o5 : op2 .add (.lst VALS) (.lst [.int r]) = some (.lst (VALS ++ [.int r])) := rfl
  have w : disK (.inr "c") (.int 3) cl = fun env => .ok (.nw (.dK [.inr "c"] [.int 3])) env := rfl
  have f0 : ex cl VA0 [.io p, .un] = .ok .next [.io p, .ow (.lst VALS)] := by
    simp only [VA0, VALS]; clear e1 e2 o5 hx; walk_at "px"
  have f1 : ex cl VA1 [.io p, .ow (.lst VALS)] = .ok (.ret (.d x)) [.io p2, .ow (.lst VALS)] := by
    generalize VALS ++ [D.int r] = VL at *
    generalize VALS = VV at *
    simp only [VA1]; clear f0 hx; walk_at "px"
  show finR [.io p] (exs cl _ [.io p, .un]) = _
  rw [exs_step f0, exs_ret f1]
  rfl
theorem k_pairs {x y : D} (hx : Good x) (hy : Good y) : calls fs 9 507 [.fz x, .fz y] = .ok (.d (.bl true)) [] := by
  obtain ⟨z, hz⟩ := good_pair hx hy
  obtain ⟨t1, t2, t3⟩ := two_x x y
  rw [calls_eq fs 8 507 (F := fn25) rfl, PR_is]
  generalize calls fs 8 = cl at *
  have w1 : ∀ es env, biH reprX es cl env = (evR cl es env).bind fun us env1 => orBad (rdAll env1 us) fun ds => orBad (reprX ds) fun z => .ok (.nw z) env1 := fun _ _ => rfl
  have n1 : op2 .eq (.str z) (.str z) = some (.bl true) := by show (eqD (.str z) (.str z)).map _ = _; simp [eqD]
  have n2 : op2 .eq (.lst [.str "input", .str "text"]) (.lst [.str "input", .str "text"]) = some (.bl true) := by kernel_rfl
  have n3 : op2 .eq (.lst [.str "refused", .str "too many"]) (.lst [.str "refused", .str "too many"]) = some (.bl true) := by kernel_rfl
  have n4 : op2 .eq (.lst [.str "refused", .str "endless"]) (.lst [.str "refused", .str "endless"]) = some (.bl true) := by kernel_rfl
  have n5 : op2 .notin (.bl false) (.lst [.bl true, .bl true, .bl true, .bl true, .bl true, .bl true, .bl true, .bl true, .bl true, .bl true, .bl true, .bl true]) = some (.bl true) := by kernel_rfl
  have fc := @forD_cX
  have fn := @forD_nX
  clear hx hy
  simp only [PR0, PR1, PR2, PR3, PR4]
  walk_at "px"
def TAIL : Ss := .cons LA2 (.cons LA3 (.cons LA4 .nil))
theorem LA_is2 : fn26 = { n := 9, body := .cons LA0 (.cons LA1 TAIL) } := rfl
def retOf : R Fl → Option U
  | .ok (.ret u) _ => some u
  | _ => none
theorem retOf_ex {r : R Fl} {u : U} (h : retOf r = some u) : ∃ e, r = .ok (.ret u) e := by
  unfold retOf at h
  split at h
  · cases h; exact ⟨_, rfl⟩
  · cases h
theorem tail_t (a0 a1 a2 a3 a4 a5 a6 a7 a8 : Sl) : retOf (exs (calls fs 9) TAIL [a0, a1, a2, a3, a4, a5, a6, a7, a8]) = some (.nw (.bl true)) := by kernel_rfl
theorem law_true (ns : List Int) (h : ns.length ≤ 63) : ∃ outs, calls fs 10 508 [.fz (.kst (ns.map D.int))] = .ok (.d (.bl true)) outs := by
  rw [calls_eq fs 9 508 (F := fn26) rfl, LA_is2]
  have hpen := @k_pen 8 ns h
  have hp0 := (pen_ok (cl := calls fs 9) h).2
  have hv := k_value
  have hpr := fun {x y : D} (hx : Good x) (hy : Good y) => k_pairs hx hy
  have hpa := parts_x
  have hki := kinds_x
  have ht := fun a0 a1 a2 a3 a4 a5 a6 a7 a8 => retOf_ex (tail_t a0 a1 a2 a3 a4 a5 a6 a7 a8)
  generalize calls fs 9 = cl at *
  as_aux_lemma =>
  simp only [LA0, LA1]
  walk_at "px"
  generalize hq : forD _ _ _ _ = q
  have hf := use_for hq (fun j env => ∃ p s2 s3 s4 s5 s6 s7, PenOk (10 * j) p ∧ env = [.fz (D.kst (ns.map D.int)), .ow p, s2, s3, s4, s5, s6, s7, .un]) ⟨_, _, _, _, _, _, _, hp0, rfl⟩
  obtain ⟨env', rfl, p, s2, s3, s4, s5, s6, s7, hp, rfl⟩ := hf (by
    as_aux_lemma =>
    rintro j d env hj hd ⟨p, s2, s3, s4, s5, s6, s7, hp, rfl⟩
    clear hf hq hpen hp0 ht
    rw [List.length_map, List.length_range] at hj
    have hj : j < 5 := hj
    obtain ⟨x, p1, gx, e1, hp1⟩ := hv (10 * j) p hp (by omega)
    obtain ⟨y, p2, gy, e2, hp2⟩ := hv _ p1 hp1 (by omega)
    have e3 := hpr gx gy
    have e4 := hpa x
    have hk := hki x
    obtain ⟨z, hz⟩ := strB_ex gx.2
    clear hv hpr hpa hki gx gy
    have w1 : ∀ es env, biH reprX es cl env = (evR cl es env).bind fun us env1 => orBad (rdAll env1 us) fun ds => orBad (reprX ds) fun z => .ok (.nw z) env1 := fun _ _ => rfl
    have n1 : op2 .ne (.str z) (.str z) = some (.bl false) := by show (eqD (.str z) (.str z)).map (fun b => D.bl (!b)) = _; simp [eqD]
    walk_at "px"
    generalize hq : forG _ _ _ _ = q
    obtain ⟨env', rfl, t5, t6, t7, rfl⟩ := use_forGI hq (fun env => ∃ t5 t6 t7, env = [.fz (D.kst (ns.map D.int)), .ow p2, .fz d, .fz x, .fz y, t5, t6, t7, .un]) ⟨_, _, _, rfl⟩ (by
      rintro d' hd' env ⟨t5, t6, t7, rfl⟩
      obtain ⟨q, hqm, rfl⟩ := List.mem_map.mp hd'
      have k1 := map_at hk hqm
      have k2 := map_at (same_x x) hqm
      clear hk hq e1 e2 e3 e4 hd'
      simp only [storeG, storeGs]
      walk_at "px"
      exact ⟨_, rfl, _, _, _, rfl⟩)
    clear hq
    walk_at "px"
    exact ⟨_, rfl, p2, _, _, _, _, _, _, hp2.mono (by omega), rfl⟩)
  obtain ⟨e, he⟩ := ht (.fz (D.kst (ns.map D.int))) (.ow p) s2 s3 s4 s5 s6 s7 .un
  clear hf hq ht hv hpr hpa hki
  walk_at "px"
  exact ⟨_, rfl⟩
end LW
end
end
namespace LW
open PySem PySem.Spec PyProof.Rows L2 PP
theorem mk {P : Program} {w : World} {K : PySem.W.Frag} {h : Heap} {mg : Str → Option Value} {fl : Addr} (X : K.In h) (G : h.Ns mainGlobals mg) (hfl : mg "law" = some (.ref fl)) (o : HOk K = Ov w) : ∃ fd : FuncData, (∀ (s : Shared) (u : Value), BindsTo s fd ⟨[u], []⟩ [("_law_script", u)]) ∧ ∀ base : Heap, K.In base → base.Ns mainGlobals mg → (∀ x ∈ lamN, ∀ c P, PySem.W.tabIn K x = some (c, P) → LamX.TabB base mg c P) → FnG P w K mg base 50 fl fd ["_law_script"] (spF (tb K) (calls fs 10) 508 1) := by
  have oF : Fk K = Fv := congrArg (·.1) o
  have hb0 : Bk0 K = true := congrArg (fun z => z.2.getD 0 false) o
  have hb1 : Bk1 K = true := congrArg (fun z => z.2.getD 1 false) o
  have hb2 : Bk2 K = true := congrArg (fun z => z.2.getD 2 false) o
  have hb3 : Bk3 K = true := congrArg (fun z => z.2.getD 3 false) o
  have hb4 : Bk4 K = true := congrArg (fun z => z.2.getD 4 false) o
  have hb5 : Bk5 K = true := congrArg (fun z => z.2.getD 5 false) o
  have hb6 : Bk6 K = true := congrArg (fun z => z.2.getD 6 false) o
  have hb7 : Bk7 K = true := congrArg (fun z => z.2.getD 7 false) o
  have hb8 : Bk8 K = true := congrArg (fun z => z.2.getD 8 false) o
  have hb9 : Bk9 K = true := congrArg (fun z => z.2.getD 9 false) o
  have hb10 : Bk10 K = true := congrArg (fun z => z.2.getD 10 false) o
  have e0 : fnA K (f0 K) = fnV "__init__" "BadCurve.__init__" st0 := congrArg (fun z => z.getD 0 none) oF
  have e1 : fnA K (f1 K) = fnV "__init__" "BadLevel.__init__" st1 := congrArg (fun z => z.getD 1 none) oF
  have e2 : fnA K (f2 K) = fnV "__init__" "BadPlace.__init__" st2 := congrArg (fun z => z.getD 2 none) oF
  have e3 : fnA K (f3 K) = fnV "__init__" "BadKey.__init__" st3 := congrArg (fun z => z.getD 3 none) oF
  have e4 : fnA K (f4 K) = fnV "__init__" "BadBox.__init__" st4 := congrArg (fun z => z.getD 4 none) oF
  have e5 : fnA K (f5 K) = fnV "__init__" "BadSpans.__init__" st5 := congrArg (fun z => z.getD 5 none) oF
  have e6 : fnA K (f6 K) = fnV "__init__" "BadMany.__init__" st6 := congrArg (fun z => z.getD 6 none) oF
  have e7 : fnA K (f7 K) = fnV "__init__" "BadRule.__init__" st7 := congrArg (fun z => z.getD 7 none) oF
  have e8 : fnA K (f8 K) = fnV "__init__" "BadStore.__init__" st8 := congrArg (fun z => z.getD 8 none) oF
  have e9 : fnA K (f9 K) = fnV "__init__" "BadRow.__init__" st9 := congrArg (fun z => z.getD 9 none) oF
  have e10 : fnA K (f10 K) = fnV "__init__" "BadBook.__init__" st10 := congrArg (fun z => z.getD 10 none) oF
  have e11 : fnA K (f11 K) = fnV "__init__" "BadText.__init__" st11 := congrArg (fun z => z.getD 11 none) oF
  have e12 : fnA K (f12 K) = fnV "__init__" "BadLine.__init__" st12 := congrArg (fun z => z.getD 12 none) oF
  have e13 : fnA K (f13 K) = fnV "__init__" "Endless.__init__" st13 := congrArg (fun z => z.getD 13 none) oF
  have e14 : fnA K (f14 K) = fnV "__init__" "Unlike.__init__" st14 := congrArg (fun z => z.getD 14 none) oF
  have e15 : fnA K (f15 K) = fnV "__init__" "Outside.__init__" st15 := congrArg (fun z => z.getD 15 none) oF
  have e16 : fnA K (f16 K) = fnV "__init__" "TooMany.__init__" st16 := congrArg (fun z => z.getD 16 none) oF
  have e17 : fnA K (f17 K) = fnV "__init__" "NoRow.__init__" st17 := congrArg (fun z => z.getD 17 none) oF
  have e18 : fnA K (f18 K) = fnV "_law_pen" "_law_pen" st18 := congrArg (fun z => z.getD 18 none) oF
  have e19 : fnA K (f19 K) = fnV "_law_draw" "_law_draw" st19 := congrArg (fun z => z.getD 19 none) oF
  have e20 : fnA K (f20 K) = fnV "_law_pick" "_law_pick" st20 := congrArg (fun z => z.getD 20 none) oF
  have e21 : fnA K (f21 K) = fnV "_law_value" "_law_value" st21 := congrArg (fun z => z.getD 21 none) oF
  have e22 : fnA K (f22 K) = fnV "_law_signs" "_law_signs" st22 := congrArg (fun z => z.getD 22 none) oF
  have e23 : fnA K (f23 K) = fnV "_law_kinds" "_law_kinds" st23 := congrArg (fun z => z.getD 23 none) oF
  have e24 : fnA K (f24 K) = fnV "_law_parts" "_law_parts" st24 := congrArg (fun z => z.getD 24 none) oF
  have e25 : fnA K (f25 K) = fnV "_law_pairs_right" "_law_pairs_right" st25 := congrArg (fun z => z.getD 25 none) oF
  have e26 : fnA K (f26 K) = fnV "law" "law" st26 := congrArg (fun z => z.getD 26 none) oF
  have b_0_0 : (decide (PySem.W.nsIn K mainGlobals "CurveError" = some (some (.ref (C0 K))))) = true := (and1 hb0)
  replace hb0 := and2 hb0
  have aC0 : PySem.W.nsIn K mainGlobals "CurveError" = some (some (.ref (C0 K))) := of_decide_eq_true b_0_0
  have b_0_1 : (decide (PySem.W.nsIn K mainGlobals "BadInput" = some (some (.ref (C1 K))))) = true := (and1 hb0)
  replace hb0 := and2 hb0
  have aC1 : PySem.W.nsIn K mainGlobals "BadInput" = some (some (.ref (C1 K))) := of_decide_eq_true b_0_1
  have b_0_2 : (decide (PySem.W.nsIn K mainGlobals "Refused" = some (some (.ref (C18 K))))) = true := (and1 hb0)
  replace hb0 := and2 hb0
  have aC18 : PySem.W.nsIn K mainGlobals "Refused" = some (some (.ref (C18 K))) := of_decide_eq_true b_0_2
  have b_0_3 : (decide (PySem.W.nsIn K mainGlobals "NoAnswer" = some (some (.ref (C23 K))))) = true := (and1 hb0)
  replace hb0 := and2 hb0
  have aC23 : PySem.W.nsIn K mainGlobals "NoAnswer" = some (some (.ref (C23 K))) := of_decide_eq_true b_0_3
  have b_0_4 : (decide (PySem.W.nsIn K mainGlobals "BadCurve" = some (some (.ref (C8 K))))) = true := (and1 hb0)
  replace hb0 := and2 hb0
  have aC8 : PySem.W.nsIn K mainGlobals "BadCurve" = some (some (.ref (C8 K))) := of_decide_eq_true b_0_4
  have b_0_5 : (decide (PySem.W.nsIn K mainGlobals "BadLevel" = some (some (.ref (C2 K))))) = true := (and1 hb0)
  replace hb0 := and2 hb0
  have aC2 : PySem.W.nsIn K mainGlobals "BadLevel" = some (some (.ref (C2 K))) := of_decide_eq_true b_0_5
  have b_0_6 : (decide (PySem.W.nsIn K mainGlobals "BadPlace" = some (some (.ref (C10 K))))) = true := (and1 hb0)
  replace hb0 := and2 hb0
  have aC10 : PySem.W.nsIn K mainGlobals "BadPlace" = some (some (.ref (C10 K))) := of_decide_eq_true b_0_6
  have b_0_7 : (decide (PySem.W.nsIn K mainGlobals "BadKey" = some (some (.ref (C12 K))))) = true := (and1 hb0)
  replace hb0 := and2 hb0
  have aC12 : PySem.W.nsIn K mainGlobals "BadKey" = some (some (.ref (C12 K))) := of_decide_eq_true b_0_7
  have b_0_8 : (decide (PySem.W.nsIn K mainGlobals "BadBox" = some (some (.ref (C3 K))))) = true := (and1 hb0)
  replace hb0 := and2 hb0
  have aC3 : PySem.W.nsIn K mainGlobals "BadBox" = some (some (.ref (C3 K))) := of_decide_eq_true b_0_8
  have b_0_9 : (decide (PySem.W.nsIn K mainGlobals "BadSpans" = some (some (.ref (C15 K))))) = true := (and1 hb0)
  replace hb0 := and2 hb0
  have aC15 : PySem.W.nsIn K mainGlobals "BadSpans" = some (some (.ref (C15 K))) := of_decide_eq_true b_0_9
  have b_0_10 : (decide (PySem.W.nsIn K mainGlobals "BadMany" = some (some (.ref (C4 K))))) = true := (and1 hb0)
  replace hb0 := and2 hb0
  have aC4 : PySem.W.nsIn K mainGlobals "BadMany" = some (some (.ref (C4 K))) := of_decide_eq_true b_0_10
  have b_0_11 : (decide (PySem.W.nsIn K mainGlobals "BadRule" = some (some (.ref (C29 K))))) = true := (and1 hb0)
  replace hb0 := and2 hb0
  have aC29 : PySem.W.nsIn K mainGlobals "BadRule" = some (some (.ref (C29 K))) := of_decide_eq_true b_0_11
  have b_0_12 : (decide (PySem.W.nsIn K mainGlobals "BadStore" = some (some (.ref (C27 K))))) = true := (and1 hb0)
  replace hb0 := and2 hb0
  have aC27 : PySem.W.nsIn K mainGlobals "BadStore" = some (some (.ref (C27 K))) := of_decide_eq_true b_0_12
  have b_0_13 : (decide (PySem.W.nsIn K mainGlobals "BadRow" = some (some (.ref (C24 K))))) = true := (and1 hb0)
  replace hb0 := and2 hb0
  have aC24 : PySem.W.nsIn K mainGlobals "BadRow" = some (some (.ref (C24 K))) := of_decide_eq_true b_0_13
  have b_0_14 : (decide (PySem.W.nsIn K mainGlobals "BadBook" = some (some (.ref (C20 K))))) = true := (and1 hb0)
  replace hb0 := and2 hb0
  have aC20 : PySem.W.nsIn K mainGlobals "BadBook" = some (some (.ref (C20 K))) := of_decide_eq_true b_0_14
  have b_0_15 : (decide (PySem.W.nsIn K mainGlobals "BadText" = some (some (.ref (C6 K))))) = true := (and1 hb0)
  replace hb0 := and2 hb0
  have aC6 : PySem.W.nsIn K mainGlobals "BadText" = some (some (.ref (C6 K))) := of_decide_eq_true b_0_15
  have b_0_16 : (decide (PySem.W.nsIn K mainGlobals "BadLine" = some (some (.ref (C30 K))))) = true := (and1 hb0)
  replace hb0 := and2 hb0
  have aC30 : PySem.W.nsIn K mainGlobals "BadLine" = some (some (.ref (C30 K))) := of_decide_eq_true b_0_16
  have b_0_17 : (decide (PySem.W.nsIn K mainGlobals "Endless" = some (some (.ref (C31 K))))) = true := (and1 hb0)
  replace hb0 := and2 hb0
  have aC31 : PySem.W.nsIn K mainGlobals "Endless" = some (some (.ref (C31 K))) := of_decide_eq_true b_0_17
  have b_0_18 : (decide (PySem.W.nsIn K mainGlobals "Unlike" = some (some (.ref (C32 K))))) = true := (and1 hb0)
  replace hb0 := and2 hb0
  have aC32 : PySem.W.nsIn K mainGlobals "Unlike" = some (some (.ref (C32 K))) := of_decide_eq_true b_0_18
  have b_0_19 : (decide (PySem.W.nsIn K mainGlobals "Outside" = some (some (.ref (C28 K))))) = true := (and1 hb0)
  replace hb0 := and2 hb0
  have aC28 : PySem.W.nsIn K mainGlobals "Outside" = some (some (.ref (C28 K))) := of_decide_eq_true b_0_19
  have b_0_20 : (decide (PySem.W.nsIn K mainGlobals "TooMany" = some (some (.ref (C19 K))))) = true := (and1 hb0)
  replace hb0 := and2 hb0
  have aC19 : PySem.W.nsIn K mainGlobals "TooMany" = some (some (.ref (C19 K))) := of_decide_eq_true b_0_20
  have b_0_21 : (decide (PySem.W.nsIn K mainGlobals "NoRow" = some (some (.ref (C25 K))))) = true := (and1 hb0)
  replace hb0 := and2 hb0
  have aC25 : PySem.W.nsIn K mainGlobals "NoRow" = some (some (.ref (C25 K))) := of_decide_eq_true b_0_21
  have b_0_22 : (decide (PySem.W.nsIn K mainGlobals "NoDeed" = some (some (.ref (C33 K))))) = true := (and1 hb0)
  replace hb0 := and2 hb0
  have aC33 : PySem.W.nsIn K mainGlobals "NoDeed" = some (some (.ref (C33 K))) := of_decide_eq_true b_0_22
  have b_0_23 : (xcB K (C0 K)) = true := (and1 hb0)
  replace hb0 := and2 hb0
  have xc0 : xcB K (C0 K) = true := b_0_23
  have b_0_24 : (naB K (C0 K) []) = true := hb0
  have na0 : naB K (C0 K) [] = true := b_0_24
  have b_1_0 : (PySem.W.excIn K (C0 K) [.type "ValueError", .type "Exception", .type "BaseException", .type "object"] "ValueError.__new__") = true := (and1 hb1)
  replace hb1 := and2 hb1
  have ey0 : PySem.W.excIn K (C0 K) [.type "ValueError", .type "Exception", .type "BaseException", .type "object"] "ValueError.__new__" = true := b_1_0
  have b_1_1 : (PySem.W.keepIn K (.ref (C0 K))) = true := (and1 hb1)
  replace hb1 := and2 hb1
  have ky0 : PySem.W.keepIn K (.ref (C0 K)) = true := b_1_1
  have b_1_2 : (decide (PySem.W.subIn K (.ref (C0 K)) (.type "BaseException") = some true)) = true := (and1 hb1)
  replace hb1 := and2 hb1
  have ez0 : PySem.W.subIn K (.ref (C0 K)) (.type "BaseException") = some true := of_decide_eq_true b_1_2
  have b_1_3 : (decide (PySem.W.typeIn K (.ref (C0 K)) = some (.type "type"))) = true := (and1 hb1)
  replace hb1 := and2 hb1
  have ew0 : PySem.W.typeIn K (.ref (C0 K)) = some (.type "type") := of_decide_eq_true b_1_3
  have b_1_4 : (xcB K (C1 K)) = true := (and1 hb1)
  replace hb1 := and2 hb1
  have xc1 : xcB K (C1 K) = true := b_1_4
  have b_1_5 : (naB K (C1 K) []) = true := (and1 hb1)
  replace hb1 := and2 hb1
  have na1 : naB K (C1 K) [] = true := b_1_5
  have b_1_6 : (PySem.W.excIn K (C1 K) [.type "ValueError", .type "Exception", .type "BaseException", .type "object"] "ValueError.__new__") = true := (and1 hb1)
  replace hb1 := and2 hb1
  have ey1 : PySem.W.excIn K (C1 K) [.type "ValueError", .type "Exception", .type "BaseException", .type "object"] "ValueError.__new__" = true := b_1_6
  have b_1_7 : (PySem.W.keepIn K (.ref (C1 K))) = true := (and1 hb1)
  replace hb1 := and2 hb1
  have ky1 : PySem.W.keepIn K (.ref (C1 K)) = true := b_1_7
  have b_1_8 : (decide (PySem.W.subIn K (.ref (C1 K)) (.type "BaseException") = some true)) = true := (and1 hb1)
  replace hb1 := and2 hb1
  have ez1 : PySem.W.subIn K (.ref (C1 K)) (.type "BaseException") = some true := of_decide_eq_true b_1_8
  have b_1_9 : (decide (PySem.W.typeIn K (.ref (C1 K)) = some (.type "type"))) = true := (and1 hb1)
  replace hb1 := and2 hb1
  have ew1 : PySem.W.typeIn K (.ref (C1 K)) = some (.type "type") := of_decide_eq_true b_1_9
  have b_1_10 : (xcB K (C18 K)) = true := (and1 hb1)
  replace hb1 := and2 hb1
  have xc18 : xcB K (C18 K) = true := b_1_10
  have b_1_11 : (naB K (C18 K) []) = true := (and1 hb1)
  replace hb1 := and2 hb1
  have na18 : naB K (C18 K) [] = true := b_1_11
  have b_1_12 : (PySem.W.excIn K (C18 K) [.type "ValueError", .type "Exception", .type "BaseException", .type "object"] "ValueError.__new__") = true := (and1 hb1)
  replace hb1 := and2 hb1
  have ey18 : PySem.W.excIn K (C18 K) [.type "ValueError", .type "Exception", .type "BaseException", .type "object"] "ValueError.__new__" = true := b_1_12
  have b_1_13 : (PySem.W.keepIn K (.ref (C18 K))) = true := (and1 hb1)
  replace hb1 := and2 hb1
  have ky18 : PySem.W.keepIn K (.ref (C18 K)) = true := b_1_13
  have b_1_14 : (decide (PySem.W.subIn K (.ref (C18 K)) (.type "BaseException") = some true)) = true := (and1 hb1)
  replace hb1 := and2 hb1
  have ez18 : PySem.W.subIn K (.ref (C18 K)) (.type "BaseException") = some true := of_decide_eq_true b_1_14
  have b_1_15 : (decide (PySem.W.typeIn K (.ref (C18 K)) = some (.type "type"))) = true := (and1 hb1)
  replace hb1 := and2 hb1
  have ew18 : PySem.W.typeIn K (.ref (C18 K)) = some (.type "type") := of_decide_eq_true b_1_15
  have b_1_16 : (xcB K (C23 K)) = true := (and1 hb1)
  replace hb1 := and2 hb1
  have xc23 : xcB K (C23 K) = true := b_1_16
  have b_1_17 : (naB K (C23 K) []) = true := (and1 hb1)
  replace hb1 := and2 hb1
  have na23 : naB K (C23 K) [] = true := b_1_17
  have b_1_18 : (PySem.W.excIn K (C23 K) [.type "ValueError", .type "Exception", .type "BaseException", .type "object"] "ValueError.__new__") = true := (and1 hb1)
  replace hb1 := and2 hb1
  have ey23 : PySem.W.excIn K (C23 K) [.type "ValueError", .type "Exception", .type "BaseException", .type "object"] "ValueError.__new__" = true := b_1_18
  have b_1_19 : (PySem.W.keepIn K (.ref (C23 K))) = true := (and1 hb1)
  replace hb1 := and2 hb1
  have ky23 : PySem.W.keepIn K (.ref (C23 K)) = true := b_1_19
  have b_1_20 : (decide (PySem.W.subIn K (.ref (C23 K)) (.type "BaseException") = some true)) = true := (and1 hb1)
  replace hb1 := and2 hb1
  have ez23 : PySem.W.subIn K (.ref (C23 K)) (.type "BaseException") = some true := of_decide_eq_true b_1_20
  have b_1_21 : (decide (PySem.W.typeIn K (.ref (C23 K)) = some (.type "type"))) = true := (and1 hb1)
  replace hb1 := and2 hb1
  have ew23 : PySem.W.typeIn K (.ref (C23 K)) = some (.type "type") := of_decide_eq_true b_1_21
  have b_1_22 : (xcB K (C8 K)) = true := (and1 hb1)
  replace hb1 := and2 hb1
  have xc8 : xcB K (C8 K) = true := b_1_22
  have b_1_23 : (naB K (C8 K) ["part"]) = true := (and1 hb1)
  replace hb1 := and2 hb1
  have na8 : naB K (C8 K) ["part"] = true := b_1_23
  have b_1_24 : (exlB K (C8 K)) = true := hb1
  obtain ⟨_, _, _, _, _, _, _, _, _, _, _, _, _, _, _, xL8, xR8⟩ := exl_ok b_1_24
  have b_2_0 : ((decide (PySem.W.findIn K (.ref (C8 K)) "__setattr__" = some (some (.builtin "object.__setattr__"))) && (decide (PySem.W.subIn K (.ref (C8 K)) (.type "BaseException") = some true) && (decide (PySem.W.typeIn K (.ref (C8 K)) = some (.type "type")) && PySem.W.keepIn K (.ref (C8 K)))))) = true := (and1 hb2)
  replace hb2 := and2 hb2
  have xS8 : (decide (PySem.W.findIn K (.ref (C8 K)) "__setattr__" = some (some (.builtin "object.__setattr__"))) && (decide (PySem.W.subIn K (.ref (C8 K)) (.type "BaseException") = some true) && (decide (PySem.W.typeIn K (.ref (C8 K)) = some (.type "type")) && PySem.W.keepIn K (.ref (C8 K))))) = true := b_2_0
  have b_2_1 : (decide (PySem.W.findIn K (.ref (C8 K)) "__init__" = some (some (.ref (f0 K))))) = true := (and1 hb2)
  replace hb2 := and2 hb2
  have xi8 : PySem.W.findIn K (.ref (C8 K)) "__init__" = some (some (.ref (f0 K))) := of_decide_eq_true b_2_1
  have b_2_2 : (decide (PySem.W.typeIn K (.ref (f0 K)) = some (.type "function"))) = true := (and1 hb2)
  replace hb2 := and2 hb2
  have xt8 : PySem.W.typeIn K (.ref (f0 K)) = some (.type "function") := of_decide_eq_true b_2_2
  have b_2_3 : (xcB K (C2 K)) = true := (and1 hb2)
  replace hb2 := and2 hb2
  have xc2 : xcB K (C2 K) = true := b_2_3
  have b_2_4 : (naB K (C2 K) ["value"]) = true := (and1 hb2)
  replace hb2 := and2 hb2
  have na2 : naB K (C2 K) ["value"] = true := b_2_4
  have b_2_5 : (exlB K (C2 K)) = true := (and1 hb2)
  replace hb2 := and2 hb2
  obtain ⟨_, _, _, _, _, _, _, _, _, _, _, _, _, _, _, xL2, xR2⟩ := exl_ok b_2_5
  have b_2_6 : ((decide (PySem.W.findIn K (.ref (C2 K)) "__setattr__" = some (some (.builtin "object.__setattr__"))) && (decide (PySem.W.subIn K (.ref (C2 K)) (.type "BaseException") = some true) && (decide (PySem.W.typeIn K (.ref (C2 K)) = some (.type "type")) && PySem.W.keepIn K (.ref (C2 K)))))) = true := (and1 hb2)
  replace hb2 := and2 hb2
  have xS2 : (decide (PySem.W.findIn K (.ref (C2 K)) "__setattr__" = some (some (.builtin "object.__setattr__"))) && (decide (PySem.W.subIn K (.ref (C2 K)) (.type "BaseException") = some true) && (decide (PySem.W.typeIn K (.ref (C2 K)) = some (.type "type")) && PySem.W.keepIn K (.ref (C2 K))))) = true := b_2_6
  have b_2_7 : (decide (PySem.W.findIn K (.ref (C2 K)) "__init__" = some (some (.ref (f1 K))))) = true := (and1 hb2)
  replace hb2 := and2 hb2
  have xi2 : PySem.W.findIn K (.ref (C2 K)) "__init__" = some (some (.ref (f1 K))) := of_decide_eq_true b_2_7
  have b_2_8 : (decide (PySem.W.typeIn K (.ref (f1 K)) = some (.type "function"))) = true := (and1 hb2)
  replace hb2 := and2 hb2
  have xt2 : PySem.W.typeIn K (.ref (f1 K)) = some (.type "function") := of_decide_eq_true b_2_8
  have b_2_9 : (xcB K (C10 K)) = true := (and1 hb2)
  replace hb2 := and2 hb2
  have xc10 : xcB K (C10 K) = true := b_2_9
  have b_2_10 : (naB K (C10 K) ["value"]) = true := (and1 hb2)
  replace hb2 := and2 hb2
  have na10 : naB K (C10 K) ["value"] = true := b_2_10
  have b_2_11 : (exlB K (C10 K)) = true := (and1 hb2)
  replace hb2 := and2 hb2
  obtain ⟨_, _, _, _, _, _, _, _, _, _, _, _, _, _, _, xL10, xR10⟩ := exl_ok b_2_11
  have b_2_12 : ((decide (PySem.W.findIn K (.ref (C10 K)) "__setattr__" = some (some (.builtin "object.__setattr__"))) && (decide (PySem.W.subIn K (.ref (C10 K)) (.type "BaseException") = some true) && (decide (PySem.W.typeIn K (.ref (C10 K)) = some (.type "type")) && PySem.W.keepIn K (.ref (C10 K)))))) = true := (and1 hb2)
  replace hb2 := and2 hb2
  have xS10 : (decide (PySem.W.findIn K (.ref (C10 K)) "__setattr__" = some (some (.builtin "object.__setattr__"))) && (decide (PySem.W.subIn K (.ref (C10 K)) (.type "BaseException") = some true) && (decide (PySem.W.typeIn K (.ref (C10 K)) = some (.type "type")) && PySem.W.keepIn K (.ref (C10 K))))) = true := b_2_12
  have b_2_13 : (decide (PySem.W.findIn K (.ref (C10 K)) "__init__" = some (some (.ref (f2 K))))) = true := (and1 hb2)
  replace hb2 := and2 hb2
  have xi10 : PySem.W.findIn K (.ref (C10 K)) "__init__" = some (some (.ref (f2 K))) := of_decide_eq_true b_2_13
  have b_2_14 : (decide (PySem.W.typeIn K (.ref (f2 K)) = some (.type "function"))) = true := (and1 hb2)
  replace hb2 := and2 hb2
  have xt10 : PySem.W.typeIn K (.ref (f2 K)) = some (.type "function") := of_decide_eq_true b_2_14
  have b_2_15 : (xcB K (C12 K)) = true := (and1 hb2)
  replace hb2 := and2 hb2
  have xc12 : xcB K (C12 K) = true := b_2_15
  have b_2_16 : (naB K (C12 K) ["value"]) = true := (and1 hb2)
  replace hb2 := and2 hb2
  have na12 : naB K (C12 K) ["value"] = true := b_2_16
  have b_2_17 : (exlB K (C12 K)) = true := (and1 hb2)
  replace hb2 := and2 hb2
  obtain ⟨_, _, _, _, _, _, _, _, _, _, _, _, _, _, _, xL12, xR12⟩ := exl_ok b_2_17
  have b_2_18 : ((decide (PySem.W.findIn K (.ref (C12 K)) "__setattr__" = some (some (.builtin "object.__setattr__"))) && (decide (PySem.W.subIn K (.ref (C12 K)) (.type "BaseException") = some true) && (decide (PySem.W.typeIn K (.ref (C12 K)) = some (.type "type")) && PySem.W.keepIn K (.ref (C12 K)))))) = true := (and1 hb2)
  replace hb2 := and2 hb2
  have xS12 : (decide (PySem.W.findIn K (.ref (C12 K)) "__setattr__" = some (some (.builtin "object.__setattr__"))) && (decide (PySem.W.subIn K (.ref (C12 K)) (.type "BaseException") = some true) && (decide (PySem.W.typeIn K (.ref (C12 K)) = some (.type "type")) && PySem.W.keepIn K (.ref (C12 K))))) = true := b_2_18
  have b_2_19 : (decide (PySem.W.findIn K (.ref (C12 K)) "__init__" = some (some (.ref (f3 K))))) = true := (and1 hb2)
  replace hb2 := and2 hb2
  have xi12 : PySem.W.findIn K (.ref (C12 K)) "__init__" = some (some (.ref (f3 K))) := of_decide_eq_true b_2_19
  have b_2_20 : (decide (PySem.W.typeIn K (.ref (f3 K)) = some (.type "function"))) = true := (and1 hb2)
  replace hb2 := and2 hb2
  have xt12 : PySem.W.typeIn K (.ref (f3 K)) = some (.type "function") := of_decide_eq_true b_2_20
  have b_2_21 : (xcB K (C3 K)) = true := (and1 hb2)
  replace hb2 := and2 hb2
  have xc3 : xcB K (C3 K) = true := b_2_21
  have b_2_22 : (naB K (C3 K) ["part"]) = true := (and1 hb2)
  replace hb2 := and2 hb2
  have na3 : naB K (C3 K) ["part"] = true := b_2_22
  have b_2_23 : (exlB K (C3 K)) = true := (and1 hb2)
  replace hb2 := and2 hb2
  obtain ⟨_, _, _, _, _, _, _, _, _, _, _, _, _, _, _, xL3, xR3⟩ := exl_ok b_2_23
  have b_2_24 : ((decide (PySem.W.findIn K (.ref (C3 K)) "__setattr__" = some (some (.builtin "object.__setattr__"))) && (decide (PySem.W.subIn K (.ref (C3 K)) (.type "BaseException") = some true) && (decide (PySem.W.typeIn K (.ref (C3 K)) = some (.type "type")) && PySem.W.keepIn K (.ref (C3 K)))))) = true := hb2
  have xS3 : (decide (PySem.W.findIn K (.ref (C3 K)) "__setattr__" = some (some (.builtin "object.__setattr__"))) && (decide (PySem.W.subIn K (.ref (C3 K)) (.type "BaseException") = some true) && (decide (PySem.W.typeIn K (.ref (C3 K)) = some (.type "type")) && PySem.W.keepIn K (.ref (C3 K))))) = true := b_2_24
  have b_3_0 : (decide (PySem.W.findIn K (.ref (C3 K)) "__init__" = some (some (.ref (f4 K))))) = true := (and1 hb3)
  replace hb3 := and2 hb3
  have xi3 : PySem.W.findIn K (.ref (C3 K)) "__init__" = some (some (.ref (f4 K))) := of_decide_eq_true b_3_0
  have b_3_1 : (decide (PySem.W.typeIn K (.ref (f4 K)) = some (.type "function"))) = true := (and1 hb3)
  replace hb3 := and2 hb3
  have xt3 : PySem.W.typeIn K (.ref (f4 K)) = some (.type "function") := of_decide_eq_true b_3_1
  have b_3_2 : (xcB K (C15 K)) = true := (and1 hb3)
  replace hb3 := and2 hb3
  have xc15 : xcB K (C15 K) = true := b_3_2
  have b_3_3 : (naB K (C15 K) ["part"]) = true := (and1 hb3)
  replace hb3 := and2 hb3
  have na15 : naB K (C15 K) ["part"] = true := b_3_3
  have b_3_4 : (exlB K (C15 K)) = true := (and1 hb3)
  replace hb3 := and2 hb3
  obtain ⟨_, _, _, _, _, _, _, _, _, _, _, _, _, _, _, xL15, xR15⟩ := exl_ok b_3_4
  have b_3_5 : ((decide (PySem.W.findIn K (.ref (C15 K)) "__setattr__" = some (some (.builtin "object.__setattr__"))) && (decide (PySem.W.subIn K (.ref (C15 K)) (.type "BaseException") = some true) && (decide (PySem.W.typeIn K (.ref (C15 K)) = some (.type "type")) && PySem.W.keepIn K (.ref (C15 K)))))) = true := (and1 hb3)
  replace hb3 := and2 hb3
  have xS15 : (decide (PySem.W.findIn K (.ref (C15 K)) "__setattr__" = some (some (.builtin "object.__setattr__"))) && (decide (PySem.W.subIn K (.ref (C15 K)) (.type "BaseException") = some true) && (decide (PySem.W.typeIn K (.ref (C15 K)) = some (.type "type")) && PySem.W.keepIn K (.ref (C15 K))))) = true := b_3_5
  have b_3_6 : (decide (PySem.W.findIn K (.ref (C15 K)) "__init__" = some (some (.ref (f5 K))))) = true := (and1 hb3)
  replace hb3 := and2 hb3
  have xi15 : PySem.W.findIn K (.ref (C15 K)) "__init__" = some (some (.ref (f5 K))) := of_decide_eq_true b_3_6
  have b_3_7 : (decide (PySem.W.typeIn K (.ref (f5 K)) = some (.type "function"))) = true := (and1 hb3)
  replace hb3 := and2 hb3
  have xt15 : PySem.W.typeIn K (.ref (f5 K)) = some (.type "function") := of_decide_eq_true b_3_7
  have b_3_8 : (xcB K (C4 K)) = true := (and1 hb3)
  replace hb3 := and2 hb3
  have xc4 : xcB K (C4 K) = true := b_3_8
  have b_3_9 : (naB K (C4 K) ["value"]) = true := (and1 hb3)
  replace hb3 := and2 hb3
  have na4 : naB K (C4 K) ["value"] = true := b_3_9
  have b_3_10 : (exlB K (C4 K)) = true := (and1 hb3)
  replace hb3 := and2 hb3
  obtain ⟨_, _, _, _, _, _, _, _, _, _, _, _, _, _, _, xL4, xR4⟩ := exl_ok b_3_10
  have b_3_11 : ((decide (PySem.W.findIn K (.ref (C4 K)) "__setattr__" = some (some (.builtin "object.__setattr__"))) && (decide (PySem.W.subIn K (.ref (C4 K)) (.type "BaseException") = some true) && (decide (PySem.W.typeIn K (.ref (C4 K)) = some (.type "type")) && PySem.W.keepIn K (.ref (C4 K)))))) = true := (and1 hb3)
  replace hb3 := and2 hb3
  have xS4 : (decide (PySem.W.findIn K (.ref (C4 K)) "__setattr__" = some (some (.builtin "object.__setattr__"))) && (decide (PySem.W.subIn K (.ref (C4 K)) (.type "BaseException") = some true) && (decide (PySem.W.typeIn K (.ref (C4 K)) = some (.type "type")) && PySem.W.keepIn K (.ref (C4 K))))) = true := b_3_11
  have b_3_12 : (decide (PySem.W.findIn K (.ref (C4 K)) "__init__" = some (some (.ref (f6 K))))) = true := (and1 hb3)
  replace hb3 := and2 hb3
  have xi4 : PySem.W.findIn K (.ref (C4 K)) "__init__" = some (some (.ref (f6 K))) := of_decide_eq_true b_3_12
  have b_3_13 : (decide (PySem.W.typeIn K (.ref (f6 K)) = some (.type "function"))) = true := (and1 hb3)
  replace hb3 := and2 hb3
  have xt4 : PySem.W.typeIn K (.ref (f6 K)) = some (.type "function") := of_decide_eq_true b_3_13
  have b_3_14 : (xcB K (C29 K)) = true := (and1 hb3)
  replace hb3 := and2 hb3
  have xc29 : xcB K (C29 K) = true := b_3_14
  have b_3_15 : (naB K (C29 K) ["part"]) = true := (and1 hb3)
  replace hb3 := and2 hb3
  have na29 : naB K (C29 K) ["part"] = true := b_3_15
  have b_3_16 : (exlB K (C29 K)) = true := (and1 hb3)
  replace hb3 := and2 hb3
  obtain ⟨_, _, _, _, _, _, _, _, _, _, _, _, _, _, _, xL29, xR29⟩ := exl_ok b_3_16
  have b_3_17 : ((decide (PySem.W.findIn K (.ref (C29 K)) "__setattr__" = some (some (.builtin "object.__setattr__"))) && (decide (PySem.W.subIn K (.ref (C29 K)) (.type "BaseException") = some true) && (decide (PySem.W.typeIn K (.ref (C29 K)) = some (.type "type")) && PySem.W.keepIn K (.ref (C29 K)))))) = true := (and1 hb3)
  replace hb3 := and2 hb3
  have xS29 : (decide (PySem.W.findIn K (.ref (C29 K)) "__setattr__" = some (some (.builtin "object.__setattr__"))) && (decide (PySem.W.subIn K (.ref (C29 K)) (.type "BaseException") = some true) && (decide (PySem.W.typeIn K (.ref (C29 K)) = some (.type "type")) && PySem.W.keepIn K (.ref (C29 K))))) = true := b_3_17
  have b_3_18 : (decide (PySem.W.findIn K (.ref (C29 K)) "__init__" = some (some (.ref (f7 K))))) = true := (and1 hb3)
  replace hb3 := and2 hb3
  have xi29 : PySem.W.findIn K (.ref (C29 K)) "__init__" = some (some (.ref (f7 K))) := of_decide_eq_true b_3_18
  have b_3_19 : (decide (PySem.W.typeIn K (.ref (f7 K)) = some (.type "function"))) = true := (and1 hb3)
  replace hb3 := and2 hb3
  have xt29 : PySem.W.typeIn K (.ref (f7 K)) = some (.type "function") := of_decide_eq_true b_3_19
  have b_3_20 : (xcB K (C27 K)) = true := (and1 hb3)
  replace hb3 := and2 hb3
  have xc27 : xcB K (C27 K) = true := b_3_20
  have b_3_21 : (naB K (C27 K) ["part"]) = true := (and1 hb3)
  replace hb3 := and2 hb3
  have na27 : naB K (C27 K) ["part"] = true := b_3_21
  have b_3_22 : (exlB K (C27 K)) = true := (and1 hb3)
  replace hb3 := and2 hb3
  obtain ⟨_, _, _, _, _, _, _, _, _, _, _, _, _, _, _, xL27, xR27⟩ := exl_ok b_3_22
  have b_3_23 : ((decide (PySem.W.findIn K (.ref (C27 K)) "__setattr__" = some (some (.builtin "object.__setattr__"))) && (decide (PySem.W.subIn K (.ref (C27 K)) (.type "BaseException") = some true) && (decide (PySem.W.typeIn K (.ref (C27 K)) = some (.type "type")) && PySem.W.keepIn K (.ref (C27 K)))))) = true := (and1 hb3)
  replace hb3 := and2 hb3
  have xS27 : (decide (PySem.W.findIn K (.ref (C27 K)) "__setattr__" = some (some (.builtin "object.__setattr__"))) && (decide (PySem.W.subIn K (.ref (C27 K)) (.type "BaseException") = some true) && (decide (PySem.W.typeIn K (.ref (C27 K)) = some (.type "type")) && PySem.W.keepIn K (.ref (C27 K))))) = true := b_3_23
  have b_3_24 : (decide (PySem.W.findIn K (.ref (C27 K)) "__init__" = some (some (.ref (f8 K))))) = true := hb3
  have xi27 : PySem.W.findIn K (.ref (C27 K)) "__init__" = some (some (.ref (f8 K))) := of_decide_eq_true b_3_24
  have b_4_0 : (decide (PySem.W.typeIn K (.ref (f8 K)) = some (.type "function"))) = true := (and1 hb4)
  replace hb4 := and2 hb4
  have xt27 : PySem.W.typeIn K (.ref (f8 K)) = some (.type "function") := of_decide_eq_true b_4_0
  have b_4_1 : (xcB K (C24 K)) = true := (and1 hb4)
  replace hb4 := and2 hb4
  have xc24 : xcB K (C24 K) = true := b_4_1
  have b_4_2 : (naB K (C24 K) ["value"]) = true := (and1 hb4)
  replace hb4 := and2 hb4
  have na24 : naB K (C24 K) ["value"] = true := b_4_2
  have b_4_3 : (exlB K (C24 K)) = true := (and1 hb4)
  replace hb4 := and2 hb4
  obtain ⟨_, _, _, _, _, _, _, _, _, _, _, _, _, _, _, xL24, xR24⟩ := exl_ok b_4_3
  have b_4_4 : ((decide (PySem.W.findIn K (.ref (C24 K)) "__setattr__" = some (some (.builtin "object.__setattr__"))) && (decide (PySem.W.subIn K (.ref (C24 K)) (.type "BaseException") = some true) && (decide (PySem.W.typeIn K (.ref (C24 K)) = some (.type "type")) && PySem.W.keepIn K (.ref (C24 K)))))) = true := (and1 hb4)
  replace hb4 := and2 hb4
  have xS24 : (decide (PySem.W.findIn K (.ref (C24 K)) "__setattr__" = some (some (.builtin "object.__setattr__"))) && (decide (PySem.W.subIn K (.ref (C24 K)) (.type "BaseException") = some true) && (decide (PySem.W.typeIn K (.ref (C24 K)) = some (.type "type")) && PySem.W.keepIn K (.ref (C24 K))))) = true := b_4_4
  have b_4_5 : (decide (PySem.W.findIn K (.ref (C24 K)) "__init__" = some (some (.ref (f9 K))))) = true := (and1 hb4)
  replace hb4 := and2 hb4
  have xi24 : PySem.W.findIn K (.ref (C24 K)) "__init__" = some (some (.ref (f9 K))) := of_decide_eq_true b_4_5
  have b_4_6 : (decide (PySem.W.typeIn K (.ref (f9 K)) = some (.type "function"))) = true := (and1 hb4)
  replace hb4 := and2 hb4
  have xt24 : PySem.W.typeIn K (.ref (f9 K)) = some (.type "function") := of_decide_eq_true b_4_6
  have b_4_7 : (xcB K (C20 K)) = true := (and1 hb4)
  replace hb4 := and2 hb4
  have xc20 : xcB K (C20 K) = true := b_4_7
  have b_4_8 : (naB K (C20 K) ["part"]) = true := (and1 hb4)
  replace hb4 := and2 hb4
  have na20 : naB K (C20 K) ["part"] = true := b_4_8
  have b_4_9 : (exlB K (C20 K)) = true := (and1 hb4)
  replace hb4 := and2 hb4
  obtain ⟨_, _, _, _, _, _, _, _, _, _, _, _, _, _, _, xL20, xR20⟩ := exl_ok b_4_9
  have b_4_10 : ((decide (PySem.W.findIn K (.ref (C20 K)) "__setattr__" = some (some (.builtin "object.__setattr__"))) && (decide (PySem.W.subIn K (.ref (C20 K)) (.type "BaseException") = some true) && (decide (PySem.W.typeIn K (.ref (C20 K)) = some (.type "type")) && PySem.W.keepIn K (.ref (C20 K)))))) = true := (and1 hb4)
  replace hb4 := and2 hb4
  have xS20 : (decide (PySem.W.findIn K (.ref (C20 K)) "__setattr__" = some (some (.builtin "object.__setattr__"))) && (decide (PySem.W.subIn K (.ref (C20 K)) (.type "BaseException") = some true) && (decide (PySem.W.typeIn K (.ref (C20 K)) = some (.type "type")) && PySem.W.keepIn K (.ref (C20 K))))) = true := b_4_10
  have b_4_11 : (decide (PySem.W.findIn K (.ref (C20 K)) "__init__" = some (some (.ref (f10 K))))) = true := (and1 hb4)
  replace hb4 := and2 hb4
  have xi20 : PySem.W.findIn K (.ref (C20 K)) "__init__" = some (some (.ref (f10 K))) := of_decide_eq_true b_4_11
  have b_4_12 : (decide (PySem.W.typeIn K (.ref (f10 K)) = some (.type "function"))) = true := (and1 hb4)
  replace hb4 := and2 hb4
  have xt20 : PySem.W.typeIn K (.ref (f10 K)) = some (.type "function") := of_decide_eq_true b_4_12
  have b_4_13 : (xcB K (C6 K)) = true := (and1 hb4)
  replace hb4 := and2 hb4
  have xc6 : xcB K (C6 K) = true := b_4_13
  have b_4_14 : (naB K (C6 K) ["line", "word"]) = true := (and1 hb4)
  replace hb4 := and2 hb4
  have na6 : naB K (C6 K) ["line", "word"] = true := b_4_14
  have b_4_15 : (exlB K (C6 K)) = true := (and1 hb4)
  replace hb4 := and2 hb4
  obtain ⟨_, _, _, _, _, _, _, _, _, _, _, _, _, _, _, xL6, xR6⟩ := exl_ok b_4_15
  have b_4_16 : ((decide (PySem.W.findIn K (.ref (C6 K)) "__setattr__" = some (some (.builtin "object.__setattr__"))) && (decide (PySem.W.subIn K (.ref (C6 K)) (.type "BaseException") = some true) && (decide (PySem.W.typeIn K (.ref (C6 K)) = some (.type "type")) && PySem.W.keepIn K (.ref (C6 K)))))) = true := (and1 hb4)
  replace hb4 := and2 hb4
  have xS6 : (decide (PySem.W.findIn K (.ref (C6 K)) "__setattr__" = some (some (.builtin "object.__setattr__"))) && (decide (PySem.W.subIn K (.ref (C6 K)) (.type "BaseException") = some true) && (decide (PySem.W.typeIn K (.ref (C6 K)) = some (.type "type")) && PySem.W.keepIn K (.ref (C6 K))))) = true := b_4_16
  have b_4_17 : (decide (PySem.W.findIn K (.ref (C6 K)) "__init__" = some (some (.ref (f11 K))))) = true := (and1 hb4)
  replace hb4 := and2 hb4
  have xi6 : PySem.W.findIn K (.ref (C6 K)) "__init__" = some (some (.ref (f11 K))) := of_decide_eq_true b_4_17
  have b_4_18 : (decide (PySem.W.typeIn K (.ref (f11 K)) = some (.type "function"))) = true := (and1 hb4)
  replace hb4 := and2 hb4
  have xt6 : PySem.W.typeIn K (.ref (f11 K)) = some (.type "function") := of_decide_eq_true b_4_18
  have b_4_19 : (xcB K (C30 K)) = true := (and1 hb4)
  replace hb4 := and2 hb4
  have xc30 : xcB K (C30 K) = true := b_4_19
  have b_4_20 : (naB K (C30 K) ["word"]) = true := (and1 hb4)
  replace hb4 := and2 hb4
  have na30 : naB K (C30 K) ["word"] = true := b_4_20
  have b_4_21 : (exlB K (C30 K)) = true := (and1 hb4)
  replace hb4 := and2 hb4
  obtain ⟨_, _, _, _, _, _, _, _, _, _, _, _, _, _, _, xL30, xR30⟩ := exl_ok b_4_21
  have b_4_22 : ((decide (PySem.W.findIn K (.ref (C30 K)) "__setattr__" = some (some (.builtin "object.__setattr__"))) && (decide (PySem.W.subIn K (.ref (C30 K)) (.type "BaseException") = some true) && (decide (PySem.W.typeIn K (.ref (C30 K)) = some (.type "type")) && PySem.W.keepIn K (.ref (C30 K)))))) = true := (and1 hb4)
  replace hb4 := and2 hb4
  have xS30 : (decide (PySem.W.findIn K (.ref (C30 K)) "__setattr__" = some (some (.builtin "object.__setattr__"))) && (decide (PySem.W.subIn K (.ref (C30 K)) (.type "BaseException") = some true) && (decide (PySem.W.typeIn K (.ref (C30 K)) = some (.type "type")) && PySem.W.keepIn K (.ref (C30 K))))) = true := b_4_22
  have b_4_23 : (decide (PySem.W.findIn K (.ref (C30 K)) "__init__" = some (some (.ref (f12 K))))) = true := (and1 hb4)
  replace hb4 := and2 hb4
  have xi30 : PySem.W.findIn K (.ref (C30 K)) "__init__" = some (some (.ref (f12 K))) := of_decide_eq_true b_4_23
  have b_4_24 : (decide (PySem.W.typeIn K (.ref (f12 K)) = some (.type "function"))) = true := hb4
  have xt30 : PySem.W.typeIn K (.ref (f12 K)) = some (.type "function") := of_decide_eq_true b_4_24
  have b_5_0 : (xcB K (C31 K)) = true := (and1 hb5)
  replace hb5 := and2 hb5
  have xc31 : xcB K (C31 K) = true := b_5_0
  have b_5_1 : (naB K (C31 K) ["level", "key"]) = true := (and1 hb5)
  replace hb5 := and2 hb5
  have na31 : naB K (C31 K) ["level", "key"] = true := b_5_1
  have b_5_2 : (exlB K (C31 K)) = true := (and1 hb5)
  replace hb5 := and2 hb5
  obtain ⟨_, _, _, _, _, _, _, _, _, _, _, _, _, _, _, xL31, xR31⟩ := exl_ok b_5_2
  have b_5_3 : ((decide (PySem.W.findIn K (.ref (C31 K)) "__setattr__" = some (some (.builtin "object.__setattr__"))) && (decide (PySem.W.subIn K (.ref (C31 K)) (.type "BaseException") = some true) && (decide (PySem.W.typeIn K (.ref (C31 K)) = some (.type "type")) && PySem.W.keepIn K (.ref (C31 K)))))) = true := (and1 hb5)
  replace hb5 := and2 hb5
  have xS31 : (decide (PySem.W.findIn K (.ref (C31 K)) "__setattr__" = some (some (.builtin "object.__setattr__"))) && (decide (PySem.W.subIn K (.ref (C31 K)) (.type "BaseException") = some true) && (decide (PySem.W.typeIn K (.ref (C31 K)) = some (.type "type")) && PySem.W.keepIn K (.ref (C31 K))))) = true := b_5_3
  have b_5_4 : (decide (PySem.W.findIn K (.ref (C31 K)) "__init__" = some (some (.ref (f13 K))))) = true := (and1 hb5)
  replace hb5 := and2 hb5
  have xi31 : PySem.W.findIn K (.ref (C31 K)) "__init__" = some (some (.ref (f13 K))) := of_decide_eq_true b_5_4
  have b_5_5 : (decide (PySem.W.typeIn K (.ref (f13 K)) = some (.type "function"))) = true := (and1 hb5)
  replace hb5 := and2 hb5
  have xt31 : PySem.W.typeIn K (.ref (f13 K)) = some (.type "function") := of_decide_eq_true b_5_5
  have b_5_6 : (xcB K (C32 K)) = true := (and1 hb5)
  replace hb5 := and2 hb5
  have xc32 : xcB K (C32 K) = true := b_5_6
  have b_5_7 : (naB K (C32 K) ["part"]) = true := (and1 hb5)
  replace hb5 := and2 hb5
  have na32 : naB K (C32 K) ["part"] = true := b_5_7
  have b_5_8 : (exlB K (C32 K)) = true := (and1 hb5)
  replace hb5 := and2 hb5
  obtain ⟨_, _, _, _, _, _, _, _, _, _, _, _, _, _, _, xL32, xR32⟩ := exl_ok b_5_8
  have b_5_9 : ((decide (PySem.W.findIn K (.ref (C32 K)) "__setattr__" = some (some (.builtin "object.__setattr__"))) && (decide (PySem.W.subIn K (.ref (C32 K)) (.type "BaseException") = some true) && (decide (PySem.W.typeIn K (.ref (C32 K)) = some (.type "type")) && PySem.W.keepIn K (.ref (C32 K)))))) = true := (and1 hb5)
  replace hb5 := and2 hb5
  have xS32 : (decide (PySem.W.findIn K (.ref (C32 K)) "__setattr__" = some (some (.builtin "object.__setattr__"))) && (decide (PySem.W.subIn K (.ref (C32 K)) (.type "BaseException") = some true) && (decide (PySem.W.typeIn K (.ref (C32 K)) = some (.type "type")) && PySem.W.keepIn K (.ref (C32 K))))) = true := b_5_9
  have b_5_10 : (decide (PySem.W.findIn K (.ref (C32 K)) "__init__" = some (some (.ref (f14 K))))) = true := (and1 hb5)
  replace hb5 := and2 hb5
  have xi32 : PySem.W.findIn K (.ref (C32 K)) "__init__" = some (some (.ref (f14 K))) := of_decide_eq_true b_5_10
  have b_5_11 : (decide (PySem.W.typeIn K (.ref (f14 K)) = some (.type "function"))) = true := (and1 hb5)
  replace hb5 := and2 hb5
  have xt32 : PySem.W.typeIn K (.ref (f14 K)) = some (.type "function") := of_decide_eq_true b_5_11
  have b_5_12 : (xcB K (C28 K)) = true := (and1 hb5)
  replace hb5 := and2 hb5
  have xc28 : xcB K (C28 K) = true := b_5_12
  have b_5_13 : (naB K (C28 K) ["place"]) = true := (and1 hb5)
  replace hb5 := and2 hb5
  have na28 : naB K (C28 K) ["place"] = true := b_5_13
  have b_5_14 : (exlB K (C28 K)) = true := (and1 hb5)
  replace hb5 := and2 hb5
  obtain ⟨_, _, _, _, _, _, _, _, _, _, _, _, _, _, _, xL28, xR28⟩ := exl_ok b_5_14
  have b_5_15 : ((decide (PySem.W.findIn K (.ref (C28 K)) "__setattr__" = some (some (.builtin "object.__setattr__"))) && (decide (PySem.W.subIn K (.ref (C28 K)) (.type "BaseException") = some true) && (decide (PySem.W.typeIn K (.ref (C28 K)) = some (.type "type")) && PySem.W.keepIn K (.ref (C28 K)))))) = true := (and1 hb5)
  replace hb5 := and2 hb5
  have xS28 : (decide (PySem.W.findIn K (.ref (C28 K)) "__setattr__" = some (some (.builtin "object.__setattr__"))) && (decide (PySem.W.subIn K (.ref (C28 K)) (.type "BaseException") = some true) && (decide (PySem.W.typeIn K (.ref (C28 K)) = some (.type "type")) && PySem.W.keepIn K (.ref (C28 K))))) = true := b_5_15
  have b_5_16 : (decide (PySem.W.findIn K (.ref (C28 K)) "__init__" = some (some (.ref (f15 K))))) = true := (and1 hb5)
  replace hb5 := and2 hb5
  have xi28 : PySem.W.findIn K (.ref (C28 K)) "__init__" = some (some (.ref (f15 K))) := of_decide_eq_true b_5_16
  have b_5_17 : (decide (PySem.W.typeIn K (.ref (f15 K)) = some (.type "function"))) = true := (and1 hb5)
  replace hb5 := and2 hb5
  have xt28 : PySem.W.typeIn K (.ref (f15 K)) = some (.type "function") := of_decide_eq_true b_5_17
  have b_5_18 : (xcB K (C19 K)) = true := (and1 hb5)
  replace hb5 := and2 hb5
  have xc19 : xcB K (C19 K) = true := b_5_18
  have b_5_19 : (naB K (C19 K) ["what", "most"]) = true := (and1 hb5)
  replace hb5 := and2 hb5
  have na19 : naB K (C19 K) ["what", "most"] = true := b_5_19
  have b_5_20 : (exlB K (C19 K)) = true := (and1 hb5)
  replace hb5 := and2 hb5
  obtain ⟨_, _, _, _, _, _, _, _, _, _, _, _, _, _, _, xL19, xR19⟩ := exl_ok b_5_20
  have b_5_21 : ((decide (PySem.W.findIn K (.ref (C19 K)) "__setattr__" = some (some (.builtin "object.__setattr__"))) && (decide (PySem.W.subIn K (.ref (C19 K)) (.type "BaseException") = some true) && (decide (PySem.W.typeIn K (.ref (C19 K)) = some (.type "type")) && PySem.W.keepIn K (.ref (C19 K)))))) = true := (and1 hb5)
  replace hb5 := and2 hb5
  have xS19 : (decide (PySem.W.findIn K (.ref (C19 K)) "__setattr__" = some (some (.builtin "object.__setattr__"))) && (decide (PySem.W.subIn K (.ref (C19 K)) (.type "BaseException") = some true) && (decide (PySem.W.typeIn K (.ref (C19 K)) = some (.type "type")) && PySem.W.keepIn K (.ref (C19 K))))) = true := b_5_21
  have b_5_22 : (decide (PySem.W.findIn K (.ref (C19 K)) "__init__" = some (some (.ref (f16 K))))) = true := (and1 hb5)
  replace hb5 := and2 hb5
  have xi19 : PySem.W.findIn K (.ref (C19 K)) "__init__" = some (some (.ref (f16 K))) := of_decide_eq_true b_5_22
  have b_5_23 : (decide (PySem.W.typeIn K (.ref (f16 K)) = some (.type "function"))) = true := (and1 hb5)
  replace hb5 := and2 hb5
  have xt19 : PySem.W.typeIn K (.ref (f16 K)) = some (.type "function") := of_decide_eq_true b_5_23
  have b_5_24 : (xcB K (C25 K)) = true := hb5
  have xc25 : xcB K (C25 K) = true := b_5_24
  have b_6_0 : (naB K (C25 K) ["place"]) = true := (and1 hb6)
  replace hb6 := and2 hb6
  have na25 : naB K (C25 K) ["place"] = true := b_6_0
  have b_6_1 : (exlB K (C25 K)) = true := (and1 hb6)
  replace hb6 := and2 hb6
  obtain ⟨_, _, _, _, _, _, _, _, _, _, _, _, _, _, _, xL25, xR25⟩ := exl_ok b_6_1
  have b_6_2 : ((decide (PySem.W.findIn K (.ref (C25 K)) "__setattr__" = some (some (.builtin "object.__setattr__"))) && (decide (PySem.W.subIn K (.ref (C25 K)) (.type "BaseException") = some true) && (decide (PySem.W.typeIn K (.ref (C25 K)) = some (.type "type")) && PySem.W.keepIn K (.ref (C25 K)))))) = true := (and1 hb6)
  replace hb6 := and2 hb6
  have xS25 : (decide (PySem.W.findIn K (.ref (C25 K)) "__setattr__" = some (some (.builtin "object.__setattr__"))) && (decide (PySem.W.subIn K (.ref (C25 K)) (.type "BaseException") = some true) && (decide (PySem.W.typeIn K (.ref (C25 K)) = some (.type "type")) && PySem.W.keepIn K (.ref (C25 K))))) = true := b_6_2
  have b_6_3 : (decide (PySem.W.findIn K (.ref (C25 K)) "__init__" = some (some (.ref (f17 K))))) = true := (and1 hb6)
  replace hb6 := and2 hb6
  have xi25 : PySem.W.findIn K (.ref (C25 K)) "__init__" = some (some (.ref (f17 K))) := of_decide_eq_true b_6_3
  have b_6_4 : (decide (PySem.W.typeIn K (.ref (f17 K)) = some (.type "function"))) = true := (and1 hb6)
  replace hb6 := and2 hb6
  have xt25 : PySem.W.typeIn K (.ref (f17 K)) = some (.type "function") := of_decide_eq_true b_6_4
  have b_6_5 : (xcB K (C33 K)) = true := (and1 hb6)
  replace hb6 := and2 hb6
  have xc33 : xcB K (C33 K) = true := b_6_5
  have b_6_6 : (naB K (C33 K) []) = true := (and1 hb6)
  replace hb6 := and2 hb6
  have na33 : naB K (C33 K) [] = true := b_6_6
  have b_6_7 : (PySem.W.excIn K (C33 K) [.type "ValueError", .type "Exception", .type "BaseException", .type "object"] "ValueError.__new__") = true := (and1 hb6)
  replace hb6 := and2 hb6
  have ey33 : PySem.W.excIn K (C33 K) [.type "ValueError", .type "Exception", .type "BaseException", .type "object"] "ValueError.__new__" = true := b_6_7
  have b_6_8 : (PySem.W.keepIn K (.ref (C33 K))) = true := (and1 hb6)
  replace hb6 := and2 hb6
  have ky33 : PySem.W.keepIn K (.ref (C33 K)) = true := b_6_8
  have b_6_9 : (decide (PySem.W.subIn K (.ref (C33 K)) (.type "BaseException") = some true)) = true := (and1 hb6)
  replace hb6 := and2 hb6
  have ez33 : PySem.W.subIn K (.ref (C33 K)) (.type "BaseException") = some true := of_decide_eq_true b_6_9
  have b_6_10 : (decide (PySem.W.typeIn K (.ref (C33 K)) = some (.type "type"))) = true := (and1 hb6)
  replace hb6 := and2 hb6
  have ew33 : PySem.W.typeIn K (.ref (C33 K)) = some (.type "type") := of_decide_eq_true b_6_10
  have b_6_11 : (fnC K (f0 K) "BadCurve.__init__") = true := (and1 hb6)
  replace hb6 := and2 hb6
  obtain ⟨oc0, od0, kV0, dc0, pm0, an0, cd0, ct0, sl0, l0, c0⟩ := fnA_ok e0 b_6_11
  have b_6_12 : (PySem.W.keepIn K (.ref (f0 K))) = true := (and1 hb6)
  replace hb6 := and2 hb6
  have k0 : PySem.W.keepIn K (.ref (f0 K)) = true := b_6_12
  have b_6_13 : (fnC K (f1 K) "BadLevel.__init__") = true := (and1 hb6)
  replace hb6 := and2 hb6
  obtain ⟨oc1, od1, kV1, dc1, pm1, an1, cd1, ct1, sl1, l1, c1⟩ := fnA_ok e1 b_6_13
  have b_6_14 : (PySem.W.keepIn K (.ref (f1 K))) = true := (and1 hb6)
  replace hb6 := and2 hb6
  have k1 : PySem.W.keepIn K (.ref (f1 K)) = true := b_6_14
  have b_6_15 : (fnC K (f2 K) "BadPlace.__init__") = true := (and1 hb6)
  replace hb6 := and2 hb6
  obtain ⟨oc2, od2, kV2, dc2, pm2, an2, cd2, ct2, sl2, l2, c2⟩ := fnA_ok e2 b_6_15
  have b_6_16 : (PySem.W.keepIn K (.ref (f2 K))) = true := (and1 hb6)
  replace hb6 := and2 hb6
  have k2 : PySem.W.keepIn K (.ref (f2 K)) = true := b_6_16
  have b_6_17 : (fnC K (f3 K) "BadKey.__init__") = true := (and1 hb6)
  replace hb6 := and2 hb6
  obtain ⟨oc3, od3, kV3, dc3, pm3, an3, cd3, ct3, sl3, l3, c3⟩ := fnA_ok e3 b_6_17
  have b_6_18 : (PySem.W.keepIn K (.ref (f3 K))) = true := (and1 hb6)
  replace hb6 := and2 hb6
  have k3 : PySem.W.keepIn K (.ref (f3 K)) = true := b_6_18
  have b_6_19 : (fnC K (f4 K) "BadBox.__init__") = true := (and1 hb6)
  replace hb6 := and2 hb6
  obtain ⟨oc4, od4, kV4, dc4, pm4, an4, cd4, ct4, sl4, l4, c4⟩ := fnA_ok e4 b_6_19
  have b_6_20 : (PySem.W.keepIn K (.ref (f4 K))) = true := (and1 hb6)
  replace hb6 := and2 hb6
  have k4 : PySem.W.keepIn K (.ref (f4 K)) = true := b_6_20
  have b_6_21 : (fnC K (f5 K) "BadSpans.__init__") = true := (and1 hb6)
  replace hb6 := and2 hb6
  obtain ⟨oc5, od5, kV5, dc5, pm5, an5, cd5, ct5, sl5, l5, c5⟩ := fnA_ok e5 b_6_21
  have b_6_22 : (PySem.W.keepIn K (.ref (f5 K))) = true := (and1 hb6)
  replace hb6 := and2 hb6
  have k5 : PySem.W.keepIn K (.ref (f5 K)) = true := b_6_22
  have b_6_23 : (fnC K (f6 K) "BadMany.__init__") = true := (and1 hb6)
  replace hb6 := and2 hb6
  obtain ⟨oc6, od6, kV6, dc6, pm6, an6, cd6, ct6, sl6, l6, c6⟩ := fnA_ok e6 b_6_23
  have b_6_24 : (PySem.W.keepIn K (.ref (f6 K))) = true := hb6
  have k6 : PySem.W.keepIn K (.ref (f6 K)) = true := b_6_24
  have b_7_0 : (fnC K (f7 K) "BadRule.__init__") = true := (and1 hb7)
  replace hb7 := and2 hb7
  obtain ⟨oc7, od7, kV7, dc7, pm7, an7, cd7, ct7, sl7, l7, c7⟩ := fnA_ok e7 b_7_0
  have b_7_1 : (PySem.W.keepIn K (.ref (f7 K))) = true := (and1 hb7)
  replace hb7 := and2 hb7
  have k7 : PySem.W.keepIn K (.ref (f7 K)) = true := b_7_1
  have b_7_2 : (fnC K (f8 K) "BadStore.__init__") = true := (and1 hb7)
  replace hb7 := and2 hb7
  obtain ⟨oc8, od8, kV8, dc8, pm8, an8, cd8, ct8, sl8, l8, c8⟩ := fnA_ok e8 b_7_2
  have b_7_3 : (PySem.W.keepIn K (.ref (f8 K))) = true := (and1 hb7)
  replace hb7 := and2 hb7
  have k8 : PySem.W.keepIn K (.ref (f8 K)) = true := b_7_3
  have b_7_4 : (fnC K (f9 K) "BadRow.__init__") = true := (and1 hb7)
  replace hb7 := and2 hb7
  obtain ⟨oc9, od9, kV9, dc9, pm9, an9, cd9, ct9, sl9, l9, c9⟩ := fnA_ok e9 b_7_4
  have b_7_5 : (PySem.W.keepIn K (.ref (f9 K))) = true := (and1 hb7)
  replace hb7 := and2 hb7
  have k9 : PySem.W.keepIn K (.ref (f9 K)) = true := b_7_5
  have b_7_6 : (fnC K (f10 K) "BadBook.__init__") = true := (and1 hb7)
  replace hb7 := and2 hb7
  obtain ⟨oc10, od10, kV10, dc10, pm10, an10, cd10, ct10, sl10, l10, c10⟩ := fnA_ok e10 b_7_6
  have b_7_7 : (PySem.W.keepIn K (.ref (f10 K))) = true := (and1 hb7)
  replace hb7 := and2 hb7
  have k10 : PySem.W.keepIn K (.ref (f10 K)) = true := b_7_7
  have b_7_8 : (fnC K (f11 K) "BadText.__init__") = true := (and1 hb7)
  replace hb7 := and2 hb7
  obtain ⟨oc11, od11, kV11, dc11, pm11, an11, cd11, ct11, sl11, l11, c11⟩ := fnA_ok e11 b_7_8
  have b_7_9 : (PySem.W.keepIn K (.ref (f11 K))) = true := (and1 hb7)
  replace hb7 := and2 hb7
  have k11 : PySem.W.keepIn K (.ref (f11 K)) = true := b_7_9
  have b_7_10 : (fnC K (f12 K) "BadLine.__init__") = true := (and1 hb7)
  replace hb7 := and2 hb7
  obtain ⟨oc12, od12, kV12, dc12, pm12, an12, cd12, ct12, sl12, l12, c12⟩ := fnA_ok e12 b_7_10
  have b_7_11 : (PySem.W.keepIn K (.ref (f12 K))) = true := (and1 hb7)
  replace hb7 := and2 hb7
  have k12 : PySem.W.keepIn K (.ref (f12 K)) = true := b_7_11
  have b_7_12 : (fnC K (f13 K) "Endless.__init__") = true := (and1 hb7)
  replace hb7 := and2 hb7
  obtain ⟨oc13, od13, kV13, dc13, pm13, an13, cd13, ct13, sl13, l13, c13⟩ := fnA_ok e13 b_7_12
  have b_7_13 : (PySem.W.keepIn K (.ref (f13 K))) = true := (and1 hb7)
  replace hb7 := and2 hb7
  have k13 : PySem.W.keepIn K (.ref (f13 K)) = true := b_7_13
  have b_7_14 : (fnC K (f14 K) "Unlike.__init__") = true := (and1 hb7)
  replace hb7 := and2 hb7
  obtain ⟨oc14, od14, kV14, dc14, pm14, an14, cd14, ct14, sl14, l14, c14⟩ := fnA_ok e14 b_7_14
  have b_7_15 : (PySem.W.keepIn K (.ref (f14 K))) = true := (and1 hb7)
  replace hb7 := and2 hb7
  have k14 : PySem.W.keepIn K (.ref (f14 K)) = true := b_7_15
  have b_7_16 : (fnC K (f15 K) "Outside.__init__") = true := (and1 hb7)
  replace hb7 := and2 hb7
  obtain ⟨oc15, od15, kV15, dc15, pm15, an15, cd15, ct15, sl15, l15, c15⟩ := fnA_ok e15 b_7_16
  have b_7_17 : (PySem.W.keepIn K (.ref (f15 K))) = true := (and1 hb7)
  replace hb7 := and2 hb7
  have k15 : PySem.W.keepIn K (.ref (f15 K)) = true := b_7_17
  have b_7_18 : (fnC K (f16 K) "TooMany.__init__") = true := (and1 hb7)
  replace hb7 := and2 hb7
  obtain ⟨oc16, od16, kV16, dc16, pm16, an16, cd16, ct16, sl16, l16, c16⟩ := fnA_ok e16 b_7_18
  have b_7_19 : (PySem.W.keepIn K (.ref (f16 K))) = true := (and1 hb7)
  replace hb7 := and2 hb7
  have k16 : PySem.W.keepIn K (.ref (f16 K)) = true := b_7_19
  have b_7_20 : (fnC K (f17 K) "NoRow.__init__") = true := (and1 hb7)
  replace hb7 := and2 hb7
  obtain ⟨oc17, od17, kV17, dc17, pm17, an17, cd17, ct17, sl17, l17, c17⟩ := fnA_ok e17 b_7_20
  have b_7_21 : (PySem.W.keepIn K (.ref (f17 K))) = true := (and1 hb7)
  replace hb7 := and2 hb7
  have k17 : PySem.W.keepIn K (.ref (f17 K)) = true := b_7_21
  have b_7_22 : (decide (PySem.W.nsIn K mainGlobals "_law_pen" = some (some (.ref (f18 K))))) = true := (and1 hb7)
  replace hb7 := and2 hb7
  have a18 : PySem.W.nsIn K mainGlobals "_law_pen" = some (some (.ref (f18 K))) := of_decide_eq_true b_7_22
  have b_7_23 : (fnC K (f18 K) "_law_pen") = true := (and1 hb7)
  replace hb7 := and2 hb7
  obtain ⟨oc18, od18, kV18, dc18, pm18, an18, cd18, ct18, sl18, l18, c18⟩ := fnA_ok e18 b_7_23
  have b_7_24 : (PySem.W.keepIn K (.ref (f18 K))) = true := hb7
  have k18 : PySem.W.keepIn K (.ref (f18 K)) = true := b_7_24
  have b_8_0 : (decide (PySem.W.nsIn K mainGlobals "_law_draw" = some (some (.ref (f19 K))))) = true := (and1 hb8)
  replace hb8 := and2 hb8
  have a19 : PySem.W.nsIn K mainGlobals "_law_draw" = some (some (.ref (f19 K))) := of_decide_eq_true b_8_0
  have b_8_1 : (fnC K (f19 K) "_law_draw") = true := (and1 hb8)
  replace hb8 := and2 hb8
  obtain ⟨oc19, od19, kV19, dc19, pm19, an19, cd19, ct19, sl19, l19, c19⟩ := fnA_ok e19 b_8_1
  have b_8_2 : (PySem.W.keepIn K (.ref (f19 K))) = true := (and1 hb8)
  replace hb8 := and2 hb8
  have k19 : PySem.W.keepIn K (.ref (f19 K)) = true := b_8_2
  have b_8_3 : (decide (PySem.W.nsIn K mainGlobals "_law_pick" = some (some (.ref (f20 K))))) = true := (and1 hb8)
  replace hb8 := and2 hb8
  have a20 : PySem.W.nsIn K mainGlobals "_law_pick" = some (some (.ref (f20 K))) := of_decide_eq_true b_8_3
  have b_8_4 : (fnC K (f20 K) "_law_pick") = true := (and1 hb8)
  replace hb8 := and2 hb8
  obtain ⟨oc20, od20, kV20, dc20, pm20, an20, cd20, ct20, sl20, l20, c20⟩ := fnA_ok e20 b_8_4
  have b_8_5 : (PySem.W.keepIn K (.ref (f20 K))) = true := (and1 hb8)
  replace hb8 := and2 hb8
  have k20 : PySem.W.keepIn K (.ref (f20 K)) = true := b_8_5
  have b_8_6 : (decide (PySem.W.nsIn K mainGlobals "_law_value" = some (some (.ref (f21 K))))) = true := (and1 hb8)
  replace hb8 := and2 hb8
  have a21 : PySem.W.nsIn K mainGlobals "_law_value" = some (some (.ref (f21 K))) := of_decide_eq_true b_8_6
  have b_8_7 : (fnC K (f21 K) "_law_value") = true := (and1 hb8)
  replace hb8 := and2 hb8
  obtain ⟨oc21, od21, kV21, dc21, pm21, an21, cd21, ct21, sl21, l21, c21⟩ := fnA_ok e21 b_8_7
  have b_8_8 : (PySem.W.keepIn K (.ref (f21 K))) = true := (and1 hb8)
  replace hb8 := and2 hb8
  have k21 : PySem.W.keepIn K (.ref (f21 K)) = true := b_8_8
  have b_8_9 : (decide (PySem.W.nsIn K mainGlobals "_law_signs" = some (some (.ref (f22 K))))) = true := (and1 hb8)
  replace hb8 := and2 hb8
  have a22 : PySem.W.nsIn K mainGlobals "_law_signs" = some (some (.ref (f22 K))) := of_decide_eq_true b_8_9
  have b_8_10 : (fnC K (f22 K) "_law_signs") = true := (and1 hb8)
  replace hb8 := and2 hb8
  obtain ⟨oc22, od22, kV22, dc22, pm22, an22, cd22, ct22, sl22, l22, c22⟩ := fnA_ok e22 b_8_10
  have b_8_11 : (PySem.W.keepIn K (.ref (f22 K))) = true := (and1 hb8)
  replace hb8 := and2 hb8
  have k22 : PySem.W.keepIn K (.ref (f22 K)) = true := b_8_11
  have b_8_12 : (decide (PySem.W.nsIn K mainGlobals "_law_kinds" = some (some (.ref (f23 K))))) = true := (and1 hb8)
  replace hb8 := and2 hb8
  have a23 : PySem.W.nsIn K mainGlobals "_law_kinds" = some (some (.ref (f23 K))) := of_decide_eq_true b_8_12
  have b_8_13 : (fnC K (f23 K) "_law_kinds") = true := (and1 hb8)
  replace hb8 := and2 hb8
  obtain ⟨oc23, od23, kV23, dc23, pm23, an23, cd23, ct23, sl23, l23, c23⟩ := fnA_ok e23 b_8_13
  have b_8_14 : (PySem.W.keepIn K (.ref (f23 K))) = true := (and1 hb8)
  replace hb8 := and2 hb8
  have k23 : PySem.W.keepIn K (.ref (f23 K)) = true := b_8_14
  have b_8_15 : (decide (PySem.W.nsIn K mainGlobals "_law_parts" = some (some (.ref (f24 K))))) = true := (and1 hb8)
  replace hb8 := and2 hb8
  have a24 : PySem.W.nsIn K mainGlobals "_law_parts" = some (some (.ref (f24 K))) := of_decide_eq_true b_8_15
  have b_8_16 : (fnC K (f24 K) "_law_parts") = true := (and1 hb8)
  replace hb8 := and2 hb8
  obtain ⟨oc24, od24, kV24, dc24, pm24, an24, cd24, ct24, sl24, l24, c24⟩ := fnA_ok e24 b_8_16
  have b_8_17 : (PySem.W.keepIn K (.ref (f24 K))) = true := (and1 hb8)
  replace hb8 := and2 hb8
  have k24 : PySem.W.keepIn K (.ref (f24 K)) = true := b_8_17
  have b_8_18 : (decide (PySem.W.nsIn K mainGlobals "_law_pairs_right" = some (some (.ref (f25 K))))) = true := (and1 hb8)
  replace hb8 := and2 hb8
  have a25 : PySem.W.nsIn K mainGlobals "_law_pairs_right" = some (some (.ref (f25 K))) := of_decide_eq_true b_8_18
  have b_8_19 : (fnC K (f25 K) "_law_pairs_right") = true := (and1 hb8)
  replace hb8 := and2 hb8
  obtain ⟨oc25, od25, kV25, dc25, pm25, an25, cd25, ct25, sl25, l25, c25⟩ := fnA_ok e25 b_8_19
  have b_8_20 : (PySem.W.keepIn K (.ref (f25 K))) = true := (and1 hb8)
  replace hb8 := and2 hb8
  have k25 : PySem.W.keepIn K (.ref (f25 K)) = true := b_8_20
  have b_8_21 : (decide (PySem.W.nsIn K mainGlobals "law" = some (some (.ref (f26 K))))) = true := (and1 hb8)
  replace hb8 := and2 hb8
  have a26 : PySem.W.nsIn K mainGlobals "law" = some (some (.ref (f26 K))) := of_decide_eq_true b_8_21
  have b_8_22 : (fnC K (f26 K) "law") = true := (and1 hb8)
  replace hb8 := and2 hb8
  obtain ⟨oc26, od26, kV26, dc26, pm26, an26, cd26, ct26, sl26, l26, c26⟩ := fnA_ok e26 b_8_22
  have b_8_23 : (PySem.W.keepIn K (.ref (f26 K))) = true := (and1 hb8)
  replace hb8 := and2 hb8
  have k26 : PySem.W.keepIn K (.ref (f26 K)) = true := b_8_23
  have b_8_24 : (isoB K (C0 K) [((C0 K), true), ((C1 K), true), ((C18 K), true), ((C23 K), true), ((C8 K), true), ((C2 K), true), ((C10 K), true), ((C12 K), true), ((C3 K), true), ((C15 K), true), ((C4 K), true), ((C29 K), true), ((C27 K), true), ((C24 K), true), ((C20 K), true), ((C6 K), true), ((C30 K), true), ((C31 K), true), ((C32 K), true), ((C28 K), true), ((C19 K), true), ((C25 K), true), ((C33 K), true)]) = true := hb8
  have is0 : isoB K (C0 K) [((C0 K), true), ((C1 K), true), ((C18 K), true), ((C23 K), true), ((C8 K), true), ((C2 K), true), ((C10 K), true), ((C12 K), true), ((C3 K), true), ((C15 K), true), ((C4 K), true), ((C29 K), true), ((C27 K), true), ((C24 K), true), ((C20 K), true), ((C6 K), true), ((C30 K), true), ((C31 K), true), ((C32 K), true), ((C28 K), true), ((C19 K), true), ((C25 K), true), ((C33 K), true)] = true := b_8_24
  have b_9_0 : (isoB K (C1 K) [((C0 K), false), ((C1 K), true), ((C18 K), false), ((C23 K), false), ((C8 K), true), ((C2 K), true), ((C10 K), true), ((C12 K), true), ((C3 K), true), ((C15 K), true), ((C4 K), true), ((C29 K), true), ((C27 K), true), ((C24 K), true), ((C20 K), true), ((C6 K), true), ((C30 K), true), ((C31 K), false), ((C32 K), false), ((C28 K), false), ((C19 K), false), ((C25 K), false), ((C33 K), false)]) = true := (and1 hb9)
  replace hb9 := and2 hb9
  have is1 : isoB K (C1 K) [((C0 K), false), ((C1 K), true), ((C18 K), false), ((C23 K), false), ((C8 K), true), ((C2 K), true), ((C10 K), true), ((C12 K), true), ((C3 K), true), ((C15 K), true), ((C4 K), true), ((C29 K), true), ((C27 K), true), ((C24 K), true), ((C20 K), true), ((C6 K), true), ((C30 K), true), ((C31 K), false), ((C32 K), false), ((C28 K), false), ((C19 K), false), ((C25 K), false), ((C33 K), false)] = true := b_9_0
  have b_9_1 : (isoB K (C2 K) [((C0 K), false), ((C1 K), false), ((C18 K), false), ((C23 K), false), ((C8 K), false), ((C2 K), true), ((C10 K), false), ((C12 K), false), ((C3 K), false), ((C15 K), false), ((C4 K), false), ((C29 K), false), ((C27 K), false), ((C24 K), false), ((C20 K), false), ((C6 K), false), ((C30 K), false), ((C31 K), false), ((C32 K), false), ((C28 K), false), ((C19 K), false), ((C25 K), false), ((C33 K), false)]) = true := (and1 hb9)
  replace hb9 := and2 hb9
  have is2 : isoB K (C2 K) [((C0 K), false), ((C1 K), false), ((C18 K), false), ((C23 K), false), ((C8 K), false), ((C2 K), true), ((C10 K), false), ((C12 K), false), ((C3 K), false), ((C15 K), false), ((C4 K), false), ((C29 K), false), ((C27 K), false), ((C24 K), false), ((C20 K), false), ((C6 K), false), ((C30 K), false), ((C31 K), false), ((C32 K), false), ((C28 K), false), ((C19 K), false), ((C25 K), false), ((C33 K), false)] = true := b_9_1
  have b_9_2 : (isoB K (C3 K) [((C0 K), false), ((C1 K), false), ((C18 K), false), ((C23 K), false), ((C8 K), false), ((C2 K), false), ((C10 K), false), ((C12 K), false), ((C3 K), true), ((C15 K), false), ((C4 K), false), ((C29 K), false), ((C27 K), false), ((C24 K), false), ((C20 K), false), ((C6 K), false), ((C30 K), false), ((C31 K), false), ((C32 K), false), ((C28 K), false), ((C19 K), false), ((C25 K), false), ((C33 K), false)]) = true := (and1 hb9)
  replace hb9 := and2 hb9
  have is3 : isoB K (C3 K) [((C0 K), false), ((C1 K), false), ((C18 K), false), ((C23 K), false), ((C8 K), false), ((C2 K), false), ((C10 K), false), ((C12 K), false), ((C3 K), true), ((C15 K), false), ((C4 K), false), ((C29 K), false), ((C27 K), false), ((C24 K), false), ((C20 K), false), ((C6 K), false), ((C30 K), false), ((C31 K), false), ((C32 K), false), ((C28 K), false), ((C19 K), false), ((C25 K), false), ((C33 K), false)] = true := b_9_2
  have b_9_3 : (isoB K (C4 K) [((C0 K), false), ((C1 K), false), ((C18 K), false), ((C23 K), false), ((C8 K), false), ((C2 K), false), ((C10 K), false), ((C12 K), false), ((C3 K), false), ((C15 K), false), ((C4 K), true), ((C29 K), false), ((C27 K), false), ((C24 K), false), ((C20 K), false), ((C6 K), false), ((C30 K), false), ((C31 K), false), ((C32 K), false), ((C28 K), false), ((C19 K), false), ((C25 K), false), ((C33 K), false)]) = true := (and1 hb9)
  replace hb9 := and2 hb9
  have is4 : isoB K (C4 K) [((C0 K), false), ((C1 K), false), ((C18 K), false), ((C23 K), false), ((C8 K), false), ((C2 K), false), ((C10 K), false), ((C12 K), false), ((C3 K), false), ((C15 K), false), ((C4 K), true), ((C29 K), false), ((C27 K), false), ((C24 K), false), ((C20 K), false), ((C6 K), false), ((C30 K), false), ((C31 K), false), ((C32 K), false), ((C28 K), false), ((C19 K), false), ((C25 K), false), ((C33 K), false)] = true := b_9_3
  have b_9_4 : (isoB K (C6 K) [((C0 K), false), ((C1 K), false), ((C18 K), false), ((C23 K), false), ((C8 K), false), ((C2 K), false), ((C10 K), false), ((C12 K), false), ((C3 K), false), ((C15 K), false), ((C4 K), false), ((C29 K), false), ((C27 K), false), ((C24 K), false), ((C20 K), false), ((C6 K), true), ((C30 K), false), ((C31 K), false), ((C32 K), false), ((C28 K), false), ((C19 K), false), ((C25 K), false), ((C33 K), false)]) = true := (and1 hb9)
  replace hb9 := and2 hb9
  have is6 : isoB K (C6 K) [((C0 K), false), ((C1 K), false), ((C18 K), false), ((C23 K), false), ((C8 K), false), ((C2 K), false), ((C10 K), false), ((C12 K), false), ((C3 K), false), ((C15 K), false), ((C4 K), false), ((C29 K), false), ((C27 K), false), ((C24 K), false), ((C20 K), false), ((C6 K), true), ((C30 K), false), ((C31 K), false), ((C32 K), false), ((C28 K), false), ((C19 K), false), ((C25 K), false), ((C33 K), false)] = true := b_9_4
  have b_9_5 : (isoB K (C8 K) [((C0 K), false), ((C1 K), false), ((C18 K), false), ((C23 K), false), ((C8 K), true), ((C2 K), false), ((C10 K), false), ((C12 K), false), ((C3 K), false), ((C15 K), false), ((C4 K), false), ((C29 K), false), ((C27 K), false), ((C24 K), false), ((C20 K), false), ((C6 K), false), ((C30 K), false), ((C31 K), false), ((C32 K), false), ((C28 K), false), ((C19 K), false), ((C25 K), false), ((C33 K), false)]) = true := (and1 hb9)
  replace hb9 := and2 hb9
  have is8 : isoB K (C8 K) [((C0 K), false), ((C1 K), false), ((C18 K), false), ((C23 K), false), ((C8 K), true), ((C2 K), false), ((C10 K), false), ((C12 K), false), ((C3 K), false), ((C15 K), false), ((C4 K), false), ((C29 K), false), ((C27 K), false), ((C24 K), false), ((C20 K), false), ((C6 K), false), ((C30 K), false), ((C31 K), false), ((C32 K), false), ((C28 K), false), ((C19 K), false), ((C25 K), false), ((C33 K), false)] = true := b_9_5
  have b_9_6 : (isoB K (C10 K) [((C0 K), false), ((C1 K), false), ((C18 K), false), ((C23 K), false), ((C8 K), false), ((C2 K), false), ((C10 K), true), ((C12 K), false), ((C3 K), false), ((C15 K), false), ((C4 K), false), ((C29 K), false), ((C27 K), false), ((C24 K), false), ((C20 K), false), ((C6 K), false), ((C30 K), false), ((C31 K), false), ((C32 K), false), ((C28 K), false), ((C19 K), false), ((C25 K), false), ((C33 K), false)]) = true := (and1 hb9)
  replace hb9 := and2 hb9
  have is10 : isoB K (C10 K) [((C0 K), false), ((C1 K), false), ((C18 K), false), ((C23 K), false), ((C8 K), false), ((C2 K), false), ((C10 K), true), ((C12 K), false), ((C3 K), false), ((C15 K), false), ((C4 K), false), ((C29 K), false), ((C27 K), false), ((C24 K), false), ((C20 K), false), ((C6 K), false), ((C30 K), false), ((C31 K), false), ((C32 K), false), ((C28 K), false), ((C19 K), false), ((C25 K), false), ((C33 K), false)] = true := b_9_6
  have b_9_7 : (isoB K (C12 K) [((C0 K), false), ((C1 K), false), ((C18 K), false), ((C23 K), false), ((C8 K), false), ((C2 K), false), ((C10 K), false), ((C12 K), true), ((C3 K), false), ((C15 K), false), ((C4 K), false), ((C29 K), false), ((C27 K), false), ((C24 K), false), ((C20 K), false), ((C6 K), false), ((C30 K), false), ((C31 K), false), ((C32 K), false), ((C28 K), false), ((C19 K), false), ((C25 K), false), ((C33 K), false)]) = true := (and1 hb9)
  replace hb9 := and2 hb9
  have is12 : isoB K (C12 K) [((C0 K), false), ((C1 K), false), ((C18 K), false), ((C23 K), false), ((C8 K), false), ((C2 K), false), ((C10 K), false), ((C12 K), true), ((C3 K), false), ((C15 K), false), ((C4 K), false), ((C29 K), false), ((C27 K), false), ((C24 K), false), ((C20 K), false), ((C6 K), false), ((C30 K), false), ((C31 K), false), ((C32 K), false), ((C28 K), false), ((C19 K), false), ((C25 K), false), ((C33 K), false)] = true := b_9_7
  have b_9_8 : (isoB K (C15 K) [((C0 K), false), ((C1 K), false), ((C18 K), false), ((C23 K), false), ((C8 K), false), ((C2 K), false), ((C10 K), false), ((C12 K), false), ((C3 K), false), ((C15 K), true), ((C4 K), false), ((C29 K), false), ((C27 K), false), ((C24 K), false), ((C20 K), false), ((C6 K), false), ((C30 K), false), ((C31 K), false), ((C32 K), false), ((C28 K), false), ((C19 K), false), ((C25 K), false), ((C33 K), false)]) = true := (and1 hb9)
  replace hb9 := and2 hb9
  have is15 : isoB K (C15 K) [((C0 K), false), ((C1 K), false), ((C18 K), false), ((C23 K), false), ((C8 K), false), ((C2 K), false), ((C10 K), false), ((C12 K), false), ((C3 K), false), ((C15 K), true), ((C4 K), false), ((C29 K), false), ((C27 K), false), ((C24 K), false), ((C20 K), false), ((C6 K), false), ((C30 K), false), ((C31 K), false), ((C32 K), false), ((C28 K), false), ((C19 K), false), ((C25 K), false), ((C33 K), false)] = true := b_9_8
  have b_9_9 : (isoB K (C18 K) [((C0 K), false), ((C1 K), false), ((C18 K), true), ((C23 K), false), ((C8 K), false), ((C2 K), false), ((C10 K), false), ((C12 K), false), ((C3 K), false), ((C15 K), false), ((C4 K), false), ((C29 K), false), ((C27 K), false), ((C24 K), false), ((C20 K), false), ((C6 K), false), ((C30 K), false), ((C31 K), true), ((C32 K), true), ((C28 K), true), ((C19 K), true), ((C25 K), false), ((C33 K), false)]) = true := (and1 hb9)
  replace hb9 := and2 hb9
  have is18 : isoB K (C18 K) [((C0 K), false), ((C1 K), false), ((C18 K), true), ((C23 K), false), ((C8 K), false), ((C2 K), false), ((C10 K), false), ((C12 K), false), ((C3 K), false), ((C15 K), false), ((C4 K), false), ((C29 K), false), ((C27 K), false), ((C24 K), false), ((C20 K), false), ((C6 K), false), ((C30 K), false), ((C31 K), true), ((C32 K), true), ((C28 K), true), ((C19 K), true), ((C25 K), false), ((C33 K), false)] = true := b_9_9
  have b_9_10 : (isoB K (C19 K) [((C0 K), false), ((C1 K), false), ((C18 K), false), ((C23 K), false), ((C8 K), false), ((C2 K), false), ((C10 K), false), ((C12 K), false), ((C3 K), false), ((C15 K), false), ((C4 K), false), ((C29 K), false), ((C27 K), false), ((C24 K), false), ((C20 K), false), ((C6 K), false), ((C30 K), false), ((C31 K), false), ((C32 K), false), ((C28 K), false), ((C19 K), true), ((C25 K), false), ((C33 K), false)]) = true := (and1 hb9)
  replace hb9 := and2 hb9
  have is19 : isoB K (C19 K) [((C0 K), false), ((C1 K), false), ((C18 K), false), ((C23 K), false), ((C8 K), false), ((C2 K), false), ((C10 K), false), ((C12 K), false), ((C3 K), false), ((C15 K), false), ((C4 K), false), ((C29 K), false), ((C27 K), false), ((C24 K), false), ((C20 K), false), ((C6 K), false), ((C30 K), false), ((C31 K), false), ((C32 K), false), ((C28 K), false), ((C19 K), true), ((C25 K), false), ((C33 K), false)] = true := b_9_10
  have b_9_11 : (isoB K (C20 K) [((C0 K), false), ((C1 K), false), ((C18 K), false), ((C23 K), false), ((C8 K), false), ((C2 K), false), ((C10 K), false), ((C12 K), false), ((C3 K), false), ((C15 K), false), ((C4 K), false), ((C29 K), false), ((C27 K), false), ((C24 K), false), ((C20 K), true), ((C6 K), false), ((C30 K), false), ((C31 K), false), ((C32 K), false), ((C28 K), false), ((C19 K), false), ((C25 K), false), ((C33 K), false)]) = true := (and1 hb9)
  replace hb9 := and2 hb9
  have is20 : isoB K (C20 K) [((C0 K), false), ((C1 K), false), ((C18 K), false), ((C23 K), false), ((C8 K), false), ((C2 K), false), ((C10 K), false), ((C12 K), false), ((C3 K), false), ((C15 K), false), ((C4 K), false), ((C29 K), false), ((C27 K), false), ((C24 K), false), ((C20 K), true), ((C6 K), false), ((C30 K), false), ((C31 K), false), ((C32 K), false), ((C28 K), false), ((C19 K), false), ((C25 K), false), ((C33 K), false)] = true := b_9_11
  have b_9_12 : (isoB K (C23 K) [((C0 K), false), ((C1 K), false), ((C18 K), false), ((C23 K), true), ((C8 K), false), ((C2 K), false), ((C10 K), false), ((C12 K), false), ((C3 K), false), ((C15 K), false), ((C4 K), false), ((C29 K), false), ((C27 K), false), ((C24 K), false), ((C20 K), false), ((C6 K), false), ((C30 K), false), ((C31 K), false), ((C32 K), false), ((C28 K), false), ((C19 K), false), ((C25 K), true), ((C33 K), true)]) = true := (and1 hb9)
  replace hb9 := and2 hb9
  have is23 : isoB K (C23 K) [((C0 K), false), ((C1 K), false), ((C18 K), false), ((C23 K), true), ((C8 K), false), ((C2 K), false), ((C10 K), false), ((C12 K), false), ((C3 K), false), ((C15 K), false), ((C4 K), false), ((C29 K), false), ((C27 K), false), ((C24 K), false), ((C20 K), false), ((C6 K), false), ((C30 K), false), ((C31 K), false), ((C32 K), false), ((C28 K), false), ((C19 K), false), ((C25 K), true), ((C33 K), true)] = true := b_9_12
  have b_9_13 : (isoB K (C24 K) [((C0 K), false), ((C1 K), false), ((C18 K), false), ((C23 K), false), ((C8 K), false), ((C2 K), false), ((C10 K), false), ((C12 K), false), ((C3 K), false), ((C15 K), false), ((C4 K), false), ((C29 K), false), ((C27 K), false), ((C24 K), true), ((C20 K), false), ((C6 K), false), ((C30 K), false), ((C31 K), false), ((C32 K), false), ((C28 K), false), ((C19 K), false), ((C25 K), false), ((C33 K), false)]) = true := (and1 hb9)
  replace hb9 := and2 hb9
  have is24 : isoB K (C24 K) [((C0 K), false), ((C1 K), false), ((C18 K), false), ((C23 K), false), ((C8 K), false), ((C2 K), false), ((C10 K), false), ((C12 K), false), ((C3 K), false), ((C15 K), false), ((C4 K), false), ((C29 K), false), ((C27 K), false), ((C24 K), true), ((C20 K), false), ((C6 K), false), ((C30 K), false), ((C31 K), false), ((C32 K), false), ((C28 K), false), ((C19 K), false), ((C25 K), false), ((C33 K), false)] = true := b_9_13
  have b_9_14 : (isoB K (C25 K) [((C0 K), false), ((C1 K), false), ((C18 K), false), ((C23 K), false), ((C8 K), false), ((C2 K), false), ((C10 K), false), ((C12 K), false), ((C3 K), false), ((C15 K), false), ((C4 K), false), ((C29 K), false), ((C27 K), false), ((C24 K), false), ((C20 K), false), ((C6 K), false), ((C30 K), false), ((C31 K), false), ((C32 K), false), ((C28 K), false), ((C19 K), false), ((C25 K), true), ((C33 K), false)]) = true := (and1 hb9)
  replace hb9 := and2 hb9
  have is25 : isoB K (C25 K) [((C0 K), false), ((C1 K), false), ((C18 K), false), ((C23 K), false), ((C8 K), false), ((C2 K), false), ((C10 K), false), ((C12 K), false), ((C3 K), false), ((C15 K), false), ((C4 K), false), ((C29 K), false), ((C27 K), false), ((C24 K), false), ((C20 K), false), ((C6 K), false), ((C30 K), false), ((C31 K), false), ((C32 K), false), ((C28 K), false), ((C19 K), false), ((C25 K), true), ((C33 K), false)] = true := b_9_14
  have b_9_15 : (isoB K (C27 K) [((C0 K), false), ((C1 K), false), ((C18 K), false), ((C23 K), false), ((C8 K), false), ((C2 K), false), ((C10 K), false), ((C12 K), false), ((C3 K), false), ((C15 K), false), ((C4 K), false), ((C29 K), false), ((C27 K), true), ((C24 K), false), ((C20 K), false), ((C6 K), false), ((C30 K), false), ((C31 K), false), ((C32 K), false), ((C28 K), false), ((C19 K), false), ((C25 K), false), ((C33 K), false)]) = true := (and1 hb9)
  replace hb9 := and2 hb9
  have is27 : isoB K (C27 K) [((C0 K), false), ((C1 K), false), ((C18 K), false), ((C23 K), false), ((C8 K), false), ((C2 K), false), ((C10 K), false), ((C12 K), false), ((C3 K), false), ((C15 K), false), ((C4 K), false), ((C29 K), false), ((C27 K), true), ((C24 K), false), ((C20 K), false), ((C6 K), false), ((C30 K), false), ((C31 K), false), ((C32 K), false), ((C28 K), false), ((C19 K), false), ((C25 K), false), ((C33 K), false)] = true := b_9_15
  have b_9_16 : (isoB K (C28 K) [((C0 K), false), ((C1 K), false), ((C18 K), false), ((C23 K), false), ((C8 K), false), ((C2 K), false), ((C10 K), false), ((C12 K), false), ((C3 K), false), ((C15 K), false), ((C4 K), false), ((C29 K), false), ((C27 K), false), ((C24 K), false), ((C20 K), false), ((C6 K), false), ((C30 K), false), ((C31 K), false), ((C32 K), false), ((C28 K), true), ((C19 K), false), ((C25 K), false), ((C33 K), false)]) = true := (and1 hb9)
  replace hb9 := and2 hb9
  have is28 : isoB K (C28 K) [((C0 K), false), ((C1 K), false), ((C18 K), false), ((C23 K), false), ((C8 K), false), ((C2 K), false), ((C10 K), false), ((C12 K), false), ((C3 K), false), ((C15 K), false), ((C4 K), false), ((C29 K), false), ((C27 K), false), ((C24 K), false), ((C20 K), false), ((C6 K), false), ((C30 K), false), ((C31 K), false), ((C32 K), false), ((C28 K), true), ((C19 K), false), ((C25 K), false), ((C33 K), false)] = true := b_9_16
  have b_9_17 : (isoB K (C29 K) [((C0 K), false), ((C1 K), false), ((C18 K), false), ((C23 K), false), ((C8 K), false), ((C2 K), false), ((C10 K), false), ((C12 K), false), ((C3 K), false), ((C15 K), false), ((C4 K), false), ((C29 K), true), ((C27 K), false), ((C24 K), false), ((C20 K), false), ((C6 K), false), ((C30 K), false), ((C31 K), false), ((C32 K), false), ((C28 K), false), ((C19 K), false), ((C25 K), false), ((C33 K), false)]) = true := (and1 hb9)
  replace hb9 := and2 hb9
  have is29 : isoB K (C29 K) [((C0 K), false), ((C1 K), false), ((C18 K), false), ((C23 K), false), ((C8 K), false), ((C2 K), false), ((C10 K), false), ((C12 K), false), ((C3 K), false), ((C15 K), false), ((C4 K), false), ((C29 K), true), ((C27 K), false), ((C24 K), false), ((C20 K), false), ((C6 K), false), ((C30 K), false), ((C31 K), false), ((C32 K), false), ((C28 K), false), ((C19 K), false), ((C25 K), false), ((C33 K), false)] = true := b_9_17
  have b_9_18 : (isoB K (C30 K) [((C0 K), false), ((C1 K), false), ((C18 K), false), ((C23 K), false), ((C8 K), false), ((C2 K), false), ((C10 K), false), ((C12 K), false), ((C3 K), false), ((C15 K), false), ((C4 K), false), ((C29 K), false), ((C27 K), false), ((C24 K), false), ((C20 K), false), ((C6 K), false), ((C30 K), true), ((C31 K), false), ((C32 K), false), ((C28 K), false), ((C19 K), false), ((C25 K), false), ((C33 K), false)]) = true := (and1 hb9)
  replace hb9 := and2 hb9
  have is30 : isoB K (C30 K) [((C0 K), false), ((C1 K), false), ((C18 K), false), ((C23 K), false), ((C8 K), false), ((C2 K), false), ((C10 K), false), ((C12 K), false), ((C3 K), false), ((C15 K), false), ((C4 K), false), ((C29 K), false), ((C27 K), false), ((C24 K), false), ((C20 K), false), ((C6 K), false), ((C30 K), true), ((C31 K), false), ((C32 K), false), ((C28 K), false), ((C19 K), false), ((C25 K), false), ((C33 K), false)] = true := b_9_18
  have b_9_19 : (isoB K (C31 K) [((C0 K), false), ((C1 K), false), ((C18 K), false), ((C23 K), false), ((C8 K), false), ((C2 K), false), ((C10 K), false), ((C12 K), false), ((C3 K), false), ((C15 K), false), ((C4 K), false), ((C29 K), false), ((C27 K), false), ((C24 K), false), ((C20 K), false), ((C6 K), false), ((C30 K), false), ((C31 K), true), ((C32 K), false), ((C28 K), false), ((C19 K), false), ((C25 K), false), ((C33 K), false)]) = true := (and1 hb9)
  replace hb9 := and2 hb9
  have is31 : isoB K (C31 K) [((C0 K), false), ((C1 K), false), ((C18 K), false), ((C23 K), false), ((C8 K), false), ((C2 K), false), ((C10 K), false), ((C12 K), false), ((C3 K), false), ((C15 K), false), ((C4 K), false), ((C29 K), false), ((C27 K), false), ((C24 K), false), ((C20 K), false), ((C6 K), false), ((C30 K), false), ((C31 K), true), ((C32 K), false), ((C28 K), false), ((C19 K), false), ((C25 K), false), ((C33 K), false)] = true := b_9_19
  have b_9_20 : (isoB K (C32 K) [((C0 K), false), ((C1 K), false), ((C18 K), false), ((C23 K), false), ((C8 K), false), ((C2 K), false), ((C10 K), false), ((C12 K), false), ((C3 K), false), ((C15 K), false), ((C4 K), false), ((C29 K), false), ((C27 K), false), ((C24 K), false), ((C20 K), false), ((C6 K), false), ((C30 K), false), ((C31 K), false), ((C32 K), true), ((C28 K), false), ((C19 K), false), ((C25 K), false), ((C33 K), false)]) = true := (and1 hb9)
  replace hb9 := and2 hb9
  have is32 : isoB K (C32 K) [((C0 K), false), ((C1 K), false), ((C18 K), false), ((C23 K), false), ((C8 K), false), ((C2 K), false), ((C10 K), false), ((C12 K), false), ((C3 K), false), ((C15 K), false), ((C4 K), false), ((C29 K), false), ((C27 K), false), ((C24 K), false), ((C20 K), false), ((C6 K), false), ((C30 K), false), ((C31 K), false), ((C32 K), true), ((C28 K), false), ((C19 K), false), ((C25 K), false), ((C33 K), false)] = true := b_9_20
  have b_9_21 : (isoB K (C33 K) [((C0 K), false), ((C1 K), false), ((C18 K), false), ((C23 K), false), ((C8 K), false), ((C2 K), false), ((C10 K), false), ((C12 K), false), ((C3 K), false), ((C15 K), false), ((C4 K), false), ((C29 K), false), ((C27 K), false), ((C24 K), false), ((C20 K), false), ((C6 K), false), ((C30 K), false), ((C31 K), false), ((C32 K), false), ((C28 K), false), ((C19 K), false), ((C25 K), false), ((C33 K), true)]) = true := (and1 hb9)
  replace hb9 := and2 hb9
  have is33 : isoB K (C33 K) [((C0 K), false), ((C1 K), false), ((C18 K), false), ((C23 K), false), ((C8 K), false), ((C2 K), false), ((C10 K), false), ((C12 K), false), ((C3 K), false), ((C15 K), false), ((C4 K), false), ((C29 K), false), ((C27 K), false), ((C24 K), false), ((C20 K), false), ((C6 K), false), ((C30 K), false), ((C31 K), false), ((C32 K), false), ((C28 K), false), ((C19 K), false), ((C25 K), false), ((C33 K), true)] = true := b_9_21
  have b_9_22 : (isoTB K "ValueError" [((C0 K), true), ((C1 K), true), ((C18 K), true), ((C23 K), true), ((C8 K), true), ((C2 K), true), ((C10 K), true), ((C12 K), true), ((C3 K), true), ((C15 K), true), ((C4 K), true), ((C29 K), true), ((C27 K), true), ((C24 K), true), ((C20 K), true), ((C6 K), true), ((C30 K), true), ((C31 K), true), ((C32 K), true), ((C28 K), true), ((C19 K), true), ((C25 K), true), ((C33 K), true)]) = true := (and1 hb9)
  replace hb9 := and2 hb9
  have isT : isoTB K "ValueError" [((C0 K), true), ((C1 K), true), ((C18 K), true), ((C23 K), true), ((C8 K), true), ((C2 K), true), ((C10 K), true), ((C12 K), true), ((C3 K), true), ((C15 K), true), ((C4 K), true), ((C29 K), true), ((C27 K), true), ((C24 K), true), ((C20 K), true), ((C6 K), true), ((C30 K), true), ((C31 K), true), ((C32 K), true), ((C28 K), true), ((C19 K), true), ((C25 K), true), ((C33 K), true)] = true := b_9_22
  have b_9_23 : (isbB K [(C0 K), (C1 K), (C18 K), (C23 K), (C8 K), (C2 K), (C10 K), (C12 K), (C3 K), (C15 K), (C4 K), (C29 K), (C27 K), (C24 K), (C20 K), (C6 K), (C30 K), (C31 K), (C32 K), (C28 K), (C19 K), (C25 K), (C33 K)]) = true := (and1 hb9)
  replace hb9 := and2 hb9
  have ib : isbB K [(C0 K), (C1 K), (C18 K), (C23 K), (C8 K), (C2 K), (C10 K), (C12 K), (C3 K), (C15 K), (C4 K), (C29 K), (C27 K), (C24 K), (C20 K), (C6 K), (C30 K), (C31 K), (C32 K), (C28 K), (C19 K), (C25 K), (C33 K)] = true := b_9_23
  have b_9_24 : (decide (PySem.W.nsIn K mainGlobals "ValueError" = some none)) = true := hb9
  have z_ValueError : PySem.W.nsIn K mainGlobals "ValueError" = some none := of_decide_eq_true b_9_24
  have b_10_0 : (decide (PySem.W.nsIn K mainGlobals "abs" = some none)) = true := (and1 hb10)
  replace hb10 := and2 hb10
  have z_abs : PySem.W.nsIn K mainGlobals "abs" = some none := of_decide_eq_true b_10_0
  have b_10_1 : (decide (PySem.W.nsIn K mainGlobals "int" = some none)) = true := (and1 hb10)
  replace hb10 := and2 hb10
  have z_int : PySem.W.nsIn K mainGlobals "int" = some none := of_decide_eq_true b_10_1
  have b_10_2 : (decide (PySem.W.nsIn K mainGlobals "isinstance" = some none)) = true := (and1 hb10)
  replace hb10 := and2 hb10
  have z_isinstance : PySem.W.nsIn K mainGlobals "isinstance" = some none := of_decide_eq_true b_10_2
  have b_10_3 : (decide (PySem.W.nsIn K mainGlobals "len" = some none)) = true := (and1 hb10)
  replace hb10 := and2 hb10
  have z_len : PySem.W.nsIn K mainGlobals "len" = some none := of_decide_eq_true b_10_3
  have b_10_4 : (decide (PySem.W.nsIn K mainGlobals "list" = some none)) = true := (and1 hb10)
  replace hb10 := and2 hb10
  have z_list : PySem.W.nsIn K mainGlobals "list" = some none := of_decide_eq_true b_10_4
  have b_10_5 : (decide (PySem.W.nsIn K mainGlobals "range" = some none)) = true := (and1 hb10)
  replace hb10 := and2 hb10
  have z_range : PySem.W.nsIn K mainGlobals "range" = some none := of_decide_eq_true b_10_5
  have b_10_6 : (decide (PySem.W.nsIn K mainGlobals "repr" = some none)) = true := hb10
  have z_repr : PySem.W.nsIn K mainGlobals "repr" = some none := of_decide_eq_true b_10_6
  exact all_mk X G hfl aC0 aC1 aC18 aC23 aC8 aC2 aC10 aC12 aC3 aC15 aC4 aC29 aC27 aC24 aC20 aC6 aC30 aC31 aC32 aC28 aC19 aC25 aC33 xc0 na0 ey0 ky0 ez0 ew0 xc1 na1 ey1 ky1 ez1 ew1 xc18 na18 ey18 ky18 ez18 ew18 xc23 na23 ey23 ky23 ez23 ew23 xc8 na8 xL8 xR8 xS8 xi8 xt8 xc2 na2 xL2 xR2 xS2 xi2 xt2 xc10 na10 xL10 xR10 xS10 xi10 xt10 xc12 na12 xL12 xR12 xS12 xi12 xt12 xc3 na3 xL3 xR3 xS3 xi3 xt3 xc15 na15 xL15 xR15 xS15 xi15 xt15 xc4 na4 xL4 xR4 xS4 xi4 xt4 xc29 na29 xL29 xR29 xS29 xi29 xt29 xc27 na27 xL27 xR27 xS27 xi27 xt27 xc24 na24 xL24 xR24 xS24 xi24 xt24 xc20 na20 xL20 xR20 xS20 xi20 xt20 xc6 na6 xL6 xR6 xS6 xi6 xt6 xc30 na30 xL30 xR30 xS30 xi30 xt30 xc31 na31 xL31 xR31 xS31 xi31 xt31 xc32 na32 xL32 xR32 xS32 xi32 xt32 xc28 na28 xL28 xR28 xS28 xi28 xt28 xc19 na19 xL19 xR19 xS19 xi19 xt19 xc25 na25 xL25 xR25 xS25 xi25 xt25 xc33 na33 ey33 ky33 ez33 ew33 l0 c0 k0 l1 c1 k1 l2 c2 k2 l3 c3 k3 l4 c4 k4 l5 c5 k5 l6 c6 k6 l7 c7 k7 l8 c8 k8 l9 c9 k9 l10 c10 k10 l11 c11 k11 l12 c12 k12 l13 c13 k13 l14 c14 k14 l15 c15 k15 l16 c16 k16 l17 c17 k17 a18 l18 c18 k18 a19 l19 c19 k19 a20 l20 c20 k20 a21 l21 c21 k21 a22 l22 c22 k22 a23 l23 c23 k23 a24 l24 c24 k24 a25 l25 c25 k25 a26 l26 c26 k26 is0 is1 is2 is3 is4 is6 is8 is10 is12 is15 is18 is19 is20 is23 is24 is25 is27 is28 is29 is30 is31 is32 is33 isT ib z_ValueError z_abs z_int z_isinstance z_len z_list z_range z_repr
end LW
open PySem PySem.W PyProof.Rows in
set_option maxRecDepth 100000 in
set_option maxHeartbeats 0 in
theorem PySem.Challenge.cw_curveboxes_k01_errors_and_their_fields_holds : PySem.Challenge.rw_curveboxes_k01_errors_and_their_fields.Holds := by
  w_on; o_law
  refine HandSHeadRun.head_any (r := OpenLaw.row PySem.Challenge.rw_curveboxes_k01_errors_and_their_fields) (q := LW.qv) (H := PP.hookP 6 LW.HOk LW.Ov) (ob := PP.obP 6 LW.HOk) (M := 40000) (loose := LW.loose) (d := HandSHeadRun.topDef (OpenLaw.row PySem.Challenge.rw_curveboxes_k01_errors_and_their_fields).prog 33) (kwd := []) PP.obP_eq
    (by kernel_rfl) (fun s => by kernel_rfl) LW.run (by kernel_rfl) (by kernel_rfl) (by kernel_rfl) (by rfl) (by first | assumption | decide +kernel) (by decide +kernel) ⟨rfl, rfl, rfl, rfl, rfl, by decide +kernel⟩ ?hw ?hc
  case hw => w_witness2
  case hc =>
    refine PP.law_walkE (l := PySem.Challenge.rw_curveboxes_k01_errors_and_their_fields) (n := 63) (k := 50) (F := LW.HOk) (val := LW.Ov) (sp := fun K => PP.spF (LW.tb K) (PP.calls LW.fs 10) 508 1) (x := "_law_script") LW.lamN rfl (by decide) (by kernel_rfl) ⟨rfl, by decide, by decide⟩ ?Q ?L ?F (PP.law_sp (T := LW.tb) (cs := PP.csOf LW.lamN) (fun _ => rfl) (fun K => PP.cs_tt) LW.law_true)
    case Q => kernel_rfl
    case L => intro w K o; exact congrArg (fun z => z.2.getD 11 false) o
    case F =>
      intro w mg fa h K KX o G hmg0
      have hmg : mg ("law" : PySem.Str) = some (.ref fa) := by
        have e : (HandSHeadRun.topDef (OpenLaw.row PySem.Challenge.rw_curveboxes_k01_errors_and_their_fields).prog 33).name = ("law" : PySem.Str) := by kernel_rfl
        rw [← e]
        exact hmg0
      exact LW.mk KX G hmg o
