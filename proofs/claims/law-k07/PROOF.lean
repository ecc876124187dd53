import PyProof.Rows.All
import Wide.All
import OpenK.AllK
import Wide.FinOn
import HandS.Base
import HandS.Call
import HandS.List
import HandS.Comp
import HandS.Ends
import HandS.Exc
import HandS.ExcOwn
import HandS.Text
import HandS.Lambda
import HandS.EndTab
import HandS.ExcInit
import HandS.ExcField
import HandS.Wide
import HandS.WideBits
import HandS.Flow
import HandS.Dict
import HandS.IsInst
import HandS.RaiseMore
import PyProof.ReprRoads
import HandS.Words
import HandS.WordsExc
import KE.KNestM
import HandS.Style
import HandS.Iter
import HandS.Zip
import HandS.Deep
import HandS.FStr
import HandS.Star
import HandS.Codes
import HandS.ExcIs
import HandS.SlotsOwn
import KE.KOpsOwn
import HandS.Property
import PyProof.InstNe
import HandS.ExcValue
import HandS.ClsMeth
import HandS.MakeKw
import KE.KCallOwn
import PySem.Challenge.RW_curveboxes_k07_boxes_refused
set_option Elab.async false
set_option linter.all false
set_option maxRecDepth 100000
section
/-! Pure data, the small syntax, its interpreter. -/
namespace PP
open PySem L2

inductive D where
  | non | bl (b : Bool) | int (i : Int) | str (s : Str)
  | lst (xs : List D) | tup (xs : List D) | kst (xs : List D)
  | dK (ks : List Key) (vs : List D) | dT (ks : List (List Key)) (vs : List D)
  | obj (c : Nat) (ks : List Nat) (vs : List D)
  | cls (c : Nat)
  | err (c : Nat) (ks : List Nat) (vs : List D)

/-- as plain data; none where a dict or an object is within -/
inductive O2 where
  | add | sub | mul | fdiv | mod | pow | shl | shr | band | bor | bxor | lt | le | gt | ge | eq | ne | isin | notin | is | isnot
inductive O1 where
  | neg | inv
inductive B where
  | len | int | abs | list | tuple | repr | str | isInt | isBool | isTuple | isList | isStr | max2 | min2 | bool
  | all | any | sum | maxL | minL | sorted | isLT | zipL | split | join | index | strIx
mutual
inductive Tg where
  | nm (i : Nat) | tup (ts : Tgs)
inductive Tgs where
  | nil | cons (t : Tg) (ts : Tgs)
end
mutual
inductive Ex where
  | var (i : Nat)
  | cst (d : D)
  | op2 (o : O2) (a b : Ex)
  | op1 (o : O1) (a : Ex)
  | chain (o p : O2) (a b c : Ex)
  | and (a b : Ex) | or (a b : Ex) | not (a : Ex)
  | ife (c a b : Ex)
  | tup (es : Exs) | lst (es : Exs) | dic
  | call (f : Nat) (ms : List Bool) (es : Exs)
  | callP (f : Nat) (ms : List Bool) (pm : List Nat) (es : Exs)
  | bi (b : B) (es : Exs)
  | ix (a i : Ex)
  | slice (a : Ex) (bl bh : Bool) (lo hi : Ex)
  | fld (a : Ex) (k : Nat)
  | opo (o : O2) (cs ts : List Nat) (a b : Ex)
  | callD (f : Nat) (ms : List Bool) (es : Exs) (ds : List D)
  | mk (c : Nat) (ms : List Bool) (es : Exs) (ds : List D)
  | mth (io : Bool) (a : Ex) (m : Nat) (cs : List Nat) (ms : List Bool) (es : Exs) (ds : List D)
  | isObj (cs : List Nat) (a : Ex)
  | prp (a : Ex) (m : Nat) (cs : List Nat)
  | ino (neg : Bool) (cs : List Nat) (a b : Ex)
  | neo (cs : List Nat) (a b : Ex)
  | lc (vs : List Nat) (tg : Tg) (it : It) (hc : Bool) (c e : Ex)
  | popI (i : Nat) (e : Ex)
  | bm (b : B) (o e : Ex)
  | lenO (cs : List Nat) (a : Ex)
  | fstr (es : Exs)
  | strO (cs : List Nat) (a : Ex)
  | mkP (c : Nat) (pm : List Nat) (es : Exs)
  | mkEP (c : Nat) (ks : List Nat) (pm : List Nat) (es : Exs)
  | mkE (c : Nat) (ks : List Nat) (es : Exs)
  | heard (f : Nat) (vs : List Nat) (e : Ex)
  | heardK (f : Nat) (vs : List Nat) (e : Ex)
  | ask (i : Nat)
inductive Exs where
  | nil | cons (e : Ex) (es : Exs) | star (e : Ex) (es : Exs)
inductive It where
  | seq (e : Ex) | rng (lo hi : Ex) | down (lo hi : Ex) | enum (e : Ex) | zip (a b : Ex) | str (e : Ex)
end
mutual
inductive S where
  | asg (i : Nat) (e : Ex)
  | setI (i : Nat) (x e : Ex)
  | app (i : Nat) (e : Ex)
  | aug (i : Nat) (o : O2) (e : Ex)
  | ex (e : Ex)
  | iff (c : Ex) (a b : Ss)
  | forr (i : Nat) (n : Ex) (b : Ss)
  | forl (i : Nat) (l : Ex) (b : Ss)
  | whil (c : Ex) (b : Ss)
  | ret (e : Ex) | retN | pass | brk | cont | never
  | par (is : List Nat) (es : Exs)
  | unp (is : List Nat) (e : Ex)
  | setF (i : Nat) (cs : List Nat) (k : Nat) (e : Ex)
  | fort (tg : Tg) (it : It) (b : Ss)
  | raise (c : Nat) (ks : List Nat) (es : Exs)
  | tryC (b : Ss) (cs : List Nat) (i j : Nat)
inductive Ss where
  | nil | cons (s : S) (r : Ss)
end

inductive Sl where
  | un | fz (d : D) | ow (d : D) | io (d : D) | fn
abbrev Env := List Sl
inductive U where
  | d (x : D) | sl (i : Nat) | nw (x : D)
abbrev Exn := Nat × List Nat × List D
inductive R (α : Type) where
  | ok (a : α) (env : Env) | exc (x : Exn) (env : Env) | bad
def R.bind {α β : Type} (r : R α) (f : α → Env → R β) : R β := match r with
  | .ok a env => f a env
  | .exc x env => .exc x env
  | .bad => .bad
@[simp] theorem R.bind_ok {α β : Type} (a : α) (env : Env) (f : α → Env → R β) : (R.ok a env).bind f = f a env := rfl
@[simp] theorem R.bind_exc {α β : Type} (x : Exn) (env : Env) (f : α → Env → R β) : (R.exc x env : R α).bind f = .exc x env := rfl
@[simp] theorem R.bind_bad {α β : Type} (f : α → Env → R β) : (R.bad : R α).bind f = .bad := rfl
def orBad {α β : Type} (o : Option α) (f : α → R β) : R β := match o with
  | some a => f a
  | none => .bad
@[simp] theorem orBad_some {α β : Type} (a : α) (f : α → R β) : orBad (some a) f = f a := rfl
@[simp] theorem orBad_none {α β : Type} (f : α → R β) : orBad (none : Option α) f = .bad := rfl

def getS (env : Env) (i : Nat) : Sl := env.getD i .un
def rdS : Sl → Option D
  | .fz d => some d | .ow d => some d | .io d => some d | .un => none | .fn => none
def rdU (env : Env) : U → Option D
  | .d x => some x | .nw x => some x | .sl i => rdS (getS env i)
def rdAll (env : Env) : List U → Option (List D)
  | [] => some []
  | u :: us => match rdU env u, rdAll env us with
    | some d, some ds => some (d :: ds)
    | _, _ => none
def pend : U → U
  | .nw x => .d x | u => u
/-- take a value for good: an owned list is owned no more -/
def fzU (env : Env) : U → Option (D × Env)
  | .d x => some (x, env) | .nw x => some (x, env)
  | .sl i => match getS env i with
    | .fz d => some (d, env) | .ow d => some (d, env.set i (.fz d)) | _ => none

/-! ### values -/
def LIM : Nat := 100000
def truD : D → Option Bool
  | .non => some false | .bl b => some b | .int i => some (i != 0)
  | .str s => if s.length ≤ LIM then some ((s.length : Int) != 0) else none
  | .lst xs => some (!xs.isEmpty) | .tup xs => some (!xs.isEmpty) | .kst xs => some (!xs.isEmpty)
  | .dK ks _ => some (!ks.isEmpty) | _ => none
mutual
def toPy : D → Option PyData
  | .non => some .none | .bl b => some (.bool b) | .int i => some (.int i) | .str s => some (.str s)
  | .lst xs => (toPyAll xs).map .list | .tup xs => (toPyAll xs).map .tuple | .kst xs => (toPyAll xs).map .list
  | _ => none
def toPyAll : List D → Option (List PyData)
  | [] => some []
  | d :: ds => match toPy d, toPyAll ds with
    | some p, some ps => some (p :: ps)
    | _, _ => none
end
def eqP (x y : D) : Option Bool := match toPy x, toPy y with
  | some p, some q => if SeqAt.shaped p && SeqAt.shaped q then some (PyData.eqv p q) else none
  | _, _ => none
def eqD (x y : D) : Option Bool := match x, y with
  | .str a, .str b => some (decide (a = b))
  | x, y => eqP x y
/-- x in a list of data -/
def inD (x : D) (ys : List D) : Option D := match toPy x, toPyAll ys with
  | some p, some ps => if SeqAt.shaped p && SeqAt.shaped (.list ps) then some (.bl (ps.any fun z => PyData.eqv z p)) else none
  | _, _ => none
/-- one sign in a text -/
def inS (x y : Str) : Option D := match x.cps.toList with
  | [c] => some (.bl (decide (c ∈ y.cps.toList)))
  | _ => none
def bnd64 (i : Int) : Bool := decide (-(2 ^ 64) < i) && decide (i < 2 ^ 64)
def mulOk (i j : Int) : Bool := bnd64 i || bnd64 j || decide (i.natAbs.log2 + j.natAbs.log2 < 1000000)
def divOk (j : Int) : Bool := decide (0 < j) && decide (j.natAbs.log2 < 9000)
def shlOk (i j : Int) : Bool := decide (0 ≤ j) && decide (j ≤ 1000000) && decide (i.natAbs.log2 < 1000000)
def powOk (i j : Int) : Bool := decide (0 ≤ j) && decide (j ≤ 1000000) && decide (i.natAbs < 2 ^ 64)
def op2 : O2 → D → D → Option D
  | .add, .int i, .int j => some (.int (i + j))
  | .add, .lst xs, .lst ys => if xs.length + ys.length ≤ LIM then some (.lst (xs ++ ys)) else none
  | .add, .str x, .str y => if x.length + y.length ≤ LIM then some (.str (x ++ y)) else none
  | .sub, .int i, .int j => some (.int (i - j))
  | .mul, .int i, .int j => if mulOk i j then some (.int (i * j)) else none
  | .mul, .lst xs, .int j => if decide (0 ≤ j) && decide (j ≤ 1000) && decide (xs.length * j.toNat ≤ LIM) then some (.lst (List.replicate j.toNat xs).flatten) else none
  | .fdiv, .int i, .int j => if divOk j then some (.int (i / j)) else none
  | .mod, .int i, .int j => if 0 < j then some (.int (i % j)) else none
  | .pow, .int i, .int j => if powOk i j then some (.int (i ^ j.toNat)) else none
  | .shl, .int i, .int j => if shlOk i j then some (.int (i * 2 ^ j.toNat)) else none
  | .shr, .int i, .int j => if 0 ≤ j then some (.int (i / 2 ^ j.toNat)) else none
  | .band, .int i, .int j => some (.int (Builtin.bitAnd i j))
  | .bor, .int i, .int j => some (.int (Builtin.bitOr i j))
  | .bxor, .int i, .int j => some (.int (Builtin.bitXor i j))
  | .lt, .int i, .int j => some (.bl (decide (i < j)))
  | .le, .int i, .int j => some (.bl (decide (i ≤ j)))
  | .gt, .int i, .int j => some (.bl (decide (j < i)))
  | .ge, .int i, .int j => some (.bl (decide (j ≤ i)))
  | .eq, x, y => (eqD x y).map .bl
  | .ne, x, y => (eqD x y).map fun b => .bl (!b)
  | .isin, x, .lst ys => inD x ys
  | .isin, x, .kst ys => inD x ys
  | .isin, .str x, .str y => inS x y
  | .notin, x, .lst ys => (inD x ys).map fun d => match d with | .bl b => .bl (!b) | d => d
  | .notin, x, .kst ys => (inD x ys).map fun d => match d with | .bl b => .bl (!b) | d => d
  | .is, x, .non => some (.bl (match x with | .non => true | _ => false))
  | .isnot, x, .non => some (.bl (match x with | .non => false | _ => true))
  | .is, x, .bl b => some (.bl (match x with | .bl c => b == c | _ => false))
  | .isnot, x, .bl b => some (.bl (match x with | .bl c => !(b == c) | _ => true))
  | _, _, _ => none
def op1 : O1 → D → Option D
  | .neg, .int i => some (.int (-i))
  | .inv, .int i => some (.int (Builtin.bitNot i))
  | _, _ => none
def cutD (xs : List D) (lo hi : Option Int) : List D := (xs.drop (HT.sIx xs.length 0 lo)).take (HT.sIx xs.length xs.length hi - HT.sIx xs.length 0 lo)
/-- the item at an int -/
def atD (xs : List D) (i : Int) : Option D := atI xs i
def ixD : D → D → Option D
  | .lst xs, .int i => atI xs i
  | .tup xs, .int i => atI xs i
  | .kst xs, .int i => atI xs i
  | .str z, .int i => if z.length ≤ LIM then (atI z.cps.toList i).map fun c => .str ⟨#[c]⟩ else none
  | _, _ => none
def blsD : List D → Option (List Bool)
  | [] => some []
  | .bl b :: r => (blsD r).map (b :: ·)
  | _ => none
def intsD : List D → Option (List Int)
  | [] => some []
  | .int b :: r => (intsD r).map (b :: ·)
  | _ => none
def strsD : List D → Option (List Str)
  | [] => some []
  | .str b :: r => (strsD r).map (b :: ·)
  | _ => none
/-- the place of x in a list of data -/
def indexP (p : PyData) : List PyData → Nat → Option Nat
  | [], _ => none
  | z :: r, j => if PyData.eqv z p then some j else indexP p r (j + 1)
def indexD (x : D) (ys : List D) : Option D := match toPy x, toPyAll ys with
  | some p, some ps => if SeqAt.shaped p && SeqAt.shaped (.list ps) then (indexP p ps 0).map fun (j : Nat) => .int j else none
  | _, _ => none
/-- built-in functions: what they give (fresh lists come as .nw) -/
def biD : B → List D → Option D
  | .len, [.lst xs] => some (.int xs.length)
  | .len, [.tup xs] => some (.int xs.length)
  | .len, [.kst xs] => some (.int xs.length)
  | .len, [.str x] => if x.length ≤ LIM then some (.int x.length) else none
  | .tuple, [.lst xs] => some (.tup xs)
  | .tuple, [.kst xs] => some (.tup xs)
  | .tuple, [.tup xs] => some (.tup xs)
  | .str, [.int i] => if decide (i.natAbs.log2 < 1920) then some (.str (toString i)) else none
  | .int, [.str x] => if x.length ≤ 640 then (PySem.intText? x).map .int else none
  | .all, [.lst xs] => (blsD xs).map fun bs => .bl (bs.all id)
  | .any, [.lst xs] => (blsD xs).map fun bs => .bl (bs.any id)
  | .isLT, [x] => match x with | .obj _ _ _ => none | .cls _ => none | .err _ _ _ => none | .lst _ => some (.bl true) | .kst _ => some (.bl true) | .tup _ => some (.bl true) | _ => some (.bl false)
  | .split, [.str x, .str y] => if x.length ≤ LIM && !(y.length == 0) then some (.lst ((Txt.split x y).map .str)) else none
  | .join, [.str x, .lst ys] => (strsD ys).bind fun zs => if (zs.map (·.length)).sum + zs.length * x.length ≤ LIM then some (.str (Txt.join x zs)) else none
  | .index, [.lst xs, x] => indexD x xs
  | .index, [.kst xs, x] => indexD x xs
  | .sum, [.lst xs] => (intsD xs).map fun ns => .int ns.sum
  | .maxL, [.lst xs] => (intsD xs).bind fun ns => ns.max?.map .int
  | .minL, [.lst xs] => (intsD xs).bind fun ns => ns.min?.map .int
  | .zipL, [.lst xs, .lst ys] => if xs.length ≤ LIM then some (.lst ((xs.zip ys).map fun p => .tup [p.1, p.2])) else none
  | .int, [.int i] => some (.int i)
  | .int, [.bl b] => some (.int (if b then 1 else 0))
  | .bool, [.bl b] => some (.bl b)
  | .bool, [.int i] => some (.bl (i != 0))
  | .abs, [.int i] => some (.int (if i < 0 then -i else i))
  | .max2, [.int i, .int j] => some (.int (if j > i then j else i))
  | .min2, [.int i, .int j] => some (.int (if j < i then j else i))
  | .list, [.lst xs] => some (.lst xs)
  | .list, [.tup xs] => some (.lst xs)
  | .list, [.kst xs] => some (.lst xs)
  | .isInt, [x] => match x with | .cls _ => none | .int _ => some (.bl true) | .bl _ => some (.bl true) | _ => some (.bl false)
  | .isBool, [x] => match x with | .cls _ => none | .bl _ => some (.bl true) | _ => some (.bl false)
  | .isTuple, [x] => match x with | .cls _ => none | .tup _ => some (.bl true) | _ => some (.bl false)
  | .isList, [x] => match x with | .cls _ => none | .lst _ => some (.bl true) | .kst _ => some (.bl true) | _ => some (.bl false)
  | .isStr, [x] => match x with | .cls _ => none | .str _ => some (.bl true) | _ => some (.bl false)
  | .repr, [x] => match toPy x with
    | some p => if p.showable && !p.hasDict && decide (p.shown.length ≤ LIM) && decide (p.depth ≤ 64) then some (.str p.shown) else none
    | none => none
  | _, _ => none

/-! ### the interpreter -/
inductive Ar where
  | fz (d : D) | io (d : D)
inductive RC where
  | ok (r : U) (outs : List D) | exc (x : Exn) (outs : List D) | bad
abbrev CallF := Nat → List Ar → RC
/-- the arguments of a call, once all are evaluated -/
def argsOf (env : Env) : List Bool → List U → Option (List Ar)
  | [], [] => some []
  | false :: ms, .d x :: us => (argsOf env ms us).map (.fz x :: ·)
  | true :: ms, .sl i :: us => match getS env i with
    | .ow d => (argsOf env ms us).map (.io d :: ·)
    | .io d => (argsOf env ms us).map (.io d :: ·)
    | _ => none
  | _, _ => none
/-- the slots that a call may change -/
def ioSlots : List U → List Nat
  | [] => []
  | .sl i :: us => i :: ioSlots us
  | _ :: us => ioSlots us
def setIO (s : Sl) (d : D) : Sl := match s with
  | .ow _ => .ow d | .io _ => .io d | s => s
def putIO (env : Env) : List Nat → List D → Env
  | i :: is, d :: ds => putIO (env.set i (setIO (getS env i) d)) is ds
  | _, _ => env
def dupFree : List Nat → Bool
  | [] => true
  | i :: is => !is.contains i && dupFree is

/-- in another order -/
def permL {α : Type} (pm : List Nat) (xs : List α) : List α := pm.filterMap fun i => xs[i]?
/-- a bound of a slice -/
def partD (u : U) (env : Env) : R (Option Int) := orBad (rdU env u) fun d => match d with
  | .int i => .ok (some i) env
  | _ => .bad
def optP (b : Bool) (f : Env → R U) (env : Env) : R (Option Int) := match b with
  | true => (f env).bind partD
  | false => .ok none env
/-- a def's call, once its arguments stand -/
def runC (cl : CallF) (f : Nat) (ms : List Bool) (us : List U) (env : Env) : R U := orBad (argsOf env ms us) fun as =>
  if dupFree (ioSlots us) then match cl f as with
    | .ok r outs => .ok r (putIO env (ioSlots us) outs)
    | .exc x outs => .exc x (putIO env (ioSlots us) outs)
    | .bad => .bad
  else .bad
/-- the number of a class's special thing -/
def spec (c m : Nat) : Nat := 1000 + 1000 * c + m
def opc : O2 → Nat
  | .add => 1 | .sub => 2 | .mul => 3 | .fdiv => 4 | .mod => 5 | .pow => 6 | .shl => 7 | .shr => 8 | .band => 9 | .bor => 10 | .bxor => 11 | .lt => 12 | .le => 13 | .gt => 14 | .ge => 15 | .eq => 16 | .ne => 16 | .isin => 17 | .notin => 17 | .is => 18 | .isnot => 18
def fldD : List Nat → List D → Nat → Option D
  | k :: ks, v :: vs, j => if k = j then some v else fldD ks vs j
  | _, _, _ => none
def putD : List Nat → List D → Nat → D → List Nat × List D
  | k :: ks, v :: vs, j, x => if k = j then (k :: ks, x :: vs) else (k :: (putD ks vs j x).1, v :: (putD ks vs j x).2)
  | _, _, j, x => ([j], [x])
def fldOf : D → Nat → Option D
  | .obj _ ks vs, j => fldD ks vs j
  | .err _ ks vs, j => fldD ks vs j
  | _, _ => none
/-- who takes a method's call: its class, how it is handed in -/
def recvU (io : Bool) (env : Env) (u : U) : Option (Nat × U × Env) := match io with
  | true => match u with
    | .sl i => match getS env i with
      | .ow (.obj c _ _) => some (c, .sl i, env)
      | .io (.obj c _ _) => some (c, .sl i, env)
      | _ => none
    | _ => none
  | false => match fzU env u with
    | some (.obj c ks vs, env') => some (c, .d (.obj c ks vs), env')
    | _ => none
def isObjOf (cs : List Nat) : D → Bool
  | .obj c _ _ => cs.contains c
  | .err c _ _ => cs.contains c
  | _ => false
def isClsD : D → Bool
  | .cls _ => true | _ => false
/-- no plain value: a class, an exception -/
def oddD : D → Bool
  | .cls _ => true | .err _ _ _ => true | _ => false
def kdD : D → Nat
  | .non => 0 | .bl _ => 1 | .int _ => 2 | .str _ => 3 | .lst _ => 4 | .kst _ => 4 | .tup _ => 5 | .dK _ _ => 6 | .dT _ _ => 6 | .obj _ _ _ => 7 | .cls _ => 8 | .err _ _ _ => 9
def isCmpO : O2 → Bool
  | .lt => true | .le => true | .gt => true | .ge => true | .eq => true | .ne => true | _ => false
/-- which right ones an own operator takes here -/
def okR (o : O2) (ts : List Nat) (c : Nat) : D → Bool
  | .obj c' _ _ => isCmpO o || c == c'
  | .cls _ => false
  | .err _ _ _ => false
  | y => isCmpO o || ts.contains (kdD y)
/-- an operator where the left one may be an object of an own class -/
def ownOp (cl : CallF) (o : O2) (cs ts : List Nat) (x y : D) (env : Env) : R U := match x with
  | .obj c ks vs => if !(cs.contains c && okR o ts c y) then .bad else match cl (spec c (opc o)) [.fz (.obj c ks vs), .fz y] with
    | .ok r _ => match o with
      | .ne => match r with
        | .d (.bl t) => .ok (.nw (.bl (!t))) env
        | _ => .bad
      | _ => .ok r env
    | .exc x _ => .exc x env
    | .bad => .bad
  | x => orBad (op2 o x y) fun z => .ok (.nw z) env
/-- x in o, by o's own def -/
def ownIn (cl : CallF) (neg : Bool) (cs : List Nat) (x y : D) (env : Env) : R U := match y with
  | .obj c ks vs => if !cs.contains c then .bad else match cl (spec c 17) [.fz (.obj c ks vs), .fz x] with
    | .ok (.d (.bl t)) _ => .ok (.nw (.bl (if neg then !t else t))) env
    | .exc x _ => .exc x env
    | _ => .bad
  | y => orBad (op2 (if neg then .notin else .isin) x y) fun z => .ok (.nw z) env
/-- x != y, x of a class with its own == -/
def ownNe (cl : CallF) (cs : List Nat) (x y : D) (env : Env) : R U := match x with
  | .obj c ks vs => if !(cs.contains c && !oddD y) then .bad else match cl (spec c 16) [.fz (.obj c ks vs), .fz y] with
    | .ok (.d (.bl t)) _ => .ok (.nw (.bl (!t))) env
    | .exc x _ => .exc x env
    | _ => .bad
  | x => orBad (op2 .ne x y) fun z => .ok (.nw z) env
/-- a new object, made by __init__ -/
def makeO (cl : CallF) (c : Nat) (as : List Ar) (env : Env) : R U := match cl (spec c 0) (.io (.obj c [] []) :: as) with
  | .ok (.d .non) [o] => .ok (.nw o) env
  | .exc x _ => .exc x env
  | _ => .bad
def allFz : List Ar → Bool
  | [] => true | .fz _ :: as => allFz as | .io _ :: _ => false
/-- a list comprehension's turns -/
def lcD (body : D → Env → R (Option D)) : List D → Env → List D → R (List D)
  | [], env, acc => .ok acc env
  | d :: r, env, acc => match body d env with
    | .ok (some x) env1 => if acc.length < LIM then lcD body r env1 (acc ++ [x]) else .bad
    | .ok none env1 => lcD body r env1 acc
    | _ => .bad
def wipeE (env : Env) : List Nat → Env
  | [] => env
  | i :: vs => wipeE (env.set i .un) vs
def calmS : Sl → Bool
  | .un => true | .fz _ => true | _ => false
/-- the comprehension's own names are again what they were -/
def backE (env0 env : Env) : List Nat → Env
  | [] => env
  | i :: vs => backE env0 (env.set i (getS env0 i)) vs
mutual
def storeG : Tg → D → Env → Option Env
  | .nm i, d, env => some (env.set i (.fz d))
  | .tup ts, .tup ds, env => storeGs ts ds env
  | .tup _, _, _ => none
def storeGs : Tgs → List D → Env → Option Env
  | .nil, [], env => some env
  | .cons t ts, d :: ds, env => (storeG t d env).bind (storeGs ts ds)
  | _, _, _ => none
end
def itemsD : D → Option (List D)
  | .lst xs => some xs | .tup xs => some xs | .kst xs => some xs | _ => none
def listD : D → Option (List D)
  | .lst xs => some xs | .kst xs => some xs | _ => none
def enumD : Nat → List D → List D
  | _, [] => []
  | i, d :: r => .tup [.int i, d] :: enumD (i + 1) r
def zipD (x y : D) : Option (List D) := match x, y with
  | .tup xs, .tup ys => some ((xs.zip ys).map fun p => .tup [p.1, p.2])
  | x, y => match listD x, listD y with
    | some xs, some ys => some ((xs.zip ys).map fun p => .tup [p.1, p.2])
    | _, _ => none
def b40 (i : Int) : Bool := decide (-(2 ^ 40) ≤ i) && decide (i < 2 ^ 40)
/-- one turn -/
def lcTurn (vs : List Nat) (tg : Tg) (hc : Bool) (tst : Env → R U) (elt : Env → R U) (d : D) (env : Env) : R (Option D) := orBad (storeG tg d (wipeE env vs)) fun env1 => match hc with
  | true => (tst env1).bind fun u env2 => orBad (rdU env2 u) fun x => orBad (truD x) fun t => match t with
    | true => (elt env2).bind fun u env3 => orBad (fzU env3 u) fun p => .ok (some p.1) p.2
    | false => .ok none env2
  | false => (elt env1).bind fun u env3 => orBad (fzU env3 u) fun p => .ok (some p.1) p.2
def lcAll (vs : List Nat) (env : Env) (r : R (List D)) : R U := if !(vs.all fun i => calmS (getS env i)) then .bad else match r with
  | .ok ds env1 => .ok (.nw (.lst ds)) (backE env env1 vs)
  | _ => .bad
def popD (xs : List D) (i : Int) : Option (D × List D) := (ixN xs.length i).bind fun j => xs[j]?.map fun d => (d, xs.eraseIdx j)
/-- whose method it is -/
def recvB : B → D → Bool
  | .index, .lst _ => true | .index, .kst _ => true
  | .split, .str _ => true | .join, .str _ => true
  | _, _ => false
/-- a part of an f-string -/
def fmtD : D → Option Str
  | .str z => if z.length ≤ LIM then some z else none
  | .int i => if i.natAbs.log2 < 1920 then some (toString i) else none
  | _ => none
/-- slots are taken for good -/
def frzAll : List Nat → Env → Option Env
  | [], env => some env
  | i :: is, env => (fzU env (.sl i)).bind fun p => frzAll is p.2
/-- what is frozen alone -/
def maskS : Sl → Sl
  | .fz d => .fz d | _ => .un
def maskE (env : Env) : Env := env.map maskS
/-- the def that asks a lambda, told what comes of it -/
def hearC (cl : CallF) (f : Nat) (o : D) (env : Env) : R U := match cl f [.fz o] with
  | .ok r _ => .ok r env
  | .exc x _ => .exc x env
  | .bad => .bad
mutual
/-- no list, dict or object within -/
def noLst : D → Bool
  | .non => true | .bl _ => true | .int _ => true | .str _ => true | .tup xs => noLsts xs | _ => false
def noLsts : List D → Bool
  | [] => true | d :: r => noLst d && noLsts r
end
/-- the names are again what they were -/
def keepC (env : Env) : R U → R U
  | .ok (.d d) _ => if noLst d then .ok (.d d) env else .bad
  | _ => .bad
def askCl (o : D) (cl : CallF) : CallF := fun g as => if g = 999 then match as, o with
    | [], .tup [.non, d] => .ok (.d d) []
    | [], .err c ks vs => .exc (c, ks, vs) []
    | _, _ => .bad
  else cl g as
def askR (r : RC) (env : Env) : R U := match r with
  | .ok (.d d) _ => .ok (.d d) env
  | .exc x _ => .exc x env
  | _ => .bad
/-- an owned list -/
def isLs : Sl → Bool
  | .ow (.lst _) => true | .io (.lst _) => true | _ => false
mutual
def ev (cl : CallF) : Ex → Env → R U
  | .var i, env => match getS env i with
    | .un => .bad
    | .fz d => .ok (.d d) env
    | _ => .ok (.sl i) env
  | .cst d, env => .ok (.d d) env
  | .op2 o a b, env => (ev cl a env).bind fun u env1 => (ev cl b env1).bind fun w env2 =>
      orBad (rdU env2 (pend u)) fun x => orBad (rdU env2 w) fun y => orBad (op2 o x y) fun z => .ok (.nw z) env2
  | .op1 o a, env => (ev cl a env).bind fun u env1 => orBad (rdU env1 u) fun x => orBad (op1 o x) fun z => .ok (.nw z) env1
  | .chain o p a b c, env => (ev cl a env).bind fun u env1 => (ev cl b env1).bind fun w env2 =>
      orBad (rdU env2 (pend u)) fun x => orBad (rdU env2 (pend w)) fun y => orBad (op2 o x y) fun z => match z with
        | .bl true => (ev cl c env2).bind fun q env3 => orBad (rdU env3 (pend w)) fun y' => orBad (rdU env3 q) fun r => orBad (op2 p y' r) fun z' => .ok (.nw z') env3
        | .bl false => .ok (.nw (.bl false)) env2
        | _ => .bad
  | .and a b, env => (ev cl a env).bind fun u env1 => orBad (rdU env1 u) fun x => orBad (truD x) fun t => match t with
        | true => ev cl b env1
        | false => .ok (pend u) env1
  | .or a b, env => (ev cl a env).bind fun u env1 => orBad (rdU env1 u) fun x => orBad (truD x) fun t => match t with
        | true => .ok (pend u) env1
        | false => ev cl b env1
  | .not a, env => (ev cl a env).bind fun u env1 => orBad (rdU env1 u) fun x => orBad (truD x) fun t => .ok (.nw (.bl (!t))) env1
  | .ife c a b, env => (ev cl c env).bind fun u env1 => orBad (rdU env1 u) fun x => orBad (truD x) fun t => match t with
        | true => ev cl a env1
        | false => ev cl b env1
  | .tup es, env => (evF cl es env).bind fun ds env1 => if ds.length ≤ LIM then .ok (.nw (.tup ds)) env1 else .bad
  | .lst es, env => (evF cl es env).bind fun ds env1 => if ds.length ≤ LIM then .ok (.nw (.lst ds)) env1 else .bad
  | .dic, env => .ok (.nw (.dK [] [])) env
  | .call f ms es, env => (evC cl ms es env).bind fun us env1 => orBad (argsOf env1 ms us) fun as =>
      if dupFree (ioSlots us) then match cl f as with
        | .ok r outs => .ok r (putIO env1 (ioSlots us) outs)
        | .exc x outs => .exc x (putIO env1 (ioSlots us) outs)
        | .bad => .bad
      else .bad
  | .callP f ms pm es, env => (evC cl (ms.map fun _ => false) es env).bind fun us env1 => orBad (argsOf env1 ms (permL pm us)) fun as =>
      if dupFree (ioSlots (permL pm us)) && decide (us.length = ms.length) then match cl f as with
        | .ok r outs => .ok r (putIO env1 (ioSlots (permL pm us)) outs)
        | .exc x outs => .exc x (putIO env1 (ioSlots (permL pm us)) outs)
        | .bad => .bad
      else .bad
  | .bi b es, env => (evR cl es env).bind fun us env1 => orBad (rdAll env1 us) fun ds => orBad (biD b ds) fun z => .ok (.nw z) env1
  | .ix a i, env => (ev cl a env).bind fun u env1 => (ev cl i env1).bind fun w env2 =>
      orBad (rdU env2 (pend u)) fun x => orBad (rdU env2 w) fun y => orBad (ixD x y) fun z => .ok (.d z) env2
  | .slice a bl bh lo hi, env => (ev cl a env).bind fun u env1 => (optP bl (ev cl lo) env1).bind fun l env2 => (optP bh (ev cl hi) env2).bind fun h env3 => orBad (rdU env3 (pend u)) fun x => match x with
        | .lst xs => .ok (.nw (.lst (cutD xs l h))) env3
        | .kst xs => .ok (.nw (.lst (cutD xs l h))) env3
        | _ => .bad
  | .fld a k, env => (ev cl a env).bind fun u env1 => orBad (rdU env1 u) fun x => orBad (fldOf x k) fun z => .ok (.d z) env1
  | .opo o cs ts a b, env => (ev cl a env).bind fun u env1 => orBad (fzU env1 u) fun p => (ev cl b p.2).bind fun w env2 => orBad (fzU env2 w) fun q => ownOp cl o cs ts p.1 q.1 q.2
  | .callD f ms es ds, env => (evC cl ms es env).bind fun us env1 => runC cl f (ms ++ ds.map fun _ => false) (us ++ ds.map .d) env1
  | .mk c ms es ds, env => (evC cl ms es env).bind fun us env1 => orBad (argsOf env1 (ms ++ ds.map fun _ => false) (us ++ ds.map .d)) fun as => if allFz as then makeO cl c as env1 else .bad
  | .mth io a m cs ms es ds, env => (ev cl a env).bind fun u env1 => orBad (recvU io env1 u) fun p => if !cs.contains p.1 then .bad else (evC cl ms es p.2.2).bind fun us env2 =>
      runC cl (spec p.1 m) (io :: (ms ++ ds.map fun _ => false)) (p.2.1 :: (us ++ ds.map .d)) env2
  | .prp a m cs, env => (ev cl a env).bind fun u env1 => orBad (recvU false env1 u) fun p => if !cs.contains p.1 then .bad else orBad (rdU p.2.2 p.2.1) fun x => match cl (spec p.1 m) [.fz x] with
      | .ok r _ => .ok r p.2.2
      | _ => .bad
  | .ino neg cs a b, env => (ev cl a env).bind fun u env1 => orBad (fzU env1 u) fun p => (ev cl b p.2).bind fun w env2 => orBad (fzU env2 w) fun q => ownIn cl neg cs p.1 q.1 q.2
  | .neo cs a b, env => (ev cl a env).bind fun u env1 => orBad (fzU env1 u) fun p => (ev cl b p.2).bind fun w env2 => orBad (fzU env2 w) fun q => ownNe cl cs p.1 q.1 q.2
  | .lc vs tg it hc c e, env => (itD cl it env).bind fun ds env1 => lcAll vs env1 (lcD (lcTurn vs tg hc (ev cl c) (ev cl e)) ds env1 [])
  | .popI i e, env => if !isLs (getS env i) then .bad else (ev cl e env).bind fun u env1 => orBad (rdU env1 u) fun k => match getS env1 i, k with
      | .ow (.lst xs), .int n => orBad (popD xs n) fun p => .ok (.d p.1) (env1.set i (.ow (.lst p.2)))
      | .io (.lst xs), .int n => orBad (popD xs n) fun p => .ok (.d p.1) (env1.set i (.io (.lst p.2)))
      | _, _ => .bad
  | .bm b o e, env => (ev cl o env).bind fun u env1 => orBad (rdU env1 u) fun x0 => if !recvB b x0 then .bad else (ev cl e env1).bind fun w env2 => orBad (rdU env2 (pend u)) fun x => orBad (rdU env2 w) fun y => orBad (biD b [x, y]) fun z => .ok (.nw z) env2
  | .lenO cs a, env => (ev cl a env).bind fun u env1 => orBad (recvU false env1 u) fun p => if !cs.contains p.1 then .bad else orBad (rdU p.2.2 p.2.1) fun x => match cl (spec p.1 19) [.fz x] with
      | .ok (.d (.int n)) _ => if decide (0 ≤ n) && decide (n < 2 ^ 40) then .ok (.nw (.int n)) p.2.2 else .bad
      | _ => .bad
  | .fstr es, env => (evJ cl es Str.empty env).bind fun z env1 => .ok (.nw (.str z)) env1
  | .strO cs a, env => (ev cl a env).bind fun u env1 => orBad (recvU false env1 u) fun p => if !cs.contains p.1 then .bad else orBad (rdU p.2.2 p.2.1) fun x => match cl (spec p.1 21) [.fz x] with
      | .ok (.d (.str z)) _ => .ok (.nw (.str z)) p.2.2
      | _ => .bad
  | .mkP c pm es, env => (evC cl (pm.map fun _ => false) es env).bind fun us env1 => orBad (argsOf env1 (pm.map fun _ => false) (permL pm us)) fun as => if allFz as && decide (us.length = pm.length) then makeO cl c as env1 else .bad
  | .mkEP c ks pm es, env => (evF cl es env).bind fun ds env1 => if (permL pm ds).length = ks.length ∧ ds.length = ks.length then .ok (.d (.err c ks (permL pm ds).reverse)) env1 else .bad
  | .mkE c ks es, env => (evF cl es env).bind fun ds env1 => if ds.length = ks.length then .ok (.d (.err c ks ds.reverse)) env1 else .bad
  | .heard f vs e, env => orBad (frzAll vs env) fun env1 => match ev cl e (maskE env1) with
      | .ok u env2 => orBad (fzU env2 u) fun p => hearC cl f (.tup [.non, p.1]) env1
      | .exc x _ => hearC cl f (.err x.1 x.2.1 x.2.2) env1
      | .bad => .bad
  | .heardK f vs e, env => orBad (frzAll vs env) fun env1 => match ev cl e (maskE env1) with
      | .ok u env2 => orBad (fzU env2 u) fun p => keepC env (hearC cl f (.tup [.non, p.1]) env1)
      | .exc x _ => keepC env (hearC cl f (.err x.1 x.2.1 x.2.2) env1)
      | .bad => .bad
  | .ask i, env => match getS env i with
      | .fn => askR (cl 999 []) env
      | _ => .bad
  | .isObj cs a, env => (ev cl a env).bind fun u env1 => orBad (rdU env1 u) fun x => if isClsD x then .bad else .ok (.nw (.bl (isObjOf cs x))) env1
/-- all taken for good -/
def evF (cl : CallF) : Exs → Env → R (List D)
  | .nil, env => .ok [] env
  | .cons e es, env => (ev cl e env).bind fun u env1 => orBad (fzU env1 u) fun p => (evF cl es p.2).bind fun ds env2 => .ok (p.1 :: ds) env2
  | .star e es, env => (ev cl e env).bind fun u env1 => orBad (fzU env1 u) fun p => orBad (itemsD p.1) fun xs => (evF cl es p.2).bind fun ds env2 => .ok (xs ++ ds) env2
/-- all read -/
def evR (cl : CallF) : Exs → Env → R (List U)
  | .nil, env => .ok [] env
  | .cons e es, env => (ev cl e env).bind fun u env1 => (evR cl es env1).bind fun us env2 => .ok (pend u :: us) env2
  | .star _ _, _ => .bad
/-- the parts of an f-string -/
def evJ (cl : CallF) : Exs → Str → Env → R Str
  | .nil, acc, env => .ok acc env
  | .cons e es, acc, env => (ev cl e env).bind fun u env1 => orBad (rdU env1 u) fun d => orBad (fmtD d) fun y => if (acc ++ y).length ≤ LIM then evJ cl es (acc ++ y) env1 else .bad
  | .star _ _, _, _ => .bad
/-- a call's: taken for good, or handed in to be changed -/
def evC (cl : CallF) : List Bool → Exs → Env → R (List U)
  | _, .nil, env => .ok [] env
  | m :: ms, .cons e es, env => (ev cl e env).bind fun u env1 => match m with
      | true => match u with
        | .sl i => (evC cl ms es env1).bind fun us env2 => .ok (.sl i :: us) env2
        | _ => .bad
      | false => orBad (fzU env1 u) fun p => (evC cl ms es p.2).bind fun us env2 => .ok (.d p.1 :: us) env2
  | ms, .star e es, env => (ev cl e env).bind fun u env1 => orBad (fzU env1 u) fun p => orBad (itemsD p.1) fun xs => (evC cl ms es p.2).bind fun us env2 => .ok (xs.map .d ++ us) env2
  | [], .cons _ _, _ => .bad
/-- what is walked -/
def itD (cl : CallF) : It → Env → R (List D)
  | .seq e, env => (ev cl e env).bind fun u env1 => orBad (fzU env1 u) fun p => orBad (itemsD p.1) fun xs => .ok xs p.2
  | .rng lo hi, env => (ev cl lo env).bind fun u env1 => (ev cl hi env1).bind fun w env2 => orBad (rdU env2 (pend u)) fun x => orBad (rdU env2 w) fun y => match x, y with
      | .int m, .int n => if b40 m && b40 n then .ok ((List.range (n - m).toNat).map fun (k : Nat) => .int (m + k)) env2 else .bad
      | _, _ => .bad
  | .down lo hi, env => (ev cl lo env).bind fun u env1 => (ev cl hi env1).bind fun w env2 => orBad (rdU env2 (pend u)) fun x => orBad (rdU env2 w) fun y => match x, y with
      | .int m, .int n => if b40 m && b40 n then .ok ((List.range (m - n).toNat).map fun (k : Nat) => .int (m - k)) env2 else .bad
      | _, _ => .bad
  | .enum e, env => (ev cl e env).bind fun u env1 => orBad (fzU env1 u) fun p => orBad (itemsD p.1) fun xs => .ok (enumD 0 xs) p.2
  | .zip a b, env => (ev cl a env).bind fun u env1 => orBad (fzU env1 u) fun p => (ev cl b p.2).bind fun w env2 => orBad (fzU env2 w) fun q => orBad (zipD p.1 q.1) fun xs => .ok xs q.2
  | .str e, env => (ev cl e env).bind fun u env1 => orBad (rdU env1 u) fun x => match x with
      | .str z => .ok (z.cps.toList.map fun c => .str ⟨#[c]⟩) env1
      | _ => .bad
end

inductive Fl where
  | next | brk | cont | ret (u : U)
/-- what is stored at a name: an owned thing, or a frozen one -/
def slOf : U → D → Sl
  | .nw _, .lst ds => .ow (.lst ds)
  | .nw _, .dK ks vs => .ow (.dK ks vs)
  | .nw _, .dT ks vs => .ow (.dT ks vs)
  | .nw _, .obj c ks vs => .ow (.obj c ks vs)
  | _, d => .fz d
def isIO : Sl → Bool
  | .io _ => true | _ => false
/-- name = value -/
def asgU (env : Env) (i : Nat) (u : U) : Option Env :=
  match u with
  | .nw d => some (env.set i (slOf (.nw d) d))
  | .d d => some (env.set i (.fz d))
  | .sl j => (fzU env (.sl j)).map fun p => p.2.set i (.fz p.1)
/-- several names -/
def storeAll : List Nat → List D → Env → Option Env
  | [], [], env => some env
  | i :: is, d :: ds, env => storeAll is ds (env.set i (.fz d))
  | _, _, _ => none
def setD (xs : List D) (i : Int) (d : D) : Option (List D) := (ixN xs.length i).map fun j => xs.set j d
/-- the loop over items -/
def forD (body : Env → R Fl) (i : Nat) : List D → Env → R Fl
  | [], env => .ok .next env
  | d :: r, env => (body (env.set i (.fz d))).bind fun fl env1 => match fl with
      | .next => forD body i r env1
      | .cont => forD body i r env1
      | .brk => .ok .next env1
      | .ret u => .ok (.ret u) env1
/-- the loop over items, any target -/
def forG (body : Env → R Fl) (tg : Tg) : List D → Env → R Fl
  | [], env => .ok .next env
  | d :: r, env => orBad (storeG tg d env) fun env0 => (body env0).bind fun fl env1 => match fl with
      | .next => forG body tg r env1
      | .cont => forG body tg r env1
      | .brk => .ok .next env1
      | .ret u => .ok (.ret u) env1
def whD (test : Env → R Bool) (body : Env → R Fl) : Nat → Env → R Fl
  | 0, _ => .bad
  | n + 1, env => (test env).bind fun t env1 => match t with
      | false => .ok .next env1
      | true => (body env1).bind fun fl env2 => match fl with
        | .next => whD test body n env2
        | .cont => whD test body n env2
        | .brk => .ok .next env2
        | .ret u => .ok (.ret u) env2
def evT (cl : CallF) (e : Ex) (env : Env) : R Bool := (ev cl e env).bind fun u env1 => orBad (rdU env1 u) fun x => orBad (truD x) fun t => .ok t env1
def FUEL : Nat := 100000
def retU (env : Env) : U → Option (U × Env)
  | .d x => some (.d x, env) | .nw x => some (.nw x, env)
  | .sl i => match getS env i with
    | .ow x => some (.nw x, env.set i .un) | .fz x => some (.d x, env) | _ => none
mutual
def ex (cl : CallF) : S → Env → R Fl
  | .asg i e, env => (ev cl e env).bind fun u env1 => orBad (asgU env1 i u) fun env2 => .ok .next env2
  | .setI i x e, env => (ev cl e env).bind fun u env1 => orBad (fzU env1 u) fun p => if !isLs (getS p.2 i) then .bad else (ev cl x p.2).bind fun w env2 =>
      orBad (rdU env2 w) fun k => match getS env2 i, k with
        | .ow (.lst xs), .int n => orBad (setD xs n p.1) fun ys => .ok .next (env2.set i (.ow (.lst ys)))
        | .io (.lst xs), .int n => orBad (setD xs n p.1) fun ys => .ok .next (env2.set i (.io (.lst ys)))
        | _, _ => .bad
  | .app i e, env => if !isLs (getS env i) then .bad else (ev cl e env).bind fun u env1 => orBad (fzU env1 u) fun p => match getS p.2 i with
        | .ow (.lst xs) => if xs.length < LIM then .ok .next (p.2.set i (.ow (.lst (xs ++ [p.1])))) else .bad
        | .io (.lst xs) => if xs.length < LIM then .ok .next (p.2.set i (.io (.lst (xs ++ [p.1])))) else .bad
        | _ => .bad
  | .aug i o e, env => match getS env i with
        | .fz (.int n) => (ev cl e env).bind fun u env1 => orBad (rdU env1 u) fun y => match y with
          | .int m => match o with
            | .add => .ok .next (env1.set i (.fz (.int (n + m))))
            | .sub => .ok .next (env1.set i (.fz (.int (n - m))))
            | _ => .bad
          | _ => .bad
        | _ => .bad
  | .ex e, env => (ev cl e env).bind fun _ env1 => .ok .next env1
  | .iff c a b, env => (evT cl c env).bind fun t env1 => match t with
      | true => exs cl a env1
      | false => exs cl b env1
  | .forr i n b, env => (ev cl n env).bind fun u env1 => orBad (rdU env1 u) fun y => match y with
      | .int m => if decide (-(2 ^ 40) ≤ m) && decide (m < 2 ^ 40) then forD (exs cl b) i ((List.range m.toNat).map fun (k : Nat) => .int k) env1 else .bad
      | _ => .bad
  | .forl i l b, env => (ev cl l env).bind fun u env1 => orBad (fzU env1 u) fun p => match p.1 with
      | .lst xs => forD (exs cl b) i xs p.2
      | .tup xs => forD (exs cl b) i xs p.2
      | .kst xs => forD (exs cl b) i xs p.2
      | _ => .bad
  | .fort tg it b, env => (itD cl it env).bind fun ds env1 => forG (exs cl b) tg ds env1
  | .whil c b, env => whD (evT cl c) (exs cl b) FUEL env
  | .ret e, env => (ev cl e env).bind fun u env1 => orBad (retU env1 u) fun r => .ok (.ret r.1) r.2
  | .retN, env => .ok (.ret (.d .non)) env
  | .pass, env => .ok .next env
  | .never, _ => .bad
  | .par is es, env => (evF cl es env).bind fun ds env1 => orBad (storeAll is ds env1) fun env2 => .ok .next env2
  | .unp is e, env => (ev cl e env).bind fun u env1 => orBad (rdU env1 u) fun d => match d with
      | .tup ds => orBad (storeAll is ds env1) fun env2 => .ok .next env2
      | _ => .bad
  | .setF i cs k e, env => (ev cl e env).bind fun u env1 => orBad (fzU env1 u) fun p => match getS p.2 i with
      | .ow (.obj c ks vs) => if (decide (ks.length < 100) && decide (vs.length = ks.length) && cs.contains c) = true then .ok .next (p.2.set i (.ow (.obj c (putD ks vs k p.1).1 (putD ks vs k p.1).2))) else .bad
      | .io (.obj c ks vs) => if (decide (ks.length < 100) && decide (vs.length = ks.length) && cs.contains c) = true then .ok .next (p.2.set i (.io (.obj c (putD ks vs k p.1).1 (putD ks vs k p.1).2))) else .bad
      | _ => .bad
  | .brk, env => .ok .brk env
  | .cont, env => .ok .cont env
  | .raise c ks es, env => (evF cl es env).bind fun ds env1 => if ds.length = ks.length then .exc (c, ks, ds.reverse) env1 else .bad
  | .tryC b cs i j, env => match exs cl b env with
      | .exc x env1 => if cs.contains x.1 then .ok .next (((env1.set i .un).set j (.fz (.err x.1 x.2.1 x.2.2))).set i .un) else .bad
      | r => r
def exs (cl : CallF) : Ss → Env → R Fl
  | .nil, env => .ok .next env
  | .cons s r, env => (ex cl s env).bind fun fl env1 => match fl with
      | .next => exs cl r env1
      | f => .ok f env1
end

/-- a def: how many names, its body -/
structure Fn where
  n : Nat
  body : Ss
  star : Option Nat := none
  lam : Bool := false
/-- what is left over is a tuple -/
def restD : List Ar → Option (List D)
  | [] => some []
  | .fz d :: r => (restD r).map (d :: ·)
  | .io _ :: _ => none
def packA : Nat → List Ar → Option (List Ar)
  | 0, as => (restD as).bind fun ds => if ds.length ≤ LIM then some [.fz (.tup ds)] else none
  | n + 1, a :: as => (packA n as).map (a :: ·)
  | _ + 1, [] => none
def startE : Nat → List Ar → Env
  | n + 1, .fz d :: as => .fz d :: startE n as
  | n + 1, .io d :: as => .io d :: startE n as
  | n + 1, [] => .un :: startE n []
  | 0, _ => []
/-- what stands in the slots that were handed in -/
def outsOf : List Ar → Env → Option (List D)
  | [], _ => some []
  | .fz _ :: as, env => outsOf as env.tail
  | .io _ :: as, env => match env.head? with
    | some (.io d) => (outsOf as env.tail).map (d :: ·)
    | _ => none
/-- a result that can't be owned is a plain one -/
def isMutD : D → Bool
  | .lst _ => true | .dK _ _ => true | .dT _ _ => true | .obj _ _ _ => true | _ => false
def nrm (x : D) : U := if isMutD x = true then .nw x else .d x
def finO : Option (List D) → Fl → RC
  | some outs, .next => .ok (.d .non) outs
  | some outs, .ret (.d x) => .ok (.d x) outs
  | some outs, .ret (.nw x) => .ok (nrm x) outs
  | _, _ => .bad
def finX : Option (List D) → Exn → RC
  | some outs, x => .exc x outs
  | none, _ => .bad
def finR (as : List Ar) : R Fl → RC
  | .ok fl env => finO (outsOf as env) fl
  | .exc x env => finX (outsOf as env) x
  | .bad => .bad
def runF (cl : CallF) (F : Fn) (as : List Ar) : RC := finR as (exs cl F.body (startE F.n as))
/-- what the def that asks begins with -/
def lamE (n : Nat) : Env := (startE n []).set 0 .fn
/-- calls, to a depth -/
def calls (fs : Nat → Option Fn) : Nat → CallF
  | 0, _, _ => .bad
  | k + 1, f, as => match fs f with
    | some F => match F.lam with
      | false => match F.star with
        | none => runF (calls fs k) F as
        | some n => match packA n as with
          | some bs => runF (calls fs k) F bs
          | none => .bad
      | true => match as with
        | [.fz o] => finR [] (exs (askCl o (calls fs k)) F.body (lamE F.n))
        | _ => .bad
    | none => .bad
end PP
end

section
set_option maxHeartbeats 1000000
/-! What the data stand for in the heap; the readings of the small syntax. -/
namespace PP
open PySem L2

structure Tbl where
  K : PySem.W.Frag
  cn : Nat → Option Addr
  fn : Nat → Str
  fo : Nat → Nat → Bool
  tt : List (Addr × Str)
  ec : Nat → Bool
/-- the class, where it has such fields -/
def Tbl.ck (T : Tbl) (c : Nat) (ks : List Nat) : Option Addr := if (!T.ec c && ks.all (T.fo c)) = true then T.cn c else none
/-- .. an exception's -/
def Tbl.cx (T : Tbl) (c : Nat) (ks : List Nat) : Option Addr := if (T.ec c && ks.all (T.fo c)) = true then T.cn c else none
abbrev Ext (H H' : Hp) : Prop := ∀ a o, H a = some o → H' a = some o
theorem Ext.rfl' (H : Hp) : Ext H H := fun _ _ h => h
theorem Ext.tr {H H1 H2 : Hp} (a : Ext H H1) (b : Ext H1 H2) : Ext H H2 := fun x o h => b x o (a x o h)
theorem ext_upd {H : Hp} {p : Addr} {o : HO} (h : H p = none) : Ext H (upd H p o) := fun a u e => by
  rw [upd_ne (ne_of_none e h)]; exact e
theorem Ext.sqL {K : PySem.W.Frag} {H H' : Hp} {a : Addr} {xs : List V} (e : Ext H H') (h : SqL K H a xs) : SqL K H' a xs := by
  rcases h with (h | ⟨o, h⟩) | h
  · exact .inl (.inl (e _ _ h))
  · exact .inl (.inr ⟨o, e _ _ h⟩)
  · exact .inr h
theorem Ext.rd {H H' : Hp} {a : Addr} {o : HO} (e : Ext H H') (h : Rd H a o) : Rd H' a o := by
  rcases h with h | ⟨u, h⟩
  · exact .inl (e _ _ h)
  · exact .inr ⟨u, e _ _ h⟩
theorem Ext.sqT {K : PySem.W.Frag} {H H' : Hp} {a : Addr} {xs : List V} (e : Ext H H') (h : SqT K H a xs) : SqT K H' a xs := by
  rcases h with (h | ⟨o, h⟩) | h
  · exact .inl (.inl (e _ _ h))
  · exact .inl (.inr ⟨o, e _ _ h⟩)
  · exact .inr h
/-- kept, but for a table -/
def Kp (o : HO) (x : Option HO) : Prop := x = some o ∨ ∃ ps ps', o = .tbl ps ∧ x = some (.tbl ps')
theorem Kp.at {o : HO} {x : Option HO} (h : Kp o x) (n : ∀ ps, o ≠ .tbl ps) : x = some o := by
  rcases h with h | ⟨ps, _, h, _⟩
  · exact h
  · exact (n ps h).elim
theorem Kp.some {o : HO} {x : Option HO} (h : Kp o x) : ∃ u, x = .some u := by
  rcases h with h | ⟨_, _, _, h⟩ <;> exact ⟨_, h⟩
theorem Kp.tr {o u : HO} {x y : Option HO} (h : Kp o x) (e : x = .some u) (k : Kp u y) : Kp o y := by
  rcases h with h | ⟨ps, ps', h, h'⟩
  · rw [h] at e; cases e; exact k
  · rw [h'] at e; cases e
    rcases k with k | ⟨qs, qs', k, k'⟩
    · exact .inr ⟨ps, ps', h, k⟩
    · exact .inr ⟨ps, qs', h, k'⟩
def ExtW (H H' : Hp) : Prop := ∀ a o, H a = some o → Kp o (H' a)
theorem ExtW.of {H H' : Hp} (e : Ext H H') : ExtW H H' := fun a o h => .inl (e a o h)
theorem ExtW.tr {H H1 H2 : Hp} (a : ExtW H H1) (b : ExtW H1 H2) : ExtW H H2 := fun x o h => by
  obtain ⟨u, hu⟩ := (a x o h).some
  exact (a x o h).tr hu (b x u hu)
theorem ExtW.no {H H' : Hp} (e : ExtW H H') {a : Addr} (h : H' a = none) : H a = none := by
  cases q : H a with
  | none => rfl
  | some o => obtain ⟨u, hu⟩ := (e a o q).some; rw [h] at hu; cases hu
theorem Ext.tabs {T : List (Addr × Str)} {H H' : Hp} (e : Ext H H') (t : LamX.Tabs T H) : LamX.Tabs T H' := t.ext e
/-- an object that is no table and no code object changes -/
theorem tabs_upd {T : List (Addr × Str)} {H : Hp} {a : Addr} {o u : HO} (h : H a = some u) (n1 : ∀ ps, u ≠ .tbl ps) (n2 : ∀ φ, u ≠ .ext φ) (t : LamX.Tabs T H) : LamX.Tabs T (upd H a o) := fun p hp => by
  obtain ⟨ps, h1, h2, h3⟩ := t p hp
  refine ⟨ps, ?_, h2, fun pos cv hc => ?_⟩
  · rw [upd_ne (fun z => by rw [z, h] at h1; exact n1 ps (Option.some.inj h1))]; exact h1
  · obtain ⟨c, e1, e2⟩ := h3 pos cv hc
    refine ⟨c, e1, ?_⟩
    rw [upd_ne (fun z => by rw [z, h] at e2; exact n2 _ (Option.some.inj e2))]; exact e2
/-- an exception that is at hand -/
def ErrO (C : Addr) (d : Option Addr) (a : Addr) : HO := .ext fun h => ∃ (oe : Obj) (vs : Array Value), h.get? a = some oe ∧ Zc (.ref C) d oe ∧ oe.data = .fields vs
theorem Ext.no {H H' : Hp} (e : Ext H H') {a : Addr} (h : H' a = none) : H a = none := by
  cases q : H a with
  | none => rfl
  | some o => rw [e a o q] at h; cases h

mutual
/-- the value v stands for the data, in the heap H -/
def Rep (T : Tbl) (H : Hp) : D → V → Prop
  | .non, v => v = .non
  | .bl b, v => v = .bl b
  | .int i, v => v = .int i
  | .str s, v => v = .str s
  | .lst ds, v => ∃ a xs, v = .ref a ∧ Rd H a (.lst xs) ∧ RepAll T H ds xs
  | .tup ds, v => ∃ a xs, v = .ref a ∧ SqT T.K H a xs ∧ RepAll T H ds xs
  | .kst ds, v => ∃ a xs, v = .ref a ∧ SqL T.K H a xs ∧ RepAll T H ds xs
  | .dK ks vs, v => ∃ a xs, v = .ref a ∧ H a = some (.dK (ks.zip xs)) ∧ xs.length = ks.length ∧ RepAll T H vs xs
  | .dT ks vs, v => ∃ a xs, v = .ref a ∧ H a = some (.dT (ks.zip xs)) ∧ xs.length = ks.length ∧ RepAll T H vs xs
  | .obj c ks vs, v => ∃ a C dx xs, v = .ref a ∧ T.ck c ks = some C ∧ H a = some (.ins C dx ((ks.map T.fn).zip xs)) ∧ xs.length = ks.length ∧ RepAll T H vs xs
  | .cls c, v => ∃ C, T.cn c = some C ∧ v = .ref C
  | .err c ks vs, v => ∃ a C d, v = .ref a ∧ T.cx c ks = some C ∧ H a = some (ErrO C d a) ∧ ((ks = [] ∧ d = none) ∨ ∃ dd xs, d = some dd ∧ H dd = some (.xd ((ks.map T.fn).zip xs)) ∧ xs.length = ks.length ∧ RepAll T H vs xs)
def RepAll (T : Tbl) (H : Hp) : List D → List V → Prop
  | [], vs => vs = []
  | d :: ds, vs => ∃ v r, vs = v :: r ∧ Rep T H d v ∧ RepAll T H ds r
end
/-- an owned thing: its own object isn't frozen, its parts are -/
def RepO (T : Tbl) (H0 H : Hp) : D → V → Prop
  | .lst ds, v => ∃ a xs, v = .ref a ∧ H0 a = none ∧ H a = some (.lst xs) ∧ RepAll T H0 ds xs
  | .dK ks vs, v => ∃ a xs, v = .ref a ∧ H0 a = none ∧ H a = some (.dK (ks.zip xs)) ∧ xs.length = ks.length ∧ RepAll T H0 vs xs
  | .dT ks vs, v => ∃ a xs, v = .ref a ∧ H0 a = none ∧ H a = some (.dT (ks.zip xs)) ∧ xs.length = ks.length ∧ RepAll T H0 vs xs
  | .obj c ks vs, v => ∃ a C dx xs, v = .ref a ∧ H0 a = none ∧ T.ck c ks = some C ∧ H a = some (.ins C dx ((ks.map T.fn).zip xs)) ∧ xs.length = ks.length ∧ RepAll T H0 vs xs
  | _, _ => False
/-- a value to be read: frozen, or owned -/
def RdV (T : Tbl) (H0 H : Hp) (d : D) (v : V) : Prop := Rep T H0 d v ∨ RepO T H0 H d v
/-- what an operation gives: a new thing (not of H), or a frozen one -/
def RepG (T : Tbl) (H0' H' H : Hp) (d : D) (v : V) : Prop := if isMutD d = true then ∃ a, v = .ref a ∧ H a = none ∧ RepO T H0' H' d v else Rep T H0' d v

mutual
theorem Rep.mono {T : Tbl} {H H' : Hp} (e : Ext H H') : ∀ (d : D) (v : V), Rep T H d v → Rep T H' d v
  | .non, _, h => by simpa only [Rep] using h
  | .bl _, _, h => by simpa only [Rep] using h
  | .int _, _, h => by simpa only [Rep] using h
  | .str _, _, h => by simpa only [Rep] using h
  | .lst ds, _, h => by
    simp only [Rep] at h ⊢
    obtain ⟨a, xs, h1, h2, h3⟩ := h
    exact ⟨a, xs, h1, e.rd h2, RepAll.mono e _ _ h3⟩
  | .tup ds, _, h => by
    simp only [Rep] at h ⊢
    obtain ⟨a, xs, h1, h2, h3⟩ := h
    exact ⟨a, xs, h1, e.sqT h2, RepAll.mono e _ _ h3⟩
  | .kst ds, _, h => by
    simp only [Rep] at h ⊢
    obtain ⟨a, xs, h1, h2, h3⟩ := h
    exact ⟨a, xs, h1, e.sqL h2, RepAll.mono e _ _ h3⟩
  | .dK ks vs, _, h => by
    simp only [Rep] at h ⊢
    obtain ⟨a, xs, h1, h2, hl, h3⟩ := h
    exact ⟨a, xs, h1, e _ _ h2, hl, RepAll.mono e _ _ h3⟩
  | .dT ks vs, _, h => by
    simp only [Rep] at h ⊢
    obtain ⟨a, xs, h1, h2, hl, h3⟩ := h
    exact ⟨a, xs, h1, e _ _ h2, hl, RepAll.mono e _ _ h3⟩
  | .obj c ks vs, _, h => by
    simp only [Rep] at h ⊢
    obtain ⟨a, C, dx, xs, h1, hc, h2, hl, h3⟩ := h
    exact ⟨a, C, dx, xs, h1, hc, e _ _ h2, hl, RepAll.mono e _ _ h3⟩
  | .cls _, _, h => by simpa only [Rep] using h
  | .err c ks vs, _, h => by
    simp only [Rep] at h ⊢
    obtain ⟨a, C, d, h1, hc, h2, h3⟩ := h
    refine ⟨a, C, d, h1, hc, e _ _ h2, ?_⟩
    rcases h3 with h3 | ⟨dd, xs, e1, e2, e3, e4⟩
    · exact .inl h3
    · exact .inr ⟨dd, xs, e1, e _ _ e2, e3, RepAll.mono e _ _ e4⟩
theorem RepAll.mono {T : Tbl} {H H' : Hp} (e : Ext H H') : ∀ (ds : List D) (vs : List V), RepAll T H ds vs → RepAll T H' ds vs
  | [], _, h => by simpa only [RepAll] using h
  | d :: ds, _, h => by
    simp only [RepAll] at h ⊢
    obtain ⟨v, r, h1, h2, h3⟩ := h
    exact ⟨v, r, h1, Rep.mono e _ _ h2, RepAll.mono e _ _ h3⟩
end
theorem RepAll.len {T : Tbl} {H : Hp} : ∀ {ds : List D} {vs : List V}, RepAll T H ds vs → vs.length = ds.length
  | [], _, h => by simp only [RepAll] at h; subst h; rfl
  | d :: ds, _, h => by
    simp only [RepAll] at h
    obtain ⟨v, r, rfl, _, h3⟩ := h
    simp [RepAll.len h3]
theorem RepAll.app {T : Tbl} {H : Hp} : ∀ {ds es : List D} {vs us : List V}, RepAll T H ds vs → RepAll T H es us → RepAll T H (ds ++ es) (vs ++ us)
  | [], _, _, _, h, h' => by simp only [RepAll] at h; subst h; simpa using h'
  | d :: ds, _, _, _, h, h' => by
    simp only [RepAll] at h
    obtain ⟨v, r, rfl, h2, h3⟩ := h
    simp only [List.cons_append, RepAll]
    exact ⟨v, _, rfl, h2, RepAll.app h3 h'⟩
theorem RepAll.get {T : Tbl} {H : Hp} : ∀ {ds : List D} {vs : List V} {i : Nat} {d : D}, RepAll T H ds vs → ds[i]? = some d → ∃ v, vs[i]? = some v ∧ Rep T H d v
  | [], _, _, _, h, e => by simp at e
  | d :: ds, _, 0, _, h, e => by
    simp only [RepAll] at h
    obtain ⟨v, r, rfl, h2, h3⟩ := h
    simp at e; subst e
    exact ⟨v, rfl, h2⟩
  | d :: ds, _, i + 1, _, h, e => by
    simp only [RepAll] at h
    obtain ⟨v, r, rfl, h2, h3⟩ := h
    simpa using RepAll.get h3 (by simpa using e)
theorem RepAll.get' {T : Tbl} {H : Hp} : ∀ {ds : List D} {vs : List V} {i : Nat} {v : V}, RepAll T H ds vs → vs[i]? = some v → ∃ d, ds[i]? = some d ∧ Rep T H d v
  | [], _, _, _, h, e => by simp only [RepAll] at h; subst h; simp at e
  | d :: ds, _, 0, _, h, e => by
    simp only [RepAll] at h
    obtain ⟨v, r, rfl, h2, h3⟩ := h
    simp at e; subst e
    exact ⟨d, rfl, h2⟩
  | d :: ds, _, i + 1, _, h, e => by
    simp only [RepAll] at h
    obtain ⟨v, r, rfl, h2, h3⟩ := h
    simpa using RepAll.get' h3 (by simpa using e)
theorem RepAll.set {T : Tbl} {H : Hp} {d : D} {v : V} (hd : Rep T H d v) : ∀ {ds : List D} {vs : List V} (i : Nat), RepAll T H ds vs → RepAll T H (ds.set i d) (vs.set i v)
  | [], _, _, h => by simp only [RepAll] at h; subst h; simp [RepAll]
  | e :: ds, _, 0, h => by
    simp only [RepAll] at h
    obtain ⟨u, r, rfl, h2, h3⟩ := h
    simp only [List.set_cons_zero, RepAll]
    exact ⟨v, r, rfl, hd, h3⟩
  | e :: ds, _, i + 1, h => by
    simp only [RepAll] at h
    obtain ⟨u, r, rfl, h2, h3⟩ := h
    simp only [List.set_cons_succ, RepAll]
    exact ⟨u, _, rfl, h2, RepAll.set hd i h3⟩
theorem RepAll.take {T : Tbl} {H : Hp} : ∀ {ds : List D} {vs : List V} (n : Nat), RepAll T H ds vs → RepAll T H (ds.take n) (vs.take n)
  | _, _, 0, h => by simp [RepAll]
  | [], _, _ + 1, h => by simp only [RepAll] at h; subst h; simp [RepAll]
  | e :: ds, _, i + 1, h => by
    simp only [RepAll] at h
    obtain ⟨u, r, rfl, h2, h3⟩ := h
    simp only [List.take_succ_cons, RepAll]
    exact ⟨u, _, rfl, h2, RepAll.take i h3⟩
theorem RepAll.drop {T : Tbl} {H : Hp} : ∀ {ds : List D} {vs : List V} (n : Nat), RepAll T H ds vs → RepAll T H (ds.drop n) (vs.drop n)
  | _, _, 0, h => by simpa using h
  | [], _, _ + 1, h => by simp only [RepAll] at h; subst h; simp [RepAll]
  | e :: ds, _, i + 1, h => by
    simp only [RepAll] at h
    obtain ⟨u, r, rfl, h2, h3⟩ := h
    simpa using RepAll.drop i h3
theorem RepAll.atI {T : Tbl} {H : Hp} {ds : List D} {vs : List V} {i : Int} {d : D} (h : RepAll T H ds vs) (e : L2.atI ds i = some d) : ∃ v, L2.atI vs i = some v ∧ Rep T H d v := by
  unfold L2.atI at e ⊢
  rw [h.len]
  cases q : ixN ds.length i with
  | none => rw [q] at e; cases e
  | some j =>
    rw [q] at e
    exact RepAll.get h e

structure Ctx where
  T : Tbl
  H0e : Hp
  He : Hp
  ioAt : List (Option Addr)
  fa : Addr
def Ctx.io (C : Ctx) (a : Addr) : Prop := some a ∈ C.ioAt
structure Ctx.Ok (C : Ctx) : Prop where
  ioNo : ∀ a, C.io a → C.H0e a = none ∧ C.He a ≠ none
  ex : Ext C.H0e C.He
def ownS : Sl → Bool
  | .ow _ => true | .io _ => true | _ => false
def SlOk (C : Ctx) (H0 H : Hp) (i : Nat) (o : Option (Option V)) : Sl → Prop
  | .un => True
  | .fz d => ∃ v, o = some (some v) ∧ Rep C.T H0 d v
  | .ow d => ∃ a, o = some (some (.ref a)) ∧ C.He a = none ∧ RepO C.T H0 H d (.ref a)
  | .io d => ∃ a, o = some (some (.ref a)) ∧ C.ioAt[i]? = some (some a) ∧ RepO C.T H0 H d (.ref a)
  | .fn => o = some (some (.ref C.fa))
structure Sim (C : Ctx) (σ : L2.St) (H0 H : Hp) (env : Env) : Prop where
  ok : C.Ok
  ex : Ext H0 H
  ex0 : Ext C.H0e H0
  fresh : ∀ a, C.H0e a = none → H0 a ≠ none → C.He a = none
  keep : ∀ a o, C.He a = some o → ¬ C.io a → Kp o (H a)
  ioH : ∀ a, C.io a → H a ≠ none
  len : env.length = σ.length
  slots : ∀ i, SlOk C H0 H i (σ[i]?) (getS env i)
  inj : ∀ i j a, i ≠ j → ownS (getS env i) = true → ownS (getS env j) = true → σ[i]? = some (some (.ref a)) → σ[j]? = some (some (.ref a)) → False
  tabs : LamX.Tabs C.T.tt H
  tno : ∀ p ∈ C.T.tt, H0 p.1 = none
/-- a new thing -/
def RepN (C : Ctx) (σ : L2.St) (H0 H : Hp) (env : Env) (d : D) (v : V) : Prop :=
  if isMutD d = true then ∃ a, v = .ref a ∧ C.He a = none ∧ RepO C.T H0 H d v ∧ ∀ i, ownS (getS env i) = true → σ[i]? ≠ some (some (.ref a)) else Rep C.T H0 d v
def UOk (C : Ctx) (σ : L2.St) (H0 H : Hp) (env : Env) : U → V → Prop
  | .d x, v => Rep C.T H0 x v
  | .sl i, v => σ[i]? = some (some v)
  | .nw x, v => RepN C σ H0 H env x v
/-- an exception: its class, its own dict -/
def XOk (T : Tbl) (H0 H : Hp) (x : Exn) (cls : Value) (d : Option Addr) : Prop :=
  ∃ C, T.cx x.1 x.2.1 = some C ∧ cls = .ref C ∧ ((x.2.1 = [] ∧ d = none) ∨ ∃ dd xs, d = some dd ∧ H0 dd = some (.xd ((x.2.1.map T.fn).zip xs)) ∧ xs.length = x.2.1.length ∧ RepAll T H0 x.2.2 xs)

/-! ### growing -/
structure Gr (T : Tbl) (H0 H H0' H' : Hp) : Prop where
  e0 : Ext H0 H0'
  e : ExtW H H'
  e01 : Ext H0' H'
  new : ∀ a, H0 a = none → H0' a ≠ none → H a = none
  tb : LamX.Tabs T.tt H → LamX.Tabs T.tt H'
theorem Gr.rfl' {T : Tbl} {H0 H : Hp} (e : Ext H0 H) : Gr T H0 H H0 H := ⟨Ext.rfl' _, .of (Ext.rfl' _), e, fun a h h' => (h' h).elim, fun t => t⟩
theorem Gr.tr {T : Tbl} {H0 H H0' H' H0'' H'' : Hp} (a : Gr T H0 H H0' H') (b : Gr T H0' H' H0'' H'') : Gr T H0 H H0'' H'' :=
  ⟨a.e0.tr b.e0, a.e.tr b.e, b.e01, fun x h h' => by
    cases q : H0' x with
    | none => exact a.e.no (b.new x q h')
    | some o => exact a.new x h (by rw [q]; exact nofun), fun t => b.tb (a.tb t)⟩
/-- a frozen new object -/
theorem Gr.froz {T : Tbl} {H0 H : Hp} {p : Addr} {o : HO} (e : Ext H0 H) (hp : H p = none) : Gr T H0 H (upd H0 p o) (upd H p o) := by
  refine ⟨ext_upd (e.no hp), .of (ext_upd hp), fun a u h => ?_, fun a h h' => ?_, fun t => (ext_upd hp).tabs t⟩
  · by_cases z : a = p
    · subst z; rw [upd_same] at h ⊢; exact h
    · rw [upd_ne z] at h ⊢; exact e _ _ h
  · by_cases z : a = p
    · subst z; exact hp
    · rw [upd_ne z] at h'; exact (h' h).elim
/-- an owned new object -/
theorem Gr.own {T : Tbl} {H0 H : Hp} {p : Addr} {o : HO} (e : Ext H0 H) (hp : H p = none) : Gr T H0 H H0 (upd H p o) :=
  ⟨Ext.rfl' _, .of (ext_upd hp), e.tr (ext_upd hp), fun a h h' => (h' h).elim, fun t => (ext_upd hp).tabs t⟩

section
variable {C : Ctx} {σ : L2.St} {H0 H H0' H' : Hp} {env : Env}
theorem RepO.keep {T : Tbl} {d : D} {a : Addr} (e0 : Ext H0 H0') (hn : H0' a = none) (hk : H' a = H a) (h : RepO T H0 H d (.ref a)) : RepO T H0' H' d (.ref a) := by
  cases d with
  | lst ds =>
    obtain ⟨b, xs, e, h1, h2, h3⟩ := h
    cases e
    exact ⟨a, xs, rfl, hn, hk.trans h2, RepAll.mono e0 _ _ h3⟩
  | dK ks vs =>
    obtain ⟨b, xs, e, h1, h2, hl, h3⟩ := h
    cases e
    exact ⟨a, xs, rfl, hn, hk.trans h2, hl, RepAll.mono e0 _ _ h3⟩
  | dT ks vs =>
    obtain ⟨b, xs, e, h1, h2, hl, h3⟩ := h
    cases e
    exact ⟨a, xs, rfl, hn, hk.trans h2, hl, RepAll.mono e0 _ _ h3⟩
  | obj c ks vs =>
    obtain ⟨b, Ca, dx, xs, e, h1, hc, h2, hl, h3⟩ := h
    cases e
    exact ⟨a, Ca, dx, xs, rfl, hn, hc, hk.trans h2, hl, RepAll.mono e0 _ _ h3⟩
  | _ => exact h.elim
theorem RepO.some {T : Tbl} {d : D} {a : Addr} (h : RepO T H0 H d (.ref a)) : H0 a = none ∧ ∃ o, H a = .some o := by
  cases d with
  | lst ds => obtain ⟨b, xs, e, h1, h2, h3⟩ := h; cases e; exact ⟨h1, _, h2⟩
  | dK ks vs => obtain ⟨b, xs, e, h1, h2, hl, h3⟩ := h; cases e; exact ⟨h1, _, h2⟩
  | dT ks vs => obtain ⟨b, xs, e, h1, h2, hl, h3⟩ := h; cases e; exact ⟨h1, _, h2⟩
  | obj c ks vs => obtain ⟨b, Ca, dx, xs, e, h1, hc, h2, hl, h3⟩ := h; cases e; exact ⟨h1, _, h2⟩
  | _ => exact h.elim
theorem RepO.kind {T : Tbl} {d : D} {a : Addr} {o : HO} (h : RepO T H0 H d (.ref a)) (ho : H a = .some o) : (∀ ps, o ≠ .tbl ps) ∧ ∀ φ, o ≠ .ext φ := by
  cases d with
  | lst ds => obtain ⟨b, xs, e, h1, h2, h3⟩ := h; cases e; rw [ho] at h2; cases h2; exact ⟨nofun, nofun⟩
  | dK ks vs => obtain ⟨b, xs, e, h1, h2, hl, h3⟩ := h; cases e; rw [ho] at h2; cases h2; exact ⟨nofun, nofun⟩
  | dT ks vs => obtain ⟨b, xs, e, h1, h2, hl, h3⟩ := h; cases e; rw [ho] at h2; cases h2; exact ⟨nofun, nofun⟩
  | obj c ks vs => obtain ⟨b, Ca, dx, xs, e, h1, hc, h2, hl, h3⟩ := h; cases e; rw [ho] at h2; cases h2; exact ⟨nofun, nofun⟩
  | _ => exact h.elim
theorem RepO.ref {T : Tbl} {d : D} {v : V} (h : RepO T H0 H d v) : isMutD d = true ∧ ∃ a, v = .ref a := by
  cases d with
  | lst ds => obtain ⟨b, xs, e, h1, h2, h3⟩ := h; exact ⟨rfl, b, e⟩
  | dK ks vs => obtain ⟨b, xs, e, h1, h2, hl, h3⟩ := h; exact ⟨rfl, b, e⟩
  | dT ks vs => obtain ⟨b, xs, e, h1, h2, hl, h3⟩ := h; exact ⟨rfl, b, e⟩
  | obj c ks vs => obtain ⟨b, Ca, dx, xs, e, h1, hc, h2, hl, h3⟩ := h; exact ⟨rfl, b, e⟩
  | _ => exact h.elim
/-- an owned thing becomes frozen -/
theorem RepO.kindT {T : Tbl} {d : D} {a : Addr} {o : HO} (h : RepO T H0 H d (.ref a)) (ho : H a = .some o) : (∀ ps, o ≠ .tup ps) ∧ ∀ x u, o ≠ .frz x u := by
  cases d with
  | lst ds => obtain ⟨b, xs, e, h1, h2, h3⟩ := h; cases e; rw [ho] at h2; cases h2; exact ⟨(fun _ z => by cases z), (fun _ _ z => by cases z)⟩
  | dK ks vs => obtain ⟨b, xs, e, h1, h2, hl, h3⟩ := h; cases e; rw [ho] at h2; cases h2; exact ⟨(fun _ z => by cases z), (fun _ _ z => by cases z)⟩
  | dT ks vs => obtain ⟨b, xs, e, h1, h2, hl, h3⟩ := h; cases e; rw [ho] at h2; cases h2; exact ⟨(fun _ z => by cases z), (fun _ _ z => by cases z)⟩
  | obj c ks vs => obtain ⟨b, Ca, dx, xs, e, h1, hc, h2, hl, h3⟩ := h; cases e; rw [ho] at h2; cases h2; exact ⟨(fun _ z => by cases z), (fun _ _ z => by cases z)⟩
  | _ => exact h.elim
theorem RepO.froz {T : Tbl} {d : D} {a : Addr} {o : HO} (ho : H a = .some o) (h : RepO T H0 H d (.ref a)) : Rep T (upd H0 a o) d (.ref a) := by
  have en : Ext H0 (upd H0 a o) := ext_upd h.some.1
  cases d with
  | lst ds =>
    obtain ⟨b, xs, e, h1, h2, h3⟩ := h
    cases e
    rw [ho] at h2; cases h2
    simp only [Rep]
    exact ⟨a, xs, rfl, .inl upd_same, RepAll.mono en _ _ h3⟩
  | dK ks vs =>
    obtain ⟨b, xs, e, h1, h2, hl, h3⟩ := h
    cases e
    rw [ho] at h2; cases h2
    simp only [Rep]
    exact ⟨a, xs, rfl, upd_same, hl, RepAll.mono en _ _ h3⟩
  | dT ks vs =>
    obtain ⟨b, xs, e, h1, h2, hl, h3⟩ := h
    cases e
    rw [ho] at h2; cases h2
    simp only [Rep]
    exact ⟨a, xs, rfl, upd_same, hl, RepAll.mono en _ _ h3⟩
  | obj c ks vs =>
    obtain ⟨b, Ca, dx, xs, e, h1, hc, h2, hl, h3⟩ := h
    cases e
    rw [ho] at h2; cases h2
    simp only [Rep]
    exact ⟨a, Ca, dx, xs, rfl, hc, upd_same, hl, RepAll.mono en _ _ h3⟩
  | _ => exact h.elim

/-- the slots are as they were where the owned objects stand as they stood -/
theorem SlOk.step {i : Nat} {o : Option (Option V)} {s : Sl} (e0 : Ext H0 H0') (hk : ∀ a, ownS s = true → o = some (some (.ref a)) → H0' a = none ∧ H' a = H a) (h : SlOk C H0 H i o s) : SlOk C H0' H' i o s := by
  cases s with
  | un => trivial
  | fn => exact h
  | fz d => obtain ⟨v, h1, h2⟩ := h; exact ⟨v, h1, Rep.mono e0 _ _ h2⟩
  | ow d => obtain ⟨a, h1, h2, h3⟩ := h; exact ⟨a, h1, h2, h3.keep e0 (hk a rfl h1).1 (hk a rfl h1).2⟩
  | io d => obtain ⟨a, h1, h2, h3⟩ := h; exact ⟨a, h1, h2, h3.keep e0 (hk a rfl h1).1 (hk a rfl h1).2⟩
theorem Sim.own (S : Sim C σ H0 H env) {i : Nat} {a : Addr} (h : ownS (getS env i) = true) (e : σ[i]? = some (some (.ref a))) : H0 a = none ∧ ∃ o, H a = some o := by
  have q := S.slots i
  cases z : getS env i with
  | un => rw [z] at h; cases h
  | fn => rw [z] at h; cases h
  | fz d => rw [z] at h; cases h
  | ow d => rw [z] at q; obtain ⟨b, h1, h2, h3⟩ := q; rw [e] at h1; cases h1; exact h3.some
  | io d => rw [z] at q; obtain ⟨b, h1, h2, h3⟩ := q; rw [e] at h1; cases h1; exact h3.some
theorem Sim.ownK (S : Sim C σ H0 H env) {i : Nat} {a : Addr} {o : HO} (h : ownS (getS env i) = true) (e : σ[i]? = some (some (.ref a))) (ho : H a = some o) : (∀ ps, o ≠ .tbl ps) ∧ ∀ φ, o ≠ .ext φ := by
  have q := S.slots i
  cases z : getS env i with
  | un => rw [z] at h; cases h
  | fn => rw [z] at h; cases h
  | fz d => rw [z] at h; cases h
  | ow d => rw [z] at q; obtain ⟨b, h1, h2, h3⟩ := q; rw [e] at h1; cases h1; exact h3.kind ho
  | io d => rw [z] at q; obtain ⟨b, h1, h2, h3⟩ := q; rw [e] at h1; cases h1; exact h3.kind ho
theorem Sim.he (S : Sim C σ H0 H env) {a : Addr} (h : H a = none) : C.He a = none := by
  cases q : C.He a with
  | none => rfl
  | some o =>
    by_cases z : C.io a
    · exact (S.ioH a z h).elim
    · obtain ⟨u, hu⟩ := (S.keep a o q z).some; rw [h] at hu; cases hu
theorem Sim.gr (S : Sim C σ H0 H env) (g : Gr C.T H0 H H0' H') : Sim C σ H0' H' env where
  ok := S.ok
  ex := g.e01
  ex0 := S.ex0.tr g.e0
  fresh := fun a h h' => by
    cases q : H0 a with
    | none => exact S.he (g.new a q h')
    | some o => exact S.fresh a h (by rw [q]; exact nofun)
  keep := fun a o h h' => by
    obtain ⟨u, hu⟩ := (S.keep a o h h').some
    exact (S.keep a o h h').tr hu (g.e a u hu)
  tabs := g.tb S.tabs
  tno := fun p hp => by
    obtain ⟨ps, h1, _⟩ := S.tabs p hp
    cases q : H0' p.1 with
    | none => rfl
    | some u => rw [g.new p.1 (S.tno p hp) (by rw [q]; exact nofun)] at h1; cases h1
  ioH := fun a h h' => by
    cases q : H a with
    | none => exact S.ioH a h q
    | some o => obtain ⟨u, hu⟩ := (g.e _ _ q).some; rw [h'] at hu; cases hu
  len := S.len
  slots := fun i => (S.slots i).step g.e0 fun a ho e => by
    obtain ⟨h0, o, h1⟩ := S.own ho e
    refine ⟨?_, by rw [(g.e _ _ h1).at (S.ownK ho e h1).1, h1]⟩
    cases q : H0' a with
    | none => rfl
    | some u => rw [g.new a h0 (by rw [q]; exact nofun)] at h1; cases h1
  inj := S.inj
theorem Sim.tnoU (S : Sim C σ H0 H env) {a : Addr} {o o' : HO} (h : H a = some o) (hk : ∀ ps, o ≠ .tbl ps) : ∀ p ∈ C.T.tt, upd H0 a o' p.1 = none := fun p hp => by
  obtain ⟨ps, h1, _⟩ := S.tabs p hp
  rw [upd_ne (fun z => by rw [z, h] at h1; exact hk ps (Option.some.inj h1))]
  exact S.tno p hp
theorem RepG.nw (S : Sim C σ H0 H env) {d : D} {v : V} (h : RepG C.T H0' H' H d v) : RepN C σ H0' H' env d v := by
  unfold RepN; unfold RepG at h
  split
  · rename_i z
    rw [if_pos z] at h
    obtain ⟨a, rfl, h1, h2⟩ := h
    refine ⟨a, rfl, S.he h1, h2, fun i ho e => ?_⟩
    obtain ⟨_, o, q⟩ := S.own ho e
    rw [h1] at q; cases q
  · rename_i z
    rw [if_neg z] at h
    exact h
/-- freezing an object that is owned by no slot -/
theorem Sim.frozN (S : Sim C σ H0 H env) {a : Addr} {o : HO} (hk : ∀ ps, o ≠ .tbl ps) (h0 : H0 a = none) (he : C.He a = none) (h : H a = some o) (hs : ∀ i, ownS (getS env i) = true → σ[i]? ≠ some (some (.ref a))) : Sim C σ (upd H0 a o) H env where
  ok := S.ok
  ex := fun b u q => by
    by_cases z : b = a
    · subst z; rw [upd_same] at q; cases q; exact h
    · rw [upd_ne z] at q; exact S.ex _ _ q
  ex0 := S.ex0.tr (ext_upd h0)
  fresh := fun b q q' => by
    by_cases z : b = a
    · subst z; exact he
    · rw [upd_ne z] at q'; exact S.fresh b q q'
  keep := S.keep
  ioH := S.ioH
  len := S.len
  slots := fun i => (S.slots i).step (ext_upd h0) fun b ho e => by
    have z : b ≠ a := fun z => hs i ho (by rw [← z]; exact e)
    exact ⟨by rw [upd_ne z]; exact (S.own ho e).1, rfl⟩
  inj := S.inj
  tabs := S.tabs
  tno := fun p hp => by
    obtain ⟨ps, h1, _⟩ := S.tabs p hp
    rw [upd_ne (fun z => by rw [z, h] at h1; exact hk ps (Option.some.inj h1))]
    exact S.tno p hp
/-- a value that waits: a new thing is frozen -/
theorem Sim.pend (S : Sim C σ H0 H env) {u : U} {v : V} (h : UOk C σ H0 H env u v) : ∃ H0', Ext H0 H0' ∧ Sim C σ H0' H env ∧ UOk C σ H0' H env (PP.pend u) v := by
  cases u with
  | d x => exact ⟨H0, Ext.rfl' _, S, h⟩
  | sl i => exact ⟨H0, Ext.rfl' _, S, h⟩
  | nw x =>
    have h' : RepN C σ H0 H env x v := h
    unfold RepN at h'
    split at h'
    · obtain ⟨a, rfl, h1, h2, h3⟩ := h'
      obtain ⟨h0, o, ho⟩ := h2.some
      exact ⟨upd H0 a o, ext_upd h0, S.frozN (h2.kind ho).1 h0 h1 ho h3, h2.froz ho⟩
    · exact ⟨H0, Ext.rfl' _, S, h'⟩
/-- what waits, waits on -/
theorem UOk.wait {u : U} {v : V} {env' : Env} {H1 : Hp} (h : UOk C σ H0 H env (PP.pend u) v) (e : Ext H0 H0') : UOk C σ H0' H1 env' (PP.pend u) v := by
  cases u with
  | d x => exact Rep.mono e _ _ h
  | sl i => exact h
  | nw x => exact Rep.mono e _ _ h
/-- reading -/
theorem Sim.rd (S : Sim C σ H0 H env) {u : U} {v : V} {d : D} (h : UOk C σ H0 H env u v) (hr : rdU env u = some d) : RdV C.T H0 H d v := by
  cases u with
  | d x => cases hr; exact .inl h
  | nw x =>
    cases hr
    have h' : RepN C σ H0 H env d v := h
    unfold RepN at h'
    split at h'
    · obtain ⟨a, rfl, h1, h2, h3⟩ := h'
      exact .inr h2
    · exact .inl h'
  | sl i =>
    have q := S.slots i
    have e : σ[i]? = some (some v) := h
    unfold rdU rdS at hr
    cases z : getS env i with
    | un => simp [z] at hr
    | fn => simp [z] at hr
    | fz x => simp [z] at hr; subst hr; rw [z] at q; obtain ⟨w, h1, h2⟩ := q; rw [e] at h1; cases h1; exact .inl h2
    | ow x => simp [z] at hr; subst hr; rw [z] at q; obtain ⟨w, h1, h2, h3⟩ := q; rw [e] at h1; cases h1; exact .inr h3
    | io x => simp [z] at hr; subst hr; rw [z] at q; obtain ⟨w, h1, h2, h3⟩ := q; rw [e] at h1; cases h1; exact .inr h3
end
end PP
end

section
set_option maxHeartbeats 1000000
namespace PP
open PySem L2

/-- what is wanted of a result -/
def RQ {α : Type} (C : Ctx) (W : WX) (σ : L2.St) (K : α → Env → Hp → Hp → Prop) (H0 : Hp) : R α → Prop
  | .ok a env => ∀ H0' H', Ext H0 H0' → Sim C σ H0' H' env → K a env H0' H'
  | .exc x env => ∀ cls d H0' H', Ext H0 H0' → Sim C σ H0' H' env → XOk C.T H0' H' x cls d → W cls d σ H'
  | .bad => False
def KV (C : Ctx) (σ : L2.St) (Q : VK) : U → Env → Hp → Hp → Prop := fun u env H0 H => ∀ v, UOk C σ H0 H env u v → Q v H
/-- an expression of the small syntax, read -/
def tI (C : Ctx) (W : WX) (cl : CallF) (e : Ex) : TE := fun σ H Q => ∃ H0 env, Sim C σ H0 H env ∧ RQ C W σ (KV C σ Q) H0 (ev cl e env)
def tT (C : Ctx) (W : WX) (cl : CallF) (e : Ex) : TT := fun σ H Q => ∃ H0 env, Sim C σ H0 H env ∧ RQ C W σ (fun b _ _ H' => Q b H') H0 (evT cl e env)
theorem RQ.mono {α : Type} {C : Ctx} {W : WX} {σ : L2.St} {K : α → Env → Hp → Hp → Prop} {H0 H1 : Hp} (e : Ext H0 H1) {r : R α} (h : RQ C W σ K H0 r) : RQ C W σ K H1 r := by
  cases r with
  | ok a env => exact fun H0' H' e' s => h H0' H' (e.tr e') s
  | exc x env => exact fun cls d H0' H' e' s x => h cls d H0' H' (e.tr e') s x
  | bad => exact h
theorem RQ.orB {α β : Type} {C : Ctx} {W : WX} {σ : L2.St} {K : β → Env → Hp → Hp → Prop} {H0 : Hp} {o : Option α} {f : α → R β} (h : RQ C W σ K H0 (orBad o f)) : ∃ a, o = some a ∧ RQ C W σ K H0 (f a) := by
  cases o with
  | none => exact h.elim
  | some a => exact ⟨a, rfl, h⟩
section
variable {C : Ctx} {W : WX} {σ : L2.St} {cl : CallF} {H0 H : Hp} {env : Env} {β : Type} {K : β → Env → Hp → Hp → Prop}
/-- an expression, then the rest -/
theorem seqI {a : Ex} {f : U → Env → R β} (S : Sim C σ H0 H env) (h : RQ C W σ K H0 ((ev cl a env).bind f)) {Q : VK}
    (hQ : ∀ u env1 v H01 H1, Ext H0 H01 → Sim C σ H01 H1 env1 → UOk C σ H01 H1 env1 u v → RQ C W σ K H01 (f u env1) → Q v H1) : tI C W cl a σ H Q := by
  refine ⟨H0, env, S, ?_⟩
  cases q : ev cl a env with
  | ok u env1 =>
    rw [q] at h
    exact fun H01 H1 e s v hu => hQ u env1 v H01 H1 e s hu (RQ.mono e h)
  | exc x env1 =>
    rw [q] at h
    exact fun cls d H0' H' e s x => h cls d H0' H' e s x
  | bad => rw [q] at h; exact h
theorem seqT {a : Ex} {f : Bool → Env → R β} (S : Sim C σ H0 H env) (h : RQ C W σ K H0 ((evT cl a env).bind f)) {Q : Bool → Hp → Prop}
    (hQ : ∀ b env1 H01 H1, Ext H0 H01 → Sim C σ H01 H1 env1 → RQ C W σ K H01 (f b env1) → Q b H1) : tT C W cl a σ H Q := by
  refine ⟨H0, env, S, ?_⟩
  cases q : evT cl a env with
  | ok u env1 =>
    rw [q] at h
    exact fun H01 H1 e s => hQ u env1 H01 H1 e s (RQ.mono e h)
  | exc x env1 =>
    rw [q] at h
    exact fun cls d H0' H' e s x => h cls d H0' H' e s x
  | bad => rw [q] at h; exact h
end
theorem peI {X : Cx} {e : Expr} {t t' : TE} (h : PE X e t) (i : ∀ σ H Q, t' σ H Q → t σ H Q) : PE X e t' := ⟨fun pins s σ H Q I q => h.run pins s σ H Q I (i σ H Q q)⟩
theorem ptI {X : Cx} {e : Expr} {t t' : TT} (h : PT X e t) (i : ∀ σ H Q, t' σ H Q → t σ H Q) : PT X e t' := ⟨fun pins s σ H Q I q => h.run pins s σ H Q I (i σ H Q q)⟩
theorem pwI {X : Cx} {e : Expr} {t t' : TT} (h : PW X e t) (i : ∀ σ H Q, t' σ H Q → t σ H Q) : PW X e t' := ⟨fun wh pins s σ H Q I q => h.run wh pins s σ H Q I (i σ H Q q)⟩
theorem orI {X : Cx} {f : Value → Value → Sem Value} {r r' : R2} (h : OpR X f r) (i : ∀ x y H Q, r' x y H Q → r x y H Q) : OpR X f r' := fun pins s σ H x y v u Q I rx ry q => h pins s σ H x y v u Q I rx ry (i x y H Q q)

/-! ### reading a value by its data -/
section
variable {T : Tbl} {H0 H : Hp} {x : V}
theorem rd_non (h : RdV T H0 H .non x) : x = .non := by rcases h with h | h; exact (by simpa only [Rep] using h); exact h.elim
theorem rd_bl {b : Bool} (h : RdV T H0 H (.bl b) x) : x = .bl b := by rcases h with h | h; exact (by simpa only [Rep] using h); exact h.elim
theorem rd_int {i : Int} (h : RdV T H0 H (.int i) x) : x = .int i := by rcases h with h | h; exact (by simpa only [Rep] using h); exact h.elim
theorem rd_str {i : Str} (h : RdV T H0 H (.str i) x) : x = .str i := by rcases h with h | h; exact (by simpa only [Rep] using h); exact h.elim
theorem rd_lst (e : Ext H0 H) {ds : List D} (h : RdV T H0 H (.lst ds) x) : ∃ a xs, x = .ref a ∧ Rd H a (.lst xs) ∧ RepAll T H0 ds xs := by
  rcases h with h | h
  · simp only [Rep] at h
    obtain ⟨a, xs, h1, h2, h3⟩ := h
    exact ⟨a, xs, h1, e.rd h2, h3⟩
  · obtain ⟨a, xs, h1, h0, h2, h3⟩ := h
    exact ⟨a, xs, h1, .inl h2, h3⟩
theorem rd_tup (e : Ext H0 H) {ds : List D} (h : RdV T H0 H (.tup ds) x) : ∃ a xs, x = .ref a ∧ SqT T.K H a xs ∧ RepAll T H0 ds xs := by
  rcases h with h | h
  · simp only [Rep] at h
    obtain ⟨a, xs, h1, h2, h3⟩ := h
    exact ⟨a, xs, h1, e.sqT h2, h3⟩
  · exact h.elim
theorem rd_kst (e : Ext H0 H) {ds : List D} (h : RdV T H0 H (.kst ds) x) : ∃ a xs, x = .ref a ∧ SqL T.K H a xs ∧ RepAll T H0 ds xs := by
  rcases h with h | h
  · simp only [Rep] at h
    obtain ⟨a, xs, h1, h2, h3⟩ := h
    exact ⟨a, xs, h1, e.sqL h2, h3⟩
  · exact h.elim
theorem rd_dK (e : Ext H0 H) {ks : List Key} {ds : List D} (h : RdV T H0 H (.dK ks ds) x) : ∃ a xs, x = .ref a ∧ H a = some (.dK (ks.zip xs)) ∧ xs.length = ks.length ∧ RepAll T H0 ds xs := by
  rcases h with h | h
  · simp only [Rep] at h
    obtain ⟨a, xs, h1, h2, h3⟩ := h
    exact ⟨a, xs, h1, e _ _ h2, h3⟩
  · obtain ⟨a, xs, h1, h0, h2, h3⟩ := h
    exact ⟨a, xs, h1, h2, h3⟩
theorem lim_line : LIM ≤ sizeLine := by rw [PySem.sizeLine_eq]; decide
theorem rd_truth (e : Ext H0 H) {d : D} {b : Bool} (h : RdV T H0 H d x) (ht : truD d = some b) : TruV T.K x H b := by
  cases d with
  | non => cases rd_non h; cases ht; rfl
  | bl c => cases rd_bl h; cases ht; rfl
  | int i => cases rd_int h; cases ht; rfl
  | str z =>
    cases rd_str h
    simp only [truD] at ht
    split at ht
    · rename_i hl
      cases ht
      exact ⟨Nat.le_trans hl lim_line, rfl⟩
    · cases ht
  | lst ds =>
    obtain ⟨a, xs, rfl, h1, h2⟩ := rd_lst e h
    cases ht
    refine .inl ⟨xs, .inl h1, ?_⟩
    have := h2.len
    cases ds <;> cases xs <;> simp_all
  | tup ds =>
    obtain ⟨a, xs, rfl, h1, h2⟩ := rd_tup e h
    cases ht
    refine .inr (.inl ⟨xs, h1, ?_⟩)
    have := h2.len
    cases ds <;> cases xs <;> simp_all
  | kst ds =>
    obtain ⟨a, xs, rfl, h1, h2⟩ := rd_kst e h
    cases ht
    refine .inl ⟨xs, h1, ?_⟩
    have := h2.len
    cases ds <;> cases xs <;> simp_all
  | dK ks ds =>
    obtain ⟨a, xs, rfl, h1, hl, h2⟩ := rd_dK e h
    cases ht
    refine .inr (.inr ⟨_, h1, ?_⟩)
    cases ks <;> cases xs <;> simp_all
  | dT ks ds => cases ht
  | obj c ks ds => cases ht
  | cls c => cases ht
  | err c ks ds => cases ht
end
theorem RepG.flat {T : Tbl} {H0' H' H : Hp} {d : D} {v : V} (hf : isMutD d = false) (h : Rep T H0' d v) : RepG T H0' H' H d v := by
  unfold RepG
  rw [if_neg (by rw [hf]; decide)]
  exact h
theorem RepG.lst {T : Tbl} {H0 H : Hp} {ds : List D} {xs : List V} {p : Addr} (e : Ext H0 H) (hp : H p = none) (h : RepAll T H0 ds xs) : RepG T H0 (upd H p (.lst xs)) H (.lst ds) (.ref p) := by
  show (if true = true then _ else _)
  rw [if_pos rfl]
  exact ⟨p, rfl, hp, p, xs, rfl, e.no hp, upd_same, h⟩

/-- an operation by the data -/
def rD (T : Tbl) (g : D → D → Option D) : R2 := fun x y H Q => ∃ H0 dx dy d, Ext H0 H ∧ RdV T H0 H dx x ∧ RdV T H0 H dy y ∧ g dx dy = some d ∧ ∀ v H0' H', Gr T H0 H H0' H' → RepG T H0' H' H d v → Q v H'
def rD1 (T : Tbl) (g : D → Option D) : V → Hp → VK → Prop := fun x H Q => ∃ H0 dx d, Ext H0 H ∧ RdV T H0 H dx x ∧ g dx = some d ∧ ∀ v H0' H', Gr T H0 H H0' H' → RepG T H0' H' H d v → Q v H'
section
variable {X : Cx} {T : Tbl}
/-- two ints in -/
theorem opInts {f : Value → Value → Sem Value} {o : O2} {c : Int → Int → Prop} {g : Int → Int → V} {gd : Int → Int → D} (h : OpR X f (rI c g)) (hf : ∀ i j, isMutD (gd i j) = false) (hr : ∀ T H i j, Rep T H (gd i j) (g i j))
    (inv : ∀ dx dy d, op2 o dx dy = some d → ∃ i j, dx = .int i ∧ dy = .int j ∧ c i j ∧ d = gd i j) : OpR X f (rD T (op2 o)) :=
  orI h fun x y H Q ⟨H0, dx, dy, d, e, hx, hy, hg, q⟩ => by
    obtain ⟨i, j, rfl, rfl, hc, rfl⟩ := inv dx dy d hg
    exact ⟨i, j, rd_int hx, rd_int hy, hc, q _ _ _ (Gr.rfl' e) (.flat (hf i j) (hr _ _ i j))⟩
theorem rI0I {g : Int → Int → V} {f : Value → Value → Sem Value} (h : OpR X f (rI0 g)) : OpR X f (rI (fun _ _ => True) g) := orI h fun x y H Q ⟨i, j, h1, h2, _, q⟩ => ⟨i, j, h1, h2, q⟩
theorem r_int (T : Tbl) (H : Hp) (i : Int) : Rep T H (.int i) (.int i) := by simp only [Rep]
theorem r_bl (T : Tbl) (H : Hp) (i : Bool) : Rep T H (.bl i) (.bl i) := by simp only [Rep]
theorem r_str (T : Tbl) (H : Hp) (i : Str) : Rep T H (.str i) (.str i) := by simp only [Rep]
theorem r_non (T : Tbl) (H : Hp) : Rep T H .non .non := by simp only [Rep]
theorem o_sub : OpR X (binaryOp .Sub) (rD T (op2 .sub)) := opInts (gd := fun i j => .int (i - j)) (rI0I op_sub) (fun _ _ => rfl) (fun T H i j => r_int T H _) (by
  intro dx dy d h
  cases dx <;> first | (cases h; done) | (cases dy <;> first | (cases h; done) | (cases h; exact ⟨_, _, rfl, rfl, trivial, rfl⟩)))
theorem op_fdivA : OpR X (binaryOp .FloorDiv) (rI CDivW fun i j => .int (i / j)) := op_fdivW
def CMulA (i j : Int) : Prop := CMul i j ∨ CMulW i j
theorem op_mulA : OpR X (binaryOp .Mult) (rI CMulA fun i j => .int (i * j)) := opI fun _ _ _ _ _ _ _ hc q => PyProof.Rows.mul_int q (hc.elim CMul.ok CMulW.ok)
theorem o_fdiv : OpR X (binaryOp .FloorDiv) (rD T (op2 .fdiv)) := opInts (gd := fun i j => .int (i / j)) op_fdivA (fun _ _ => rfl) (fun T H i j => r_int T H _) (by
  intro dx dy d h
  cases dx <;> first | (cases h; done) | (cases dy <;> first | (cases h; done) | skip)
  simp only [op2] at h
  split at h
  · rename_i z
    cases h
    refine ⟨_, _, rfl, rfl, ?_, rfl⟩
    simpa [divOk, CDivW] using z
  · cases h)
theorem o_mod : OpR X (binaryOp .Mod) (rD T (op2 .mod)) := opInts (gd := fun i j => .int (i % j)) op_mod (fun _ _ => rfl) (fun T H i j => r_int T H _) (by
  intro dx dy d h
  cases dx <;> first | (cases h; done) | (cases dy <;> first | (cases h; done) | skip)
  simp only [op2] at h
  split at h
  · rename_i z
    cases h
    exact ⟨_, _, rfl, rfl, z, rfl⟩
  · cases h)
theorem o_pow : OpR X (binaryOp .Pow) (rD T (op2 .pow)) := opInts (gd := fun i j => .int (i ^ j.toNat)) op_pow (fun _ _ => rfl) (fun T H i j => r_int T H _) (by
  intro dx dy d h
  cases dx <;> first | (cases h; done) | (cases dy <;> first | (cases h; done) | skip)
  simp only [op2] at h
  split at h
  · rename_i z
    cases h
    refine ⟨_, _, rfl, rfl, ?_, rfl⟩
    simpa [powOk, CPow, and_assoc] using z
  · cases h)
theorem o_shl : OpR X (binaryOp .LShift) (rD T (op2 .shl)) := opInts (gd := fun i j => .int (i * 2 ^ j.toNat)) op_shlW (fun _ _ => rfl) (fun T H i j => r_int T H _) (by
  intro dx dy d h
  cases dx <;> first | (cases h; done) | (cases dy <;> first | (cases h; done) | skip)
  simp only [op2] at h
  split at h
  · rename_i z
    cases h
    refine ⟨_, _, rfl, rfl, ?_, rfl⟩
    simp only [shlOk, Bool.and_eq_true, decide_eq_true_eq] at z
    have hb : ∀ x : Int, Builtin.Int.intBits x ≤ x.natAbs.log2 + 1 := fun x => by
      unfold Builtin.Int.intBits
      split <;> omega
    refine ⟨z.1.1, ?_⟩
    rename_i i' j'
    have h1 := hb j'
    have h2 := hb i'
    have e : (2 : Int) ^ 27 = 134217728 := by decide
    rw [e]
    omega
  · cases h)
theorem o_shr : OpR X (binaryOp .RShift) (rD T (op2 .shr)) := opInts (gd := fun i j => .int (i / 2 ^ j.toNat)) op_shr (fun _ _ => rfl) (fun T H i j => r_int T H _) (by
  intro dx dy d h
  cases dx <;> first | (cases h; done) | (cases dy <;> first | (cases h; done) | skip)
  simp only [op2] at h
  split at h
  · rename_i z
    cases h
    exact ⟨_, _, rfl, rfl, z, rfl⟩
  · cases h)
theorem o_band : OpR X (binaryOp .BitAnd) (rD T (op2 .band)) := opInts (gd := fun i j => .int (Builtin.bitAnd i j)) (rI0I op_and) (fun _ _ => rfl) (fun T H i j => r_int T H _) (by
  intro dx dy d h
  cases dx <;> first | (cases h; done) | (cases dy <;> first | (cases h; done) | (cases h; exact ⟨_, _, rfl, rfl, trivial, rfl⟩)))
theorem o_bor : OpR X (binaryOp .BitOr) (rD T (op2 .bor)) := opInts (gd := fun i j => .int (Builtin.bitOr i j)) (rI0I op_or) (fun _ _ => rfl) (fun T H i j => r_int T H _) (by
  intro dx dy d h
  cases dx <;> first | (cases h; done) | (cases dy <;> first | (cases h; done) | (cases h; exact ⟨_, _, rfl, rfl, trivial, rfl⟩)))
theorem o_lt : OpR X (compareOp .Lt) (rD T (op2 .lt)) := opInts (gd := fun i j => .bl (decide (i < j))) (rI0I op_lt) (fun _ _ => rfl) (fun T H i j => r_bl T H _) (by
  intro dx dy d h
  cases dx <;> first | (cases h; done) | (cases dy <;> first | (cases h; done) | (cases h; exact ⟨_, _, rfl, rfl, trivial, rfl⟩)))
theorem o_le : OpR X (compareOp .LtE) (rD T (op2 .le)) := opInts (gd := fun i j => .bl (decide (i ≤ j))) (rI0I op_le) (fun _ _ => rfl) (fun T H i j => r_bl T H _) (by
  intro dx dy d h
  cases dx <;> first | (cases h; done) | (cases dy <;> first | (cases h; done) | (cases h; exact ⟨_, _, rfl, rfl, trivial, rfl⟩)))
theorem o_gt : OpR X (compareOp .Gt) (rD T (op2 .gt)) := opInts (gd := fun i j => .bl (decide (j < i))) (rI0I op_gt) (fun _ _ => rfl) (fun T H i j => r_bl T H _) (by
  intro dx dy d h
  cases dx <;> first | (cases h; done) | (cases dy <;> first | (cases h; done) | (cases h; exact ⟨_, _, rfl, rfl, trivial, rfl⟩)))
theorem o_ge : OpR X (compareOp .GtE) (rD T (op2 .ge)) := opInts (gd := fun i j => .bl (decide (j ≤ i))) (rI0I op_ge) (fun _ _ => rfl) (fun T H i j => r_bl T H _) (by
  intro dx dy d h
  cases dx <;> first | (cases h; done) | (cases dy <;> first | (cases h; done) | (cases h; exact ⟨_, _, rfl, rfl, trivial, rfl⟩)))

/-- a readable list, as the machine has it -/
theorem rdM {pins : List (Addr × Obj)} {s : Shared} {σ : L2.St} {H : Hp} {l : Addr} {xs : List V} (I : Inv X pins σ H s) (h : Rd H l (.lst xs)) :
    ∃ (its : List Value) (n : Nat), Vals xs its ∧ xs.length = its.length ∧ xs.length ≤ sizeLine ∧ s.heap.get? l = some { cls := .type "list", data := .seq its.toArray n } := by
  obtain ⟨z, its, n, r, e⟩ := h.ok I.hok
  exact ⟨its, n, r, r.length, z, e⟩
/-- list + list, wherever they stand -/
theorem o_cat : OpR X (binaryOp .Add) (fun x y H Q => ∃ l b xs zs, x = .ref l ∧ y = .ref b ∧ Rd H l (.lst xs) ∧ Rd H b (.lst zs) ∧ xs.length + zs.length ≤ sizeLine ∧ ∀ p, H p = none → Q (.ref p) (upd H p (.lst (xs ++ zs)))) := by
  intro pins s σ H x y v u Q I rx ry h
  obtain ⟨l, b, xs, zs, rfl, rfl, hl, hb, hz, q⟩ := h
  cases rx
  cases ry
  obtain ⟨its, n, r, hh1, _, e⟩ := rdM I hl
  obtain ⟨its2, n2, r2, hh2, _, e2⟩ := rdM I hb
  refine PySem.P.add_list e e2 ?_ (by simp only [List.size_toArray]; omega)
  simp only [List.append_toArray]
  exact ⟨.ref _, _, I.lnew (t' := s.toks) (r.append r2) (by rw [List.length_append]; omega), rfl, q _ I.fresh⟩
section
open PySem.Spec PyProof.Rows
theorem o_rep : OpR X (binaryOp .Mult) (fun x y H Q => ∃ l k xs, x = .ref l ∧ y = .int k ∧ Rd H l (.lst xs) ∧ -(2 ^ 63) ≤ k ∧ k < 2 ^ 63 ∧ xs.length * k.toNat ≤ sizeLine ∧ ∀ p, H p = none → Q (.ref p) (upd H p (.lst (List.replicate k.toNat xs).flatten))) := by
  intro pins s σ H x y v u Q I rx ry h
  obtain ⟨l, k, xs, rfl, rfl, hH, h1, h2, hz, q⟩ := h
  cases rx
  obtain ⟨t, rfl⟩ := ry
  obtain ⟨its, n, r, hl, z, e⟩ := rdM I hH
  have hlen : its.toArray.size * k.toNat ≤ sizeLine := by rw [List.size_toArray, ← hl]; exact hz
  have hcap : ¬ its.toArray.size * k.toNat > (2 ^ 63 - 1) / 8 := by
    have : (sizeLine : Nat) ≤ (2 ^ 63 - 1) / 8 := by decide
    omega
  have hfit : ¬ (!Builtin.List.listFitsIndex k) = true := by
    rw [fitsIndex_both h1 h2]
    exact Bool.false_ne_true
  have hlong : ¬ Builtin.List.listTooLong (its.toArray.size * k.toNat) = true := by
    rw [notLongL hlen]
    exact Bool.false_ne_true
  have hnew : List.foldl (fun x1 x2 => x1 ++ x2) #[] (List.replicate (if its.toArray.isEmpty = true then 0 else k.toNat) its.toArray) = (List.replicate k.toNat its).flatten.toArray := by
    have f0 : ∀ m : Nat, List.foldl (fun x1 x2 => x1 ++ x2) #[] (List.replicate m its.toArray) = (List.replicate m its).flatten.toArray := fun m => by
      have := foldl_rep its m []
      rw [List.nil_append] at this
      exact this
    rw [f0]
    cases its with
    | nil => simp
    | cons a r' => rw [if_neg (by simp)]
  refine wpAny_binaryOp_repeat_ref (T := "list") (U := "int") (by decide) ⟨_, e, rfl⟩ (fun s' => typeIs_int s' k t) noFill_list_mul F.fills_int_mul F.slot_int_rmul repeat_list F.slot_int_index.lookup
    (call_meets F.slot_int_rmul (typeIs_int s k t) F.entry_int_rmul (F.args_int_rmul_2 _ _) (int___rmul___int_list k t l its.toArray n)
      ⟨e, rfl, ⟨_, e, rfl⟩, call_meets F.slot_list_mul ⟨_, e, rfl⟩ F.entry_list_mul (F.args_list_mul_2 _ _) (AutoListH.list___mul___list_int_3 l its.toArray n k t hfit hcap hlong) ⟨e, ?_⟩⟩)
  rw [hnew]
  exact ⟨.ref _, _, I.lnew (t' := s.toks) (r.rep k.toNat) (by rw [PyProof.Rows.lm_len_rep_flat, Nat.mul_comm]; exact hz), rfl, q _ I.fresh⟩
end
theorem RepAll.rep {T : Tbl} {H : Hp} {ds : List D} {vs : List V} (h : RepAll T H ds vs) : ∀ n : Nat, RepAll T H (List.replicate n ds).flatten (List.replicate n vs).flatten
  | 0 => by simp [RepAll]
  | n + 1 => by
    rw [List.replicate_succ, List.replicate_succ, List.flatten_cons, List.flatten_cons]
    exact h.app (RepAll.rep h n)
theorem o_mul : OpR X (binaryOp .Mult) (rD T (op2 .mul)) :=
  orI (op_mulA.or o_rep) fun x y H Q ⟨H0, dx, dy, d, e, hx, hy, hg, q⟩ => by
    cases dx with
    | int i =>
      cases dy with
      | int j =>
        simp only [op2] at hg
        split at hg
        · rename_i z
          cases hg
          exact .inl ⟨i, j, rd_int hx, rd_int hy, by simpa [mulOk, bnd64, CMulA, CMul, CMulW] using z, q _ _ _ (Gr.rfl' e) (.flat rfl (r_int _ _ _))⟩
        · cases hg
      | _ => cases hg
    | lst xs =>
      cases dy with
      | int j =>
        simp only [op2] at hg
        split at hg
        · rename_i z
          cases hg
          simp only [Bool.and_eq_true, decide_eq_true_eq] at z
          obtain ⟨a, us, rfl, h1, h2⟩ := rd_lst e hx
          refine .inr ⟨a, j, us, rfl, rd_int hy, h1, by omega, by omega, ?_, fun p hp => ?_⟩
          · rw [h2.len]; exact Nat.le_trans z.2 lim_line
          · exact q _ _ _ (Gr.own e hp) (.lst e hp (h2.rep _))
        · cases hg
      | _ => cases hg
    | _ => cases hg
theorem o_add : OpR X (binaryOp .Add) (rD T (op2 .add)) :=
  orI ((op_add.or (o_cat (X := X))).or op_add_str) fun x y H Q ⟨H0, dx, dy, d, e, hx, hy, hg, q⟩ => by
    cases dx with
    | int i =>
      cases dy with
      | int j =>
        cases hg
        exact .inl (.inl ⟨i, j, rd_int hx, rd_int hy, q _ _ _ (Gr.rfl' e) (.flat rfl (r_int _ _ _))⟩)
      | _ => cases hg
    | str i =>
      cases dy with
      | str j =>
        simp only [op2] at hg
        split at hg
        · rename_i hl
          cases hg
          exact .inr ⟨i, j, rd_str hx, rd_str hy, Nat.le_trans hl lim_line, q _ _ _ (Gr.rfl' e) (.flat rfl (r_str _ _ _))⟩
        · cases hg
      | _ => cases hg
    | lst xs =>
      cases dy with
      | lst ys =>
        simp only [op2] at hg
        split at hg
        · rename_i hl
          cases hg
          obtain ⟨a, us, rfl, h1, h2⟩ := rd_lst e hx
          obtain ⟨b, ws, rfl, h3, h4⟩ := rd_lst e hy
          refine .inl (.inr ⟨a, b, us, ws, rfl, rfl, h1, h3, ?_, fun p hp => ?_⟩)
          · rw [h2.len, h4.len]; exact Nat.le_trans hl lim_line
          · exact q _ _ _ (Gr.own e hp) (.lst e hp (h2.app h4))
        · cases hg
      | _ => cases hg
    | _ => cases hg
end

section
variable {X : Cx} {T : Tbl}
mutual
theorem dp_of {H0 H : Hp} (hK : X.K = T.K) (e : Ext H0 H) : ∀ (d : D) (p : PyData) (v : V), toPy d = some p → Rep T H0 d v → Dp X.K H v p
  | .non, p, v, h, r => by simp only [toPy] at h; cases h; simp only [Rep] at r; subst r; exact .non
  | .bl b, p, v, h, r => by simp only [toPy] at h; cases h; simp only [Rep] at r; subst r; exact .bl b
  | .int b, p, v, h, r => by simp only [toPy] at h; cases h; simp only [Rep] at r; subst r; exact .int b
  | .str b, p, v, h, r => by simp only [toPy] at h; cases h; simp only [Rep] at r; subst r; exact .str b
  | .lst ds, p, v, h, r => by
    simp only [toPy, Option.map_eq_some_iff] at h
    obtain ⟨ps, h1, rfl⟩ := h
    simp only [Rep] at r
    obtain ⟨a, xs, rfl, r1, r2⟩ := r
    exact .lst (.inl (e.rd r1)) (dpAll_of hK e ds ps xs h1 r2)
  | .tup ds, p, v, h, r => by
    simp only [toPy, Option.map_eq_some_iff] at h
    obtain ⟨ps, h1, rfl⟩ := h
    simp only [Rep] at r
    obtain ⟨a, xs, rfl, r1, r2⟩ := r
    exact .tup (hK ▸ e.sqT r1) (dpAll_of hK e ds ps xs h1 r2)
  | .kst ds, p, v, h, r => by
    simp only [toPy, Option.map_eq_some_iff] at h
    obtain ⟨ps, h1, rfl⟩ := h
    simp only [Rep] at r
    obtain ⟨a, xs, rfl, r1, r2⟩ := r
    exact .lst (hK ▸ e.sqL r1) (dpAll_of hK e ds ps xs h1 r2)
  | .dK _ _, p, v, h, r => by simp only [toPy] at h; cases h
  | .dT _ _, p, v, h, r => by simp only [toPy] at h; cases h
  | .obj _ _ _, p, v, h, r => by simp only [toPy] at h; cases h
  | .cls _, p, v, h, r => by simp only [toPy] at h; cases h
  | .err _ _ _, p, v, h, r => by simp only [toPy] at h; cases h
theorem dpAll_of {H0 H : Hp} (hK : X.K = T.K) (e : Ext H0 H) : ∀ (ds : List D) (ps : List PyData) (vs : List V), toPyAll ds = some ps → RepAll T H0 ds vs → DpAll X.K H vs ps
  | [], ps, vs, h, r => by simp only [toPyAll] at h; cases h; simp only [RepAll] at r; subst r; exact .nil
  | d :: ds, ps, vs, h, r => by
    simp only [toPyAll] at h
    simp only [RepAll] at r
    obtain ⟨v, r', rfl, r1, r2⟩ := r
    split at h
    · rename_i p ps' q1 q2
      cases h
      exact .cons (dp_of hK e d p v q1 r1) (dpAll_of hK e ds ps' r' q2 r2)
    · cases h
end
theorem dp_rd {H0 H : Hp} (hK : X.K = T.K) (e : Ext H0 H) {d : D} {p : PyData} {v : V} (h : toPy d = some p) (r : RdV T H0 H d v) : Dp X.K H v p := by
  rcases r with r | r
  · exact dp_of hK e d p v h r
  · cases d with
    | lst ds =>
      simp only [toPy, Option.map_eq_some_iff] at h
      obtain ⟨ps, h1, rfl⟩ := h
      obtain ⟨a, xs, rfl, h0, h2, h3⟩ := r
      exact .lst (SqL.of h2) (dpAll_of hK e ds ps xs h1 h3)
    | dK _ _ => cases h
    | dT _ _ => cases h
    | obj _ _ _ => cases h
    | _ => exact r.elim
theorem eqP_inv {x y : D} {b : Bool} (h : eqP x y = some b) : ∃ p q, toPy x = some p ∧ toPy y = some q ∧ SeqAt.shaped p = true ∧ SeqAt.shaped q = true ∧ b = PyData.eqv p q := by
  unfold eqP at h
  split at h
  · rename_i p q h1 h2
    split at h
    · rename_i z
      cases h
      rw [Bool.and_eq_true] at z
      exact ⟨p, q, h1, h2, z.1, z.2, rfl⟩
    · cases h
  · cases h
theorem eqD_inv {x y : D} {b : Bool} (h : eqD x y = some b) : (∃ u v, x = .str u ∧ y = .str v ∧ b = decide (u = v)) ∨ eqP x y = some b := by
  unfold eqD at h
  split at h
  · cases h; exact .inl ⟨_, _, rfl, rfl, rfl⟩
  · exact .inr h
theorem dec_strV (u v : Str) : decide (V.str u = V.str v) = decide (u = v) := decide_eq_decide.mpr ⟨fun h => by cases h; rfl, fun h => by rw [h]⟩
theorem o_eq (hK : X.K = T.K) (hu : X.A.units + 64 < cLine) : OpR X (compareOp .Eq) (rD T (op2 .eq)) :=
  orI ((op_eqD hu).or op_eq) fun x y H Q ⟨H0, dx, dy, d, e, hx, hy, hg, q⟩ => by
    have hg' : (eqD dx dy).map D.bl = some d := by cases dx <;> cases dy <;> exact hg
    rw [Option.map_eq_some_iff] at hg'
    obtain ⟨b, h1, rfl⟩ := hg'
    rcases eqD_inv h1 with ⟨u, v, rfl, rfl, rfl⟩ | h1
    · cases rd_str hx
      cases rd_str hy
      exact .inr ⟨rfl, by rw [dec_strV]; exact q _ _ _ (Gr.rfl' e) (.flat rfl (r_bl _ _ _))⟩
    · obtain ⟨p, p', h2, h3, s1, s2, rfl⟩ := eqP_inv h1
      exact .inl ⟨p, p', dp_rd hK e h2 hx, dp_rd hK e h3 hy, s1, s2, q _ _ _ (Gr.rfl' e) (.flat rfl (r_bl _ _ _))⟩
theorem o_ne (hK : X.K = T.K) (hu : X.A.units + 64 < cLine) : OpR X (compareOp .NotEq) (rD T (op2 .ne)) :=
  orI ((op_neD hu).or op_ne) fun x y H Q ⟨H0, dx, dy, d, e, hx, hy, hg, q⟩ => by
    have hg' : ((eqD dx dy).map fun b => D.bl (!b)) = some d := by cases dx <;> cases dy <;> exact hg
    rw [Option.map_eq_some_iff] at hg'
    obtain ⟨b, h1, rfl⟩ := hg'
    rcases eqD_inv h1 with ⟨u, v, rfl, rfl, rfl⟩ | h1
    · cases rd_str hx
      cases rd_str hy
      exact .inr ⟨rfl, by rw [dec_strV]; exact q _ _ _ (Gr.rfl' e) (.flat rfl (r_bl _ _ _))⟩
    · obtain ⟨p, p', h2, h3, s1, s2, rfl⟩ := eqP_inv h1
      exact .inl ⟨p, p', dp_rd hK e h2 hx, dp_rd hK e h3 hy, s1, s2, q _ _ _ (Gr.rfl' e) (.flat rfl (r_bl _ _ _))⟩

/-! ### the constructions -/
variable {C : Ctx} {W : WX} {cl : CallF} {e a b c : Expr} {e' a' b' c' : Ex} {pos : Pos}
theorem c_var {i : Nat} (h : PE X e (tVar i)) : PE X e (tI C W cl (.var i)) := peI h fun σ H Q ⟨H0, env, S, q⟩ => by
  have z := S.slots i
  simp only [ev] at q
  split at q
  · exact q.elim
  · rename_i d hd
    rw [hd] at z
    obtain ⟨v, h1, h2⟩ := z
    exact ⟨v, h1, q H0 H (Ext.rfl' _) S v h2⟩
  · rename_i n1 n2
    have : ∃ v, σ[i]? = some (some v) := by
      cases hs : getS env i with
      | un => exact (n1 hs).elim
      | fn => rw [hs] at z; exact ⟨_, z⟩
      | fz d => exact (n2 d hs).elim
      | ow d => rw [hs] at z; obtain ⟨x, h1, _⟩ := z; exact ⟨_, h1⟩
      | io d => rw [hs] at z; obtain ⟨x, h1, _⟩ := z; exact ⟨_, h1⟩
    obtain ⟨v, h1⟩ := this
    exact ⟨v, h1, q H0 H (Ext.rfl' _) S v h1⟩
theorem c_cst {d : D} {v : V} (h : PE X e (tC v)) (hr : ∀ H, Rep C.T H d v) : PE X e (tI C W cl (.cst d)) := peI h fun σ H Q ⟨H0, env, S, q⟩ => by
  simp only [ev] at q
  exact q H0 H (Ext.rfl' _) S v (hr H0)
/-- behind an operation -/
theorem fin_nw {σ : L2.St} {H0 H H0' H' : Hp} {env : Env} {Q : VK} {z : D} {v : V} (S : Sim C σ H0 H env) (h : RQ C W σ (KV C σ Q) H0 (.ok (.nw z) env)) (g : Gr C.T H0 H H0' H') (r : RepG C.T H0' H' H z v) : Q v H' :=
  h H0' H' g.e0 (S.gr g) v (r.nw S)
theorem two {σ : L2.St} {H0 H : Hp} {env : Env} {o : O2} {Q : VK} (S : Sim C σ H0 H env) (q : RQ C W σ (KV C σ Q) H0 (ev cl (.op2 o a' b') env)) : tOp (rD C.T (op2 o)) (tI C W cl a') (tI C W cl b') σ H Q := by
  simp only [ev] at q
  refine seqI S q fun u env1 x H1 H1' e1 S1 u1 q1 => ?_
  obtain ⟨H1f, e1f, S1f, u1f⟩ := S1.pend u1
  refine seqI S1f (RQ.mono e1f q1) fun w env2 y H2 H2' e2 S2 u2 q2 => ?_
  obtain ⟨dx, hx, q2⟩ := q2.orB
  obtain ⟨dy, hy, q2⟩ := q2.orB
  obtain ⟨z, hz, q2⟩ := q2.orB
  exact ⟨H2, dx, dy, z, S2.ex, S2.rd (u1f.wait e2) hx, S2.rd u2 hy, hz, fun v H0' H' g r => fin_nw S2 q2 g r⟩
theorem c_bin {op : Operator} {o : O2} (ho : OpR X (binaryOp op) (rD C.T (op2 o))) (ha : PE X a (tI C W cl a')) (hb : PE X b (tI C W cl b')) : PE X (.BinOp a op b pos) (tI C W cl (.op2 o a' b')) :=
  peI (pe_op ho ha hb) fun σ H Q ⟨H0, env, S, q⟩ => two S q
theorem c_cmp {op : CmpOp} {o : O2} (ho : OpR X (compareOp op) (rD C.T (op2 o))) (ha : PE X a (tI C W cl a')) (hb : PE X b (tI C W cl b')) (hm : behindInMarks op b = false) : PE X (.Compare a [op] [b] pos) (tI C W cl (.op2 o a' b')) :=
  peI (pe_cmpR ho ha hb hm) fun σ H Q ⟨H0, env, S, q⟩ => two S q
theorem c_un {op : UnaryOp} {o : O1} (ho : UnR X (unaryOp op) (rD1 C.T (op1 o))) (ha : PE X a (tI C W cl a')) : PE X (.UnaryOp op a pos) (tI C W cl (.op1 o a')) :=
  peI (pe_un ho ha) fun σ H Q ⟨H0, env, S, q⟩ => by
    simp only [ev] at q
    refine seqI S q fun u env1 x H1 H1' e1 S1 u1 q1 => ?_
    obtain ⟨dx, hx, q1⟩ := q1.orB
    obtain ⟨z, hz, q1⟩ := q1.orB
    exact ⟨H1, dx, z, S1.ex, S1.rd u1 hx, hz, fun v H0' H' g r => fin_nw S1 q1 g r⟩
theorem o_neg {T : Tbl} : UnR X (unaryOp .USub) (rD1 T (op1 .neg)) := fun pins s σ H x v Q I rx ⟨H0, dx, d, e, hx, hg, q⟩ => by
  cases dx with
  | int i => cases hg; exact un_neg pins s σ H x v Q I rx ⟨i, rd_int hx, q _ _ _ (Gr.rfl' e) (.flat rfl (r_int _ _ _))⟩
  | _ => cases hg
/-- a op b op' c -/
theorem c_chain {op op' : CmpOp} {o p : O2} (ho : OpR X (compareOp op) (rD C.T (op2 o))) (ho' : OpR X (compareOp op') (rD C.T (op2 p))) (ha : PE X a (tI C W cl a')) (hb : PE X b (tI C W cl b')) (hc : PE X c (tI C W cl c'))
    (hm : lastMarks [op, op'] [b, c] = false := by with_unfolding_all rfl) : PE X (.Compare a [op, op'] [b, c] pos) (tI C W cl (.chain o p a' b' c')) :=
  peI (pe_chain ho ho' ha hb hc hm) fun σ H Q ⟨H0, env, S, q⟩ => by
    simp only [ev] at q
    refine seqI S q fun u env1 x H1 H1' e1 S1 u1 q1 => ?_
    obtain ⟨H1f, e1f, S1f, u1f⟩ := S1.pend u1
    refine seqI S1f (RQ.mono e1f q1) fun w env2 y H2 H2' e2 S2 u2 q2 => ?_
    obtain ⟨H2f, e2f, S2f, u2f⟩ := S2.pend u2
    have q2 := RQ.mono e2f q2
    obtain ⟨dx, hx, q2⟩ := q2.orB
    obtain ⟨dy, hy, q2⟩ := q2.orB
    obtain ⟨z, hz, q2⟩ := q2.orB
    refine ⟨H2f, dx, dy, z, S2f.ex, S2f.rd (u1f.wait (e2.tr e2f)) hx, S2f.rd u2f hy, hz, fun v H0' H' g r => ?_⟩
    split at q2
    · have hv : v = .bl true := by simpa only [RepG, isMutD, Rep, Bool.false_eq_true, if_false] using r
      subst hv
      refine ⟨true, rfl, ?_⟩
      rw [if_pos rfl]
      have S3 := S2f.gr g
      refine seqI S3 (RQ.mono g.e0 q2) fun t env3 y3 H3 H3' e3 S4 u3 q3 => ?_
      obtain ⟨dy', hy', q3⟩ := q3.orB
      obtain ⟨dr, hr, q3⟩ := q3.orB
      obtain ⟨z', hz', q3⟩ := q3.orB
      exact ⟨H3, dy', dr, z', S4.ex, S4.rd (u2f.wait (g.e0.tr e3)) hy', S4.rd u3 hr, hz', fun v H0' H' g r => fin_nw S4 q3 g r⟩
    · have hv : v = .bl false := by simpa only [RepG, isMutD, Rep, Bool.false_eq_true, if_false] using r
      subst hv
      refine ⟨false, rfl, ?_⟩
      rw [if_neg Bool.false_ne_true]
      exact fin_nw S2f q2 g r
    · exact q2.elim
/-! truth -/
theorem c_and {rest : List Expr} (hK : X.K = C.T.K) (ha : PE X a (tI C W cl a')) (hb : PE X (.BoolOp .And (b :: rest) pos) (tI C W cl b')) : PE X (.BoolOp .And (a :: b :: rest) pos) (tI C W cl (.and a' b')) :=
  peI (pe_andT ha hb) fun σ H Q ⟨H0, env, S, q⟩ => by
    simp only [ev] at q
    refine seqI S q fun u env1 x H1 H1' e1 S1 u1 q1 => ?_
    obtain ⟨dx, hx, q1⟩ := q1.orB
    obtain ⟨t, ht, q1⟩ := q1.orB
    refine ⟨t, hK ▸ rd_truth S1.ex (S1.rd u1 hx) ht, ?_⟩
    cases t with
    | true =>
      rw [if_pos rfl]
      exact ⟨H1, env1, S1, q1⟩
    | false =>
      rw [if_neg Bool.false_ne_true]
      obtain ⟨H1f, e1f, S1f, u1f⟩ := S1.pend u1
      exact q1 H1f H1' e1f S1f x u1f
theorem c_or {rest : List Expr} (hK : X.K = C.T.K) (ha : PE X a (tI C W cl a')) (hb : PE X (.BoolOp .Or (b :: rest) pos) (tI C W cl b')) : PE X (.BoolOp .Or (a :: b :: rest) pos) (tI C W cl (.or a' b')) :=
  peI (pe_orT ha hb) fun σ H Q ⟨H0, env, S, q⟩ => by
    simp only [ev] at q
    refine seqI S q fun u env1 x H1 H1' e1 S1 u1 q1 => ?_
    obtain ⟨dx, hx, q1⟩ := q1.orB
    obtain ⟨t, ht, q1⟩ := q1.orB
    refine ⟨t, hK ▸ rd_truth S1.ex (S1.rd u1 hx) ht, ?_⟩
    cases t with
    | false =>
      rw [if_neg Bool.false_ne_true]
      exact ⟨H1, env1, S1, q1⟩
    | true =>
      rw [if_pos rfl]
      obtain ⟨H1f, e1f, S1f, u1f⟩ := S1.pend u1
      exact q1 H1f H1' e1f S1f x u1f
theorem c_one {op : BoolOp} (ha : PE X a (tI C W cl a')) : PE X (.BoolOp op [a] pos) (tI C W cl a') := pe_one ha
theorem c_not (hK : X.K = C.T.K) (ha : PE X a (tI C W cl a')) : PE X (.UnaryOp .Not a pos) (tI C W cl (.not a')) :=
  peI (pe_notT ha) fun σ H Q ⟨H0, env, S, q⟩ => by
    simp only [ev] at q
    refine seqI S q fun u env1 x H1 H1' e1 S1 u1 q1 => ?_
    obtain ⟨dx, hx, q1⟩ := q1.orB
    obtain ⟨t, ht, q1⟩ := q1.orB
    exact ⟨t, hK ▸ rd_truth S1.ex (S1.rd u1 hx) ht, fin_nw S1 q1 (Gr.rfl' S1.ex) (.flat rfl (r_bl _ _ _))⟩
/-- a test -/
theorem t_tru (hK : X.K = C.T.K) (ha : PE X a (tI C W cl a')) (he : ∀ whole, isTrue a X.env whole = (do let v ← whole; standAt a.pos; holding [v] (truthy v)) := by intro _; rfl) : PT X a (tT C W cl a') :=
  ptI (pt_truth ha he) fun σ H Q ⟨H0, env, S, q⟩ => by
    simp only [evT] at q
    refine seqI S q fun u env1 x H1 H1' e1 S1 u1 q1 => ?_
    obtain ⟨dx, hx, q1⟩ := q1.orB
    obtain ⟨t, ht, q1⟩ := q1.orB
    exact ⟨t, hK ▸ rd_truth S1.ex (S1.rd u1 hx) ht, q1 H1 H1' (Ext.rfl' _) S1⟩
end
end PP
end

section
set_option maxHeartbeats 1000000
namespace PP
open PySem L2

/-! ### lists of expressions -/
def tAF (C : Ctx) (W : WX) (cl : CallF) (es : Exs) : TA := fun σ H Q => ∃ H0 env, Sim C σ H0 H env ∧ RQ C W σ (fun ds _ H0' H' => ∀ vs, RepAll C.T H0' ds vs → Q vs H') H0 (evF cl es env)
def UsOk (C : Ctx) (σ : L2.St) (H0 H : Hp) (env : Env) : List U → List V → Prop
  | [], vs => vs = []
  | u :: us, vs => ∃ v r, vs = v :: r ∧ (∃ u', u = pend u' ∧ UOk C σ H0 H env (pend u') v) ∧ UsOk C σ H0 H env us r
def tAR (C : Ctx) (W : WX) (cl : CallF) (es : Exs) : TA := fun σ H Q => ∃ H0 env, Sim C σ H0 H env ∧ RQ C W σ (fun us env' H0' H' => ∀ vs, UsOk C σ H0' H' env' us vs → Q vs H') H0 (evR cl es env)
def RdAll (T : Tbl) (H0 H : Hp) : List D → List V → Prop
  | [], vs => vs = []
  | d :: ds, vs => ∃ v r, vs = v :: r ∧ RdV T H0 H d v ∧ RdAll T H0 H ds r
section
variable {C : Ctx} {W : WX} {σ : L2.St} {cl : CallF} {H0 H H0' H' : Hp} {env : Env}
theorem Sim.takeK (S : Sim C σ H0 H env) {i : Nat} {v : V} {d : D} {env' : Env} (e : σ[i]? = some (some v)) (hf : fzU env (.sl i) = some (d, env')) : ∃ H0', Ext H0 H0' ∧ Sim C σ H0' H env' ∧ Rep C.T H0' d v ∧ ∀ a, H0 a = none → ∀ o, H0' a = some o → (∀ ps, o ≠ .tup ps) ∧ ∀ x u, o ≠ .frz x u := by
  have q := S.slots i
  cases z : getS env i with
  | un => simp [fzU, z] at hf
  | fn => simp [fzU, z] at hf
  | io x => simp [fzU, z] at hf
  | fz x =>
    simp [fzU, z] at hf
    obtain ⟨rfl, rfl⟩ := hf
    rw [z] at q
    obtain ⟨w, h1, h2⟩ := q
    rw [e] at h1; cases h1
    exact ⟨H0, Ext.rfl' _, S, h2, fun a h o h' => by rw [h] at h'; cases h'⟩
  | ow x =>
    simp [fzU, z] at hf
    obtain ⟨rfl, rfl⟩ := hf
    rw [z] at q
    obtain ⟨a, h1, h2, h3⟩ := q
    rw [e] at h1; cases h1
    obtain ⟨h0, o, ho⟩ := h3.some
    have hi : i < env.length := by
      rw [S.len]
      exact (List.getElem?_eq_some_iff.mp e).1
    have gs : ∀ j, getS (env.set i (.fz x)) j = if i = j then .fz x else getS env j := fun j => by
      unfold getS
      simp only [List.getD_eq_getElem?_getD, List.getElem?_set]
      split
      · rename_i z2; subst z2; simp [hi]
      · rfl
    refine ⟨upd H0 a o, ext_upd h0, ?_, h3.froz ho, fun b hb o' ho' => by
      by_cases z : b = a
      · subst z; rw [upd_same] at ho'; cases ho'; exact h3.kindT ho
      · rw [upd_ne z, hb] at ho'; cases ho'⟩
    exact {
      ok := S.ok
      ex := fun b u q => by
        by_cases z : b = a
        · subst z; rw [upd_same] at q; cases q; exact ho
        · rw [upd_ne z] at q; exact S.ex _ _ q
      ex0 := S.ex0.tr (ext_upd h0)
      fresh := fun b q q' => by
        by_cases z : b = a
        · subst z; exact h2
        · rw [upd_ne z] at q'; exact S.fresh b q q'
      keep := S.keep
      tabs := S.tabs
      tno := S.tnoU ho (h3.kind ho).1
      ioH := S.ioH
      len := by rw [List.length_set]; exact S.len
      slots := fun j => by
        rw [gs j]
        split
        · rename_i z2
          subst z2
          exact ⟨_, e, h3.froz ho⟩
        · rename_i z2
          refine (S.slots j).step (ext_upd h0) fun b hb eb => ?_
          have zb : b ≠ a := fun zb => S.inj i j a z2 (by rw [z]; rfl) hb e (by rw [← zb]; exact eb)
          exact ⟨by rw [upd_ne zb]; exact (S.own hb eb).1, rfl⟩
      inj := fun j k b hjk hj hk ej ek => by
        rw [gs j] at hj
        rw [gs k] at hk
        split at hj
        · cases hj
        · split at hk
          · cases hk
          · exact S.inj j k b hjk hj hk ej ek }
/-- taken for good -/
theorem Sim.take (S : Sim C σ H0 H env) {u : U} {v : V} {d : D} {env' : Env} (h : UOk C σ H0 H env u v) (hf : fzU env u = some (d, env')) : ∃ H0', Ext H0 H0' ∧ Sim C σ H0' H env' ∧ Rep C.T H0' d v := by
  cases u with
  | d x => cases hf; exact ⟨H0, Ext.rfl' _, S, h⟩
  | nw x =>
    cases hf
    obtain ⟨H0', e, S', h'⟩ := S.pend h
    exact ⟨H0', e, S', h'⟩
  | sl i =>
    obtain ⟨H0', a, b, c, _⟩ := S.takeK h hf
    exact ⟨H0', a, b, c⟩
theorem UsOk.mono (e : Ext H0 H0') : ∀ {us : List U} {vs : List V} {env' : Env}, UsOk C σ H0 H env us vs → UsOk C σ H0' H' env' us vs
  | [], _, _, h => h
  | u :: us, _, _, h => by
    obtain ⟨v, r, rfl, ⟨u', rfl, h1⟩, h2⟩ := h
    exact ⟨v, r, rfl, ⟨u', rfl, h1.wait e⟩, UsOk.mono e h2⟩
theorem UsOk.rd (S : Sim C σ H0 H env) : ∀ {us : List U} {vs : List V} {ds : List D}, UsOk C σ H0 H env us vs → rdAll env us = some ds → RdAll C.T H0 H ds vs
  | [], _, _, h, q => by cases q; exact h
  | u :: us, _, _, h, q => by
    obtain ⟨v, r, rfl, ⟨u', rfl, h1⟩, h2⟩ := h
    unfold rdAll at q
    split at q
    · rename_i d ds q1 q2
      cases q
      exact ⟨v, r, rfl, S.rd h1 q1, UsOk.rd S h2 q2⟩
    · cases q
end
theorem paI {X : Cx} {es : List Expr} {t t' : TA} (h : PA X es t) (i : ∀ σ H Q, t' σ H Q → t σ H Q) : PA X es t' := ⟨fun pos pins s σ H Q I q => h.run pos pins s σ H Q I (i σ H Q q)⟩
section
variable {X : Cx} {C : Ctx} {W : WX} {cl : CallF} {e a b c : Expr} {es : List Expr} {e' a' b' c' : Ex} {es' : Exs} {pos : Pos}
theorem f_nil : PA X [] (tAF C W cl .nil) := paI pa_nil fun σ H Q ⟨H0, env, S, q⟩ => q H0 H (Ext.rfl' _) S [] (by simp only [RepAll])
theorem f_cons (ha : PE X e (tI C W cl e')) (hr : PA X es (tAF C W cl es')) (hs : starEach (e :: es) X.env = (false, eval e X.env) :: starEach es X.env := by rfl) : PA X (e :: es) (tAF C W cl (.cons e' es')) :=
  paI (pa_cons ha hr hs) fun σ H Q ⟨H0, env, S, q⟩ => by
    simp only [evF] at q
    refine seqI S q fun u env1 x H1 H1' e1 S1 u1 q1 => ?_
    obtain ⟨⟨d, env2⟩, hf, q1⟩ := q1.orB
    obtain ⟨H2, e2, S2, r2⟩ := S1.take u1 hf
    have q2 := RQ.mono e2 q1
    refine ⟨H2, env2, S2, ?_⟩
    cases z : evF cl es' env2 with
    | ok ds env3 =>
      simp only [z] at q2
      exact fun H3 H3' e3 S3 vs hv => q2 H3 H3' e3 S3 (x :: vs) (by simp only [RepAll]; exact ⟨x, vs, rfl, Rep.mono e3 _ _ r2, hv⟩)
    | exc x env3 => simp only [z] at q2; exact q2
    | bad => simp only [z] at q2; exact q2
theorem r_nil : PA X [] (tAR C W cl .nil) := paI pa_nil fun σ H Q ⟨H0, env, S, q⟩ => q H0 H (Ext.rfl' _) S [] rfl
theorem r_cons (ha : PE X e (tI C W cl e')) (hr : PA X es (tAR C W cl es')) (hs : starEach (e :: es) X.env = (false, eval e X.env) :: starEach es X.env := by rfl) : PA X (e :: es) (tAR C W cl (.cons e' es')) :=
  paI (pa_cons ha hr hs) fun σ H Q ⟨H0, env, S, q⟩ => by
    simp only [evR] at q
    refine seqI S q fun u env1 x H1 H1' e1 S1 u1 q1 => ?_
    obtain ⟨H2, e2, S2, r2⟩ := S1.pend u1
    have q2 := RQ.mono e2 q1
    refine ⟨H2, env1, S2, ?_⟩
    cases z : evR cl es' env1 with
    | ok ds env3 =>
      simp only [z] at q2
      exact fun H3 H3' e3 S3 vs hv => q2 H3 H3' e3 S3 (x :: vs) ⟨x, vs, rfl, ⟨u, rfl, r2.wait e3⟩, hv⟩
    | exc x env3 => simp only [z] at q2; exact q2
    | bad => simp only [z] at q2; exact q2
/-! displays -/
theorem c_tup {k : Nat} (h : PA X es (tAF C W cl es')) : PE X (.Tuple es k pos) (tI C W cl (.tup es')) :=
  peI (pe_tup h) fun σ H Q ⟨H0, env, S, q⟩ => by
    simp only [ev] at q
    refine ⟨H0, env, S, ?_⟩
    cases z : evF cl es' env with
    | ok ds env3 =>
      simp only [z, R.bind_ok] at q
      split at q
      · rename_i hl
        intro H1 H1' e1 S1 vs hv
        refine ⟨by rw [hv.len]; exact Nat.le_trans hl lim_line, fun p hp => ?_⟩
        refine fin_nw S1 (RQ.mono e1 q) (Gr.froz S1.ex hp) (.flat rfl ?_)
        simp only [Rep]
        exact ⟨p, vs, rfl, SqT.of upd_same, RepAll.mono (ext_upd (S1.ex.no hp)) _ _ hv⟩
      · exact q.elim
    | exc x env3 => simp only [z] at q; exact q
    | bad => simp only [z] at q; exact q
theorem c_lst (h : PA X es (tAF C W cl es')) : PE X (.List es pos) (tI C W cl (.lst es')) :=
  peI (pe_lst h) fun σ H Q ⟨H0, env, S, q⟩ => by
    simp only [ev] at q
    refine ⟨H0, env, S, ?_⟩
    cases z : evF cl es' env with
    | ok ds env3 =>
      simp only [z, R.bind_ok] at q
      split at q
      · rename_i hl
        intro H1 H1' e1 S1 vs hv
        refine ⟨by rw [hv.len]; exact Nat.le_trans hl lim_line, fun p hp => ?_⟩
        exact fin_nw S1 (RQ.mono e1 q) (Gr.own S1.ex hp) (.lst S1.ex hp hv)
      · exact q.elim
    | exc x env3 => simp only [z] at q; exact q
    | bad => simp only [z] at q; exact q
/-! an item -/
theorem x_lst (hK : X.K = C.T.K) : IxR X (fun x y H Q => ∃ H0 dx dy d, Ext H0 H ∧ RdV C.T H0 H dx x ∧ RdV C.T H0 H dy y ∧ ixD dx dy = some d ∧ ∀ v, Rep C.T H0 d v → Q v H) :=
  fun value slice pins s σ H x y v u Q I rx ry ⟨H0, dx, dy, d, e, hx, hy, hg, q⟩ hsub => by
    refine (ix_list.or (ix_tup.or ix_str)) value slice pins s σ H x y v u Q I rx ry ?_ hsub
    cases dx with
    | lst ds =>
      cases dy with
      | int i =>
        obtain ⟨a, xs, rfl, h1, h2⟩ := rd_lst e hx
        obtain ⟨w, h3, h4⟩ := h2.atI hg
        exact .inl ⟨a, xs, i, w, rfl, rd_int hy, .inl h1, h3, q w h4⟩
      | _ => cases hg
    | tup ds =>
      cases dy with
      | int i =>
        obtain ⟨a, xs, rfl, h1, h2⟩ := rd_tup e hx
        obtain ⟨w, h3, h4⟩ := h2.atI hg
        exact .inr (.inl ⟨a, xs, i, w, rfl, rd_int hy, hK ▸ h1, h3, q w h4⟩)
      | _ => cases hg
    | kst ds =>
      cases dy with
      | int i =>
        obtain ⟨a, xs, rfl, h1, h2⟩ := rd_kst e hx
        obtain ⟨w, h3, h4⟩ := h2.atI hg
        exact .inl ⟨a, xs, i, w, rfl, rd_int hy, hK ▸ h1, h3, q w h4⟩
      | _ => cases hg
    | str z =>
      cases dy with
      | int i =>
        simp only [ixD] at hg
        split at hg
        · rename_i hl
          rw [Option.map_eq_some_iff] at hg
          obtain ⟨c, hc, rfl⟩ := hg
          exact .inr (.inr ⟨z, i, c, rd_str hx, rd_int hy, Nat.le_trans hl lim_line, hc, q _ (r_str _ _ _)⟩)
        · cases hg
      | _ => cases hg
    | _ => cases hg
theorem c_ix (hK : X.K = C.T.K) (ha : PE X a (tI C W cl a')) (hb : PE X b (tI C W cl b')) (hs : PlainIx b := by exact fun _ _ => rfl) : PE X (.Subscript a b pos) (tI C W cl (.ix a' b')) :=
  peI (pe_ix (x_lst hK) ha hb hs) fun σ H Q ⟨H0, env, S, q⟩ => by
    simp only [ev] at q
    refine seqI S q fun u env1 x H1 H1' e1 S1 u1 q1 => ?_
    obtain ⟨H1f, e1f, S1f, u1f⟩ := S1.pend u1
    refine seqI S1f (RQ.mono e1f q1) fun w env2 y H2 H2' e2 S2 u2 q2 => ?_
    obtain ⟨dx, hx, q2⟩ := q2.orB
    obtain ⟨dy, hy, q2⟩ := q2.orB
    obtain ⟨z, hz, q2⟩ := q2.orB
    exact ⟨H2, dx, dy, z, S2.ex, S2.rd (u1f.wait e2) hx, S2.rd u2 hy, hz, fun v r => q2 H2 H2' (Ext.rfl' _) S2 v r⟩
/-! built-in functions -/
def rDn (T : Tbl) (g : List D → Option D) : List V → Hp → VK → Prop := fun vs H Q => ∃ H0 ds d, Ext H0 H ∧ RdAll T H0 H ds vs ∧ g ds = some d ∧ ∀ v H0' H', Gr T H0 H H0' H' → RepG T H0' H' H d v → Q v H'
theorem readB {σ : L2.St} {H : Hp} {Q : VK} {B : B} (h : tI C W cl (.bi B es') σ H Q) : tCB (rDn C.T (biD B)) (tAR C W cl es') σ H Q := by
  obtain ⟨H0, env, S, q⟩ := h
  simp only [ev] at q
  refine ⟨H0, env, S, ?_⟩
  cases z : evR cl es' env with
  | ok us env3 =>
    simp only [z, R.bind_ok] at q
    intro H1 H1' e1 S1 vs hv
    obtain ⟨ds, hd, q1⟩ := (RQ.mono e1 q).orB
    obtain ⟨d, hg, q1⟩ := q1.orB
    exact ⟨H1, ds, d, S1.ex, hv.rd S1 hd, hg, fun v H0' H' g r => fin_nw S1 q1 g r⟩
  | exc x env3 => simp only [z] at q; exact q
  | bad => simp only [z] at q; exact q
theorem c_biB {x : Str} {p : Pos} {id : String} {B : B} (hc : CallR X (.builtin id) (rDn C.T (biD B))) (hg : Gl X x) (hm : X.mg x = none) (hv : bootBuiltins x = some (.builtin id)) (ha : PA X (e :: es) (tAR C W cl es')) (hn : x ≠ "__name__" := by decide) (hdb : (x == ("__debug__" : Str)) = false := by decide)
    (he : starEach (e :: es) X.env = (false, eval e X.env) :: starEach es X.env := by rfl) (hpl : (backTo pos (starEach es X.env)).any (·.1) = false := by rfl) : PE X (.Call (.Name x p) (e :: es) [] pos) (tI C W cl (.bi B es')) :=
  peI (pe_callB hc hg hm hv ha hn hdb he hpl) fun _ _ _ q => readB q
theorem c_biT {x : Str} {p : Pos} {id : String} {B : B} (hc : CallR X (.type id) (rDn C.T (biD B))) (hg : Gl X x) (hm : X.mg x = none) (hv : bootBuiltins x = some (.type id)) (ha : PA X (e :: es) (tAR C W cl es')) (hn : x ≠ "__name__" := by decide) (hdb : (x == ("__debug__" : Str)) = false := by decide)
    (he : starEach (e :: es) X.env = (false, eval e X.env) :: starEach es X.env := by rfl) (hpl : (backTo pos (starEach es X.env)).any (·.1) = false := by rfl) : PE X (.Call (.Name x p) (e :: es) [] pos) (tI C W cl (.bi B es')) :=
  peI (pe_callTy hc hg hm hv ha hn hdb he hpl) fun _ _ _ q => readB q
theorem callI {f : Value} {r r' : List V → Hp → VK → Prop} (h : CallR X f r) (i : ∀ xs H Q, r' xs H Q → r xs H Q) : CallR X f r' := fun pins s σ H xs us Q I rx q => h pins s σ H xs us Q I rx (i xs H Q q)
theorem rd1 {T : Tbl} {H0 H : Hp} {d : D} {vs : List V} (h : RdAll T H0 H [d] vs) : ∃ v, vs = [v] ∧ RdV T H0 H d v := by
  obtain ⟨v, r, rfl, h1, h2⟩ := h
  cases h2
  exact ⟨v, rfl, h1⟩
theorem rd2 {T : Tbl} {H0 H : Hp} {d d' : D} {vs : List V} (h : RdAll T H0 H [d, d'] vs) : ∃ v v', vs = [v, v'] ∧ RdV T H0 H d v ∧ RdV T H0 H d' v' := by
  obtain ⟨v, r, rfl, h1, v', r', rfl, h2, h3⟩ := h
  cases h3
  exact ⟨v, v', rfl, h1, h2⟩
theorem b_len (hK : X.K = C.T.K) : CallR X (.builtin "len") (rDn C.T (biD .len)) := callI (call_len_seq.or call_len_str) fun xs H Q ⟨H0, ds, d, e, hr, hg, q⟩ => by
  match ds, hg with
  | [.lst ys], hg =>
    cases hg
    obtain ⟨v, rfl, h1⟩ := rd1 hr
    obtain ⟨a, us, rfl, h2, h3⟩ := rd_lst e h1
    exact .inl ⟨a, us, rfl, .inl (.inl h2), q _ _ _ (Gr.rfl' e) (.flat rfl (by rw [h3.len]; exact r_int _ _ _))⟩
  | [.tup ys], hg =>
    cases hg
    obtain ⟨v, rfl, h1⟩ := rd1 hr
    obtain ⟨a, us, rfl, h2, h3⟩ := rd_tup e h1
    exact .inl ⟨a, us, rfl, .inr (hK ▸ h2), q _ _ _ (Gr.rfl' e) (.flat rfl (by rw [h3.len]; exact r_int _ _ _))⟩
  | [.kst ys], hg =>
    cases hg
    obtain ⟨v, rfl, h1⟩ := rd1 hr
    obtain ⟨a, us, rfl, h2, h3⟩ := rd_kst e h1
    exact .inl ⟨a, us, rfl, .inl (hK ▸ h2), q _ _ _ (Gr.rfl' e) (.flat rfl (by rw [h3.len]; exact r_int _ _ _))⟩
  | [.str z], hg =>
    simp only [biD] at hg
    split at hg
    · rename_i hl
      cases hg
      obtain ⟨v, rfl, h1⟩ := rd1 hr
      cases rd_str h1
      exact .inr ⟨z, rfl, Nat.le_trans hl lim_line, q _ _ _ (Gr.rfl' e) (.flat rfl (r_int _ _ _))⟩
    · cases hg
theorem b_int : CallR X (.type "int") (rDn C.T (biD .int)) := callI (call_int1.or call_int_str) fun xs H Q ⟨H0, ds, d, e, hr, hg, q⟩ => by
  match ds, hg with
  | [.int i], hg =>
    cases hg
    obtain ⟨v, rfl, h1⟩ := rd1 hr
    cases rd_int h1
    exact .inl (.inl ⟨i, rfl, q _ _ _ (Gr.rfl' e) (.flat rfl (r_int _ _ _))⟩)
  | [.bl i], hg =>
    cases hg
    obtain ⟨v, rfl, h1⟩ := rd1 hr
    cases rd_bl h1
    exact .inl (.inr ⟨i, rfl, q _ _ _ (Gr.rfl' e) (.flat rfl (r_int _ _ _))⟩)
  | [.str z], hg =>
    simp only [biD] at hg
    split at hg
    · rename_i hl
      rw [Option.map_eq_some_iff] at hg
      obtain ⟨n, hn, rfl⟩ := hg
      obtain ⟨v, rfl, h1⟩ := rd1 hr
      cases rd_str h1
      exact .inr ⟨z, n, rfl, hn, hl, q _ _ _ (Gr.rfl' e) (.flat rfl (r_int _ _ _))⟩
    · cases hg
theorem b_abs : CallR X (.builtin "abs") (rDn C.T (biD .abs)) := callI call_abs fun xs H Q ⟨H0, ds, d, e, hr, hg, q⟩ => by
  match ds, hg with
  | [.int i], hg =>
    cases hg
    obtain ⟨v, rfl, h1⟩ := rd1 hr
    cases rd_int h1
    exact ⟨i, rfl, q _ _ _ (Gr.rfl' e) (.flat rfl (r_int _ _ _))⟩
theorem b_max (hc : X.calm = true) : CallR X (.builtin "max") (rDn C.T (biD .max2)) := callI (call_max2 hc) fun xs H Q ⟨H0, ds, d, e, hr, hg, q⟩ => by
  match ds, hg with
  | [.int i, .int j], hg =>
    cases hg
    obtain ⟨v, v', rfl, h1, h2⟩ := rd2 hr
    cases rd_int h1
    cases rd_int h2
    exact ⟨i, j, rfl, q _ _ _ (Gr.rfl' e) (.flat rfl (r_int _ _ _))⟩
theorem b_min (hc : X.calm = true) : CallR X (.builtin "min") (rDn C.T (biD .min2)) := callI (call_min2 hc) fun xs H Q ⟨H0, ds, d, e, hr, hg, q⟩ => by
  match ds, hg with
  | [.int i, .int j], hg =>
    cases hg
    obtain ⟨v, v', rfl, h1, h2⟩ := rd2 hr
    cases rd_int h1
    cases rd_int h2
    exact ⟨i, j, rfl, q _ _ _ (Gr.rfl' e) (.flat rfl (r_int _ _ _))⟩
theorem b_list (hK : X.K = C.T.K) : CallR X (.type "list") (rDn C.T (biD .list)) := callI call_list_of fun xs H Q ⟨H0, ds, d, e, hr, hg, q⟩ => by
  match ds, hg with
  | [.lst ys], hg =>
    cases hg
    obtain ⟨v, rfl, h1⟩ := rd1 hr
    obtain ⟨a, us, rfl, h2, h3⟩ := rd_lst e h1
    exact ⟨a, us, rfl, .inl (.inl h2), fun l hl => q _ _ _ (Gr.own e hl) (.lst e hl h3)⟩
  | [.tup ys], hg =>
    cases hg
    obtain ⟨v, rfl, h1⟩ := rd1 hr
    obtain ⟨a, us, rfl, h2, h3⟩ := rd_tup e h1
    exact ⟨a, us, rfl, .inr (hK ▸ h2), fun l hl => q _ _ _ (Gr.own e hl) (.lst e hl h3)⟩
  | [.kst ys], hg =>
    cases hg
    obtain ⟨v, rfl, h1⟩ := rd1 hr
    obtain ⟨a, us, rfl, h2, h3⟩ := rd_kst e h1
    exact ⟨a, us, rfl, .inl (hK ▸ h2), fun l hl => q _ _ _ (Gr.own e hl) (.lst e hl h3)⟩
end
end PP
end

section
set_option maxHeartbeats 1000000
namespace PP
open PySem L2
section
variable {X : Cx} {C : Ctx} {W : WX} {cl : CallF} {e a b c : Expr} {es : List Expr} {e' a' b' c' : Ex} {es' : Exs} {pos : Pos}
/-! isinstance -/
def tyN : D → String
  | .non => "NoneType" | .bl _ => "bool" | .int _ => "int" | .str _ => "str" | .lst _ => "list" | .tup _ => "tuple" | .kst _ => "list" | .dK _ _ => "dict" | .dT _ _ => "dict" | .obj _ _ _ => "object" | .cls _ => "type" | .err _ _ _ => "exception"
def isObjD : D → Bool
  | .obj _ _ _ => true | .cls _ => true | .err _ _ _ => true | _ => false
theorem tyx {T : Tbl} {H0 H : Hp} {d : D} {v : V} (hK : X.K = T.K) (e : Ext H0 H) (h : RdV T H0 H d v) (ho : isObjD d = false) : TyX X.K H v (.type (tyN d)) := by
  cases d with
  | non => cases rd_non h; exact .base .non
  | bl b => cases rd_bl h; exact .base (.bl _)
  | int b => cases rd_int h; exact .base (.int _)
  | str b => cases rd_str h; exact .base (.str _)
  | lst ds =>
    obtain ⟨a, xs, rfl, h1, h2⟩ := rd_lst e h
    rcases h1 with h1 | ⟨o, h1⟩
    · exact .base (.lst h1)
    · exact .base (.frz h1)
  | tup ds =>
    obtain ⟨a, xs, rfl, h1, h2⟩ := rd_tup e h
    rcases h1 with (h1 | ⟨o, h1⟩) | ⟨o, its, n, h1, h3, _⟩
    · exact .base (.tup h1)
    · exact .fTuple h1
    · exact .kTuple (hK ▸ h1) h3
  | kst ds =>
    obtain ⟨a, xs, rfl, h1, h2⟩ := rd_kst e h
    rcases h1 with (h1 | ⟨o, h1⟩) | ⟨o, its, n, h1, h3, _⟩
    · exact .base (.lst h1)
    · exact .base (.frz h1)
    · exact .kList (hK ▸ h1) h3
  | dK ks ds =>
    obtain ⟨a, xs, rfl, h1, h2⟩ := rd_dK e h
    exact .base (.dK h1)
  | dT ks ds =>
    rcases h with h | h
    · simp only [Rep] at h
      obtain ⟨a, xs, rfl, h1, h2⟩ := h
      exact .base (.dT (e _ _ h1))
    · obtain ⟨a, xs, rfl, h0, h1, h2⟩ := h
      exact .base (.dT h1)
  | obj c ks ds => cases ho
  | cls c => cases ho
  | err c ks ds => cases ho
/-- an object, an exception -/
def isXD : D → Bool
  | .obj _ _ _ => true | .err _ _ _ => true | _ => false
theorem isi_int : ∀ d z, biD .isInt [d] = some z → ∃ r, z = .bl r ∧ ((isObjD d = false ∧ kitB (tyN d) "int" = some r) ∨ (isXD d = true ∧ r = false)) := by
  intro d z h
  cases d <;> simp only [biD] at h <;> first | (cases h; done) | (cases h; exact ⟨_, rfl, .inl ⟨rfl, by simp only [tyN]; decide +kernel⟩⟩) | (cases h; exact ⟨_, rfl, .inr ⟨rfl, rfl⟩⟩)
theorem isi_bool : ∀ d z, biD .isBool [d] = some z → ∃ r, z = .bl r ∧ ((isObjD d = false ∧ kitB (tyN d) "bool" = some r) ∨ (isXD d = true ∧ r = false)) := by
  intro d z h
  cases d <;> simp only [biD] at h <;> first | (cases h; done) | (cases h; exact ⟨_, rfl, .inl ⟨rfl, by simp only [tyN]; decide +kernel⟩⟩) | (cases h; exact ⟨_, rfl, .inr ⟨rfl, rfl⟩⟩)
theorem isi_tuple : ∀ d z, biD .isTuple [d] = some z → ∃ r, z = .bl r ∧ ((isObjD d = false ∧ kitB (tyN d) "tuple" = some r) ∨ (isXD d = true ∧ r = false)) := by
  intro d z h
  cases d <;> simp only [biD] at h <;> first | (cases h; done) | (cases h; exact ⟨_, rfl, .inl ⟨rfl, by simp only [tyN]; decide +kernel⟩⟩) | (cases h; exact ⟨_, rfl, .inr ⟨rfl, rfl⟩⟩)
theorem isi_list : ∀ d z, biD .isList [d] = some z → ∃ r, z = .bl r ∧ ((isObjD d = false ∧ kitB (tyN d) "list" = some r) ∨ (isXD d = true ∧ r = false)) := by
  intro d z h
  cases d <;> simp only [biD] at h <;> first | (cases h; done) | (cases h; exact ⟨_, rfl, .inl ⟨rfl, by simp only [tyN]; decide +kernel⟩⟩) | (cases h; exact ⟨_, rfl, .inr ⟨rfl, rfl⟩⟩)
theorem isi_str : ∀ d z, biD .isStr [d] = some z → ∃ r, z = .bl r ∧ ((isObjD d = false ∧ kitB (tyN d) "str" = some r) ∨ (isXD d = true ∧ r = false)) := by
  intro d z h
  cases d <;> simp only [biD] at h <;> first | (cases h; done) | (cases h; exact ⟨_, rfl, .inl ⟨rfl, by simp only [tyN]; decide +kernel⟩⟩) | (cases h; exact ⟨_, rfl, .inr ⟨rfl, rfl⟩⟩)
/-! is, is not -/
theorem rel_ne {x : V} {v : Value} {b : Bool} (rx : RelV x v) (h : x ≠ .bl b) : v ≠ .bool b := fun q => by
  subst q
  cases x with
  | bl c => cases (show Value.bool b = Value.bool c from rx); exact h rfl
  | int i => obtain ⟨t, q⟩ := rx; cases q
  | str i => obtain ⟨t, q⟩ := rx; cases q
  | byt i => obtain ⟨t, q⟩ := rx; cases q
  | flt i => obtain ⟨t, q⟩ := rx; cases q
  | non => cases (show Value.bool b = Value.none from rx)
  | ref a => cases (show Value.bool b = Value.ref a from rx)
  | ty n => cases (show Value.bool b = Value.type n from rx)
theorem plain_bl {x : V} {v : Value} {b : Bool} (rx : RelV x v) : plainIs v (.bool b) = true := by
  cases x with
  | bl c => cases (show v = Value.bool c from rx); rfl
  | int i => obtain ⟨t, rfl⟩ := rx; rfl
  | str i => obtain ⟨t, rfl⟩ := rx; rfl
  | byt i => obtain ⟨t, rfl⟩ := rx; rfl
  | flt i => obtain ⟨t, rfl⟩ := rx; rfl
  | non => cases (show v = Value.none from rx); rfl
  | ref a => cases (show v = Value.ref a from rx); rfl
  | ty n => cases (show v = Value.type n from rx); rfl
theorem op_isB : OpR X (compareOp .Is) (fun x y H Q => ∃ b, y = .bl b ∧ Q (.bl (decide (x = .bl b))) H) := by
  intro pins s σ H x y v u Q I rx ry ⟨b, hy, q⟩
  subst hy
  cases (show u = Value.bool b from ry)
  by_cases h : x = .bl b
  · subst h
    cases (show v = Value.bool b from rx)
    exact wpAny_is_self rfl ⟨.bl true, H, I, rfl, by simpa using q⟩
  · exact wpAny_is_other (plain_bl rx) (rel_ne rx h) ⟨.bl false, H, I, rfl, by simpa [h] using q⟩
theorem op_isnotB : OpR X (compareOp .IsNot) (fun x y H Q => ∃ b, y = .bl b ∧ Q (.bl (!decide (x = .bl b))) H) := by
  intro pins s σ H x y v u Q I rx ry ⟨b, hy, q⟩
  subst hy
  cases (show u = Value.bool b from ry)
  by_cases h : x = .bl b
  · subst h
    cases (show v = Value.bool b from rx)
    exact wpAny_isNot_self rfl ⟨.bl false, H, I, rfl, by simpa using q⟩
  · exact wpAny_isNot_other (plain_bl rx) (rel_ne rx h) ⟨.bl true, H, I, rfl, by simpa [h] using q⟩
/-- a value stands for one thing -/
theorem rd_kind {T : Tbl} {H0 H : Hp} {d : D} {v : V} (h : RdV T H0 H d v) : (v = .non ↔ d = .non) ∧ ∀ b, v = .bl b ↔ d = .bl b := by
  cases d with
  | non => cases rd_non h; simp
  | bl b => cases rd_bl h; simp
  | int b => cases rd_int h; simp
  | str b => cases rd_str h; simp
  | lst ds => rcases h with h | h; (simp only [Rep] at h; obtain ⟨a, _, rfl, _⟩ := h; simp); (obtain ⟨a, _, rfl, _⟩ := h; simp)
  | tup ds => rcases h with h | h; (simp only [Rep] at h; obtain ⟨a, _, rfl, _⟩ := h; simp); exact h.elim
  | kst ds => rcases h with h | h; (simp only [Rep] at h; obtain ⟨a, _, rfl, _⟩ := h; simp); exact h.elim
  | dK ks ds => rcases h with h | h; (simp only [Rep] at h; obtain ⟨a, _, rfl, _⟩ := h; simp); (obtain ⟨a, _, rfl, _⟩ := h; simp)
  | dT ks ds => rcases h with h | h; (simp only [Rep] at h; obtain ⟨a, _, rfl, _⟩ := h; simp); (obtain ⟨a, _, rfl, _⟩ := h; simp)
  | obj k ks ds => rcases h with h | h; (simp only [Rep] at h; obtain ⟨a, _, _, _, rfl, _⟩ := h; simp); (obtain ⟨a, _, _, _, rfl, _⟩ := h; simp)
  | cls k => rcases h with h | h; (simp only [Rep] at h; obtain ⟨a, _, rfl⟩ := h; simp); exact h.elim
  | err k ks ds => rcases h with h | h; (simp only [Rep] at h; obtain ⟨a, _, _, rfl, _⟩ := h; simp); exact h.elim
theorem is_inv {x y d : D} (h : op2 .is x y = some d) : (y = .non ∧ d = .bl (decide (tyN x = "NoneType"))) ∨ ∃ b, y = .bl b ∧ ∃ r, d = .bl r ∧ (r = true ↔ x = .bl b) := by
  cases y with
  | non => refine .inl ⟨rfl, ?_⟩; cases x <;> cases h <;> rfl
  | bl b => refine .inr ⟨b, rfl, ?_⟩; cases x <;> cases h <;> exact ⟨_, rfl, by first | (simp; done) | (simp; exact eq_comm)⟩
  | _ => cases x <;> cases h
theorem isnot_inv {x y d : D} (h : op2 .isnot x y = some d) : (y = .non ∧ d = .bl (!decide (tyN x = "NoneType"))) ∨ ∃ b, y = .bl b ∧ ∃ r, d = .bl (!r) ∧ (r = true ↔ x = .bl b) := by
  cases y with
  | non => refine .inl ⟨rfl, ?_⟩; cases x <;> cases h <;> rfl
  | bl b => refine .inr ⟨b, rfl, ?_⟩; cases x <;> cases h <;> first | exact ⟨false, rfl, by simp⟩ | exact ⟨_, rfl, by first | (simp; done) | (simp; exact eq_comm)⟩
  | _ => cases x <;> cases h
theorem tyN_non {d : D} : tyN d = "NoneType" ↔ d = .non := by cases d <;> simp [tyN]
theorem o_is {T : Tbl} : OpR X (compareOp .Is) (rD T (op2 .is)) := orI (op_isN.or op_isB) fun x y H Q ⟨H0, dx, dy, d, e, hx, hy, hg, q⟩ => by
  rcases is_inv hg with ⟨rfl, rfl⟩ | ⟨b, rfl, r, rfl, hr⟩
  · refine .inl ⟨rd_non hy, ?_⟩
    have : decide (x = V.non) = decide (tyN dx = "NoneType") := decide_eq_decide.mpr ((rd_kind hx).1.trans tyN_non.symm)
    rw [this]
    exact q _ _ _ (Gr.rfl' e) (.flat rfl (r_bl _ _ _))
  · refine .inr ⟨b, rd_bl hy, ?_⟩
    have : decide (x = V.bl b) = r := by rw [Bool.eq_iff_iff, decide_eq_true_iff, hr]; exact (rd_kind hx).2 b
    rw [this]
    exact q _ _ _ (Gr.rfl' e) (.flat rfl (r_bl _ _ _))
theorem o_isnot {T : Tbl} : OpR X (compareOp .IsNot) (rD T (op2 .isnot)) := orI (op_notN.or op_isnotB) fun x y H Q ⟨H0, dx, dy, d, e, hx, hy, hg, q⟩ => by
  rcases isnot_inv hg with ⟨rfl, rfl⟩ | ⟨b, rfl, r, rfl, hr⟩
  · refine .inl ⟨rd_non hy, ?_⟩
    have : decide (x = V.non) = decide (tyN dx = "NoneType") := decide_eq_decide.mpr ((rd_kind hx).1.trans tyN_non.symm)
    rw [this]
    exact q _ _ _ (Gr.rfl' e) (.flat rfl (r_bl _ _ _))
  · refine .inr ⟨b, rd_bl hy, ?_⟩
    have : decide (x = V.bl b) = r := by rw [Bool.eq_iff_iff, decide_eq_true_iff, hr]; exact (rd_kind hx).2 b
    rw [this]
    exact q _ _ _ (Gr.rfl' e) (.flat rfl (r_bl _ _ _))
/-! repr -/
theorem reprV {pins : List (Addr × Obj)} {s : Shared} {σ : L2.St} {H : Hp} {v : V} {u : Value} {p : PyData} {Q : VK} (hgd : X.A.guards = some []) (hu : X.A.units + 200 < cLine) (I : Inv X pins σ H s) (rv : RelV v u) (h : Dp X.K H v p)
    (h1 : p.showable = true) (h2 : p.hasDict = false) (h3 : p.shown.length ≤ sizeLine) (h4 : p.depth ≤ 64) (q : Q (.str p.shown) H) : wpAny (model X.prog X.w) X.A (call (.builtin "repr") [u]) (EP X pins σ Q) X.xe s := by
  cases h with
  | non => cases (show u = Value.none from rv); exact P.repr_of_none ⟨.str _, H, I.tok _, ⟨_, rfl⟩, by simpa only [PyData.shown] using q⟩
  | bl b => cases (show u = Value.bool b from rv); exact P.repr_of_bool ⟨.str _, H, I.tok _, ⟨_, rfl⟩, by simpa only [PyData.shown] using q⟩
  | int i =>
    obtain ⟨t, rfl⟩ := rv
    exact P.repr_of_int (by simpa [PyData.showable] using h1) ⟨.str _, H, I.tok _, ⟨_, rfl⟩, by simpa only [PyData.shown] using q⟩
  | str z =>
    obtain ⟨t, rfl⟩ := rv
    exact P.repr_of_str ⟨.str _, H, I.tok _, ⟨_, rfl⟩, by simpa only [PyData.shown] using q⟩ (by simpa only [PyData.shown] using h3)
  | @lst a xs ds ha hd =>
    obtain ⟨as, r⟩ := Dp.reads I _ _ _ (.lst ha hd) rv
    cases (show u = Value.ref a from rv)
    exact repr_of_reads' r h1 (PyData.noDict_hsm h2) hgd (by omega) (fun b o z => z) (fun h' t tk hk => ⟨.str _, H, I.kept hk, ⟨_, rfl⟩, q⟩) h3
  | @tup a xs ds ha hd =>
    obtain ⟨as, r⟩ := Dp.reads I _ _ _ (.tup ha hd) rv
    cases (show u = Value.ref a from rv)
    exact repr_of_reads' r h1 (PyData.noDict_hsm h2) hgd (by omega) (fun b o z => z) (fun h' t tk hk => ⟨.str _, H, I.kept hk, ⟨_, rfl⟩, q⟩) h3
theorem b_repr (hK : X.K = C.T.K) (hgd : X.A.guards = some []) (hu : X.A.units + 200 < cLine) : CallR X (.builtin "repr") (rDn C.T (biD .repr)) := fun pins s σ H xs us Q I rx ⟨H0, ds, d, e, hr, hg, q⟩ => by
  match ds, hg with
  | [x], hg =>
    obtain ⟨v, rfl, h1⟩ := rd1 hr
    obtain ⟨u, rfl, ru⟩ := vals1 rx
    simp only [biD] at hg
    split at hg
    · rename_i p hp
      split at hg
      · rename_i hc
        cases hg
        simp only [Bool.and_eq_true, Bool.not_eq_true', decide_eq_true_eq] at hc
        obtain ⟨⟨⟨c1, c2⟩, c3⟩, c4⟩ := hc
        exact reprV hgd hu I ru (dp_rd hK e hp h1) c1 c2 (Nat.le_trans c3 lim_line) c4 (q _ _ _ (Gr.rfl' e) (.flat rfl (r_str _ _ _)))
      · cases hg
    · cases hg
/-! a slice of a list -/
theorem repAll_cut {T : Tbl} {H : Hp} {ds : List D} {vs : List V} (h : RepAll T H ds vs) (lo hi : Option Int) : RepAll T H (cutD ds lo hi) (cutV vs lo hi) := by
  unfold cutD cutV
  rw [h.len]
  exact (h.drop _).take _
def tP (C : Ctx) (W : WX) (cl : CallF) (b : Bool) (e : Ex) : TO := fun σ H Q => ∃ H0 env, Sim C σ H0 H env ∧ RQ C W σ (fun b _ _ H' => Q b H') H0 (optP b (ev cl e) env)
theorem so_none {e' : Ex} : PO X none (tP C W cl false e') := ⟨fun pins s σ H Q I ⟨H0, env, S, q⟩ => po_none.run pins s σ H Q I (q H0 H (Ext.rfl' _) S)⟩
theorem so_some (h : PE X e (tI C W cl e')) : PO X (some e) (tP C W cl true e') :=
  ⟨fun pins s σ H Q I ⟨H0, env, S, q⟩ => (po_some h).run pins s σ H Q I (seqI S q fun u env1 x H1 H1' e1 S1 u1 q1 => by
    obtain ⟨d, hd, q1⟩ := q1.orB
    cases d with
    | int i =>
      cases rd_int (S1.rd u1 hd)
      exact ⟨i, rfl, q1 H1 H1' (Ext.rfl' _) S1⟩
    | _ => exact q1.elim)⟩
theorem seqP {σ : L2.St} {H0 H : Hp} {env : Env} {bb : Bool} {β : Type} {K : β → Env → Hp → Hp → Prop} {f : Option Int → Env → R β} (S : Sim C σ H0 H env) (h : RQ C W σ K H0 ((optP bb (ev cl a') env).bind f)) {Q : Option Int → Hp → Prop}
    (hQ : ∀ b env1 H01 H1, Ext H0 H01 → Sim C σ H01 H1 env1 → RQ C W σ K H01 (f b env1) → Q b H1) : tP C W cl bb a' σ H Q := by
  refine ⟨H0, env, S, ?_⟩
  cases q : optP bb (ev cl a') env with
  | ok u env1 =>
    rw [q] at h
    exact fun H01 H1 e s => hQ u env1 H01 H1 e s (RQ.mono e h)
  | exc x env1 =>
    rw [q] at h
    exact fun cls d H0' H' e s x => h cls d H0' H' e s x
  | bad => rw [q] at h; exact h
theorem c_slice {lo hi : Option Expr} {bl bh : Bool} {l h : Ex} {p2 : Pos} (hK : X.K = C.T.K) (ha : PE X a (tI C W cl a')) (hl : PO X lo (tP C W cl bl l)) (hh : PO X hi (tP C W cl bh h)) : PE X (.Subscript a (.Slice lo hi none p2) pos) (tI C W cl (.slice a' bl bh l h)) :=
  peI (pe_slice sl_list ha hl hh) fun σ H Q ⟨H0, env, S, q⟩ => by
    simp only [ev] at q
    refine seqI S q fun u env1 x H1 H1' e1 S1 u1 q1 => ?_
    obtain ⟨H1f, e1f, S1f, u1f⟩ := S1.pend u1
    refine seqP S1f (RQ.mono e1f q1) fun lv env2 H2 H2' e2 S2 q2 => ?_
    refine seqP S2 q2 fun hv env3 H3 H3' e3 S3 q3 => ?_
    obtain ⟨dx, hx, q3⟩ := q3.orB
    cases dx with
    | lst xs =>
      obtain ⟨a, us, rfl, h1, h2⟩ := rd_lst S3.ex (S3.rd (u1f.wait (e2.tr e3)) hx)
      exact ⟨a, us, rfl, .inl h1, fun p hp => fin_nw S3 q3 (Gr.own S3.ex hp) (.lst S3.ex hp (repAll_cut h2 _ _))⟩
    | kst xs =>
      obtain ⟨a, us, rfl, h1, h2⟩ := rd_kst S3.ex (S3.rd (u1f.wait (e2.tr e3)) hx)
      exact ⟨a, us, rfl, hK ▸ h1, fun p hp => fin_nw S3 q3 (Gr.own S3.ex hp) (.lst S3.ex hp (repAll_cut h2 _ _))⟩
    | _ => exact q3.elim
end
end PP
end

section
set_option maxHeartbeats 1000000
/-! statements -/
namespace PP
open PySem L2

theorem getS_set (env : Env) (i j : Nat) (s : Sl) : getS (env.set i s) j = if i = j ∧ i < env.length then s else getS env j := by
  unfold getS
  simp only [List.getD_eq_getElem?_getD, List.getElem?_set]
  by_cases h : i = j
  · subst h
    by_cases l : i < env.length <;> simp [l]
  · simp [h]
section
variable {C : Ctx} {W : WX} {σ : L2.St} {cl : CallF} {H0 H H0' H' : Hp} {env : Env}
theorem Sim.store (S : Sim C σ H0 H env) {i : Nat} {v : V} {s : Sl} (hs : isIO s = false) (h : SlOk C H0 H i (some (some v)) s)
    (hd : ∀ a, v = .ref a → ownS s = true → ∀ j, j ≠ i → ownS (getS env j) = true → σ[j]? ≠ some (some (.ref a))) : Sim C (σ.set i (some v)) H0 H (env.set i s) := by
  by_cases hl : i < env.length
  · have hl' : i < σ.length := by rw [← S.len]; exact hl
    refine { ok := S.ok, ex := S.ex, ex0 := S.ex0, fresh := S.fresh, keep := S.keep, tabs := S.tabs, tno := S.tno, ioH := S.ioH, len := by simp only [List.length_set]; exact S.len, slots := fun j => ?_, inj := fun j k a hjk hj hk ej ek => ?_ }
    · rw [getS_set, List.getElem?_set]
      by_cases z : i = j
      · subst z; simpa [hl, hl'] using h
      · simpa [z] using S.slots j
    · rw [getS_set] at hj hk
      rw [List.getElem?_set] at ej ek
      by_cases z : i = j
      · subst z
        simp only [hl, hl', and_self, if_true, true_and, if_pos] at hj ej
        have zk : ¬ i = k := hjk
        simp only [zk, false_and, if_false] at hk ek
        simp only [Option.some.injEq] at ej
        exact hd a ej hj k (fun q => zk q.symm) hk ek
      · simp only [z, false_and, if_false] at hj ej
        by_cases zk : i = k
        · subst zk
          simp only [hl, hl', and_self, if_true, true_and, if_pos] at hk ek
          simp only [Option.some.injEq] at ek
          exact hd a ek hk j (fun q => z q.symm) hj ej
        · simp only [zk, false_and, if_false] at hk ek
          exact S.inj j k a hjk hj hk ej ek
  · have e1 : env.set i s = env := List.set_eq_of_length_le (by omega)
    have e2 : σ.set i (some v) = σ := List.set_eq_of_length_le (by rw [← S.len]; omega)
    rw [e1, e2]
    exact S
/-- name = value -/
theorem Sim.asg (S : Sim C σ H0 H env) {i : Nat} {u : U} {v : V} {env2 : Env} (h : UOk C σ H0 H env u v) (ha : asgU env i u = some env2) : ∃ H0', Ext H0 H0' ∧ Sim C (σ.set i (some v)) H0' H env2 := by
  unfold asgU at ha
  · cases u with
    | d x =>
      cases ha
      exact ⟨H0, Ext.rfl' _, S.store rfl ⟨v, rfl, h⟩ fun _ _ q => by cases q⟩
    | nw x =>
      simp only [Option.some.injEq] at ha
      subst ha
      have h' : RepN C σ H0 H env x v := h
      unfold RepN at h'
      split at h'
      · rename_i hm
        obtain ⟨a, rfl, h1, h2, h3⟩ := h'
        have e : slOf (.nw x) x = .ow x := by cases x <;> first | rfl | cases hm
        rw [e]
        exact ⟨H0, Ext.rfl' _, S.store rfl ⟨a, rfl, h1, h2⟩ fun b hb _ j _ hj => by cases hb; exact h3 j hj⟩
      · rename_i hm
        have e : slOf (.nw x) x = .fz x := by cases x <;> first | rfl | exact (hm rfl).elim
        rw [e]
        exact ⟨H0, Ext.rfl' _, S.store rfl ⟨v, rfl, h'⟩ fun _ _ q => by cases q⟩
    | sl j =>
      simp only [Option.map_eq_some_iff] at ha
      obtain ⟨⟨d, env1⟩, hf, rfl⟩ := ha
      obtain ⟨H1, e1, S1, r1⟩ := S.take h hf
      exact ⟨H1, e1, S1.store rfl ⟨v, rfl, r1⟩ fun _ _ q => by cases q⟩
/-- an owned list at a slot -/
theorem Sim.ls (S : Sim C σ H0 H env) {i : Nat} (h : isLs (getS env i) = true) : ∃ a ds, σ[i]? = some (some (.ref a)) ∧ rdS (getS env i) = some (.lst ds) ∧ ownS (getS env i) = true ∧ RepO C.T H0 H (.lst ds) (.ref a) := by
  have hi := S.slots i
  cases z : getS env i with
  | un => rw [z] at h; cases h
  | fn => rw [z] at h; cases h
  | fz d => rw [z] at h; cases h
  | ow d =>
    rw [z] at h hi
    obtain ⟨a, h1, _, h3⟩ := hi
    cases d <;> first | (cases h; done) | exact ⟨a, _, h1, rfl, rfl, h3⟩
  | io d =>
    rw [z] at h hi
    obtain ⟨a, h1, _, h3⟩ := hi
    cases d <;> first | (cases h; done) | exact ⟨a, _, h1, rfl, rfl, h3⟩
theorem own_setIO {s : Sl} {d : D} : ownS (setIO s d) = ownS s := by cases s <;> rfl
/-- an owned thing changes -/
theorem Sim.mut (S : Sim C σ H0 H env) {i : Nat} {a : Addr} {o : HO} {d : D} (ho : ownS (getS env i) = true) (e : σ[i]? = some (some (.ref a))) (h : RepO C.T H0 (upd H a o) d (.ref a)) : Sim C σ H0 (upd H a o) (env.set i (setIO (getS env i) d)) := by
  have hl : i < env.length := by rw [S.len]; exact (List.getElem?_eq_some_iff.mp e).1
  have hi := S.slots i
  have hw : C.He a = none ∨ C.io a := by
    cases z : getS env i with
    | un => rw [z] at ho; cases ho
    | fn => rw [z] at ho; cases ho
    | fz x => rw [z] at ho; cases ho
    | ow x => rw [z] at hi; obtain ⟨b, h1, h2, _⟩ := hi; rw [e] at h1; cases h1; exact .inl h2
    | io x => rw [z] at hi; obtain ⟨b, h1, h2, _⟩ := hi; rw [e] at h1; cases h1; exact .inr (List.mem_of_getElem? h2)
  refine { ok := S.ok, ex := fun b u q => ?_, ex0 := S.ex0, fresh := S.fresh, keep := fun b u q z => ?_, tno := S.tno, tabs := (by obtain ⟨_, u, hu⟩ := S.own ho e; exact tabs_upd hu (S.ownK ho e hu).1 (S.ownK ho e hu).2 S.tabs), ioH := fun b z q => ?_, len := by simp only [List.length_set]; exact S.len, slots := fun j => ?_, inj := fun j k b hjk hj hk ej ek => ?_ }
  · have z : b ≠ a := fun z => by subst z; rw [(S.own ho e).1] at q; cases q
    rw [upd_ne z]; exact S.ex _ _ q
  · have z2 : b ≠ a := fun z2 => by
      subst z2
      rcases hw with w | w
      · rw [w] at q; cases q
      · exact z w
    rw [upd_ne z2]; exact S.keep _ _ q z
  · by_cases z2 : b = a
    · subst z2; rw [upd_same] at q; cases q
    · rw [upd_ne z2] at q; exact S.ioH b z q
  · rw [getS_set]
    by_cases z : i = j
    · subst z
      simp only [hl, and_self, if_true]
      cases z : getS env i with
      | un => rw [z] at ho; cases ho
      | fn => rw [z] at ho; cases ho
      | fz x => rw [z] at ho; cases ho
      | ow x => rw [z] at hi; obtain ⟨b, h1, h2, _⟩ := hi; rw [e] at h1; cases h1; exact ⟨a, e, h2, h⟩
      | io x => rw [z] at hi; obtain ⟨b, h1, h2, _⟩ := hi; rw [e] at h1; cases h1; exact ⟨a, e, h2, h⟩
    · simp only [z, false_and, if_false]
      refine (S.slots j).step (Ext.rfl' _) fun b hb eb => ⟨(S.own hb eb).1, ?_⟩
      exact upd_ne fun zb => S.inj i j a z ho hb e (by rw [← zb]; exact eb)
  · rw [getS_set] at hj hk
    have hj' : ownS (getS env j) = true := by
      split at hj
      · rename_i z; rw [← z.1]; exact ho
      · exact hj
    have hk' : ownS (getS env k) = true := by
      split at hk
      · rename_i z; rw [← z.1]; exact ho
      · exact hk
    exact S.inj j k b hjk hj' hk' ej ek
/-- a name is let go -/
theorem Sim.drop (S : Sim C σ H0 H env) (i : Nat) : Sim C σ H0 H (env.set i .un) := by
  refine { ok := S.ok, ex := S.ex, ex0 := S.ex0, fresh := S.fresh, keep := S.keep, tabs := S.tabs, tno := S.tno, ioH := S.ioH, len := by simp only [List.length_set]; exact S.len, slots := fun j => ?_, inj := fun j k a hjk hj hk ej ek => ?_ }
  · rw [getS_set]
    split
    · trivial
    · exact S.slots j
  · rw [getS_set] at hj hk
    split at hj
    · cases hj
    · split at hk
      · cases hk
      · exact S.inj j k a hjk hj hk ej ek
end

/-- what is wanted behind a statement; H0: what is frozen ahead of it -/
def RS (C : Ctx) (W : WX) (E : Ends) (G : Hp) : R Fl → Prop
  | .ok .next env => ∀ σ H0 H, Ext G H0 → Sim C σ H0 H env → E.nx σ H
  | .ok .brk env => ∀ σ H0 H, Ext G H0 → Sim C σ H0 H env → E.bk σ H
  | .ok .cont env => ∀ σ H0 H, Ext G H0 → Sim C σ H0 H env → E.ct σ H
  | .ok (.ret u) env => ∀ σ H0 H v, Ext G H0 → Sim C σ H0 H env → UOk C σ H0 H env u v → E.rt v H
  | .exc x env => ∀ σ cls d H0 H, Ext G H0 → Sim C σ H0 H env → XOk C.T H0 H x cls d → W cls d σ H
  | .bad => False
def tS (C : Ctx) (W : WX) (cl : CallF) (s : S) : TS := fun E σ H => ∃ H0 env, Sim C σ H0 H env ∧ RS C W E H0 (ex cl s env)
def tSs (C : Ctx) (W : WX) (cl : CallF) (s : Ss) : TS := fun E σ H => ∃ H0 env, Sim C σ H0 H env ∧ RS C W E H0 (exs cl s env)
theorem RS.orB {α : Type} {C : Ctx} {W : WX} {E : Ends} {G : Hp} {o : Option α} {f : α → R Fl} (h : RS C W E G (orBad o f)) : ∃ a, o = some a ∧ RS C W E G (f a) := by
  cases o with
  | none => exact h.elim
  | some a => exact ⟨a, rfl, h⟩
theorem RS.mono {C : Ctx} {W : WX} {E : Ends} {G G' : Hp} (e : Ext G G') {r : R Fl} (h : RS C W E G r) : RS C W E G' r := by
  cases r with
  | ok a env =>
    cases a with
    | next => exact fun σ H0' H' e' s => h σ H0' H' (e.tr e') s
    | brk => exact fun σ H0' H' e' s => h σ H0' H' (e.tr e') s
    | cont => exact fun σ H0' H' e' s => h σ H0' H' (e.tr e') s
    | ret u => exact fun σ H0' H' v e' s => h σ H0' H' v (e.tr e') s
  | exc x env => exact fun σ cls d H0' H' e' s x => h σ cls d H0' H' (e.tr e') s x
  | bad => exact h
section
variable {C : Ctx} {W : WX} {σ : L2.St} {cl : CallF} {H0 H : Hp} {env : Env} {E : Ends}
theorem seqE {a : Ex} {f : U → Env → R Fl} (S : Sim C σ H0 H env) (h : RS C W E H0 ((ev cl a env).bind f)) {Q : VK}
    (hQ : ∀ u env1 v H01 H1, Ext H0 H01 → Sim C σ H01 H1 env1 → UOk C σ H01 H1 env1 u v → RS C W E H01 (f u env1) → Q v H1) : tI C W cl a σ H Q := by
  refine ⟨H0, env, S, ?_⟩
  cases q : ev cl a env with
  | ok u env1 =>
    rw [q] at h
    exact fun H01 H1 e s v hu => hQ u env1 v H01 H1 e s hu (RS.mono e h)
  | exc x env1 =>
    rw [q] at h
    exact fun cls d H0' H' e s x => h σ cls d H0' H' e s x
  | bad => rw [q] at h; exact h
theorem seqTE {a : Ex} {f : Bool → Env → R Fl} (S : Sim C σ H0 H env) (h : RS C W E H0 ((evT cl a env).bind f)) {Q : Bool → Hp → Prop}
    (hQ : ∀ b env1 H01 H1, Ext H0 H01 → Sim C σ H01 H1 env1 → RS C W E H01 (f b env1) → Q b H1) : tT C W cl a σ H Q := by
  refine ⟨H0, env, S, ?_⟩
  cases q : evT cl a env with
  | ok u env1 =>
    rw [q] at h
    exact fun H01 H1 e s => hQ u env1 H01 H1 e s (RS.mono e h)
  | exc x env1 =>
    rw [q] at h
    exact fun cls d H0' H' e s x => h σ cls d H0' H' e s x
  | bad => rw [q] at h; exact h
end
theorem psI {X : Cx} {st : Stmt} {t t' : TS} (h : PS X st t) (i : ∀ E σ H, t' E σ H → t E σ H) : PS X st t' := ⟨fun pins s σ H D I q => h.run pins s σ H D I (i D σ H q)⟩
theorem pssI {X : Cx} {st : List Stmt} {t t' : TS} (h : PSs X st t) (i : ∀ E σ H, t' E σ H → t E σ H) : PSs X st t' := ⟨fun pins s σ H D I q => h.run pins s σ H D I (i D σ H q)⟩
section
variable {X : Cx} {C : Ctx} {W : WX} {cl : CallF} {st : Stmt} {rest : List Stmt} {s' : S} {r' : Ss} {e : Expr} {e' : Ex} {pos : Pos}
theorem ss_nil : PSs X [] (tSs C W cl .nil) := pssI pss_nil fun E σ H ⟨H0, env, S, q⟩ => q σ H0 H (Ext.rfl' _) S
theorem ss_cons (h1 : PS X st (tS C W cl s')) (h2 : PSs X rest (tSs C W cl r')) : PSs X (st :: rest) (tSs C W cl (.cons s' r')) := pssI (pss_cons h1 h2) fun E σ H ⟨H0, env, S, q⟩ => by
  refine ⟨H0, env, S, ?_⟩
  simp only [exs] at q
  cases z : ex cl s' env with
  | ok fl env1 =>
    rw [z] at q
    cases fl with
    | next => exact fun σ' H0' H' e' S' => ⟨H0', env1, S', RS.mono e' q⟩
    | brk => exact q
    | cont => exact q
    | ret u => exact q
  | exc x env1 => rw [z] at q; exact q
  | bad => rw [z] at q; exact q
theorem s_asg {i : Nat} (h : PS X st (tAsg (tI C W cl e') (gName i))) : PS X st (tS C W cl (.asg i e')) := psI h fun E σ H ⟨H0, env, S, q⟩ => by
  simp only [ex] at q
  refine seqE S q fun u env1 v H1 H1' e1 S1 u1 q1 => ?_
  obtain ⟨env2, ha, q1⟩ := q1.orB
  obtain ⟨H2, e2, S2⟩ := S1.asg u1 ha
  exact q1 _ H2 H1' e2 S2
theorem s_ex (h : PE X e (tI C W cl e')) (hs : swapsWith e none pos.line X.env = pure false := by rfl) : PS X (.Expr e pos) (tS C W cl (.ex e')) := psI (ps_expr h hs) fun E σ H ⟨H0, env, S, q⟩ => by
  simp only [ex] at q
  exact seqE S q fun u env1 v H1 H1' e1 S1 u1 q1 => q1 σ H1 H1' (Ext.rfl' _) S1
theorem s_doc {x j p2} : PS X (.Expr (.Constant (.str x) j p2) pos) (tS C W cl .pass) := psI ps_doc fun E σ H ⟨H0, env, S, q⟩ => q σ H0 H (Ext.rfl' _) S
theorem s_pass : PS X (.Pass pos) (tS C W cl .pass) := psI ps_pass fun E σ H ⟨H0, env, S, q⟩ => q σ H0 H (Ext.rfl' _) S
theorem s_brk : PS X (.Break pos) (tS C W cl .brk) := psI ps_break fun E σ H ⟨H0, env, S, q⟩ => q σ H0 H (Ext.rfl' _) S
theorem s_cont : PS X (.Continue pos) (tS C W cl .cont) := psI ps_continue fun E σ H ⟨H0, env, S, q⟩ => q σ H0 H (Ext.rfl' _) S
theorem s_retN : PS X (.Return none pos) (tS C W cl .retN) := psI ps_retN fun E σ H ⟨H0, env, S, q⟩ => q σ H0 H .non (Ext.rfl' _) S (by show Rep _ _ _ _; simp only [Rep])
theorem s_ret (h : PE X e (tI C W cl e')) : PS X (.Return (some e) pos) (tS C W cl (.ret e')) := psI (ps_ret h) fun E σ H ⟨H0, env, S, q⟩ => by
  simp only [ex] at q
  refine seqE S q fun u env1 v H1 H1' e1 S1 u1 q1 => ?_
  obtain ⟨⟨r, env2⟩, hr, q1⟩ := q1.orB
  cases u with
  | d x => cases hr; exact q1 σ H1 H1' v (Ext.rfl' _) S1 u1
  | nw x => cases hr; exact q1 σ H1 H1' v (Ext.rfl' _) S1 u1
  | sl i =>
    have ei : σ[i]? = some (some v) := u1
    have hi := S1.slots i
    cases z : getS env1 i with
    | un => simp [retU, z] at hr
    | fn => simp [retU, z] at hr
    | io d => simp [retU, z] at hr
    | fz d =>
      simp [retU, z] at hr
      obtain ⟨rfl, rfl⟩ := hr
      rw [z] at hi
      obtain ⟨w, h1, h2⟩ := hi
      rw [ei] at h1; cases h1
      exact q1 σ H1 H1' v (Ext.rfl' _) S1 h2
    | ow d =>
      simp [retU, z] at hr
      obtain ⟨rfl, rfl⟩ := hr
      rw [z] at hi
      obtain ⟨a, h1, h2, h3⟩ := hi
      rw [ei] at h1; cases h1
      refine q1 σ H1 H1' _ (Ext.rfl' _) (S1.drop i) ?_
      show RepN _ _ _ _ _ _ _
      unfold RepN
      rw [if_pos h3.ref.1]
      have hl : i < env1.length := by rw [S1.len]; exact (List.getElem?_eq_some_iff.mp ei).1
      refine ⟨a, rfl, h2, h3, fun j hj ej => ?_⟩
      rw [getS_set] at hj
      split at hj
      · cases hj
      · rename_i zz
        have zj : ¬ i = j := fun w => zz ⟨w, hl⟩
        exact S1.inj i j a zj (by rw [z]; rfl) hj ei ej
theorem s_iff {c : Expr} {c' : Ex} {a b : List Stmt} {a' b' : Ss} (hc : PT X c (tT C W cl c')) (ha : PSs X a (tSs C W cl a')) (hb : PSs X b (tSs C W cl b')) : PS X (.If c a b pos) (tS C W cl (.iff c' a' b')) :=
  psI (ps_if hc ha hb) fun E σ H ⟨H0, env, S, q⟩ => by
    simp only [ex] at q
    refine seqTE S q fun t env1 H1 H1' e1 S1 q1 => ?_
    cases t with
    | true => rw [if_pos rfl]; exact ⟨H1, env1, S1, q1⟩
    | false => rw [if_neg Bool.false_ne_true]; exact ⟨H1, env1, S1, q1⟩
/-- slot[x] = e -/
theorem s_setI {i : Nat} {x' : Ex} (h : PS X st (tAsg (tI C W cl e') (gSub (tVar i) (tI C W cl x') rSetL))) : PS X st (tS C W cl (.setI i x' e')) := psI h fun E σ H ⟨H0, env, S, q⟩ => by
  simp only [ex] at q
  refine seqE S q fun u env1 v H1 H1' e1 S1 u1 q1 => ?_
  obtain ⟨⟨d, env2⟩, hf, q1⟩ := q1.orB
  obtain ⟨H2, e2, S2, r2⟩ := S1.take u1 hf
  split at q1
  · exact q1.elim
  rename_i hl
  simp only [Bool.not_eq_true, Bool.not_eq_false'] at hl
  obtain ⟨a, ds, ha, hs, ho, hr0⟩ := S2.ls hl
  refine ⟨.ref a, ha, seqE S2 (RS.mono e2 q1) fun w env3 k H3 H3' e3 S3 u3 q3 => ?_⟩
  obtain ⟨dk, hk, q3⟩ := q3.orB
  have fin : ∀ xs n, dk = .int n → isLs (getS env3 i) = true → rdS (getS env3 i) = some (.lst xs) → RS C W E H3 (orBad (setD xs n d) fun ys => .ok .next (env3.set i (setIO (getS env3 i) (.lst ys)))) → rSetL (.ref a) k v H3' fun H4 => E.nx σ H4 := by
    intro xs n hdk hg hx q4
    subst hdk
    obtain ⟨ys, hy, q4⟩ := q4.orB
    obtain ⟨b, ds3, hb, hs3, ho3, hr3⟩ := S3.ls hg
    rw [ha] at hb; cases hb
    rw [hs3] at hx; cases hx
    obtain ⟨b, us, eb, hn, hu, hr⟩ := hr3
    cases eb
    unfold setD at hy
    simp only [Option.map_eq_some_iff] at hy
    obtain ⟨j, hj, rfl⟩ := hy
    refine ⟨a, us, n, j, rfl, rd_int (S3.rd u3 hk), hu, by rw [hr.len]; exact hj, ?_⟩
    exact q4 _ H3 _ (Ext.rfl' _) (S3.mut ho3 ha ⟨a, _, rfl, hn, upd_same, hr.set (Rep.mono e3 _ _ r2) j⟩)
  split at q3
  · rename_i xs n hg; exact fin xs n rfl (by rw [hg]; rfl) (by rw [hg]; rfl) (by rw [hg]; exact q3)
  · rename_i xs n hg; exact fin xs n rfl (by rw [hg]; rfl) (by rw [hg]; rfl) (by rw [hg]; exact q3)
  · exact q3.elim
/-- slot.append(e) -/
theorem s_app {i : Nat} (h : PS X st (tDrop (tBM X.K "list" rAppend (tVar i) (tCons (tI C W cl e') tNil)))) : PS X st (tS C W cl (.app i e')) := psI h fun E σ H ⟨H0, env, S, q⟩ => by
  simp only [ex] at q
  split at q
  · exact q.elim
  rename_i hl
  simp only [Bool.not_eq_true, Bool.not_eq_false'] at hl
  obtain ⟨a, ds, ha, hs, ho, b, us, eb, hn, hu, hr⟩ := S.ls hl
  cases eb
  refine ⟨.ref a, ha, .inl ⟨rfl, us, SqL.of hu⟩, seqE S q fun u env1 v H1 H1' e1 S1 u1 q1 => ?_⟩
  obtain ⟨⟨d, env2⟩, hf, q1⟩ := q1.orB
  obtain ⟨H2, e2, S2, r2⟩ := S1.take u1 hf
  have fin : ∀ xs, isLs (getS env2 i) = true → rdS (getS env2 i) = some (.lst xs) → RS C W E H1 (if xs.length < LIM then .ok .next (env2.set i (setIO (getS env2 i) (.lst (xs ++ [d])))) else .bad) → rAppend (.ref a) [v] H1' fun _ H4 => E.nx σ H4 := by
    intro xs hg hx q4
    split at q4
    · rename_i hz
      obtain ⟨b, ds3, hb, hs3, ho3, hr3⟩ := S2.ls hg
      rw [ha] at hb; cases hb
      rw [hs3] at hx; cases hx
      obtain ⟨b, us3, eb, hn3, hu3, hr3⟩ := hr3
      cases eb
      refine ⟨a, us3, v, rfl, rfl, hu3, by rw [hr3.len]; exact Nat.lt_of_lt_of_le hz lim_line, ?_⟩
      exact q4 _ H2 _ e2 (S2.mut ho3 ha ⟨a, _, rfl, hn3, upd_same, hr3.app (by simp only [RepAll]; exact ⟨v, [], rfl, r2, rfl⟩)⟩)
    · exact q4.elim
  split at q1
  · rename_i xs hg; exact fin xs (by rw [hg]; rfl) (by rw [hg]; rfl) (by rw [hg]; exact q1)
  · rename_i xs hg; exact fin xs (by rw [hg]; rfl) (by rw [hg]; rfl) (by rw [hg]; exact q1)
  · exact q1.elim
/-- name += e, ints -/
theorem s_add {i : Nat} (h : PS X st (tAug i (tI C W cl e') (ipI fun i j => i + j))) : PS X st (tS C W cl (.aug i .add e')) := psI h fun E σ H ⟨H0, env, S, q⟩ => by
  simp only [ex] at q
  split at q
  rotate_left
  · exact q.elim
  rename_i n hn
  have hi := S.slots i
  rw [hn] at hi
  obtain ⟨x, hx, hr⟩ := hi
  simp only [Rep] at hr
  subst hr
  refine ⟨_, hx, seqE S q fun u env1 v H1 H1' e1 S1 u1 q1 => ?_⟩
  obtain ⟨d, hd, q1⟩ := q1.orB
  split at q1
  · rename_i m
    exact ⟨n, m, rfl, rd_int (S1.rd u1 hd), q1 _ H1 H1' (Ext.rfl' _) (S1.store rfl ⟨_, rfl, r_int _ _ _⟩ fun _ _ z => by cases z)⟩
  · exact q1.elim
theorem s_sub {i : Nat} (h : PS X st (tAug i (tI C W cl e') (ipI fun i j => i - j))) : PS X st (tS C W cl (.aug i .sub e')) := psI h fun E σ H ⟨H0, env, S, q⟩ => by
  simp only [ex] at q
  split at q
  rotate_left
  · exact q.elim
  rename_i n hn
  have hi := S.slots i
  rw [hn] at hi
  obtain ⟨x, hx, hr⟩ := hi
  simp only [Rep] at hr
  subst hr
  refine ⟨_, hx, seqE S q fun u env1 v H1 H1' e1 S1 u1 q1 => ?_⟩
  obtain ⟨d, hd, q1⟩ := q1.orB
  split at q1
  · rename_i m
    exact ⟨n, m, rfl, rd_int (S1.rd u1 hd), q1 _ H1 H1' (Ext.rfl' _) (S1.store rfl ⟨_, rfl, r_int _ _ _⟩ fun _ _ z => by cases z)⟩
  · exact q1.elim
/-! loops -/
def forPv (C : Ctx) (W : WX) (E : Ends) (G : Hp) (body : Env → R Fl) (j : Nat) (items : List D) : Nat → L2.St → Hp → Prop := fun i σ H => ∃ H0 env, Ext G H0 ∧ Sim C σ H0 H env ∧ RS C W E H0 (forD body j (items.drop i) env)
/-- one turn -/
theorem turnF {E : Ends} {G : Hp} {b : Ss} {j : Nat} {items : List D} {i : Nat} {d : D} {v : V} {σ : L2.St} {H : Hp} (hd : items[i]? = some d) (hr : ∀ H0, Ext G H0 → Rep C.T H0 d v)
    (h : forPv C W E G (exs cl b) j items i σ H) : tSs C W cl b { E with nx := forPv C W E G (exs cl b) j items (i + 1), ct := forPv C W E G (exs cl b) j items (i + 1), bk := E.nx } (σ.set j (some v)) H := by
  obtain ⟨H0, env, eG, S, q⟩ := h
  have rv := hr H0 eG
  have hdrop : items.drop i = d :: items.drop (i + 1) := by
    have hi := (List.getElem?_eq_some_iff.mp hd)
    rw [List.drop_eq_getElem_cons hi.1, hi.2]
  rw [hdrop] at q
  simp only [forD] at q
  refine ⟨H0, env.set j (.fz d), S.store rfl ⟨v, rfl, rv⟩ fun _ _ z => (by cases z), ?_⟩
  cases z : exs cl b (env.set j (.fz d)) with
  | bad => rw [z] at q; exact q
  | exc x env1 => rw [z] at q; exact q
  | ok fl env1 =>
    rw [z] at q
    cases fl with
    | next => exact fun σ' H0' H' e' S' => ⟨H0', env1, eG.tr e', S', RS.mono e' q⟩
    | cont => exact fun σ' H0' H' e' S' => ⟨H0', env1, eG.tr e', S', RS.mono e' q⟩
    | brk => exact q
    | ret u => exact q
theorem s_forr {n' : Ex} {b : Ss} {j : Nat} (h : PS X st (tFor (iRng1 (tCons (tI C W cl n') tNil)) (gName j) (tSs C W cl b))) : PS X st (tS C W cl (.forr j n' b)) := psI h fun E σ H ⟨H0, env, S, q⟩ => by
  simp only [ex] at q
  refine seqE S q fun u env1 v H1 H1' e1 S1 u1 q1 => ?_
  obtain ⟨d, hd, q1⟩ := q1.orB
  split at q1
  rotate_left
  · exact q1.elim
  rename_i m
  split at q1
  rotate_left
  · exact q1.elim
  rename_i hb
  simp only [Bool.and_eq_true, decide_eq_true_eq] at hb
  cases rd_int (S1.rd u1 hd)
  refine ⟨m, rfl, by omega, by omega, for_range (lo := 0) (n := m.toNat) (forPv C W E H1 (exs cl b) j ((List.range m.toNat).map fun (k : Nat) => .int k)) ⟨H1, env1, Ext.rfl' _, S1, q1⟩ (fun i σ' H' hi p => ?_) (fun σ' H' p => ?_)⟩
  · have hz : ((0 : Int) + (i : Nat)) = (i : Nat) := by omega
    show tSs C W cl b _ (σ'.set j (some (.int ((0 : Int) + (i : Nat))))) H'
    rw [hz]
    exact turnF (d := .int i) (by simp [hi]) (fun H0 _ => r_int _ _ _) p
  · obtain ⟨H2, env2, _, S2, q2⟩ := p
    rw [List.drop_eq_nil_of_le (by simp)] at q2
    exact q2 σ' H2 H' (Ext.rfl' _) S2
/-- what a for walks: a list or a tuple -/
def itemsU (u : U) (env : Env) : R (List D) := orBad (fzU env u) fun p => match p.1 with
  | .lst xs => .ok xs p.2
  | .tup xs => .ok xs p.2
  | .kst xs => .ok xs p.2
  | _ => .bad
def tIt (C : Ctx) (W : WX) (cl : CallF) (e : Ex) : TI := fun σ H R => ∃ H0 env, Sim C σ H0 H env ∧
  RQ C W σ (fun (ds : List D) env' H0' H' => ∀ a xs, RepAll C.T H0' ds xs → (SqL C.T.K H0' a xs → R (Itl C.T.K a) H') ∧ (SqT C.T.K H0' a xs → R (Itt C.T.K a) H')) H0 ((ev cl e env).bind itemsU)
theorem i_any {tg l : Expr} {l' : Ex} (hK : X.K = C.T.K) (h : PE X l (tI C W cl l')) : PI X tg l (tIt C W cl l') := ⟨fun pins s σ H R I ⟨H0, env, S, q⟩ => by
  cases z : ev cl l' env with
  | bad => rw [z] at q; exact q.elim
  | exc x env1 => exact (pi_list h).run pins s σ H R I ⟨H0, env, S, by rw [z] at q ⊢; exact q⟩
  | ok u env1 =>
    rw [z] at q
    simp only [PP.R.bind_ok, itemsU] at q
    obtain ⟨⟨d, env2⟩, hf, q⟩ := q.orB
    have key : ∀ (Q : VK), (∀ H2 H1' v, Ext H0 H2 → Sim C σ H2 H1' env2 → Rep C.T H2 d v → Q v H1') → tI C W cl l' σ H Q := fun Q hQ => ⟨H0, env, S, by
      rw [z]
      intro H1 H1' e1 S1 v u1
      obtain ⟨H2, e2, S2, r2⟩ := S1.take u1 hf
      exact hQ H2 H1' v (e1.tr e2) S2 r2⟩
    cases d with
    | lst ds =>
      exact (pi_list h).run pins s σ H R I (key _ fun H2 H1' v e S2 r => by
        simp only [Rep] at r
        obtain ⟨a, xs, rfl, r1, r2⟩ := r
        exact ⟨a, rfl, ⟨xs, .inl (S2.ex.rd r1)⟩, hK ▸ ((q H2 H1' e S2) a xs r2).1 (.inl r1)⟩)
    | kst ds =>
      exact (pi_list h).run pins s σ H R I (key _ fun H2 H1' v e S2 r => by
        simp only [Rep] at r
        obtain ⟨a, xs, rfl, r1, r2⟩ := r
        exact ⟨a, rfl, ⟨xs, hK ▸ S2.ex.sqL r1⟩, hK ▸ ((q H2 H1' e S2) a xs r2).1 r1⟩)
    | tup ds =>
      exact (pi_tup h).run pins s σ H R I (key _ fun H2 H1' v e S2 r => by
        simp only [Rep] at r
        obtain ⟨a, xs, rfl, r1, r2⟩ := r
        exact ⟨a, rfl, ⟨xs, hK ▸ S2.ex.sqT r1⟩, hK ▸ ((q H2 H1' e S2) a xs r2).2 r1⟩)
    | _ => exact q.elim⟩
theorem s_forl {l' : Ex} {b : Ss} {j : Nat} (h : PS X st (tFor (tIt C W cl l') (gName j) (tSs C W cl b))) : PS X st (tS C W cl (.forl j l' b)) := psI h fun E σ H ⟨H0, env, S, q⟩ => by
  simp only [ex] at q
  refine ⟨H0, env, S, ?_⟩
  have fin : ∀ (ds : List D) env2, RS C W E H0 (forD (exs cl b) j ds env2) → ∀ H2 H1', Ext H0 H2 → Sim C σ H2 H1' env2 → ∀ a xs, RepAll C.T H2 ds xs →
      (SqL C.T.K H2 a xs → ∃ W' : Nat → Nat → L2.St → Hp → Prop, (∃ m, W' 0 m σ H1') ∧ ∀ i m σ H, W' i m σ H → ((Itl C.T.K a).stop i H ∧ E.nx σ H) ∨ ((Itl C.T.K a).go i H ∧ ∃ N : L2.St → Hp → Prop, (∀ σ' H', N σ' H' → ∃ m', m' < m ∧ W' (i + 1) m' σ' H') ∧ ∀ x H', (Itl C.T.K a).yld i H x H' → gName j x σ H' fun σ2 H2 => tSs C W cl b { E with nx := N, ct := N, bk := E.nx } σ2 H2)) ∧
      (SqT C.T.K H2 a xs → ∃ W' : Nat → Nat → L2.St → Hp → Prop, (∃ m, W' 0 m σ H1') ∧ ∀ i m σ H, W' i m σ H → ((Itt C.T.K a).stop i H ∧ E.nx σ H) ∨ ((Itt C.T.K a).go i H ∧ ∃ N : L2.St → Hp → Prop, (∀ σ' H', N σ' H' → ∃ m', m' < m ∧ W' (i + 1) m' σ' H') ∧ ∀ x H', (Itt C.T.K a).yld i H x H' → gName j x σ H' fun σ2 H2 => tSs C W cl b { E with nx := N, ct := N, bk := E.nx } σ2 H2)) := by
    intro ds env2 q2 H2 H1' e S2 a xs hr
    have hend : ∀ σ' H', forPv C W E H2 (exs cl b) j ds xs.length σ' H' → E.nx σ' H' := fun σ' H' p => by
      obtain ⟨H3, env3, _, S3, q3⟩ := p
      rw [List.drop_eq_nil_of_le (by rw [hr.len]; exact Nat.le_refl _)] at q3
      exact q3 σ' H3 H' (Ext.rfl' _) S3
    have hturn : ∀ i x σ' H', xs[i]? = some x → forPv C W E H2 (exs cl b) j ds i σ' H' → gName j x σ' H' fun σ2 H2' => tSs C W cl b { E with nx := forPv C W E H2 (exs cl b) j ds (i + 1), ct := forPv C W E H2 (exs cl b) j ds (i + 1), bk := E.nx } σ2 H2' := fun i x σ' H' hx p => by
      obtain ⟨d, hd, rd⟩ := hr.get' hx
      exact turnF hd (fun H0 e0 => Rep.mono e0 _ _ rd) p
    exact ⟨fun hs => for_list (forPv C W E H2 (exs cl b) j ds) ⟨H2, env2, Ext.rfl' _, S2, RS.mono e q2⟩ (fun i σ' H' _ p => by obtain ⟨H3, env3, e3, S3, _⟩ := p; exact (e3.tr S3.ex).sqL hs) hturn hend,
      fun hs => for_tup (forPv C W E H2 (exs cl b) j ds) ⟨H2, env2, Ext.rfl' _, S2, RS.mono e q2⟩ (fun i σ' H' _ p => by obtain ⟨H3, env3, e3, S3, _⟩ := p; exact (e3.tr S3.ex).sqT hs) hturn hend⟩
  cases z : ev cl l' env with
  | bad => rw [z] at q; exact q.elim
  | exc x env1 => rw [z] at q; exact fun cls d H0' H' e s x => q σ cls d H0' H' e s x
  | ok u env1 =>
    rw [z] at q
    simp only [R.bind_ok] at q ⊢
    obtain ⟨⟨d, env2⟩, hf, q⟩ := q.orB
    unfold itemsU
    rw [hf]
    cases d with
    | lst ds => exact fun H2 H1' e S2 a xs hr => fin ds env2 q H2 H1' e S2 a xs hr
    | kst ds => exact fun H2 H1' e S2 a xs hr => fin ds env2 q H2 H1' e S2 a xs hr
    | tup ds => exact fun H2 H1' e S2 a xs hr => fin ds env2 q H2 H1' e S2 a xs hr
    | _ => exact q.elim
theorem s_whil {c' : Ex} {b : Ss} (h : PS X st (tWhile (tT C W cl c') (tSs C W cl b))) : PS X st (tS C W cl (.whil c' b)) := psI h fun E σ H ⟨H0, env, S, q⟩ => by
  simp only [ex] at q
  refine ⟨fun m σ H => ∃ H0 env, Sim C σ H0 H env ∧ RS C W E H0 (whD (evT cl c') (exs cl b) m env), ⟨FUEL, H0, env, S, q⟩, fun m σ H ⟨H0, env, S, q⟩ => ?_⟩
  cases m with
  | zero => exact q.elim
  | succ m =>
    simp only [whD] at q
    refine seqTE S q fun t env1 H1 H1' e1 S1 q1 => ?_
    cases t with
    | false => rw [if_neg Bool.false_ne_true]; exact q1 σ H1 H1' (Ext.rfl' _) S1
    | true =>
      rw [if_pos rfl]
      refine ⟨fun σ H => ∃ H0 env, Sim C σ H0 H env ∧ RS C W E H0 (whD (evT cl c') (exs cl b) m env), fun σ' H' p => ⟨m, Nat.lt_succ_self _, p⟩, H1, env1, S1, ?_⟩
      cases z : exs cl b env1 with
      | bad => simp only [z] at q1; exact q1
      | exc x env1 => simp only [z] at q1; exact q1
      | ok fl env2 =>
        simp only [z, R.bind_ok] at q1
        cases fl with
        | next => exact fun σ' H0' H' e' S' => ⟨H0', env2, S', RS.mono e' q1⟩
        | cont => exact fun σ' H0' H' e' S' => ⟨H0', env2, S', RS.mono e' q1⟩
        | brk => exact q1
        | ret u => exact q1
end
end PP
end

section
set_option maxHeartbeats 1000000
/-! defs and their calls -/
namespace PP
open PySem L2

def ArOk (T : Tbl) (H0 H : Hp) : List Ar → List V → Prop
  | [], vs => vs = []
  | .fz d :: as, vs => ∃ v r, vs = v :: r ∧ Rep T H0 d v ∧ ArOk T H0 H as r
  | .io d :: as, vs => ∃ a r, vs = .ref a :: r ∧ RepO T H0 H d (.ref a) ∧ ArOk T H0 H as r
/-- the addresses that are handed in to be changed, place by place -/
def ioL : List Ar → List V → List (Option Addr)
  | .io _ :: as, .ref a :: vs => some a :: ioL as vs
  | _ :: as, _ :: vs => none :: ioL as vs
  | _, _ => []
def OutsOk (T : Tbl) (H0 H : Hp) : List (Option Addr) → List D → Prop
  | [], ds => ds = []
  | none :: r, ds => OutsOk T H0 H r ds
  | some a :: r, ds => ∃ d ds', ds = d :: ds' ∧ RepO T H0 H d (.ref a) ∧ OutsOk T H0 H r ds'
def NoDup (l : List (Option Addr)) : Prop := ∀ (i j : Nat) (a : Addr), l[i]? = some (some a) → l[j]? = some (some a) → i = j
def TbOk (T : Tbl) (H0 H : Hp) : Prop := LamX.Tabs T.tt H ∧ ∀ p ∈ T.tt, H0 p.1 = none
theorem Sim.tb {C : Ctx} {σ : L2.St} {H0 H : Hp} {env : Env} (S : Sim C σ H0 H env) : TbOk C.T H0 H := ⟨S.tabs, S.tno⟩
structure GrC (T : Tbl) (L : List (Option Addr)) (H0 H H0' H' : Hp) : Prop where
  e0 : Ext H0 H0'
  e01 : Ext H0' H'
  new : ∀ a, H0 a = none → H0' a ≠ none → H a = none
  keep : ∀ a o, some a ∉ L → H a = some o → Kp o (H' a)
  tb : LamX.Tabs T.tt H → LamX.Tabs T.tt H'
def RetOk (T : Tbl) (H0' H' H : Hp) : U → V → Prop
  | .d d, v => Rep T H0' d v
  | .nw d, v => RepG T H0' H' H d v
  | .sl _, _ => False
/-- the promise of a def: it does what the interpreter does -/
def spF (T : Tbl) (cl : CallF) (f n : Nat) : Sp := fun vs H Q E => ∃ H0 as, Ext H0 H ∧ ArOk T H0 H as vs ∧ NoDup (ioL as vs) ∧ as.length = n ∧ TbOk T H0 H ∧
  match cl f as with
  | .ok r outs => ∀ v H0' H', GrC T (ioL as vs) H0 H H0' H' → RetOk T H0' H' H r v → OutsOk T H0' H' (ioL as vs) outs → Q v H'
  | .exc x outs => ∀ cls d H0' H', GrC T (ioL as vs) H0 H H0' H' → OutsOk T H0' H' (ioL as vs) outs → XOk T H0' H' x cls d → E cls d H'
  | .bad => False
theorem ArOk.len {T : Tbl} {H0 H : Hp} : ∀ {as : List Ar} {vs : List V}, ArOk T H0 H as vs → vs.length = as.length
  | [], _, h => by cases h; rfl
  | .fz d :: as, _, h => by obtain ⟨v, r, rfl, _, h⟩ := h; simp [ArOk.len h]
  | .io d :: as, _, h => by obtain ⟨v, r, rfl, _, h⟩ := h; simp [ArOk.len h]
theorem ArOk.ioLen {T : Tbl} {H0 H : Hp} : ∀ {as : List Ar} {vs : List V}, ArOk T H0 H as vs → (ioL as vs).length = as.length
  | [], _, h => by cases h; rfl
  | .fz d :: as, _, h => by obtain ⟨v, r, rfl, _, h⟩ := h; simp [ioL, ArOk.ioLen h]
  | .io d :: as, _, h => by obtain ⟨v, r, rfl, _, h⟩ := h; simp [ioL, ArOk.ioLen h]
theorem ArOk.at {T : Tbl} {H0 H : Hp} : ∀ {as : List Ar} {vs : List V} (i : Nat), ArOk T H0 H as vs → match as[i]? with
    | none => True
    | some (.fz d) => (∃ v, vs[i]? = some v ∧ Rep T H0 d v) ∧ (ioL as vs)[i]? = some none
    | some (.io d) => ∃ a, vs[i]? = some (.ref a) ∧ RepO T H0 H d (.ref a) ∧ (ioL as vs)[i]? = some (some a)
  | [], _, i, h => by simp
  | .fz d :: as, _, 0, h => by obtain ⟨v, r, rfl, h1, h⟩ := h; exact ⟨⟨v, rfl, h1⟩, rfl⟩
  | .io d :: as, _, 0, h => by obtain ⟨v, r, rfl, h1, h⟩ := h; exact ⟨v, rfl, h1, rfl⟩
  | .fz d :: as, _, i + 1, h => by obtain ⟨v, r, rfl, h1, h⟩ := h; simpa [ioL] using ArOk.at i h
  | .io d :: as, _, i + 1, h => by obtain ⟨v, r, rfl, h1, h⟩ := h; simpa [ioL] using ArOk.at i h
theorem ArOk.ioAt {T : Tbl} {H0 H : Hp} {as : List Ar} {vs : List V} (h : ArOk T H0 H as vs) {a : Addr} {i : Nat} (hi : (ioL as vs)[i]? = some (some a)) : ∃ d, as[i]? = some (.io d) ∧ vs[i]? = some (.ref a) ∧ RepO T H0 H d (.ref a) := by
  have q := h.at i
  cases z : as[i]? with
  | none =>
    rw [List.getElem?_eq_none_iff, ← h.ioLen, ← List.getElem?_eq_none_iff] at z
    rw [z] at hi; cases hi
  | some x =>
    rw [z] at q
    cases x with
    | fz d => rw [q.2] at hi; cases hi
    | io d => obtain ⟨b, h1, h2, h3⟩ := q; rw [h3] at hi; cases hi; exact ⟨d, rfl, h1, h2⟩

/-! ### a def's body -/
theorem startE_len : ∀ {n : Nat} {as : List Ar}, (startE n as).length = n
  | 0, [] => rfl
  | 0, _ :: _ => rfl
  | n + 1, [] => by simp only [startE, List.length_cons, startE_len]
  | n + 1, .fz d :: as => by simp only [startE, List.length_cons, startE_len]
  | n + 1, .io d :: as => by simp only [startE, List.length_cons, startE_len]
theorem getS_start : ∀ {n : Nat} {as : List Ar} (hn : as.length ≤ n) (i : Nat), getS (startE n as) i = match as[i]? with
    | none => .un
    | some (.fz d) => .fz d
    | some (.io d) => .io d
  | 0, [], _, i => by simp [startE, getS]
  | 0, _ :: _, h, i => by simp at h
  | n + 1, [], _, 0 => by simp [startE, getS]
  | n + 1, [], _, i + 1 => by
    have := getS_start (n := n) (as := []) (Nat.zero_le _) i
    simpa [startE, getS] using this
  | n + 1, .fz d :: as, _, 0 => by simp [startE, getS]
  | n + 1, .io d :: as, _, 0 => by simp [startE, getS]
  | n + 1, .fz d :: as, h, i + 1 => by
    have := getS_start (n := n) (as := as) (by simpa using h) i
    simpa [startE, getS] using this
  | n + 1, .io d :: as, h, i + 1 => by
    have := getS_start (n := n) (as := as) (by simpa using h) i
    simpa [startE, getS] using this
theorem sim_start {T : Tbl} {H0 H : Hp} {as : List Ar} {vs : List V} {N : List Str} (e : Ext H0 H) (h : ArOk T H0 H as vs) (nd : NoDup (ioL as vs)) (hn : as.length ≤ N.length) (tb : TbOk T H0 H) : Sim ⟨T, H0, H, ioL as vs, 0⟩ (L2.start N vs) H0 H (startE N.length as) := by
  have hl := h.len
  have sv : ∀ (i : Nat) (v : V), vs[i]? = some v → (L2.start N vs)[i]? = some (some v) := fun i v hv => by
    have hi := (List.getElem?_eq_some_iff.mp hv).1
    unfold L2.start
    rw [List.getElem?_append_left (by simpa using hi), List.getElem?_map, hv]; rfl
  have io : ∀ a, Ctx.io ⟨T, H0, H, ioL as vs, 0⟩ a → H0 a = none ∧ ∃ o, H a = some o := fun a ha => by
    obtain ⟨i, hi⟩ := List.getElem?_of_mem (show some a ∈ ioL as vs from ha)
    obtain ⟨d, _, _, hr⟩ := h.ioAt hi
    exact hr.some
  have own : ∀ i, ownS (getS (startE N.length as) i) = true → ∃ d a, as[i]? = some (.io d) ∧ vs[i]? = some (.ref a) ∧ (ioL as vs)[i]? = some (some a) := fun i hi => by
    rw [getS_start hn] at hi
    have q := h.at i
    cases z : as[i]? with
    | none => rw [z] at hi; cases hi
    | some x =>
      rw [z] at hi q
      cases x with
      | fz d => cases hi
      | io d => obtain ⟨a, h1, h2, h3⟩ := q; exact ⟨d, a, rfl, h1, h3⟩
  have hio : ∀ a, Ctx.io ⟨T, H0, H, ioL as vs, 0⟩ a → H a ≠ none := fun a ha q => by
    obtain ⟨o, z⟩ := (io a ha).2
    rw [q] at z; cases z
  refine { ok := ⟨fun a ha => ⟨(io a ha).1, hio a ha⟩, e⟩, ex := e, ex0 := Ext.rfl' _, fresh := fun a q q' => (q' q).elim, keep := fun a o q _ => .inl q, tabs := tb.1, tno := tb.2, ioH := hio, len := ?_, slots := fun i => ?_, inj := fun i j a hij hi hj ei ej => ?_ }
  · rw [startE_len]
    unfold L2.start
    simp only [List.length_append, List.length_map, List.length_replicate]
    omega
  · rw [getS_start hn]
    have q := h.at i
    cases z : as[i]? with
    | none => trivial
    | some x =>
      rw [z] at q
      cases x with
      | fz d => obtain ⟨⟨v, h1, h2⟩, _⟩ := q; exact ⟨v, sv i v h1, h2⟩
      | io d => obtain ⟨a, h1, h2, h3⟩ := q; exact ⟨a, sv i _ h1, h3, h2⟩
  · obtain ⟨d, b, h1, h2, h3⟩ := own i hi
    obtain ⟨d', b', h1', h2', h3'⟩ := own j hj
    rw [sv i _ h2] at ei; cases ei
    rw [sv j _ h2'] at ej; cases ej
    exact hij (nd i j _ h3 h3')
/-- what stands in the slots that were handed in -/
theorem outs_ok {T : Tbl} {σ : L2.St} {H0 H : Hp} {L : List (Option Addr)} {C : Ctx} : ∀ {as : List Ar} {L' : List (Option Addr)} {env : Env} {outs : List D} (k : Nat), outsOf as env = some outs → as.length ≤ L'.length →
    (∀ (i : Nat) (d : D), as[i]? = some (Ar.fz d) → L'[i]? = some none) → (∀ (i : Nat) (d : D), as[i]? = some (Ar.io d) → ∀ x : D, env[i]? = some (Sl.io x) → ∃ a, L'[i]? = some (some a) ∧ RepO T H0 H x (.ref a)) → L'.length = as.length → OutsOk T H0 H L' outs
  | [], L', env, outs, k, h, _, _, _, hl => by
    cases h
    cases L' with
    | nil => rfl
    | cons a b => simp at hl
  | .fz d :: as, L', env, outs, k, h, hle, hf, hi, hl => by
    cases L' with
    | nil => simp at hl
    | cons a b =>
      have := hf 0 d rfl
      simp at this
      subst this
      simp only [outsOf] at h
      show OutsOk T H0 H b outs
      refine outs_ok (L := L) (C := C) (σ := σ) (k + 1) h (by simpa using hle) (fun i d hd => by simpa using hf (i + 1) d (by simpa using hd)) (fun i d hd x hx => ?_) (by simpa using hl)
      have := hi (i + 1) d (by simpa using hd) x (by cases env with | nil => simp at hx | cons s r => simpa using hx)
      simpa using this
  | .io d :: as, L', env, outs, k, h, hle, hf, hi, hl => by
    cases L' with
    | nil => simp at hl
    | cons a b =>
      cases env with
      | nil => simp [outsOf] at h
      | cons s r =>
        cases s with
        | io x =>
          simp only [outsOf, List.head?_cons, List.tail_cons, Option.map_eq_some_iff] at h
          obtain ⟨o', h1, rfl⟩ := h
          obtain ⟨a', e1, e2⟩ := hi 0 d rfl x rfl
          simp at e1
          subst e1
          refine ⟨x, o', rfl, e2, outs_ok (L := L) (C := C) (σ := σ) (k + 1) h1 (by simpa using hle) (fun i d hd => by simpa using hf (i + 1) d (by simpa using hd)) (fun i d hd x hx => ?_) (by simpa using hl)⟩
          have := hi (i + 1) d (by simpa using hd) x (by simpa using hx)
          simpa using this
        | un => simp [outsOf] at h
        | fn => simp [outsOf] at h
        | fz x => simp [outsOf] at h
        | ow x => simp [outsOf] at h
/-- behind the body -/
theorem Sim.outs {T : Tbl} {H0e He H0 H : Hp} {σ : L2.St} {env : Env} {as : List Ar} {vs : List V} {outs : List D} (hA : ArOk T H0e He as vs) (S : Sim ⟨T, H0e, He, ioL as vs, 0⟩ σ H0 H env) (h : outsOf as env = some outs) :
    GrC T (ioL as vs) H0e He H0 H ∧ OutsOk T H0 H (ioL as vs) outs := by
  refine ⟨⟨S.ex0, S.ex, S.fresh, fun a o q z => S.keep a o z q, fun _ => S.tabs⟩, ?_⟩
  refine outs_ok (L := []) (C := ⟨T, H0e, He, [], 0⟩) (σ := σ) 0 h (Nat.le_of_eq hA.ioLen.symm) (fun i d hd => ?_) (fun i d hd x hx => ?_) hA.ioLen
  · have q := hA.at i
    rw [hd] at q
    exact q.2
  · have q := hA.at i
    rw [hd] at q
    obtain ⟨a, h1, h2, h3⟩ := q
    have z := S.slots i
    have gx : getS env i = .io x := by unfold getS; rw [List.getD_eq_getElem?_getD, hx]; rfl
    rw [gx] at z
    obtain ⟨b, e1, e2, e3⟩ := z
    rw [show (ioL as vs)[i]? = some (some b) from e2] at h3
    exact ⟨b, e2, e3⟩
/-- the body does what the def promises -/
theorem body_ok {T : Tbl} {cl : CallF} {fs : CallF} {F : Fn} {f n : Nat} {vs : List V} {H : Hp} {Q : VK} {E : XK} {N : List Str} {X : Cx} {body : List Stmt} (hN : N.length = F.n) (hn : n ≤ F.n) (hf : ∀ as, fs f as = runF cl F as)
    (hb : ∀ C : Ctx, C.T = T → PSs X body (tSs C (fun cls d _ H => E cls d H) cl F.body)) (h : spF T fs f n vs H Q E) : ∃ t, PSs X body t ∧ t { nx := fun _ H' => Q .non H', rt := Q } (L2.start N vs) H := by
  obtain ⟨H0, as, e, hA, nd, hl, tb, h⟩ := h
  refine ⟨_, hb ⟨T, H0, H, ioL as vs, 0⟩ rfl, H0, startE F.n as, by rw [← hN]; exact sim_start e hA nd (by rw [hl, hN]; exact hn) tb, ?_⟩
  rw [hf, runF] at h
  unfold finR at h
  cases z : exs cl F.body (startE F.n as) with
  | bad => rw [z] at h; exact h
  | exc x env =>
    simp only [z] at h
    cases zo : outsOf as env with
    | none => simp only [zo, finX, finO] at h
    | some outs =>
      simp only [zo, finX, finO] at h
      intro σ cls d H0' H' _ S hx
      obtain ⟨g, o⟩ := S.outs hA zo
      exact h cls d H0' H' g o hx
  | ok fl env =>
    simp only [z] at h
    cases zo : outsOf as env with
    | none => simp only [zo, finX, finO] at h
    | some outs =>
      simp only [zo, finX, finO] at h
      cases fl with
      | next =>
        intro σ H0' H' _ S
        obtain ⟨g, o⟩ := S.outs hA zo
        exact h .non H0' H' g (by show Rep _ _ _ _; simp only [Rep]) o
      | brk => exact h.elim
      | cont => exact h.elim
      | ret u =>
        intro σ H0' H' v _ S hu
        obtain ⟨g, o⟩ := S.outs hA zo
        cases u with
        | d x => exact h v H0' H' g hu o
        | sl i => exact h.elim
        | nw x =>
          refine h v H0' H' g ?_ o
          rw [show (nrm x) = if isMutD x = true then U.nw x else U.d x from rfl]
          have h' : RepN ⟨T, H0, H, ioL as vs, 0⟩ σ H0' H' env x v := hu
          unfold RepN at h'
          by_cases hm : isMutD x = true
          · rw [if_pos hm] at h' ⊢
            show RepG T H0' H' H x v
            unfold RepG
            rw [if_pos hm]
            obtain ⟨a, rfl, h1, h2, _⟩ := h'
            exact ⟨a, rfl, h1, h2⟩
          · rw [if_neg hm] at h' ⊢
            exact h'
end PP
end

section
set_option maxHeartbeats 1000000
namespace PP
open PySem PySem.Spec PyProof.Rows L2

/-! ### the promise of a def, where no repr is under way -/
structure FnG (P : Program) (w : World) (K : PySem.W.Frag) (mg : Str → Option Value) (base : Heap) (k : Nat) (f : Addr) (fd : FuncData) (ps : List Str) (sp : Sp) : Prop where
  len : ∀ vs H Q E, sp vs H Q E → vs.length = ps.length
  run : ∀ (A : Around) (outer : List PySem.Env) (s : Shared) (H : Hp) (args : Args) (us : List Value) (vs : List V) (Q : VK) (E : XK), A.guards = some [] → Room k A → Env0 P w K mg base A outer s H →
    BindsTo s fd args (ps.zip us) → Vals vs us → sp vs H Q E → codeAny (model P w) A (.call (.ref f) args) (CR (L2.CX P w) outer P w H s Q E) s
theorem FnG.up {P : Program} {w : World} {K : PySem.W.Frag} {mg : Str → Option Value} {base : Heap} {j k : Nat} {f : Addr} {fd : FuncData} {ps : List Str} {sp : Sp} (F : FnG P w K mg base j f fd ps sp) (h : j ≤ k) : FnG P w K mg base k f fd ps sp :=
  ⟨F.len, fun A outer s H args us vs Q E hg hr => F.run A outer s H args us vs Q E hg (hr.mono h)⟩
/-- a def of the text, its defaults anywhere -/
structure FunV (K : PySem.W.Frag) (x qual : Str) (st : Stmt) (f : Addr) (fd : FuncData) : Prop where
  ex : ∃ (oc : Value) (od : Option Addr) (dV kV doc pm : Value) (an : Option Addr) (cdv ct : Value) (osl : Array (Option Value)),
    fd = PySem.W.fnOf x qual (defArgs st) (defBody st) (defScope st) dV kV doc pm an cdv ct ∧ K.lookup f = some ⟨oc, od, .func fd, osl⟩ ∧ PySem.W.codeIn K cdv qual = true
  kp : PySem.W.keepIn K (.ref f) = true
theorem funV {K : PySem.W.Frag} {x qual : Str} {st : Stmt} {f : Addr} {fd : FuncData} (F : Fun K x qual st f fd) : FunV K x qual st f fd := by
  obtain ⟨oc, od, kV, doc, pm, an, cdv, ct, osl, e, l, c⟩ := F.ex
  exact ⟨⟨oc, od, .none, kV, doc, pm, an, cdv, ct, osl, e, l, c⟩, F.kp⟩
theorem FnG.of {P : Program} {w : World} {K : PySem.W.Frag} {mg : Str → Option Value} {base : Heap} {x qual : Str} {st : Stmt} {f : Addr} {fd : FuncData} {N ps : List Str} {k : Nat} {sp : Sp} (F : FunV K x qual st f fd) (S : FnScope N ps (defScope st))
    (len : ∀ vs H Q E, sp vs H Q E → vs.length = ps.length)
    (hb : ∀ (cdv : Value), fd.code = cdv → ∀ (A : Around) (outer : List PySem.Env) (s : Shared) (H : Hp) (vs : List V) (Q : VK) (E : XK), A.guards = some [] → Room k (A.deeper (envOfC qual (defScope st) s.heap.objs.size f cdv)) → sp vs H Q E →
      ∃ t, PSs (cxOf (L2.CX P w) P w K mg base N qual (defScope st) f cdv A outer s H E) (defBody st) t ∧ t { nx := fun _ H' => Q .non H', rt := Q } (L2.start N vs) H) : FnG P w K mg base (k + 1) f fd ps sp := by
  obtain ⟨oc, od, dV, kV, doc, pm, an, cdv, ct, osl, rfl, lk, hcd⟩ := F.ex
  refine ⟨len, fun A outer s H args us vs Q E hgd hr e0 hbi rv hsp => ?_⟩
  have hkin : K.In s.heap := e0.mod.kin.keeps fun y z q => (e0.bs y z q).1
  have hlim : s.heap.NoLimit := e0.mod.nolimit.keeps fun y z q => (e0.bs y z q).1
  have kinds : ∀ y ∈ ps.zip us, (defScope st).names.lookup y.1 = some .local ∨ ((defScope st).names.lookup y.1 = some .cell ∧ ((cellsFrom (s.heap.objs.size + 1) (defScope st).names []).lookup y.1).isSome = true) := by
    rintro ⟨nm, val⟩ hy
    cases S.par nm (List.of_mem_zip hy).1 with
    | inl q => exact .inl q
    | inr q => exact .inr ⟨q, PySem.W.cellsFrom_some _ _ _ (.inl q)⟩
  refine codeAny_call_function hr.depth (hkin _ _ lk) rfl S.co S.gen rfl (PySem.W.codeRec_of hkin hcd) (hbi _ _ _ _ ?_)
  refine wpAny_newFunctionEnv_cells S.kind kinds fun env henv s1 hin => ?_
  subst henv
  refine ⟨hlim.keeps hin.toInCall.keep, codeAny_func ?_⟩
  obtain ⟨t, hder, hread⟩ := hb cdv rfl A outer s H vs Q E hgd (hr.deeper _) hsp
  have I0 := inv_start (CX := L2.CX P w) (E := E) S hr.hd e0 (len _ _ _ _ hsp) rv hin
  refine wpAny_mono (hder.run [] s1 _ H _ I0 hread) (fun fl s' hfl => ?_) fun e s' he => he
  cases fl with
  | ret u => obtain ⟨v, σ', H', J, r, q⟩ := hfl; exact ⟨v, H', J.os, J.bare, J.base, J.hok, r, q⟩
  | next => obtain ⟨σ', H', J, q⟩ := hfl; exact ⟨V.non, H', J.os, J.bare, J.base, J.hok, rfl, q⟩
  | brk => obtain ⟨_, _, _, q⟩ := hfl; exact q.elim
  | cont => obtain ⟨_, _, _, q⟩ := hfl; exact q.elim
section
variable {X : Cx} {C : Ctx} {W : WX} {cl : CallF} {e a b c : Expr} {es : List Expr} {e' a' b' c' : Ex} {es' : Exs} {pos : Pos}
/-- the def at f runs -/
theorem FnG.goA {k : Nat} {f : Addr} {fd : FuncData} {ps : List Str} {sp : Sp} {pins : List (Addr × Obj)} {σ : L2.St} {H : Hp} {s : Shared} {Q : VK} {args : Args} {us : List Value} {vs : List V} {E : XK}
    (F : FnG X.prog X.w X.K X.mg X.base k f fd ps sp) (hgd : X.A.guards = some []) (hr : Room k X.A) (hb : BindsTo s fd args (ps.zip us)) (tk : Takes X W) (hE : ∀ cls d H', E cls d H' → W cls d σ H')
    (I : Inv X pins σ H s) (r : Vals vs us) (h : sp vs H Q E) : wpAny (model X.prog X.w) X.A (call (.ref f) args.pos args.kw) (EP X pins σ Q) X.xe s := by
  refine wpAny_call (codeAny_mono (F.run X.A X.stack s H args us vs Q E hgd hr I.env0 hb r h) fun res s' hq => ?_)
  cases res with
  | error ee => exact tk _ _ (XE.of_call I hE hq)
  | ok fl =>
    cases fl with
    | ret u => exact I.after hq
    | next => exact hq.elim
    | brk => exact hq.elim
    | cont => exact hq.elim
theorem FnG.go {k : Nat} {f : Addr} {fd : FuncData} {ps : List Str} {sp : Sp} {ds : List Value} {dvs : List V} {pins : List (Addr × Obj)} {σ : L2.St} {H : Hp} {s : Shared} {Q : VK} {us : List Value} {vs : List V} {E : XK}
    (F : FnG X.prog X.w X.K X.mg X.base k f fd ps sp) (hgd : X.A.guards = some []) (hr : Room k X.A) (hb : Binds X.K fd ps ds) (hd : Vals dvs ds) (tk : Takes X W) (hE : ∀ cls d H', E cls d H' → W cls d σ H')
    (I : Inv X pins σ H s) (r : Vals vs us) (h : sp (vs ++ dvs) H Q E) : wpAny (model X.prog X.w) X.A (call (.ref f) us) (EP X pins σ Q) X.xe s := by
  have r2 := r.append hd
  have hlen : (us ++ ds).length = ps.length := r2.length ▸ F.len _ _ _ _ h
  exact F.goA (args := ⟨us, []⟩) hgd hr (hb s us I.kIn hlen) tk hE I r2 h

def UcOk (C : Ctx) (σ : L2.St) (H0 : Hp) : List U → List V → Prop
  | [], vs => vs = []
  | .d x :: us, vs => ∃ v r, vs = v :: r ∧ Rep C.T H0 x v ∧ UcOk C σ H0 us r
  | .sl i :: us, vs => ∃ v r, vs = v :: r ∧ σ[i]? = some (some v) ∧ UcOk C σ H0 us r
  | .nw _ :: _, _ => False
theorem UcOk.mono {σ : L2.St} {H0 H0' : Hp} (e : Ext H0 H0') : ∀ {us : List U} {vs : List V}, UcOk C σ H0 us vs → UcOk C σ H0' us vs
  | [], _, h => h
  | .d x :: us, _, h => by obtain ⟨v, r, rfl, h1, h2⟩ := h; exact ⟨v, r, rfl, Rep.mono e _ _ h1, UcOk.mono e h2⟩
  | .sl i :: us, _, h => by obtain ⟨v, r, rfl, h1, h2⟩ := h; exact ⟨v, r, rfl, h1, UcOk.mono e h2⟩
  | .nw _ :: _, _, h => h
def tAC (C : Ctx) (W : WX) (cl : CallF) (ms : List Bool) (es : Exs) : TA := fun σ H Q => ∃ H0 env, Sim C σ H0 H env ∧ RQ C W σ (fun us _ H0' H' => ∀ vs, UcOk C σ H0' us vs → Q vs H') H0 (evC cl ms es env)
theorem k_nil {ms : List Bool} : PA X [] (tAC C W cl ms .nil) := paI pa_nil fun σ H Q ⟨H0, env, S, q⟩ => by
  simp only [evC] at q
  exact q H0 H (Ext.rfl' _) S [] rfl
theorem k_cons {m : Bool} {ms : List Bool} (ha : PE X e (tI C W cl e')) (hr : PA X es (tAC C W cl ms es')) (hs : starEach (e :: es) X.env = (false, eval e X.env) :: starEach es X.env := by rfl) : PA X (e :: es) (tAC C W cl (m :: ms) (.cons e' es')) :=
  paI (pa_cons ha hr hs) fun σ H Q ⟨H0, env, S, q⟩ => by
    simp only [evC] at q
    refine seqI S q fun u env1 x H1 H1' e1 S1 u1 q1 => ?_
    cases m with
    | true =>
      cases u with
      | d x => exact q1.elim
      | nw x => exact q1.elim
      | sl i =>
        simp only at q1
        refine ⟨H1, env1, S1, ?_⟩
        cases z : evC cl ms es' env1 with
        | ok us env3 =>
          simp only [z] at q1
          exact fun H3 H3' e3 S3 vs hv => q1 H3 H3' e3 S3 (x :: vs) ⟨x, vs, rfl, u1, hv⟩
        | exc x env3 => simp only [z] at q1; exact q1
        | bad => simp only [z] at q1; exact q1
    | false =>
      simp only at q1
      obtain ⟨⟨d, env2⟩, hf, q1⟩ := q1.orB
      obtain ⟨H2, e2, S2, r2⟩ := S1.take u1 hf
      have q2 := RQ.mono e2 q1
      refine ⟨H2, env2, S2, ?_⟩
      cases z : evC cl ms es' env2 with
      | ok us env3 =>
        simp only [z] at q2
        exact fun H3 H3' e3 S3 vs hv => q2 H3 H3' e3 S3 (x :: vs) ⟨x, vs, rfl, Rep.mono e3 _ _ r2, hv⟩
      | exc x env3 => simp only [z] at q2; exact q2
      | bad => simp only [z] at q2; exact q2
end
/-! ### behind a call -/
section
variable {C : Ctx} {σ : L2.St} {H0 H H0' H' : Hp} {env : Env}
/-- the arguments, as the callee has them -/
theorem args_ok (S : Sim C σ H0 H env) : ∀ {ms : List Bool} {us : List U} {vs : List V} {as : List Ar}, argsOf env ms us = some as → UcOk C σ H0 us vs → ArOk C.T H0 H as vs ∧ as.length = ms.length ∧
    (∀ a, some a ∈ ioL as vs → ∃ i ∈ ioSlots us, ownS (getS env i) = true ∧ σ[i]? = some (some (.ref a)))
  | [], [], _, _, h, hu => by cases h; cases hu; exact ⟨rfl, rfl, fun a ha => by simp [ioL] at ha⟩
  | [], _ :: _, _, _, h, hu => by simp [argsOf] at h
  | true :: _, [], _, _, h, hu => by simp [argsOf] at h
  | false :: _, [], _, _, h, hu => by simp [argsOf] at h
  | false :: ms, .d x :: us, _, as, h, hu => by
    simp only [argsOf, Option.map_eq_some_iff] at h
    obtain ⟨as', h1, rfl⟩ := h
    obtain ⟨v, r, rfl, h2, h3⟩ := hu
    obtain ⟨q1, q2, q3⟩ := args_ok S h1 h3
    refine ⟨⟨v, r, rfl, h2, q1⟩, by simp [q2], fun a ha => ?_⟩
    simp only [ioL, List.mem_cons, reduceCtorEq, false_or] at ha
    exact q3 a ha
  | false :: ms, .sl i :: us, _, as, h, hu => by simp [argsOf] at h
  | false :: ms, .nw i :: us, _, as, h, hu => by simp [argsOf] at h
  | true :: ms, .d x :: us, _, as, h, hu => by simp [argsOf] at h
  | true :: ms, .nw x :: us, _, as, h, hu => by simp [argsOf] at h
  | true :: ms, .sl i :: us, _, as, h, hu => by
    obtain ⟨v, r, rfl, h2, h3⟩ := hu
    have hi := S.slots i
    have key : ∀ d, ownS (getS env i) = true → (∃ a, v = .ref a ∧ RepO C.T H0 H d (.ref a)) → ((argsOf env ms us).map (Ar.io d :: ·)) = some as → ArOk C.T H0 H as (v :: r) ∧ as.length = (true :: ms).length ∧
        (∀ a, some a ∈ ioL as (v :: r) → ∃ j ∈ ioSlots (.sl i :: us), ownS (getS env j) = true ∧ σ[j]? = some (some (.ref a))) := by
      intro d ho ⟨a, ev, hr⟩ hm
      subst ev
      simp only [Option.map_eq_some_iff] at hm
      obtain ⟨as', h1, rfl⟩ := hm
      obtain ⟨q1, q2, q3⟩ := args_ok S h1 h3
      refine ⟨⟨a, r, rfl, hr, q1⟩, by simp [q2], fun b hb => ?_⟩
      simp only [ioL, List.mem_cons, Option.some.injEq] at hb
      rcases hb with rfl | hb
      · exact ⟨i, by simp [ioSlots], ho, h2⟩
      · obtain ⟨j, hj, z⟩ := q3 b hb
        exact ⟨j, by simp [ioSlots, hj], z⟩
    unfold argsOf at h
    split at h
    · rename_i d hd
      rw [hd] at hi
      obtain ⟨a, e1, _, e3⟩ := hi
      rw [h2] at e1; cases e1
      exact key d (by rw [hd]; rfl) ⟨a, rfl, e3⟩ h
    · rename_i d hd
      rw [hd] at hi
      obtain ⟨a, e1, _, e3⟩ := hi
      rw [h2] at e1; cases e1
      exact key d (by rw [hd]; rfl) ⟨a, rfl, e3⟩ h
    · cases h
theorem mem_of_dupFree {i : Nat} {is : List Nat} (h : dupFree (i :: is) = true) : i ∉ is ∧ dupFree is = true := by
  simp only [dupFree, Bool.and_eq_true, Bool.not_eq_true', List.contains_eq_mem, decide_eq_false_iff_not] at h
  exact h
/-- no address is handed in twice -/
theorem io_nodup (S : Sim C σ H0 H env) : ∀ {ms : List Bool} {us : List U} {vs : List V} {as : List Ar}, argsOf env ms us = some as → UcOk C σ H0 us vs → dupFree (ioSlots us) = true → NoDup (ioL as vs)
  | [], [], _, _, h, hu, _ => by cases h; cases hu; intro i j a hi; simp [ioL] at hi
  | [], _ :: _, _, _, h, hu, _ => by simp [argsOf] at h
  | true :: _, [], _, _, h, hu, _ => by simp [argsOf] at h
  | false :: _, [], _, _, h, hu, _ => by simp [argsOf] at h
  | false :: ms, .d x :: us, _, as, h, hu, hd => by
    simp only [argsOf, Option.map_eq_some_iff] at h
    obtain ⟨as', h1, rfl⟩ := h
    obtain ⟨v, r, rfl, h2, h3⟩ := hu
    have q := io_nodup S h1 h3 hd
    intro i j a hi hj
    cases i with
    | zero => simp [ioL] at hi
    | succ i =>
      cases j with
      | zero => simp [ioL] at hj
      | succ j => simp only [ioL, List.getElem?_cons_succ] at hi hj; rw [q i j a hi hj]
  | false :: ms, .sl i :: us, _, as, h, hu, _ => by simp [argsOf] at h
  | false :: ms, .nw i :: us, _, as, h, hu, _ => by simp [argsOf] at h
  | true :: ms, .d x :: us, _, as, h, hu, _ => by simp [argsOf] at h
  | true :: ms, .nw x :: us, _, as, h, hu, _ => by simp [argsOf] at h
  | true :: ms, .sl k :: us, _, as, h, hu, hd => by
    have hd' : dupFree (k :: ioSlots us) = true := hd
    obtain ⟨hk, hd2⟩ := mem_of_dupFree hd'
    obtain ⟨v, r, rfl, h2, h3⟩ := hu
    have key : ∀ d, ownS (getS env k) = true → (∃ a, v = .ref a) → ((argsOf env ms us).map (Ar.io d :: ·)) = some as → NoDup (ioL as (v :: r)) := by
      intro d ho ⟨a, ev⟩ hm
      subst ev
      simp only [Option.map_eq_some_iff] at hm
      obtain ⟨as', h1, rfl⟩ := hm
      have q := io_nodup S h1 h3 hd2
      have far : ∀ i b, (ioL as' r)[i]? = some (some b) → b ≠ a := fun i b hb z => by
        subst z
        obtain ⟨j, hj, oj, ej⟩ := (args_ok S h1 h3).2.2 b (List.mem_of_getElem? hb)
        exact S.inj k j b (fun w => hk (w ▸ hj)) ho oj h2 ej
      intro i j b hi hj
      cases i with
      | zero =>
        cases j with
        | zero => rfl
        | succ j => simp [ioL] at hi hj; subst hi; exact (far j _ hj rfl).elim
      | succ i =>
        cases j with
        | zero => simp [ioL] at hi hj; subst hj; exact (far i _ hi rfl).elim
        | succ j => simp only [ioL, List.getElem?_cons_succ] at hi hj; rw [q i j b hi hj]
    have hi := S.slots k
    unfold argsOf at h
    split at h
    · rename_i d hdd
      rw [hdd] at hi
      obtain ⟨a, e1, _, e3⟩ := hi
      rw [h2] at e1; cases e1
      exact key d (by rw [hdd]; rfl) ⟨a, rfl⟩ h
    · rename_i d hdd
      rw [hdd] at hi
      obtain ⟨a, e1, _, e3⟩ := hi
      rw [h2] at e1; cases e1
      exact key d (by rw [hdd]; rfl) ⟨a, rfl⟩ h
    · cases h
/-- what stands at the slots behind the call -/
theorem put_at (S : Sim C σ H0 H env) : ∀ {ms : List Bool} {us : List U} {vs : List V} {as : List Ar} {outs : List D} {env0 : Env}, argsOf env ms us = some as → UcOk C σ H0 us vs → dupFree (ioSlots us) = true → OutsOk C.T H0' H' (ioL as vs) outs →
    (∀ i ∈ ioSlots us, getS env0 i = getS env i) → env0.length = env.length →
    (putIO env0 (ioSlots us) outs).length = env.length ∧ (∀ i, i ∉ ioSlots us → getS (putIO env0 (ioSlots us) outs) i = getS env0 i) ∧
    ∀ i ∈ ioSlots us, ∃ a d, ownS (getS env i) = true ∧ σ[i]? = some (some (.ref a)) ∧ some a ∈ ioL as vs ∧ getS (putIO env0 (ioSlots us) outs) i = setIO (getS env i) d ∧ RepO C.T H0' H' d (.ref a)
  | [], [], _, _, outs, _, h, hu, _, ho, _, hl => by cases h; cases hu; cases ho; exact ⟨hl, fun _ _ => rfl, fun i hi => by simp [ioSlots] at hi⟩
  | [], _ :: _, _, _, _, _, h, hu, _, _, _, _ => by simp [argsOf] at h
  | true :: _, [], _, _, _, _, h, hu, _, _, _, _ => by simp [argsOf] at h
  | false :: _, [], _, _, _, _, h, hu, _, _, _, _ => by simp [argsOf] at h
  | false :: ms, .d x :: us, _, as, outs, _, h, hu, hd, ho, he, hl => by
    simp only [argsOf, Option.map_eq_some_iff] at h
    obtain ⟨as', h1, rfl⟩ := h
    obtain ⟨v, r, rfl, h2, h3⟩ := hu
    obtain ⟨q1, q2, q3⟩ := put_at S h1 h3 hd ho he hl
    exact ⟨q1, q2, fun i hi => by obtain ⟨a, d, z0, z1, z2, z3⟩ := q3 i hi; exact ⟨a, d, z0, z1, by simp [ioL, z2], z3⟩⟩
  | false :: ms, .sl i :: us, _, as, _, _, h, hu, _, _, _, _ => by simp [argsOf] at h
  | false :: ms, .nw i :: us, _, as, _, _, h, hu, _, _, _, _ => by simp [argsOf] at h
  | true :: ms, .d x :: us, _, as, _, _, h, hu, _, _, _, _ => by simp [argsOf] at h
  | true :: ms, .nw x :: us, _, as, _, _, h, hu, _, _, _, _ => by simp [argsOf] at h
  | true :: ms, .sl k :: us, _, as, outs, env0, h, hu, hd, ho, he, hl => by
    have hd' : dupFree (k :: ioSlots us) = true := hd
    obtain ⟨hk, hd2⟩ := mem_of_dupFree hd'
    obtain ⟨v, r, rfl, h2, h3⟩ := hu
    have key : ∀ d, ownS (getS env k) = true → (∃ a, v = .ref a) → ((argsOf env ms us).map (Ar.io d :: ·)) = some as → (putIO env0 (ioSlots (.sl k :: us)) outs).length = env.length ∧ (∀ i, i ∉ ioSlots (.sl k :: us) → getS (putIO env0 (ioSlots (.sl k :: us)) outs) i = getS env0 i) ∧
        ∀ i ∈ ioSlots (.sl k :: us), ∃ a d, ownS (getS env i) = true ∧ σ[i]? = some (some (.ref a)) ∧ some a ∈ ioL as (v :: r) ∧ getS (putIO env0 (ioSlots (.sl k :: us)) outs) i = setIO (getS env i) d ∧ RepO C.T H0' H' d (.ref a) := by
      intro d hown ⟨a, ev⟩ hm
      subst ev
      simp only [Option.map_eq_some_iff] at hm
      obtain ⟨as', h1, rfl⟩ := hm
      obtain ⟨o1, o2, rfl, ro, ho2⟩ := ho
      have hkl : k < env0.length := by rw [hl, S.len]; exact (List.getElem?_eq_some_iff.mp h2).1
      have hg : ∀ j, j ≠ k → getS (env0.set k (setIO (getS env0 k) o1)) j = getS env0 j := fun j hj => by
        rw [getS_set, if_neg (fun z => hj z.1.symm)]
      obtain ⟨q1, q2, q3⟩ := put_at (env0 := env0.set k (setIO (getS env0 k) o1)) S h1 h3 hd2 ho2 (fun i hi => by
        rw [hg i (fun z => hk (z ▸ hi))]; exact he i (by simp [ioSlots, hi])) (by simp [hl])
      refine ⟨q1, fun i hi => ?_, fun i hi => ?_⟩
      · simp only [ioSlots, List.mem_cons, not_or] at hi
        show getS (putIO (env0.set k (setIO (getS env0 k) o1)) (ioSlots us) o2) i = _
        rw [q2 i hi.2, hg i hi.1]
      · simp only [ioSlots, List.mem_cons] at hi
        rcases hi with rfl | hi
        · refine ⟨a, o1, hown, h2, by simp [ioL], ?_, ro⟩
          show getS (putIO (env0.set i (setIO (getS env0 i) o1)) (ioSlots us) o2) i = _
          rw [q2 i hk, getS_set, if_pos ⟨rfl, hkl⟩, he i (by simp [ioSlots])]
        · obtain ⟨a', d', z0, z1, z2, z3⟩ := q3 i hi
          exact ⟨a', d', z0, z1, by simp [ioL, z2], z3⟩
    have hi := S.slots k
    unfold argsOf at h
    split at h
    · rename_i d hdd
      rw [hdd] at hi
      obtain ⟨a, e1, _, e3⟩ := hi
      rw [h2] at e1; cases e1
      exact key d (by rw [hdd]; rfl) ⟨a, rfl⟩ h
    · rename_i d hdd
      rw [hdd] at hi
      obtain ⟨a, e1, _, e3⟩ := hi
      rw [h2] at e1; cases e1
      exact key d (by rw [hdd]; rfl) ⟨a, rfl⟩ h
    · cases h
theorem Sim.call (S : Sim C σ H0 H env) {ms : List Bool} {us : List U} {vs : List V} {as : List Ar} {outs : List D} (h : argsOf env ms us = some as) (hu : UcOk C σ H0 us vs) (hd : dupFree (ioSlots us) = true)
    (g : GrC C.T (ioL as vs) H0 H H0' H') (ho : OutsOk C.T H0' H' (ioL as vs) outs) : Sim C σ H0' H' (putIO env (ioSlots us) outs) := by
  obtain ⟨p1, p2, p3⟩ := put_at S h hu hd ho (fun _ _ => rfl) rfl
  have hio := (args_ok S h hu).2.2
  have kind : ∀ j, ownS (getS (putIO env (ioSlots us) outs) j) = ownS (getS env j) := fun j => by
    by_cases hj : j ∈ ioSlots us
    · obtain ⟨a, d, _, _, _, e, _⟩ := p3 j hj
      rw [e, own_setIO]
    · rw [p2 j hj]
  have far : ∀ j a, ownS (getS env j) = true → σ[j]? = some (some (.ref a)) → j ∉ ioSlots us → some a ∉ ioL as vs := fun j a oj ej hj ha => by
    obtain ⟨i, hi, oi, ei⟩ := hio a ha
    exact S.inj i j a (fun z => hj (z ▸ hi)) oi oj ei ej
  have notHe : ∀ a, some a ∈ ioL as vs → C.He a = none ∨ C.io a := fun a ha => by
    obtain ⟨i, hi, oi, ei⟩ := hio a ha
    have q := S.slots i
    cases z : getS env i with
    | un => rw [z] at oi; cases oi
    | fn => rw [z] at oi; cases oi
    | fz d => rw [z] at oi; cases oi
    | ow d => rw [z] at q; obtain ⟨b, e1, e2, _⟩ := q; rw [ei] at e1; cases e1; exact .inl e2
    | io d => rw [z] at q; obtain ⟨b, e1, e2, _⟩ := q; rw [ei] at e1; cases e1; exact .inr (List.mem_of_getElem? e2)
  have there : ∀ a, some a ∈ ioL as vs → H' a ≠ none := fun a ha q => by
    obtain ⟨i, hi, oi, ei⟩ := hio a ha
    obtain ⟨b, d, _, e1, _, _, r⟩ := p3 i hi
    rw [ei] at e1; cases e1
    obtain ⟨_, o, z⟩ := r.some
    rw [q] at z; cases z
  exact {
    ok := S.ok
    ex := g.e01
    ex0 := S.ex0.tr g.e0
    fresh := fun a q q' => by
      cases z : H0 a with
      | none => exact S.he (g.new a z q')
      | some o => exact S.fresh a q (by rw [z]; exact nofun)
    keep := fun a o q q' => by
      obtain ⟨u, hu⟩ := (S.keep a o q q').some
      exact (S.keep a o q q').tr hu (g.keep a u (fun ha => by
        rcases notHe a ha with z | z
        · rw [z] at q; cases q
        · exact q' z) hu)
    tabs := g.tb S.tabs
    tno := fun p hp => by
      obtain ⟨ps, h1, _⟩ := S.tabs p hp
      cases z : H0' p.1 with
      | none => rfl
      | some u => rw [g.new p.1 (S.tno p hp) (by rw [z]; exact nofun)] at h1; cases h1
    ioH := fun a q q' => by
      by_cases ha : some a ∈ ioL as vs
      · exact there a ha q'
      · cases z : H a with
        | none => exact S.ioH a q z
        | some o => obtain ⟨u, hu⟩ := (g.keep a o ha z).some; rw [hu] at q'; cases q'
    len := p1.trans S.len
    slots := fun j => by
      by_cases hj : j ∈ ioSlots us
      · obtain ⟨a, d, oj, ej, _, e, r⟩ := p3 j hj
        rw [e]
        have q := S.slots j
        cases z : getS env j with
        | un => trivial
        | fn => rw [z] at oj; cases oj
        | fz d' => rw [z] at oj; cases oj
        | ow d' => rw [z] at q; obtain ⟨b, e1, e2, _⟩ := q; rw [ej] at e1; cases e1; exact ⟨a, ej, e2, r⟩
        | io d' => rw [z] at q; obtain ⟨b, e1, e2, _⟩ := q; rw [ej] at e1; cases e1; exact ⟨a, ej, e2, r⟩
      · rw [p2 j hj]
        refine (S.slots j).step g.e0 fun a oj ej => ?_
        obtain ⟨n0, o, ho⟩ := S.own oj ej
        refine ⟨?_, by rw [ho]; exact (g.keep a o (far j a oj ej hj) ho).at (S.ownK oj ej ho).1⟩
        cases z : H0' a with
        | none => rfl
        | some u => rw [g.new a n0 (by rw [z]; exact nofun)] at ho; cases ho
    inj := fun i j a hij hi hj ei ej => by
      rw [kind] at hi hj
      exact S.inj i j a hij hi hj ei ej }
end
end PP
end

section
set_option maxHeartbeats 1000000
namespace PP
open PySem PySem.Spec PyProof.Rows L2
section
variable {X : Cx} {C : Ctx} {W : WX} {cl : CallF} {e a b c : Expr} {es : List Expr} {e' a' b' c' : Ex} {es' : Exs} {pos : Pos}
/-- the reading of a call of a def: its arguments, then its promise with the wish W -/
def tCl (T : Tbl) (W : WX) (cl : CallF) (f n : Nat) (t : TA) : TE := fun σ H Q => t σ H fun vs H1 => spF T cl f n vs H1 Q fun cls d H' => W cls d σ H'
/-- what a call hands back -/
theorem ret_u {σ : L2.St} {H1 H1' H0' H' : Hp} {env1 : Env} {ms : List Bool} {us : List U} {vs : List V} {as : List Ar} {outs : List D} {r : U} {v : V} (S1 : Sim C σ H1 H1' env1) (ha : argsOf env1 ms us = some as) (hv : UcOk C σ H1 us vs) (hd : dupFree (ioSlots us) = true)
    (g : GrC C.T (ioL as vs) H1 H1' H0' H') (o : OutsOk C.T H0' H' (ioL as vs) outs) (hr : RetOk C.T H0' H' H1' r v) : UOk C σ H0' H' (putIO env1 (ioSlots us) outs) r v := by
  cases r with
  | d x => exact hr
  | sl i => exact hr.elim
  | nw x =>
    have hr' : RepG C.T H0' H' H1' x v := hr
    show RepN _ _ _ _ _ _ _
    unfold RepG at hr'
    unfold RepN
    split
    · rename_i hm
      rw [if_pos hm] at hr'
      obtain ⟨a, rfl, h1, h2⟩ := hr'
      refine ⟨a, rfl, S1.he h1, h2, fun i hi ei => ?_⟩
      have hk : ownS (getS env1 i) = true := by
        obtain ⟨_, p2, p3⟩ := put_at S1 ha hv hd o (fun _ _ => rfl) rfl
        by_cases hj : i ∈ ioSlots us
        · obtain ⟨_, _, z, _⟩ := p3 i hj; exact z
        · rw [p2 i hj] at hi; exact hi
      obtain ⟨_, o1, ho1⟩ := S1.own hk ei
      rw [h1] at ho1; cases ho1
    · rename_i hm
      rw [if_neg hm] at hr'
      exact hr'
theorem readC {σ : L2.St} {H : Hp} {Q : VK} {f n : Nat} {ms : List Bool} (hn : ms.length = n) (h : tI C W cl (.call f ms es') σ H Q) : tCl C.T W cl f n (tAC C W cl ms es') σ H Q := by
  obtain ⟨H0, env, S, q⟩ := h
  simp only [ev] at q
  refine ⟨H0, env, S, ?_⟩
  cases z : evC cl ms es' env with
  | bad => rw [z] at q; exact q.elim
  | exc x env1 => rw [z] at q; exact q
  | ok us env1 =>
    rw [z] at q
    simp only [R.bind_ok] at q
    obtain ⟨as, ha, q⟩ := q.orB
    split at q
    rotate_left
    · exact q.elim
    rename_i hd
    intro H1 H1' e1 S1 vs hv
    obtain ⟨g1, g2, g3⟩ := args_ok S1 ha hv
    refine ⟨H1, as, S1.ex, g1, io_nodup S1 ha hv hd, g2.trans hn, S1.tb, ?_⟩
    cases zc : cl f as with
    | bad => simp only [zc] at q; exact q
    | exc x outs =>
      simp only [zc] at q
      intro cls d H0' H' g o hx
      exact q cls d H0' H' (e1.tr g.e0) (S1.call ha hv hd g o) hx
    | ok r outs =>
      simp only [zc] at q
      intro v H0' H' g hr o
      have S2 := S1.call ha hv hd g o
      exact q H0' H' (e1.tr g.e0) S2 v (ret_u S1 ha hv hd g o hr)
theorem c_call {x : Str} {p : Pos} {k f n : Nat} {fa : Addr} {fd : FuncData} {ps : List Str} {ms : List Bool} (F : FnG X.prog X.w X.K X.mg X.base k fa fd ps (spF C.T cl f n)) (hgd : X.A.guards = some []) (hr : Room k X.A) (tk : Takes X W)
    (hg : Gl X x) (hm : X.mg x = some (.ref fa)) (hk : PySem.W.keepIn X.K (.ref fa) = true) (hb : Binds X.K fd ps []) (ha : PA X (e :: es) (tAC C W cl ms es')) (hn : ms.length = n := by rfl) (hdb : (x == ("__debug__" : Str)) = false := by decide)
    (he : starEach (e :: es) X.env = (false, eval e X.env) :: starEach es X.env := by rfl) (hpl : (backTo pos (starEach es X.env)).any (·.1) = false := by rfl) : PE X (.Call (.Name x p) (e :: es) [] pos) (tI C W cl (.call f ms es')) := by
  refine peI (t := tCl C.T W cl f n (tAC C W cl ms es')) ⟨fun pins s σ H Q I h => ?_⟩ fun σ H Q q => readC hn q
  refine wpAny_Call_Name_kw (ld_glob I hg hm ?_ hdb)
  refine PySem.W.callWith_K (h₀ := X.base) I.ok.mod.kin hk (thn (ha.run pos pins s σ H _ I h) fun us s1 hq => ?_) he hpl
  obtain ⟨vs, H1, I1, r, q⟩ := hq
  exact ⟨I1.kIn, F.go hgd hr hb .nil tk (fun _ _ _ z => z) I1 r (by rw [List.append_nil]; exact q)⟩
theorem c_call0 {x : Str} {p : Pos} {k f : Nat} {fa : Addr} {fd : FuncData} {ps : List Str} (F : FnG X.prog X.w X.K X.mg X.base k fa fd ps (spF C.T cl f 0)) (hgd : X.A.guards = some []) (hr : Room k X.A) (tk : Takes X W)
    (hg : Gl X x) (hm : X.mg x = some (.ref fa)) (hk : PySem.W.keepIn X.K (.ref fa) = true) (hb : Binds X.K fd ps []) (hdb : (x == ("__debug__" : Str)) = false := by decide) : PE X (.Call (.Name x p) [] [] pos) (tI C W cl (.call f [] .nil)) := by
  refine peI (t := tCl C.T W cl f 0 (tAC C W cl [] .nil)) ⟨fun pins s σ H Q I h => ?_⟩ fun σ H Q q => readC rfl q
  refine wpAny_Call_Name_kw (ld_glob I hg hm ?_ hdb)
  obtain ⟨H0, env, S, q⟩ := h
  simp only [evC] at q
  exact PySem.W.callWith_K0 I.kIn hk (F.go (us := []) hgd hr hb .nil tk (fun _ _ _ z => z) I .nil (q H0 H (Ext.rfl' _) S [] rfl))
end
/-! ### the law's call -/
theorem ints_vals : ∀ {vs : List Value} {ns : List Int}, IntsAre vs ns → Vals (ns.map V.int) vs := fun h => vals_ints h
theorem law_run {P : Program} {w : World} {K : PySem.W.Frag} {mg mb : Str → Option Value} {k : Nat} {fa a : Addr} {cs : List (Addr × Addr)} {fd : FuncData} {x : Str} {sp : Sp} {s1 : Shared} {vs : List Value} {ns : List Int}
    (hK : K.In s1.heap) (hm : s1.heap.Ns mainGlobals mg) (hb : s1.heap.Ns builtinsNs mb) (hbb : ∀ x : Str, x ≠ "__name__" → mb x = bootBuiltins x) (hno : s1.heap.NoLimit) (hgen : s1.gens = #[])
    (hT : ∀ p ∈ cs, s1.heap.get? p.2 = some { cls := .none, data := .fields #[] }) (nT : ∀ p ∈ cs, K.lookup p.2 = none) (Cd : ∀ p ∈ cs, PySem.W.CodeHd s1.heap p.1 p.2)
    (hbm : ∃ (bm : Addr) (ob : Obj), mg "__builtins__" = some (.ref bm) ∧ bm ≠ builtinsNs ∧ s1.heap.get? bm = some ob ∧ ob.cls = .type "module" ∧ ob.dict = some builtinsNs ∧ ob.data = .plain)
    (hobj : s1.heap.get? a = some { cls := .type "list", data := .seq vs.toArray }) (hin : IntsAre vs ns) (hlen : ns.length ≤ sizeLine) (hroom : Room k callerA)
    (hF : ∀ base : Heap, K.In base → base.Ns mainGlobals mg → (∀ p ∈ cs, LamX.TabB base mg p.1 p.2) → FnG P w K mg base k fa fd [x] sp) (hbi : ∀ (s : Shared) (u : Value), BindsTo s fd ⟨[u], []⟩ [(x, u)])
    (hsp : ∀ H : Hp, (∀ p ∈ cs, H p.2 = some (.tbl #[])) → SqL K H a (ns.map V.int) → sp [.ref a] H (fun v _ => v = .bl true) fun _ _ _ => False) :
    codeAny (model P w) callerA (.call (.ref fa) ⟨[.ref a], []⟩) (fun r s' => r = .ok (.ret (.bool true)) ∧ OldK s1.heap s'.heap ∧ s'.os = s1.os ∧ AllBare s'.gens) s1 := by
  have rv : Vals (ns.map V.int) vs := vals_ints hin
  have tAt : ∀ b ∈ cs.map (·.2), s1.heap.get? b = some { cls := .none, data := .fields #[] } := fun b hb => by
    obtain ⟨p, hp, rfl⟩ := List.mem_map.mp hb
    exact hT p hp
  have aNo : a ∉ cs.map (·.2) := fun z => by
    have q := tAt a z
    rw [hobj] at q
    exact nomatch (show Data.seq vs.toArray _ = Data.fields #[] from congrArg Obj.data (Option.some.inj q))
  have tMem : ∀ p ∈ cs, p.2 ∈ cs.map (·.2) := fun p hp => List.mem_map.mpr ⟨p, hp, rfl⟩
  obtain ⟨H, hH⟩ : ∃ H : Hp, H = fun b => if b = a ∧ K.lookup a = none then some (HO.frz { cls := .type "list", data := .seq vs.toArray } (.lst (ns.map V.int))) else if b ∈ cs.map (·.2) then some (.tbl #[]) else none := ⟨_, rfl⟩
  have hat : ∀ b o, H b = some o → (b = a ∧ K.lookup a = none ∧ o = .frz { cls := .type "list", data := .seq vs.toArray } (.lst (ns.map V.int))) ∨ (b ∈ cs.map (·.2) ∧ o = .tbl #[]) := fun b o q => by
    rw [hH] at q
    simp only at q
    split at q
    · rename_i z
      cases q
      exact .inl ⟨z.1, z.2, rfl⟩
    · split at q
      · rename_i z
        cases q
        exact .inr ⟨z, rfl⟩
      · cases q
  have hTb : ∀ p ∈ cs, H p.2 = some (.tbl #[]) := fun p hp => by
    rw [hH]
    show (if p.2 = a ∧ K.lookup a = none then _ else _) = _
    rw [if_neg (fun z => aNo (by rw [← z.1]; exact tMem p hp)), if_pos (tMem p hp)]
  have hlst : SqL K H a (ns.map V.int) := by
    cases q : K.lookup a with
    | none => exact .inl (.inr ⟨{ cls := .type "list", data := .seq vs.toArray }, by rw [hH]; exact if_pos ⟨rfl, q⟩⟩)
    | some o =>
      have z := hK a o q
      rw [hobj] at z
      cases z
      exact .inr ⟨_, vs.toArray, _, q, rfl, rfl, rfl, by rw [List.size_toArray, hin.length]; exact hlen, by simpa using rv⟩
  have hok : HOk P w H s1.heap := fun b o q => by
    rcases hat b o q with ⟨rfl, _, rfl⟩ | ⟨hm, rfl⟩
    · exact ⟨hobj, by rw [List.length_map]; exact hlen, vs, _, rv, hobj⟩
    · exact tAt b hm
  have bs : ∀ {b : Addr} {o : Obj}, s1.heap.get? b = some o → H b = none → (hidT s1.heap H).get? b = some o := fun q n => hidT_get q n
  have noD : ∀ {b : Addr} {o : Obj}, s1.heap.get? b = some o → (∀ vs n, o.data ≠ .seq vs n) → o.data ≠ .fields #[] → H b = none := fun {b o} e h1 h2 => by
    cases z : H b with
    | none => rfl
    | some u =>
      rcases hat b u z with ⟨rfl, _, _⟩ | ⟨hm, _⟩
      · rw [hobj] at e
        cases e
        exact (h1 _ _ rfl).elim
      · rw [tAt b hm] at e
        cases e
        exact (h2 rfl).elim
  have nd : ∀ {b : Addr} {o : Obj} {es : Array DictEntry} {ep : Nat}, s1.heap.get? b = some o → o.data = .dict es ep → H b = none := fun {b o es ep} q d =>
    noD q (fun vs n z => by rw [d] at z; cases z) (fun z => by rw [d] at z; cases z)
  have ns' : ∀ {b : Addr} {m : Str → Option Value}, s1.heap.Ns b m → (hidT s1.heap H).Ns b m := fun {b m} ⟨o, es, ep, q, d, r⟩ => ⟨o, es, ep, bs q (nd q d), d, r⟩
  have hKb : K.In (hidT s1.heap H) := fun b o q => bs (hK b o q) (by
    cases z : H b with
    | none => rfl
    | some u =>
      rcases hat b u z with ⟨rfl, z2, _⟩ | ⟨hm, _⟩
      · rw [z2] at q
        cases q
      · obtain ⟨p, hp, rfl⟩ := List.mem_map.mp hm
        rw [nT p hp] at q
        cases q)
  have mo : Mod K mg (hidT s1.heap H) := ⟨hKb, ns' hm, ⟨mb, ns' hb, hbb⟩, by obtain ⟨mc, q1, q2⟩ := hno; exact ⟨mc, ns' q1, q2⟩⟩
  have e0 : Env0 P w K mg (hidT s1.heap H) callerA [] s1 H := ⟨rfl, mo, fun b o q => of_hidT q, Nat.le_of_eq (hidT_size _ _), trivial, fun b q => by simp [frs] at q, hok, .of_eq hgen⟩
  have TB : ∀ p ∈ cs, LamX.TabB (hidT s1.heap H) mg p.1 p.2 := fun p hp => by
    have hTp := hT p hp
    refine ⟨?_, ?_, fun z => ?_⟩
    · obtain ⟨o, us, file, tf, flags, tg, inF, text, tt, e1, r1, r2, r3, r4, r5, r6, r7, r8, hne⟩ := Cd p hp
      refine ⟨o, us, file, tf, flags, tg, inF, text, tt, bs e1 (noD e1 (fun vs n z => ?_) fun z => ?_), r1, r2, r3, r4, r5, r6, r7, r8, hne⟩
      · rw [r2] at z
        cases z
      · rw [r2] at z
        cases z
        simp at r3
    · obtain ⟨bm, ob, b1, b2, b3, b4, b5, b6⟩ := hbm
      have nG : bm ≠ mainGlobals := fun q => by
        obtain ⟨o, es, ep, e, hd, _⟩ := hm
        rw [q, e] at b3
        cases b3
        rw [hd] at b6
        cases b6
      have nP : bm ≠ p.2 := fun q => by
        rw [q, hTp] at b3
        cases b3
        cases b6
      refine ⟨bm, ob, b1, b2, nG, nP, bs b3 (noD b3 (fun vs n z => ?_) fun z => ?_), b4, b5, b6⟩
      · rw [b6] at z
        cases z
      · rw [b6] at z
        cases z
    · obtain ⟨o, es, ep, e, hd, _⟩ := hm
      rw [z, hTp] at e
      cases e
      cases hd
  refine codeAny_mono ((hF _ hKb (ns' hm) TB).run callerA [] s1 H ⟨[.ref a], []⟩ [.ref a] [.ref a] _ _ rfl hroom e0 (hbi s1 (.ref a)) (.cons rfl .nil) (hsp H hTb hlst)) fun r s' q => ?_
  cases r with
  | error e =>
    obtain ⟨_, _, _, _, _, _, _, _, _, _, _, _, z⟩ := q
    exact z.elim
  | ok fl =>
    cases fl with
    | next => exact q.elim
    | brk => exact q.elim
    | cont => exact q.elim
    | ret u =>
      obtain ⟨v, H', q1, q2, q3, q4, q5, q6⟩ := q
      subst q6
      cases (show u = Value.bool true from q5)
      have key : ∀ b o, b ∉ cs.map (·.2) → s1.heap.get? b = some o → s'.heap.get? b = some o := fun b o nb e => by
        cases z : H b with
        | none => exact q3.keep b o e z (fun w => by simp [frs] at w) (by simp)
        | some u =>
          rcases hat b u z with ⟨rfl, _, rfl⟩ | ⟨hm, _⟩
          · have z2 := q3.frzs _ _ _ z
            obtain ⟨e2, _⟩ := q4 _ _ z2
            rw [hobj] at e
            cases e
            exact e2
          · exact (nb hm).elim
      have grown : ∀ p ∈ cs, ∃ more : Array Value, s'.heap.get? p.2 = some { cls := .none, data := .fields more } := fun p hp => by
        obtain ⟨more, z⟩ := q3.tbls p.2 #[] (hTb p hp)
        exact ⟨_, q4 p.2 _ z⟩
      refine ⟨rfl, ⟨fun b o e => ?_, fun b o e => ?_⟩, q1, q2⟩
      · by_cases hb : b ∈ cs.map (·.2)
        · obtain ⟨p, hp, ep⟩ := List.mem_map.mp hb
          obtain ⟨more, hm⟩ := grown p hp
          rw [← ep] at e ⊢
          rw [hT p hp] at e
          cases e
          exact .inr (.inl ⟨((Cd p hp).tab (hT p hp)).isCodeTable, rfl, #[], more, rfl, by rw [Array.empty_append]; exact hm⟩)
        · exact .inl (key b o hb e)
      · by_cases hb : b ∈ cs.map (·.2)
        · obtain ⟨p, hp, ep⟩ := List.mem_map.mp hb
          obtain ⟨more, hm⟩ := grown p hp
          rw [← ep]
          exact ⟨_, hm⟩
        · exact ⟨o, key b o hb e⟩
/-- THE END of a law -/
theorem law_walk {l : PySem.W.OpenLaw} {n k : Nat} {q : Program} {loose : List Str} {XP : (Str → Option Value) → Heap → Prop} {YP : World → Heap → Prop} {d : DefRec} {K : Params → PySem.W.Frag} {sp : PySem.W.Frag → Sp} {x : Str} {cs : PySem.W.Frag → List (Addr × Addr)}
    (hn : l.most = some n) (hn2 : n ≤ sizeLine) (hdf : d.params.defaults = []) (hr : Room k callerA) (hY : ∀ (w : World) (h : Heap), YP w h → (K w.params).In h)
    (hF : ∀ (w : World) (mg : Str → Option Value) (fa : Addr) (h : Heap), (K w.params).In h → h.Ns mainGlobals mg → mg d.name = some (.ref fa) →
      (∀ (x : Str) (d : DefRec) (c P : Addr), (recsOf q).find? (fun e => e.name == x) = some d → PySem.W.tabIn (K w.params) x = some (c, P) → PySem.W.CodeHd h c P ∧ h.get? P = some { cls := .none, data := .fields #[] }) →
      ∃ fd : FuncData, (∀ p ∈ cs (K w.params), h.get? p.2 = some { cls := .none, data := .fields #[] } ∧ (K w.params).lookup p.2 = none ∧ PySem.W.CodeHd h p.1 p.2) ∧ (∀ (s : Shared) (u : Value), BindsTo s fd ⟨[u], []⟩ [(x, u)]) ∧
        ∀ base : Heap, (K w.params).In base → base.Ns mainGlobals mg → (∀ p ∈ cs (K w.params), LamX.TabB base mg p.1 p.2) → FnG l.prog w (K w.params) mg base k fa fd [x] (sp (K w.params)))
    (hsp : ∀ (K : PySem.W.Frag) (H : Hp) (a : Addr) (ns : List Int), ns.length ≤ n → (∀ p ∈ cs K, H p.2 = some (.tbl #[])) → SqL K H a (ns.map V.int) → sp K [.ref a] H (fun v _ => v = .bl true) fun _ _ _ => False) :
    PySem.W.WalkO q loose XP YP l.row.toRowW d [] (fun f vs => PySem.call f vs) := by
  refine Att.attach_call hn hdf fun w s₀ s₁ mg mb fa o pm cd doc a vs ns G Y ho hd hcd hmg hobj hints hlen hg => ?_
  have hKX := hY w _ Y
  obtain ⟨fd, hT, hb, hf⟩ := hF w mg fa _ hKX G.T.g hmg fun x d c P h1 h2 => PySem.W.tab_of G.T hKX h1 h2
  exact law_run hKX G.T.g G.T.b G.T.builtins G.T.nolimit hg (fun p hp => (hT p hp).1) (fun p hp => (hT p hp).2.1) (fun p hp => (hT p hp).2.2) G.T.bmain hobj hints (Nat.le_trans hlen hn2) hr hf hb fun H hH hS => hsp _ H a ns hlen hH hS
/-- what is to be shown of the law: for each script the interpreter gives True -/
theorem law_sp {T : PySem.W.Frag → Tbl} {cs : PySem.W.Frag → List (Addr × Addr)} (hT : ∀ K, (T K).K = K) (hcs : ∀ K, ∀ p ∈ (T K).tt, ∃ q ∈ cs K, q.2 = p.1) {cl : CallF} {f : Nat} {n : Nat} (h : ∀ ns : List Int, ns.length ≤ n → ∃ outs, cl f [.fz (.kst (ns.map D.int))] = .ok (.d (.bl true)) outs)
    (K : PySem.W.Frag) (H : Hp) (a : Addr) (ns : List Int) (hl : ns.length ≤ n) (hH : ∀ p ∈ cs K, H p.2 = some (.tbl #[])) (hS : SqL K H a (ns.map V.int)) : spF (T K) cl f 1 [.ref a] H (fun v _ => v = .bl true) fun _ _ _ => False := by
  have hr : ∀ (G : Hp) (ns : List Int), RepAll (T K) G (ns.map D.int) (ns.map V.int) := fun G ns => by
    induction ns with
    | nil => simp [RepAll]
    | cons i r ih => simp only [List.map_cons, RepAll]; exact ⟨_, _, rfl, r_int _ _ _, ih⟩
  have hHt : ∀ p ∈ (T K).tt, H p.1 = some (.tbl #[]) := fun p hp => by
    obtain ⟨q, hq, e⟩ := hcs K p hp
    rw [← e]; exact hH q hq
  obtain ⟨G, hG⟩ : ∃ G : Hp, G = fun b => if b ∈ (T K).tt.map (·.1) then none else H b := ⟨_, rfl⟩
  have gE : Ext G H := fun b o e => by
    rw [hG] at e
    simp only at e
    split at e
    · cases e
    · exact e
  have gk : ∀ b, b ∉ (T K).tt.map (·.1) → G b = H b := fun b hb => by rw [hG]; exact if_neg hb
  have nt : ∀ {b : Addr} {u : HO}, H b = some u → (∀ ps, u ≠ .tbl ps) → b ∉ (T K).tt.map (·.1) := fun {b u} e n z => by
    obtain ⟨p, hp, rfl⟩ := List.mem_map.mp z
    rw [hHt p hp] at e
    exact n _ (Option.some.inj e).symm
  have hSG : SqL K G a (ns.map V.int) := by
    rcases hS with (e | ⟨o, e⟩) | e
    · exact .inl (.inl (by rw [gk a (nt e nofun)]; exact e))
    · exact .inl (.inr ⟨o, by rw [gk a (nt e nofun)]; exact e⟩)
    · exact .inr e
  refine ⟨G, [.fz (.kst (ns.map D.int))], gE, ⟨.ref a, [], rfl, ?_, rfl⟩, fun i j b hi => ?_, rfl, ⟨fun p hp => LamX.TabS.nil (hHt p hp), fun p hp => ?_⟩, ?_⟩
  · simp only [Rep]
    exact ⟨a, _, rfl, by rw [hT]; exact hSG, hr G ns⟩
  · cases i with
    | zero => simp [ioL] at hi
    | succ i => simp [ioL] at hi
  · rw [hG]
    exact if_pos (List.mem_map.mpr ⟨p, hp, rfl⟩)
  · obtain ⟨outs, q⟩ := h ns hl
    rw [q]
    intro v H0' H' _ hv _
    have hv' : Rep (T K) H0' (.bl true) v := hv
    simpa only [Rep] using hv'
end PP
end

section
set_option maxHeartbeats 1000000
namespace PP
open PySem PySem.Spec PyProof.Rows L2
section
variable {X : Cx} {C : Ctx} {W : WX} {cl : CallF} {e a b c : Expr} {es rest : List Expr} {e' a' b' c' : Ex} {es' : Exs} {pos : Pos} {st : Stmt}
theorem c_ife (hc : PT X c (tT C W cl c')) (ha : PE X a (tI C W cl a')) (hb : PE X b (tI C W cl b')) : PE X (.IfExp c a b pos) (tI C W cl (.ife c' a' b')) :=
  peI (pe_ifExp hc ha hb) fun σ H Q ⟨H0, env, S, q⟩ => by
    simp only [ev] at q
    have q' : RQ C W σ (KV C σ Q) H0 ((evT cl c' env).bind fun t env1 => match t with | true => ev cl a' env1 | false => ev cl b' env1) := by
      unfold evT
      cases z : ev cl c' env with
      | bad => simp only [z, R.bind_bad] at q ⊢; exact q
      | exc x env1 => simp only [z, R.bind_exc] at q ⊢; exact q
      | ok u env1 =>
        simp only [z, R.bind_ok] at q ⊢
        cases z1 : rdU env1 u with
        | none => simp only [z1, orBad_none] at q; exact q.elim
        | some d =>
          simp only [z1, orBad_some] at q ⊢
          cases z2 : truD d with
          | none => simp only [z2, orBad_none] at q; exact q.elim
          | some t => simp only [z2, orBad_some, R.bind_ok] at q ⊢; exact q
    refine seqT S q' fun t env1 H1 H1' e1 S1 q1 => ?_
    cases t with
    | true => rw [if_pos rfl]; exact ⟨H1, env1, S1, q1⟩
    | false => rw [if_neg Bool.false_ne_true]; exact ⟨H1, env1, S1, q1⟩
/-! tests -/
theorem evT_and (env : Env) : evT cl (.and a' b') env = (evT cl a' env).bind fun t env1 => match t with | true => evT cl b' env1 | false => .ok false env1 := by
  unfold evT
  simp only [ev]
  cases z : ev cl a' env with
  | bad => rfl
  | exc x env1 => rfl
  | ok u env1 =>
    simp only [R.bind_ok]
    cases z1 : rdU env1 u with
    | none => rfl
    | some d =>
      simp only [orBad_some]
      cases z2 : truD d with
      | none => rfl
      | some t =>
        simp only [orBad_some, R.bind_ok]
        cases t with
        | true => rfl
        | false =>
          have : rdU env1 (pend u) = some d := by cases u <;> exact z1
          simp only [R.bind_ok, this, orBad_some, z2]
theorem evT_or (env : Env) : evT cl (.or a' b') env = (evT cl a' env).bind fun t env1 => match t with | true => .ok true env1 | false => evT cl b' env1 := by
  unfold evT
  simp only [ev]
  cases z : ev cl a' env with
  | bad => rfl
  | exc x env1 => rfl
  | ok u env1 =>
    simp only [R.bind_ok]
    cases z1 : rdU env1 u with
    | none => rfl
    | some d =>
      simp only [orBad_some]
      cases z2 : truD d with
      | none => rfl
      | some t =>
        simp only [orBad_some, R.bind_ok]
        cases t with
        | false => rfl
        | true =>
          have : rdU env1 (pend u) = some d := by cases u <;> exact z1
          simp only [R.bind_ok, this, orBad_some, z2]
theorem evT_not (env : Env) : evT cl (.not a') env = (evT cl a' env).bind fun t env1 => .ok (!t) env1 := by
  unfold evT
  simp only [ev]
  cases z : ev cl a' env with
  | bad => rfl
  | exc x env1 => rfl
  | ok u env1 =>
    simp only [R.bind_ok]
    cases z1 : rdU env1 u with
    | none => rfl
    | some d =>
      simp only [orBad_some]
      cases z2 : truD d with
      | none => rfl
      | some t => simp only [orBad_some, R.bind_ok, rdU, truD]
def isCmp : O2 → Bool
  | .lt => true | .le => true | .gt => true | .ge => true | .eq => true | .ne => true | .is => true | .isnot => true | .isin => true | .notin => true | _ => false
theorem inD_bl {x d : D} {ys : List D} (h : inD x ys = some d) : ∃ p ps, toPy x = some p ∧ toPyAll ys = some ps ∧ SeqAt.shaped p = true ∧ SeqAt.shaped (.list ps) = true ∧ d = .bl (ps.any fun z => PyData.eqv z p) := by
  unfold inD at h
  split at h
  · rename_i p ps h1 h2
    split at h
    · rename_i z
      cases h
      rw [Bool.and_eq_true] at z
      exact ⟨p, ps, h1, h2, z.1, z.2, rfl⟩
    · cases h
  · cases h
theorem inS_bl {x y : Str} {d : D} (h : inS x y = some d) : ∃ c, x = ⟨#[c]⟩ ∧ d = .bl (decide (c ∈ y.cps.toList)) := by
  unfold inS at h
  split at h
  · rename_i c hc
    cases h
    refine ⟨c, ?_, rfl⟩
    obtain ⟨a⟩ := x
    have : a = #[c] := by apply Array.ext'; simpa using hc
    rw [this]
  · cases h
theorem isin_inv {x y d : D} (h : op2 .isin x y = some d) : (∃ ys, (y = .lst ys ∨ y = .kst ys) ∧ inD x ys = some d) ∨ ∃ a b, x = .str a ∧ y = .str b ∧ inS a b = some d := by
  cases y with
  | lst ys => exact .inl ⟨ys, .inl rfl, by cases x <;> exact h⟩
  | kst ys => exact .inl ⟨ys, .inr rfl, by cases x <;> exact h⟩
  | str b => cases x with
    | str a => exact .inr ⟨a, b, rfl, rfl, h⟩
    | _ => cases h
  | _ => cases x <;> cases h
theorem notin_inv {x y d : D} (h : op2 .notin x y = some d) : ∃ ys b, (y = .lst ys ∨ y = .kst ys) ∧ inD x ys = some (.bl b) ∧ d = .bl (!b) := by
  cases y with
  | lst ys =>
    have h' : ((inD x ys).map fun d => match d with | .bl b => .bl (!b) | d => d) = some d := by cases x <;> exact h
    rw [Option.map_eq_some_iff] at h'
    obtain ⟨z, hz, rfl⟩ := h'
    obtain ⟨_, _, _, _, _, _, rfl⟩ := inD_bl hz
    exact ⟨ys, _, .inl rfl, hz, rfl⟩
  | kst ys =>
    have h' : ((inD x ys).map fun d => match d with | .bl b => .bl (!b) | d => d) = some d := by cases x <;> exact h
    rw [Option.map_eq_some_iff] at h'
    obtain ⟨z, hz, rfl⟩ := h'
    obtain ⟨_, _, _, _, _, _, rfl⟩ := inD_bl hz
    exact ⟨ys, _, .inr rfl, hz, rfl⟩
  | _ => cases x <;> cases h
theorem cmp_bl {o : O2} (h : isCmp o = true) {x y d : D} (q : op2 o x y = some d) : ∃ b, d = .bl b := by
  cases o <;> first | (cases h; done) | skip
  · cases x <;> first | (cases q; done) | (cases y <;> first | (cases q; done) | (cases q; exact ⟨_, rfl⟩))
  · cases x <;> first | (cases q; done) | (cases y <;> first | (cases q; done) | (cases q; exact ⟨_, rfl⟩))
  · cases x <;> first | (cases q; done) | (cases y <;> first | (cases q; done) | (cases q; exact ⟨_, rfl⟩))
  · cases x <;> first | (cases q; done) | (cases y <;> first | (cases q; done) | (cases q; exact ⟨_, rfl⟩))
  · have q' : (eqD x y).map D.bl = some d := by cases x <;> cases y <;> exact q
    rw [Option.map_eq_some_iff] at q'
    obtain ⟨b, _, rfl⟩ := q'
    exact ⟨b, rfl⟩
  · have q' : ((eqD x y).map fun b => D.bl (!b)) = some d := by cases x <;> cases y <;> exact q
    rw [Option.map_eq_some_iff] at q'
    obtain ⟨b, _, rfl⟩ := q'
    exact ⟨!b, rfl⟩
  · rcases isin_inv q with ⟨_, _, hz⟩ | ⟨_, _, _, _, hz⟩
    · obtain ⟨_, _, _, _, _, _, rfl⟩ := inD_bl hz; exact ⟨_, rfl⟩
    · obtain ⟨_, _, rfl⟩ := inS_bl hz; exact ⟨_, rfl⟩
  · obtain ⟨_, b, _, _, rfl⟩ := notin_inv q; exact ⟨_, rfl⟩
  · rcases is_inv q with ⟨_, rfl⟩ | ⟨_, _, r, rfl, _⟩ <;> exact ⟨_, rfl⟩
  · rcases isnot_inv q with ⟨_, rfl⟩ | ⟨_, _, r, rfl, _⟩ <;> exact ⟨_, rfl⟩
theorem RepG.bl {T : Tbl} {H0' H' H : Hp} {b : Bool} {v : V} (r : RepG T H0' H' H (.bl b) v) : v = .bl b := by simpa only [RepG, isMutD, Rep, Bool.false_eq_true, if_false] using r
theorem t_cmp {op : CmpOp} {o : O2} (ho : OpR X (compareOp op) (rD C.T (op2 o))) (ha : PE X a (tI C W cl a')) (hb : PE X b (tI C W cl b')) (hm : behindInMarks op b = false) (hc : isCmp o = true := by rfl) : PT X (.Compare a [op] [b] pos) (tT C W cl (.op2 o a' b')) :=
  ptI (pt_cmpR ho ha hb hm) fun σ H Q ⟨H0, env, S, q⟩ => by
    simp only [evT, ev] at q
    have q' : RQ C W σ (fun b _ _ H' => Q b H') H0 ((ev cl a' env).bind fun u env1 => (ev cl b' env1).bind fun w env2 => orBad (rdU env2 (pend u)) fun x => orBad (rdU env2 w) fun y => orBad (op2 o x y) fun z => orBad (truD z) fun t => .ok t env2) := by
      cases z : ev cl a' env with
      | bad => simp only [z, R.bind_bad] at q ⊢; exact q
      | exc x env1 => simp only [z, R.bind_exc] at q ⊢; exact q
      | ok u env1 =>
        simp only [z, R.bind_ok] at q ⊢
        cases z1 : ev cl b' env1 with
        | bad => simp only [z1, R.bind_bad] at q ⊢; exact q
        | exc x env1 => simp only [z1, R.bind_exc] at q ⊢; exact q
        | ok w env2 =>
          simp only [z1, R.bind_ok] at q ⊢
          cases z2 : rdU env2 (pend u) with
          | none => simp only [z2, orBad_none, R.bind_bad] at q; exact q.elim
          | some x =>
            cases z3 : rdU env2 w with
            | none => simp only [z2, z3, orBad_none, orBad_some, R.bind_bad] at q; exact q.elim
            | some y =>
              cases z4 : op2 o x y with
              | none => simp only [z2, z3, z4, orBad_none, orBad_some, R.bind_bad] at q; exact q.elim
              | some d => simp only [z2, z3, z4, orBad_some, R.bind_ok] at q ⊢; exact q
    refine seqI S q' fun u env1 x H1 H1' e1 S1 u1 q1 => ?_
    obtain ⟨H1f, e1f, S1f, u1f⟩ := S1.pend u1
    refine seqI S1f (RQ.mono e1f q1) fun w env2 y H2 H2' e2 S2 u2 q2 => ?_
    obtain ⟨dx, hx, q2⟩ := q2.orB
    obtain ⟨dy, hy, q2⟩ := q2.orB
    obtain ⟨z, hz, q2⟩ := q2.orB
    obtain ⟨t, ht, q2⟩ := q2.orB
    obtain ⟨bb, rfl⟩ := cmp_bl hc hz
    simp only [truD, Option.some.injEq] at ht
    subst ht
    refine ⟨H2, dx, dy, _, S2.ex, S2.rd (u1f.wait e2) hx, S2.rd u2 hy, hz, fun v H0' H' g r => ?_⟩
    exact ⟨bb, r.bl, q2 H0' H' g.e0 (S2.gr g)⟩
theorem t_chain {op op' : CmpOp} {o p : O2} (ho : OpR X (compareOp op) (rD C.T (op2 o))) (ho' : OpR X (compareOp op') (rD C.T (op2 p))) (ha : PE X a (tI C W cl a')) (hb : PE X b (tI C W cl b')) (hc : PE X c (tI C W cl c'))
    (hm : lastMarks [op, op'] [b, c] = false := by with_unfolding_all rfl) (hcm : isCmp p = true := by rfl) : PT X (.Compare a [op, op'] [b, c] pos) (tT C W cl (.chain o p a' b' c')) :=
  ⟨fun pins s σ H Q I ⟨H0, env, S, q⟩ => by
    -- by the value: it is a bool
    refine (pt_chain ho ho' ha hb hc hm).run pins s σ H Q I ?_
    simp only [evT, ev] at q
    have q' : RQ C W σ (fun b _ _ H' => Q b H') H0 ((ev cl a' env).bind fun u env1 => ((ev cl b' env1).bind fun w env2 => orBad (rdU env2 (pend u)) fun x => orBad (rdU env2 (pend w)) fun y => orBad (op2 o x y) fun z => match z with
        | .bl true => (ev cl c' env2).bind fun q env3 => orBad (rdU env3 (pend w)) fun y' => orBad (rdU env3 q) fun r => orBad (op2 p y' r) fun z' => .ok (.nw z') env3
        | .bl false => .ok (.nw (.bl false)) env2
        | _ => .bad).bind fun u env1 => orBad (rdU env1 u) fun x => orBad (truD x) fun t => .ok t env1) := by
      cases z : ev cl a' env with
      | bad => simp only [z, R.bind_bad] at q ⊢; exact q
      | exc x env1 => simp only [z, R.bind_exc] at q ⊢; exact q
      | ok u env1 => simp only [z, R.bind_ok] at q ⊢; exact q
    refine seqI S q' fun u env1 x H1 H1' e1 S1 u1 q1 => ?_
    obtain ⟨H1f, e1f, S1f, u1f⟩ := S1.pend u1
    have q1f := RQ.mono e1f q1
    have q1' : RQ C W σ (fun b _ _ H' => Q b H') H1f ((ev cl b' env1).bind fun w env2 => (orBad (rdU env2 (pend u)) fun x => orBad (rdU env2 (pend w)) fun y => orBad (op2 o x y) fun z => match z with
        | .bl true => (ev cl c' env2).bind fun q env3 => orBad (rdU env3 (pend w)) fun y' => orBad (rdU env3 q) fun r => orBad (op2 p y' r) fun z' => .ok (.nw z') env3
        | .bl false => .ok (.nw (.bl false)) env2
        | _ => .bad).bind fun u env1 => orBad (rdU env1 u) fun x => orBad (truD x) fun t => .ok t env1) := by
      cases z : ev cl b' env1 with
      | bad => simp only [z, R.bind_bad] at q1f ⊢; exact q1f
      | exc x env1 => simp only [z, R.bind_exc] at q1f ⊢; exact q1f
      | ok u env1 => simp only [z, R.bind_ok] at q1f ⊢; exact q1f
    refine seqI S1f q1' fun w env2 y H2 H2' e2 S2 u2 q2 => ?_
    obtain ⟨H2f, e2f, S2f, u2f⟩ := S2.pend u2
    have q2 := RQ.mono e2f q2
    cases hx : rdU env2 (pend u) with
    | none => simp only [hx, orBad_none, R.bind_bad] at q2; exact q2.elim
    | some dx =>
    cases hy : rdU env2 (pend w) with
    | none => simp only [hx, hy, orBad_none, orBad_some, R.bind_bad] at q2; exact q2.elim
    | some dy =>
    cases hz : op2 o dx dy with
    | none => simp only [hx, hy, hz, orBad_none, orBad_some, R.bind_bad] at q2; exact q2.elim
    | some z =>
    simp only [hx, hy, hz, orBad_some] at q2
    refine ⟨H2f, dx, dy, z, S2f.ex, S2f.rd (u1f.wait (e2.tr e2f)) hx, S2f.rd u2f hy, hz, fun v H0' H' g r => ?_⟩
    split at q2
    · cases r.bl
      refine ⟨true, rfl, ?_⟩
      rw [if_pos rfl]
      have S3 := S2f.gr g
      have q2g := RQ.mono g.e0 q2
      have q2' : RQ C W σ (fun b _ _ H' => Q b H') H0' ((ev cl c' env2).bind fun q env3 => orBad (rdU env3 (pend w)) fun y' => orBad (rdU env3 q) fun r => orBad (op2 p y' r) fun z' => orBad (truD z') fun t => .ok t env3) := by
        cases z : ev cl c' env2 with
        | bad => simp only [z, R.bind_bad] at q2g ⊢; exact q2g
        | exc x env1 => simp only [z, R.bind_exc] at q2g ⊢; exact q2g
        | ok q env3 =>
          simp only [z, R.bind_ok] at q2g ⊢
          cases z2 : rdU env3 (pend w) with
          | none => simp only [z2, orBad_none, R.bind_bad] at q2g; exact q2g.elim
          | some x =>
            cases z3 : rdU env3 q with
            | none => simp only [z2, z3, orBad_none, orBad_some, R.bind_bad] at q2g; exact q2g.elim
            | some y =>
              cases z4 : op2 p x y with
              | none => simp only [z2, z3, z4, orBad_none, orBad_some, R.bind_bad] at q2g; exact q2g.elim
              | some d => simp only [z2, z3, z4, orBad_some, R.bind_ok] at q2g ⊢; exact q2g
      refine seqI S3 q2' fun t env3 y3 H3 H3' e3 S4 u3 q3 => ?_
      obtain ⟨dy', hy', q3⟩ := q3.orB
      obtain ⟨dr, hr, q3⟩ := q3.orB
      obtain ⟨z', hz', q3⟩ := q3.orB
      obtain ⟨tt, ht, q3⟩ := q3.orB
      obtain ⟨bb, rfl⟩ := cmp_bl hcm hz'
      simp only [truD, Option.some.injEq] at ht
      subst ht
      exact ⟨H3, dy', dr, _, S4.ex, S4.rd (u2f.wait (g.e0.tr e3)) hy', S4.rd u3 hr, hz', fun v H0' H' g r => ⟨bb, r.bl, q3 H0' H' g.e0 (S4.gr g)⟩⟩
    · cases r.bl
      refine ⟨false, rfl, ?_⟩
      rw [if_neg Bool.false_ne_true]
      simp only [R.bind_ok, rdU, orBad_some, truD] at q2
      exact ⟨false, rfl, q2 H0' H' g.e0 (S2f.gr g)⟩
    · exact q2.elim⟩
theorem w_and1 {op : BoolOp} (ha : PT X a (tT C W cl a')) : PW X (.BoolOp .And [a] pos) (tT C W cl a') := pw_and1 ha
theorem w_or1 (ha : PT X a (tT C W cl a')) : PW X (.BoolOp .Or [a] pos) (tT C W cl a') := pw_or1 ha
theorem w_and (ha : PT X a (tT C W cl a')) (hb : PW X (.BoolOp .And (b :: rest) pos) (tT C W cl b')) : PW X (.BoolOp .And (a :: b :: rest) pos) (tT C W cl (.and a' b')) :=
  pwI (pw_and ha hb) fun σ H Q ⟨H0, env, S, q⟩ => by
    rw [evT_and] at q
    refine seqT S q fun t env1 H1 H1' e1 S1 q1 => ?_
    cases t with
    | true => rw [if_pos rfl]; exact ⟨H1, env1, S1, q1⟩
    | false => rw [if_neg Bool.false_ne_true]; exact q1 H1 H1' (Ext.rfl' _) S1
theorem w_or (ha : PT X a (tT C W cl a')) (hb : PW X (.BoolOp .Or (b :: rest) pos) (tT C W cl b')) : PW X (.BoolOp .Or (a :: b :: rest) pos) (tT C W cl (.or a' b')) :=
  pwI (pw_or ha hb) fun σ H Q ⟨H0, env, S, q⟩ => by
    rw [evT_or] at q
    refine seqT S q fun t env1 H1 H1' e1 S1 q1 => ?_
    cases t with
    | false => rw [if_neg Bool.false_ne_true]; exact ⟨H1, env1, S1, q1⟩
    | true => rw [if_pos rfl]; exact q1 H1 H1' (Ext.rfl' _) S1
theorem t_not (ha : PT X a (tT C W cl a')) : PT X (.UnaryOp .Not a pos) (tT C W cl (.not a')) :=
  ptI (pt_not ha) fun σ H Q ⟨H0, env, S, q⟩ => by
    rw [evT_not] at q
    exact seqT S q fun t env1 H1 H1' e1 S1 q1 => q1 H1 H1' (Ext.rfl' _) S1
theorem c_dic : PE X (.Dict [] [] pos) (tI C W cl .dic) := peI pe_dnewK fun σ H Q ⟨H0, env, S, q⟩ => by
  simp only [ev] at q
  intro p hp
  refine fin_nw S q (Gr.own S.ex hp) ?_
  show (if true = true then _ else _)
  rw [if_pos rfl]
  exact ⟨p, rfl, hp, p, [], rfl, S.ex.no hp, upd_same, rfl, rfl⟩
theorem s_never : PS X st (tS C W cl .never) := psI ps_never fun E σ H ⟨H0, env, S, q⟩ => q
/-! several names -/
/-- the targets of a tuple's parts -/
def gNs : List Nat → TGs
  | [] => gNil
  | i :: is => gCons (gName i) (gNs is)
theorem gNs_ok {is : List Nat} : ∀ {ds : List D} {vs : List V} {σ : L2.St} {H0 H : Hp} {env env2 : Env} {Q : L2.St → Hp → Prop}, Sim C σ H0 H env → RepAll C.T H0 ds vs → storeAll is ds env = some env2 → (∀ σ', Sim C σ' H0 H env2 → Q σ' H) → gNs is vs σ H Q := by
  induction is with
  | nil =>
    intro ds vs σ H0 H env env2 Q S hr h hq
    cases ds with
    | nil =>
      simp only [RepAll] at hr
      simp only [storeAll, Option.some.injEq] at h
      subst h
      exact ⟨hr, hq _ S⟩
    | cons _ _ => simp [storeAll] at h
  | cons i is ih =>
    intro ds vs σ H0 H env env2 Q S hr h hq
    cases ds with
    | nil => simp [storeAll] at h
    | cons d ds =>
      simp only [RepAll] at hr
      obtain ⟨v, r, rfl, h1, h2⟩ := hr
      simp only [storeAll] at h
      exact ⟨v, r, rfl, ih (S.store (s := .fz d) rfl ⟨_, rfl, h1⟩ fun _ _ z => by cases z) h2 h hq⟩
theorem Sim.two {σ : L2.St} {H0 H : Hp} {env env2 : Env} (S : Sim C σ H0 H env) {i j : Nat} {x y : V} {ds : List D} (hr : RepAll C.T H0 ds [x, y]) (h : storeAll [i, j] ds env = some env2) : Sim C ((σ.set i (some x)).set j (some y)) H0 H env2 := by
  have z : gNs [i, j] [x, y] σ H (fun σ' H' => Sim C σ' H0 H' env2) := gNs_ok S hr h fun σ' s => s
  obtain ⟨v1, r1, e1, v2, r2, e2, e3, q⟩ := z
  cases e1
  cases e2
  exact q
theorem Sim.three {σ : L2.St} {H0 H : Hp} {env env2 : Env} (S : Sim C σ H0 H env) {i j k : Nat} {x y w : V} {ds : List D} (hr : RepAll C.T H0 ds [x, y, w]) (h : storeAll [i, j, k] ds env = some env2) : Sim C (((σ.set i (some x)).set j (some y)).set k (some w)) H0 H env2 := by
  have z : gNs [i, j, k] [x, y, w] σ H (fun σ' H' => Sim C σ' H0 H' env2) := gNs_ok S hr h fun σ' s => s
  obtain ⟨v1, r1, e1, v2, r2, e2, v3, r3, e3, e4, q⟩ := z
  cases e1
  cases e2
  cases e3
  exact q
theorem storeAll_len : ∀ {is : List Nat} {ds : List D} {env env2 : Env}, storeAll is ds env = some env2 → ds.length = is.length
  | [], [], _, _, _ => rfl
  | _ :: is, _ :: ds, _, _, h => by simp only [storeAll] at h; simp [storeAll_len h]
  | [], _ :: _, _, _, h => by simp [storeAll] at h
  | _ :: _, [], _, _, h => by simp [storeAll] at h
theorem seqF {σ : L2.St} {H0 H : Hp} {env : Env} {E : Ends} {f : List D → Env → R Fl} (S : Sim C σ H0 H env) (h : RS C W E H0 ((evF cl es' env).bind f)) {Q : List V → Hp → Prop}
    (hQ : ∀ ds env1 vs H01 H1, Ext H0 H01 → Sim C σ H01 H1 env1 → RepAll C.T H01 ds vs → RS C W E H01 (f ds env1) → Q vs H1) : tAF C W cl es' σ H Q := by
  refine ⟨H0, env, S, ?_⟩
  cases q : evF cl es' env with
  | ok u env1 =>
    rw [q] at h
    exact fun H01 H1 e s vs hv => hQ u env1 vs H01 H1 e s hv (RS.mono e h)
  | exc x env1 =>
    rw [q] at h
    exact fun cls d H0' H' e s x => h σ cls d H0' H' e s x
  | bad => rw [q] at h; exact h
theorem s_par2 {i j : Nat} (h : PS X st (tPar i j (tAF C W cl es'))) : PS X st (tS C W cl (.par [i, j] es')) := psI h fun E σ H ⟨H0, env, S, q⟩ => by
  simp only [ex] at q
  refine seqF S q fun ds env1 vs H1 H1' e1 S1 hv q1 => ?_
  obtain ⟨env2, hs, q1⟩ := q1.orB
  have hl := hv.len
  rw [storeAll_len hs] at hl
  match vs, hl with
  | [x, y], _ => exact ⟨x, y, rfl, q1 _ H1 H1' (Ext.rfl' _) (S1.two hv hs)⟩
theorem s_par3 {i j k : Nat} (h : PS X st (tPar3 i j k (tAF C W cl es'))) : PS X st (tS C W cl (.par [i, j, k] es')) := psI h fun E σ H ⟨H0, env, S, q⟩ => by
  simp only [ex] at q
  refine seqF S q fun ds env1 vs H1 H1' e1 S1 hv q1 => ?_
  obtain ⟨env2, hs, q1⟩ := q1.orB
  have hl := hv.len
  rw [storeAll_len hs] at hl
  match vs, hl with
  | [x, y, z], _ => exact ⟨x, y, z, rfl, q1 _ H1 H1' (Ext.rfl' _) (S1.three hv hs)⟩
theorem s_unp {is : List Nat} {n : Nat} (hn : is.length = n) (hK : X.K = C.T.K) (h : PS X st (tAsg (tI C W cl e') (gTup X.K n (gNs is)))) : PS X st (tS C W cl (.unp is e')) := psI h fun E σ H ⟨H0, env, S, q⟩ => by
  simp only [ex] at q
  refine seqE S q fun u env1 v H1 H1' e1 S1 u1 q1 => ?_
  obtain ⟨d, hd, q1⟩ := q1.orB
  split at q1
  · rename_i ds
    obtain ⟨env2, hs, q1⟩ := q1.orB
    obtain ⟨a, xs, rfl, h1, h2⟩ := rd_tup S1.ex (S1.rd u1 hd)
    exact ⟨a, xs, rfl, hK ▸ h1, by rw [h2.len, storeAll_len hs, hn], gNs_ok S1 h2 hs fun σ' S' => q1 σ' H1 H1' (Ext.rfl' _) S'⟩
  · exact q1.elim
/-! a call with keywords -/
theorem k_pk {kws : List Keyword} {ms : List Bool} {nm : Option Str} {kpos : Pos} {m : Bool} (ha : PE X e (tI C W cl e')) (hr : PK X kws (tAC C W cl ms es')) : PK X (⟨nm, e, kpos⟩ :: kws) (tAC C W cl (false :: ms) (.cons e' es')) :=
  ⟨fun pos pins s σ H Q I ⟨H0, env, S, q⟩ => (pk_cons ha hr).run pos pins s σ H Q I (by
    simp only [evC] at q
    refine seqI S q fun u env1 x H1 H1' e1 S1 u1 q1 => ?_
    obtain ⟨⟨d, env2⟩, hf, q1⟩ := q1.orB
    obtain ⟨H2, e2, S2, r2⟩ := S1.take u1 hf
    have q2 := RQ.mono e2 q1
    refine ⟨H2, env2, S2, ?_⟩
    cases z : evC cl ms es' env2 with
    | ok us env3 =>
      simp only [z] at q2
      exact fun H3 H3' e3 S3 vs hv => q2 H3 H3' e3 S3 (x :: vs) ⟨x, vs, rfl, Rep.mono e3 _ _ r2, hv⟩
    | exc x env3 => simp only [z] at q2; exact q2
    | bad => simp only [z] at q2; exact q2)⟩
theorem k_pk0 {ms : List Bool} : PK X [] (tAC C W cl ms .nil) := ⟨fun pos pins s σ H Q I ⟨H0, env, S, q⟩ => pk_nil.run pos pins s σ H Q I (by
  simp only [evC] at q
  exact q H0 H (Ext.rfl' _) S [] rfl)⟩
theorem UcOk.len {σ : L2.St} {H0 : Hp} : ∀ {us : List U} {vs : List V}, UcOk C σ H0 us vs → vs.length = us.length
  | [], _, h => by cases h; rfl
  | .d x :: us, _, h => by obtain ⟨v, r, rfl, h1, h2⟩ := h; simp [UcOk.len h2]
  | .sl i :: us, _, h => by obtain ⟨v, r, rfl, h1, h2⟩ := h; simp [UcOk.len h2]
  | .nw _ :: _, _, h => h.elim
theorem UcOk.at {σ : L2.St} {H0 : Hp} : ∀ {us : List U} {vs : List V} {i : Nat} {u : U}, UcOk C σ H0 us vs → us[i]? = some u → ∃ v, vs[i]? = some v ∧ UcOk C σ H0 [u] [v]
  | [], _, _, _, h, q => by simp at q
  | .d x :: us, _, 0, _, h, q => by obtain ⟨v, r, rfl, h1, h2⟩ := h; simp at q; subst q; exact ⟨v, rfl, v, [], rfl, h1, rfl⟩
  | .sl i :: us, _, 0, _, h, q => by obtain ⟨v, r, rfl, h1, h2⟩ := h; simp at q; subst q; exact ⟨v, rfl, v, [], rfl, h1, rfl⟩
  | .nw _ :: _, _, 0, _, h, q => h.elim
  | .d x :: us, _, n + 1, _, h, q => by obtain ⟨v, r, rfl, h1, h2⟩ := h; simpa using UcOk.at h2 (by simpa using q)
  | .sl i :: us, _, n + 1, _, h, q => by obtain ⟨v, r, rfl, h1, h2⟩ := h; simpa using UcOk.at h2 (by simpa using q)
  | .nw _ :: _, _, _ + 1, _, h, q => h.elim
theorem UcOk.cons {σ : L2.St} {H0 : Hp} {u : U} {v : V} {us : List U} {vs : List V} (h1 : UcOk C σ H0 [u] [v]) (h2 : UcOk C σ H0 us vs) : UcOk C σ H0 (u :: us) (v :: vs) := by
  cases u with
  | d x => obtain ⟨w, r, q, h3, _⟩ := h1; cases q; exact ⟨v, vs, rfl, h3, h2⟩
  | sl i => obtain ⟨w, r, q, h3, _⟩ := h1; cases q; exact ⟨v, vs, rfl, h3, h2⟩
  | nw x => exact h1.elim
theorem UcOk.perm {σ : L2.St} {H0 : Hp} {us : List U} {vs : List V} (h : UcOk C σ H0 us vs) : ∀ pm : List Nat, UcOk C σ H0 (permL pm us) (permL pm vs)
  | [] => rfl
  | i :: pm => by
    have ih := UcOk.perm h pm
    unfold permL at ih ⊢
    simp only [List.filterMap_cons]
    cases z : us[i]? with
    | none =>
      have zl : vs[i]? = none := by rw [List.getElem?_eq_none_iff] at z ⊢; rw [h.len]; exact z
      simp only [zl]
      exact ih
    | some u =>
      obtain ⟨v, hv, hu⟩ := h.at z
      simp only [hv]
      exact hu.cons ih
theorem vals_perm {vs : List V} {us : List Value} (h : Vals vs us) : ∀ pm : List Nat, Vals (permL pm vs) (permL pm us)
  | [] => .nil
  | i :: pm => by
    have ih := vals_perm h pm
    unfold permL at ih ⊢
    simp only [List.filterMap_cons]
    cases z : vs[i]? with
    | none => simp only [h.none_of z]; exact ih
    | some v =>
      obtain ⟨u, hu, r⟩ := h.get z
      simp only [hu]
      exact .cons r ih
/-- how a call by keywords alone binds -/
def KwBinds (fd : FuncData) (ps ks : List Str) (pm : List Nat) : Prop := ∀ (s : Shared) (ws : List Value), ws.length = ks.length → BindsTo s fd ⟨[], ks.zip ws⟩ (ps.zip (permL pm ws))
theorem c_callP {x : Str} {p : Pos} {k f n : Nat} {fa : Addr} {fd : FuncData} {ps ks : List Str} {ms : List Bool} {pm : List Nat} {kws : List Keyword} (F : FnG X.prog X.w X.K X.mg X.base k fa fd ps (spF C.T cl f n)) (hgd : X.A.guards = some []) (hr : Room k X.A) (tk : Takes X W)
    (hg : Gl X x) (hm : X.mg x = some (.ref fa)) (hk : PySem.W.keepIn X.K (.ref fa) = true) (hb : KwBinds fd ps ks pm) (ha : PK X kws (tAC C W cl (ms.map fun _ => false) es')) (hn : ms.length = n := by rfl) (hkn : ks.length = ms.length := by rfl)
    (hall : (backToKw pos (keywordEach kws X.env)).all (·.1.isSome) = true := by rfl) (hks : (backToKw pos (keywordEach kws X.env)).filterMap (·.1) = ks := by rfl) (hdb : (x == ("__debug__" : Str)) = false := by decide)
    (hpl : ((backTo pos (starEach [] X.env)).any (·.1) || (backToKw pos (keywordEach kws X.env)).any (·.1.isNone)) = false := by rfl) :
    PE X (.Call (.Name x p) [] kws pos) (tI C W cl (.callP f ms pm es')) := by
  refine ⟨fun pins s σ H Q I h => ?_⟩
  refine wpAny_Call_Name_kw (ld_glob I hg hm ?_ hdb)
  obtain ⟨H0, env, S, q⟩ := h
  simp only [ev] at q
  refine PySem.W.callWith_KW0 (h₀ := X.base) I.ok.mod.kin hk hall ?_ hpl
  have hread : tAC C W cl (ms.map fun _ => false) es' σ H fun vs H1 => vs.length = ms.length ∧ spF C.T cl f n (permL pm vs) H1 Q fun cls d H' => W cls d σ H' := by
    refine ⟨H0, env, S, ?_⟩
    cases z : evC cl (ms.map fun _ => false) es' env with
    | bad => rw [z] at q; exact q.elim
    | exc x env1 => rw [z] at q; exact q
    | ok us env1 =>
      rw [z] at q
      simp only [R.bind_ok] at q
      obtain ⟨as, ha', q⟩ := q.orB
      split at q
      rotate_left
      · exact q.elim
      rename_i hd
      rw [Bool.and_eq_true, decide_eq_true_eq] at hd
      intro H1 H1' e1 S1 vs hv0
      refine ⟨hv0.len.trans hd.2, ?_⟩
      have hv := hv0.perm pm
      obtain ⟨g1, g2, g3⟩ := args_ok S1 ha' hv
      refine ⟨H1, as, S1.ex, g1, io_nodup S1 ha' hv hd.1, g2.trans hn, S1.tb, ?_⟩
      cases zc : cl f as with
      | bad => simp only [zc] at q; exact q
      | exc x outs =>
        simp only [zc] at q
        intro cls d H0' H' g o hx
        exact q cls d H0' H' (e1.tr g.e0) (S1.call ha' hv hd.1 g o) hx
      | ok r outs =>
        simp only [zc] at q
        intro v H0' H' g hr o
        exact q H0' H' (e1.tr g.e0) (S1.call ha' hv hd.1 g o) v (ret_u S1 ha' hv hd.1 g o hr)
  refine thn (ha.run pos pins s σ H _ I hread) fun ws s1 hq => ?_
  obtain ⟨zs, H1, I1, rz, hl, q1⟩ := hq
  refine ⟨I1.kIn, ?_⟩
  rw [hks]
  exact F.goA (args := ⟨[], ks.zip ws⟩) hgd hr (hb s1 ws (by rw [← rz.length, hl, hkn])) tk (fun _ _ _ z => z) I1 (vals_perm rz pm) q1
end
end PP
end

section
set_option maxHeartbeats 1000000
namespace PP
open PySem PySem.Spec PyProof.Rows L2
theorem fn_zero {P : Program} {w : World} {K : PySem.W.Frag} {mg : Str → Option Value} {base : Heap} {f : Addr} {fd : FuncData} {ps : List Str} {T : Tbl} {fs : Nat → Option Fn} {i n : Nat} (hn : ps.length = n) : FnG P w K mg base (5 * 0) f fd ps (spF T (calls fs 0) i n) :=
  ⟨fun vs H Q E ⟨_, _, _, h, _, hl, _⟩ => by rw [h.len, hl, hn], fun A outer s H args us vs Q E _ _ _ _ _ h => by obtain ⟨_, _, _, _, _, _, _, z⟩ := h; exact z.elim⟩
/-- a def of the text does what its small-syntax term does -/
theorem def_ok {P : Program} {w : World} {K : PySem.W.Frag} {mg : Str → Option Value} {base : Heap} {x qual : Str} {st : Stmt} {f : Addr} {fd : FuncData} {N ps : List Str} {k i n : Nat} {F : Fn} {T : Tbl} {fs : Nat → Option Fn} (Fu : FunV K x qual st f fd) (S : FnScope N ps (defScope st))
    (hN : N.length = F.n) (hn : n ≤ F.n) (hp : ps.length = n) (hf : ∀ as, calls fs (k + 1) i as = runF (calls fs k) F as)
    (hb : ∀ {X : Cx} {C : Ctx} {W : WX}, X.K = C.T.K → X.A.units + 64 < cLine → X.A.units + 200 < cLine → X.A.guards = some [] → Room (5 * k + 4) X.A → Takes X W → PassesOwn (model X.prog X.w) X.A X.env X.xe →
      (∃ (qu : Str) (cdv : Value) (A : Around) (outer : List PySem.Env) (s : Shared) (H : Hp) (E : XK), X = cxOf (L2.CX P w) P w K mg base N qu (defScope st) f cdv A outer s H E ∧ C.T = T ∧ qu = qual ∧ fd.code = cdv) → PSs X (defBody st) (tSs C W (calls fs k) F.body)) (hK : K = T.K) :
    FnG P w K mg base (5 * (k + 1)) f fd ps (spF T (calls fs (k + 1)) i n) := by
  refine FnG.of (k := 5 * k + 4) Fu S (fun vs H Q E ⟨_, _, _, h, _, hl, _⟩ => by rw [h.len, hl, hp]) fun cdv hcd A outer s H vs Q E hg hr hsp => ?_
  refine body_ok hN hn hf (fun C hC => ?_) hsp
  exact hb (by rw [hC]; exact hK) hr.units (by have := hr.un; show A.units + 3 + 200 < cLine; have e : (A.deeper (envOfC qual (defScope st) s.heap.objs.size f cdv)).units = A.units + 3 := rfl; omega) hg hr (takes_of rfl rfl rfl rfl) (passes_of rfl) ⟨qual, cdv, A, outer, s, H, E, rfl, hC, rfl, hcd⟩
end PP
end

section
set_option maxHeartbeats 1000000
/-! Targets, what is walked, comprehensions, for. -/
namespace PP
open PySem PySem.Spec PyProof.Rows L2
/-! ### targets -/
def lenG : Tgs → Nat
  | .nil => 0 | .cons _ ts => lenG ts + 1
mutual
def rTg (K : PySem.W.Frag) : Tg → TG
  | .nm i => gName i
  | .tup ts => gTup K (lenG ts) (rTgs K ts)
def rTgs (K : PySem.W.Frag) : Tgs → TGs
  | .nil => gNil
  | .cons t ts => gCons (rTg K t) (rTgs K ts)
end
mutual
/-- all names of the target are among these slots -/
def tgIn (vs : List Nat) : Tg → Bool
  | .nm i => vs.contains i
  | .tup ts => tgsIn vs ts
def tgsIn (vs : List Nat) : Tgs → Bool
  | .nil => true
  | .cons t ts => tgIn vs t && tgsIn vs ts
end
theorem wipe_get (σ : L2.St) (j : Nat) : ∀ vs : List Nat, (wipe σ vs)[j]? = if j ∈ vs then (if j < σ.length then some none else none) else σ[j]?
  | [] => by simp [wipe]
  | v :: vs => by
    unfold wipe
    rw [List.getElem?_set, wipe_get σ j vs, wipe_length]
    by_cases h : v = j
    · subst h; simp
    · have h' : ¬ j = v := fun z => h z.symm
      simp [h, h']
theorem wipe_set {σ : L2.St} {i : Nat} {x : Option V} {vs : List Nat} (h : i ∈ vs) : wipe (σ.set i x) vs = wipe σ vs := by
  apply List.ext_getElem?
  intro j
  rw [wipe_get, wipe_get, List.length_set, List.getElem?_set]
  by_cases hj : j ∈ vs
  · simp [hj]
  · have : ¬ i = j := fun z => hj (z ▸ h)
    simp [hj, this]
theorem wipe_wipe {σ : L2.St} {vs : List Nat} : wipe (wipe σ vs) vs = wipe σ vs := by
  apply List.ext_getElem?
  intro j
  rw [wipe_get, wipe_get, wipe_length]
  by_cases hj : j ∈ vs <;> simp [hj]
theorem getS_wipe (j : Nat) : ∀ (vs : List Nat) (env : Env), getS (wipeE env vs) j = if j ∈ vs then .un else getS env j
  | [], env => by simp [wipeE]
  | v :: vs, env => by
    unfold wipeE
    rw [getS_wipe j vs, getS_set]
    by_cases h : v = j
    · subst h
      by_cases hv : v ∈ vs
      · simp [hv]
      · by_cases hl : v < env.length
        · simp [hv, hl]
        · have : getS env v = .un := by unfold getS; rw [List.getD_eq_getElem?_getD, List.getElem?_eq_none (by omega)]; rfl
          simp [hv, hl, this]
    · have h' : ¬ j = v := fun z => h z.symm
      simp [h, h']
theorem len_wipe : ∀ (vs : List Nat) (env : Env), (wipeE env vs).length = env.length
  | [], env => rfl
  | v :: vs, env => by unfold wipeE; rw [len_wipe vs]; simp
theorem getS_back (env0 : Env) (j : Nat) : ∀ (vs : List Nat) (env : Env), getS (backE env0 env vs) j = if j ∈ vs ∧ j < env.length then getS env0 j else getS env j
  | [], env => by simp [backE]
  | v :: vs, env => by
    unfold backE
    rw [getS_back env0 j vs, getS_set, List.length_set]
    by_cases h : v = j
    · subst h
      by_cases hl : v < env.length
      · by_cases hv : v ∈ vs <;> simp [hv, hl]
      · simp [hl]
    · have h' : ¬ j = v := fun z => h z.symm
      simp [h, h']
theorem len_back (env0 : Env) : ∀ (vs : List Nat) (env : Env), (backE env0 env vs).length = env.length
  | [], env => rfl
  | v :: vs, env => by unfold backE; rw [len_back env0 vs]; simp
theorem storeGs_len : ∀ (ts : Tgs) (ds : List D) (env env' : Env), storeGs ts ds env = some env' → ds.length = lenG ts
  | .nil, [], _, _, _ => rfl
  | .nil, _ :: _, _, _, h => by simp [storeGs] at h
  | .cons _ _, [], _, _, h => by simp [storeGs] at h
  | .cons t ts, d :: ds, env, env', h => by
    simp only [storeGs, Option.bind_eq_some_iff] at h
    obtain ⟨env1, _, h2⟩ := h
    simp [lenG, storeGs_len ts ds env1 env' h2]
section
variable {C : Ctx} {H0 H : Hp}
theorem Sim.wipe {σ : L2.St} {env : Env} (S : Sim C σ H0 H env) (vs : List Nat) : Sim C (wipe σ vs) H0 H (wipeE env vs) := by
  refine { ok := S.ok, ex := S.ex, ex0 := S.ex0, fresh := S.fresh, keep := S.keep, tabs := S.tabs, tno := S.tno, ioH := S.ioH, len := by rw [len_wipe, wipe_length]; exact S.len, slots := fun j => ?_, inj := fun j k a hjk hj hk ej ek => ?_ }
  · rw [getS_wipe, wipe_get]
    by_cases h : j ∈ vs
    · simp only [h, if_true]; trivial
    · simp only [h, if_false]; exact S.slots j
  · rw [getS_wipe] at hj hk
    rw [wipe_get] at ej ek
    by_cases h1 : j ∈ vs
    · simp only [h1, if_true] at hj; cases hj
    · by_cases h2 : k ∈ vs
      · simp only [h2, if_true] at hk; cases hk
      · simp only [h1, h2, if_false] at hj hk ej ek
        exact S.inj j k a hjk hj hk ej ek
mutual
theorem Sim.tg : ∀ (t : Tg) {σ : L2.St} {env env' : Env} {d : D} {v : V} {Q : L2.St → Hp → Prop}, Sim C σ H0 H env → Rep C.T H0 d v → storeG t d env = some env' →
    (∀ σ', Sim C σ' H0 H env' → (∀ vs, tgIn vs t = true → L2.wipe σ' vs = L2.wipe σ vs) → Q σ' H) → rTg C.T.K t v σ H Q
  | .nm i, σ, env, env', d, v, Q, S, r, hs, k => by
    simp only [storeG, Option.some.injEq] at hs
    subst hs
    show Q _ _
    refine k _ (S.store rfl ⟨v, rfl, r⟩ fun _ _ z => by cases z) fun vs hv => wipe_set (by simpa [tgIn] using hv)
  | .tup ts, σ, env, env', d, v, Q, S, r, hs, k => by
    cases d with
    | tup ds =>
      simp only [storeG] at hs
      have r' := r
      simp only [Rep] at r'
      obtain ⟨a, xs, rfl, r1, r2⟩ := r'
      have h := Sim.tgs ts (Q := Q) S r2 hs (fun σ' S' h => k σ' S' fun vs hv => h vs (by simpa [tgIn] using hv))
      exact ⟨a, xs, rfl, S.ex.sqT r1, h.1, h.2⟩
    | _ => simp [storeG] at hs
theorem Sim.tgs : ∀ (t : Tgs) {σ : L2.St} {env env' : Env} {ds : List D} {xs : List V} {Q : L2.St → Hp → Prop}, Sim C σ H0 H env → RepAll C.T H0 ds xs → storeGs t ds env = some env' →
    (∀ σ', Sim C σ' H0 H env' → (∀ vs, tgsIn vs t = true → L2.wipe σ' vs = L2.wipe σ vs) → Q σ' H) → xs.length = lenG t ∧ rTgs C.T.K t xs σ H Q
  | .nil, σ, env, env', ds, xs, Q, S, r, hs, k => by
    cases ds with
    | nil =>
      simp only [storeGs, Option.some.injEq] at hs
      subst hs
      simp only [RepAll] at r
      subst r
      exact ⟨rfl, rfl, k σ S fun _ _ => rfl⟩
    | cons d ds => simp [storeGs] at hs
  | .cons t ts, σ, env, env', ds, xs, Q, S, r, hs, k => by
    cases ds with
    | nil => simp [storeGs] at hs
    | cons d ds =>
      simp only [storeGs, Option.bind_eq_some_iff] at hs
      obtain ⟨env1, h1, h2⟩ := hs
      simp only [RepAll] at r
      obtain ⟨v, xr, rfl, r1, r2⟩ := r
      have hl : xr.length = lenG ts := by rw [r2.len]; exact storeGs_len ts _ _ _ h2
      exact ⟨by simp [lenG, hl], v, xr, rfl, Sim.tg t S r1 h1 fun σ' S' w' => (Sim.tgs ts S' r2 h2 fun σ'' S'' w'' => k σ'' S'' fun vs hv => by
        simp only [tgsIn, Bool.and_eq_true] at hv
        rw [w'' vs hv.2, w' vs hv.1]).2⟩
end
end
/-! ### what is walked -/
/-- a walk hands out these, one after another -/
def Wk (T : Tbl) (G : Hp) (ds : List D) (J : L2.It) : Prop :=
  (∀ i H0 H d, Ext G H0 → Ext H0 H → ds[i]? = some d → J.go i H ∧ ∀ x H', J.yld i H x H' → ∃ H0', Gr T H0 H H0' H' ∧ Rep T H0' d x) ∧ ∀ i H, Ext G H → ds.length ≤ i → J.stop i H
def tItr (C : Ctx) (W : WX) (cl : CallF) (it : It) : TI := fun σ H R => ∃ H0 env, Sim C σ H0 H env ∧ RQ C W σ (fun (ds : List D) _ H0' H' => ∀ J, Wk C.T H0' ds J → R J H') H0 (itD cl it env)
theorem wk_list {T : Tbl} {G : Hp} {ds : List D} {xs : List V} {a : Addr} (hs : SqL T.K G a xs) (hr : RepAll T G ds xs) : Wk T G ds (Itl T.K a) :=
  ⟨fun i H0 H d e0 e hd => by
    obtain ⟨v, hv, r⟩ := hr.get hd
    exact ⟨⟨xs, v, (e0.tr e).sqL hs, hv⟩, fun x H' ⟨hH, hx⟩ => by
      subst hH
      have := hx xs ((e0.tr e).sqL hs)
      rw [hv] at this; cases this
      exact ⟨H0, Gr.rfl' e, Rep.mono e0 _ _ r⟩⟩, fun i H e hi => ⟨xs, e.sqL hs, by rw [hr.len]; exact hi⟩⟩
theorem wk_tup {T : Tbl} {G : Hp} {ds : List D} {xs : List V} {a : Addr} (hs : SqT T.K G a xs) (hr : RepAll T G ds xs) : Wk T G ds (Itt T.K a) :=
  ⟨fun i H0 H d e0 e hd => by
    obtain ⟨v, hv, r⟩ := hr.get hd
    exact ⟨⟨xs, v, (e0.tr e).sqT hs, hv⟩, fun x H' ⟨hH, hx⟩ => by
      subst hH
      have := hx xs ((e0.tr e).sqT hs)
      rw [hv] at this; cases this
      exact ⟨H0, Gr.rfl' e, Rep.mono e0 _ _ r⟩⟩, fun i H e hi => ⟨xs, e.sqT hs, by rw [hr.len]; exact hi⟩⟩
section
variable {X : Cx} {C : Ctx} {W : WX} {cl : CallF} {tg l e a b : Expr} {es : List Expr} {l' e' a' b' : Ex} {pos : Pos}
theorem i_seq (hK : X.K = C.T.K) (h : PE X l (tI C W cl l')) : PI X tg l (tItr C W cl (.seq l')) := ⟨fun pins s σ H R I ⟨H0, env, S, q⟩ => by
  cases z : ev cl l' env with
  | bad => simp only [itD, z] at q; exact q.elim
  | exc x env1 => exact (pi_list h).run pins s σ H R I ⟨H0, env, S, by simp only [itD, z] at q ⊢; exact q⟩
  | ok u env1 =>
    simp only [itD, z, PP.R.bind_ok] at q
    obtain ⟨⟨d, env2⟩, hf, q⟩ := q.orB
    obtain ⟨xs, hx, q⟩ := q.orB
    have key : ∀ (Q : VK), (∀ H2 H1' v, Ext H0 H2 → Sim C σ H2 H1' env2 → Rep C.T H2 d v → Q v H1') → tI C W cl l' σ H Q := fun Q hQ => ⟨H0, env, S, by
      rw [z]
      intro H1 H1' e1 S1 v u1
      obtain ⟨H2, e2, S2, r2⟩ := S1.take u1 hf
      exact hQ H2 H1' v (e1.tr e2) S2 r2⟩
    cases d with
    | lst ds =>
      cases hx
      exact (pi_list h).run pins s σ H R I (key _ fun H2 H1' v e S2 r => by
        simp only [Rep] at r
        obtain ⟨a, xs, rfl, r1, r2⟩ := r
        exact ⟨a, rfl, ⟨xs, .inl (S2.ex.rd r1)⟩, hK ▸ (q H2 H1' e S2) _ (wk_list (.inl r1) r2)⟩)
    | kst ds =>
      cases hx
      exact (pi_list h).run pins s σ H R I (key _ fun H2 H1' v e S2 r => by
        simp only [Rep] at r
        obtain ⟨a, xs, rfl, r1, r2⟩ := r
        exact ⟨a, rfl, ⟨xs, hK ▸ S2.ex.sqL r1⟩, hK ▸ (q H2 H1' e S2) _ (wk_list r1 r2)⟩)
    | tup ds =>
      cases hx
      exact (pi_tup h).run pins s σ H R I (key _ fun H2 H1' v e S2 r => by
        simp only [Rep] at r
        obtain ⟨a, xs, rfl, r1, r2⟩ := r
        exact ⟨a, rfl, ⟨xs, hK ▸ S2.ex.sqT r1⟩, hK ▸ (q H2 H1' e S2) _ (wk_tup r1 r2)⟩)
    | _ => simp [itemsD] at hx⟩
theorem wk_rng {T : Tbl} {G : Hp} {m : Int} {n : Nat} : Wk T G ((List.range n).map fun (k : Nat) => D.int (m + k)) (Itr m n) :=
  ⟨fun i H0 H d e0 e hd => (by
    rw [List.getElem?_map] at hd
    by_cases hi : i < n
    · rw [List.getElem?_range hi] at hd
      cases hd
      exact ⟨hi, fun x H' ⟨hH, hx⟩ => ⟨H0, by subst hH; exact Gr.rfl' e, by rw [hx]; exact r_int _ _ _⟩⟩
    · rw [List.getElem?_eq_none (by simpa using hi)] at hd
      cases hd), fun i H e hi => (by simpa using hi : n ≤ i)⟩
theorem two_it {σ : L2.St} {H : Hp} {Q : List V → Hp → Prop} {H0 : Hp} {env : Env} {f : Int → Int → List D} {K : List D → Env → Hp → Hp → Prop} (S : Sim C σ H0 H env)
    (q : RQ C W σ K H0 ((ev cl a' env).bind fun u env1 => (ev cl b' env1).bind fun w env2 => orBad (rdU env2 (pend u)) fun x => orBad (rdU env2 w) fun y => match x, y with
      | .int m, .int n => if b40 m && b40 n then .ok (f m n) env2 else .bad
      | _, _ => .bad)) (hQ : ∀ m n env2 H2 H2', Ext H0 H2 → Sim C σ H2 H2' env2 → -(2 ^ 40) ≤ m → m < 2 ^ 40 → -(2 ^ 40) ≤ n → n < 2 ^ 40 → K (f m n) env2 H2 H2' → Q [.int m, .int n] H2') :
    tCons (tI C W cl a') (tCons (tI C W cl b') tNil) σ H Q := by
  refine seqI S q fun u env1 x H1 H1' e1 S1 u1 q1 => ?_
  obtain ⟨H1f, e1f, S1f, u1f⟩ := S1.pend u1
  refine seqI S1f (RQ.mono e1f q1) fun w env2 y H2 H2' e2 S2 u2 q2 => ?_
  obtain ⟨dx, hx, q3⟩ := q2.orB
  obtain ⟨dy, hy, q4⟩ := q3.orB
  clear q q1 q2 q3
  split at q4
  · rename_i m n
    split at q4
    · rename_i hb
      simp only [b40, Bool.and_eq_true, decide_eq_true_eq] at hb
      cases rd_int (S2.rd (u1f.wait e2) hx)
      cases rd_int (S2.rd u2 hy)
      exact hQ m n env2 H2 H2' ((e1.tr e1f).tr e2) S2 hb.1.1 hb.1.2 hb.2.1 hb.2.2 (q4 H2 H2' (Ext.rfl' _) S2)
    · exact q4.elim
  · exact q4.elim
theorem piI {it : Expr} {t t' : TI} (h : PI X tg it t) (i : ∀ σ H R, t' σ H R → t σ H R) : PI X tg it t' := ⟨fun pins s σ H R I q => h.run pins s σ H R I (i σ H R q)⟩
theorem i_rng2 {p : Pos} (hg : Gl X "range") (hm : X.mg "range" = none) (ha : PE X a (tI C W cl a')) (hb : PE X b (tI C W cl b')) (he : starEach [a, b] X.env = (false, eval a X.env) :: starEach [b] X.env := by rfl) (he2 : starEach [b] X.env = (false, eval b X.env) :: starEach [] X.env := by rfl)
    (hs : starEach [a, b] X.env = [(false, eval a X.env), (false, eval b X.env)] := by rfl) (hs2 : starEach [b] X.env = [(false, eval b X.env)] := by rfl) : PI X tg (.Call (.Name "range" p) [a, b] [] pos) (tItr C W cl (.rng a' b')) :=
  piI (pi_range2 hg hm (pa_cons ha (pa_cons hb pa_nil he2) he) hs hs2) fun σ H R ⟨H0, env, S, q⟩ => by
    simp only [itD] at q
    exact two_it S q fun m n env2 H2 H2' e S2 h1 h2 h3 h4 k => ⟨m, n, rfl, ⟨by omega, by omega, by omega, by omega⟩, k _ wk_rng⟩
theorem i_rng1 {p : Pos} (hg : Gl X "range") (hm : X.mg "range" = none) (hb : PE X b (tI C W cl b')) (he2 : starEach [b] X.env = (false, eval b X.env) :: starEach [] X.env := by rfl) (hs : starEach [b] X.env = [(false, eval b X.env)] := by rfl) :
    PI X tg (.Call (.Name "range" p) [b] [] pos) (tItr C W cl (.rng (.cst (.int 0)) b')) :=
  piI (pi_range1 hg hm (pa_cons hb pa_nil he2) hs) fun σ H R ⟨H0, env, S, q⟩ => by
    simp only [itD, ev, PP.R.bind_ok] at q
    refine seqI S q fun w env2 y H2 H2' e2 S2 u2 q2 => ?_
    obtain ⟨dx, hx, q2⟩ := q2.orB
    obtain ⟨dy, hy, q2⟩ := q2.orB
    have hx' : D.int 0 = dx := by simpa [pend, rdU] using hx
    subst hx'
    split at q2
    · rename_i m n hh
      cases hh
      split at q2
      · rename_i hb
        simp only [b40, Bool.and_eq_true, decide_eq_true_eq] at hb
        cases rd_int (S2.rd u2 hy)
        refine ⟨n, rfl, by omega, by omega, ?_⟩
        have k := q2 H2 H2' (Ext.rfl' _) S2
        have e : (n - 0).toNat = n.toNat := by rw [Int.sub_zero]
        rw [e] at k
        exact k _ wk_rng
      · exact q2.elim
    · exact q2.elim
theorem wk_down {T : Tbl} {G : Hp} {m : Int} {n : Nat} : Wk T G ((List.range n).map fun (k : Nat) => D.int (m - k)) (Itc m (-1) n) :=
  ⟨fun i H0 H d e0 e hd => (by
    rw [List.getElem?_map] at hd
    by_cases hi : i < n
    · rw [List.getElem?_range hi] at hd
      cases hd
      refine ⟨hi, fun x H' ⟨hH, hx⟩ => ⟨H0, by subst hH; exact Gr.rfl' e, ?_⟩⟩
      rw [hx, show m + ((i : Nat) : Int) * -1 = m - (i : Nat) by omega]
      exact r_int _ _ _
    · rw [List.getElem?_eq_none (by simpa using hi)] at hd
      cases hd), fun i H e hi => (by simpa using hi : n ≤ i)⟩
theorem i_down {p : Pos} {c : Expr} (hg : Gl X "range") (hm : X.mg "range" = none) (ha : PE X a (tI C W cl a')) (hb : PE X b (tI C W cl b')) (hc : PE X c (tC (.int (-1)))) (he : starEach [a, b, c] X.env = (false, eval a X.env) :: starEach [b, c] X.env := by rfl)
    (he1 : starEach [b, c] X.env = (false, eval b X.env) :: starEach [c] X.env := by rfl) (he2 : starEach [c] X.env = (false, eval c X.env) :: starEach [] X.env := by rfl) (hpl : (backTo pos (starEach [b, c] X.env)).any (·.1) = false := by rfl) :
    PI X tg (.Call (.Name "range" p) [a, b, c] [] pos) (tItr C W cl (.down a' b')) :=
  piI (pi_range3 hg hm (pa_cons ha (pa_cons hb (pa_cons hc pa_nil he2) he1) he) he hpl) fun σ H R ⟨H0, env, S, q⟩ => by
    simp only [itD] at q
    have := two_it (Q := fun vs H' => ∃ (i j c : Int) (n : Nat), vs ++ [V.int (-1)] = [.int i, .int j, .int c] ∧ RgC i j c n ∧ R (Itc i c n) H') S q fun m n env2 H2 H2' e S2 h1 h2 h3 h4 k =>
      ⟨m, n, -1, (m - n).toNat, rfl, RgC.neg (by omega) (by omega) (by omega) (by omega), k _ wk_down⟩
    exact this
theorem pe_neg1 {p1 p2 : Pos} {j : Nat} : PE X (.UnaryOp .USub (.Constant (.int 1) j p1) p2) (tC (.int (-1))) := peI (pe_un un_neg pe_int) fun σ H Q q => ⟨1, rfl, q⟩
theorem i_str (h : PE X l (tI C W cl l')) : PI X tg l (tItr C W cl (.str l')) :=
  piI (pi_str h) fun σ H R ⟨H0, env, S, q⟩ => by
    simp only [itD] at q
    refine seqI S q fun u env1 x H1 H1' e1 S1 u1 q1 => ?_
    obtain ⟨d, hd, q1⟩ := q1.orB
    split at q1
    · rename_i z
      cases rd_str (S1.rd u1 hd)
      refine ⟨z, rfl, q1 H1 H1' (Ext.rfl' _) S1 _ ⟨fun i H0 H d e0 e hd => ?_, fun i H e hi => (by simpa using hi : z.cps.size ≤ i)⟩⟩
      rw [List.getElem?_map] at hd
      cases hc : z.cps.toList[i]? with
      | none => rw [hc] at hd; cases hd
      | some c =>
        rw [hc] at hd
        cases hd
        have hi : i < z.cps.size := by simpa using (List.getElem?_eq_some_iff.mp hc).1
        refine ⟨hi, fun x H' ⟨hH, c', hc', hx⟩ => ⟨H0, by subst hH; exact Gr.rfl' e, ?_⟩⟩
        have : c' = c := by
          have z1 : z.cps.toList[i]? = some c' := by rw [Array.getElem?_toList]; exact hc'
          rw [hc] at z1; exact (Option.some.inj z1).symm
        subst this
        rw [hx]
        exact r_str _ _ _
    · exact q1.elim
end
/-! ### for, any target -/
section
variable {X : Cx} {C : Ctx} {W : WX} {cl : CallF} {st : Stmt}
def forGv (C : Ctx) (W : WX) (E : Ends) (G : Hp) (body : Env → R Fl) (tg : Tg) (items : List D) : Nat → L2.St → Hp → Prop := fun i σ H => i ≤ items.length ∧ ∃ H0 env, Ext G H0 ∧ Sim C σ H0 H env ∧ RS C W E H0 (forG body tg (items.drop i) env)
theorem s_fort {it' : It} {b : Ss} {tg : Tg} (hK : X.K = C.T.K) (h : PS X st (tFor (tItr C W cl it') (rTg X.K tg) (tSs C W cl b))) : PS X st (tS C W cl (.fort tg it' b)) := psI h fun E σ H ⟨H0, env, S, q⟩ => by
  simp only [ex] at q
  refine ⟨H0, env, S, ?_⟩
  cases z : itD cl it' env with
  | bad => rw [z] at q; exact q.elim
  | exc x env1 => rw [z] at q; exact fun cls d H0' H' e s x => q σ cls d H0' H' e s x
  | ok ds env1 =>
    rw [z] at q
    simp only [R.bind_ok] at q
    intro G G' e0 S1 J wk
    refine ⟨fun i m σ H => m = ds.length - i ∧ forGv C W E G (exs cl b) tg ds i σ H, ⟨ds.length, by simp, Nat.zero_le _, G, env1, Ext.rfl' _, S1, RS.mono e0 q⟩, ?_⟩
    rintro i m σ H ⟨rfl, hi, H1, env2, e1, S2, q2⟩
    by_cases hlt : i < ds.length
    · have hd : ds[i]? = some ds[i] := List.getElem?_eq_getElem hlt
      obtain ⟨g1, g2⟩ := wk.1 i H1 H _ e1 S2.ex hd
      refine .inr ⟨g1, forGv C W E G (exs cl b) tg ds (i + 1), fun σ' H' p => ⟨ds.length - (i + 1), by omega, rfl, p⟩, fun x H' hy => ?_⟩
      obtain ⟨H2, gr, rx⟩ := g2 x H' hy
      have S3 := S2.gr gr
      rw [List.drop_eq_getElem_cons hlt] at q2
      simp only [forG] at q2
      obtain ⟨env3, hst, q3⟩ := q2.orB
      rw [hK]
      refine Sim.tg tg S3 rx hst fun σ' S' _ => ?_
      refine ⟨H2, env3, S', ?_⟩
      have e2 := e1.tr gr.e0
      cases z : exs cl b env3 with
      | bad => rw [z] at q3; exact q3
      | exc x env4 => rw [z] at q3; exact RS.mono gr.e0 q3
      | ok fl env4 =>
        rw [z] at q3
        have q3 := RS.mono gr.e0 q3
        cases fl with
        | next => exact fun σ' H0' H' e' S' => ⟨hlt, H0', env4, e2.tr e', S', RS.mono e' q3⟩
        | cont => exact fun σ' H0' H' e' S' => ⟨hlt, H0', env4, e2.tr e', S', RS.mono e' q3⟩
        | brk => exact q3
        | ret u => exact q3
    · have hge : ds.length ≤ i := by omega
      refine .inl ⟨wk.2 i H (e1.tr S2.ex) hge, ?_⟩
      rw [List.drop_eq_nil_of_le hge] at q2
      exact q2 σ H1 H (Ext.rfl' _) S2
end
end PP
end

section
set_option maxHeartbeats 1000000
/-! List comprehensions. -/
namespace PP
open PySem PySem.Spec PyProof.Rows L2
/-- the context, a new list at D being filled -/
def Ctx.fill (C : Ctx) (D : Addr) (xs : List V) : Ctx := ⟨C.T, C.H0e, upd C.He D (.lst xs), C.ioAt, C.fa⟩
section
variable {C : Ctx} {σ : L2.St} {H0 H : Hp} {env : Env} {D : Addr} {xs ys : List V}
theorem sl_fill (hD : C.He D = none) (hio : ¬ C.io D) {i : Nat} {o : Option (Option V)} {s : Sl} : SlOk (C.fill D xs) H0 H i o s ↔ SlOk C H0 H i o s ∧ (ownS s = true → o ≠ some (some (.ref D))) := by
  cases s with
  | un => exact ⟨fun h => ⟨h, fun z => by cases z⟩, fun h => h.1⟩
  | fn => exact ⟨fun h => ⟨h, fun z => by cases z⟩, fun h => h.1⟩
  | fz d => exact ⟨fun h => ⟨h, fun z => by cases z⟩, fun h => h.1⟩
  | ow d =>
    constructor
    · rintro ⟨a, h1, h2, h3⟩
      have ne : a ≠ D := fun z => by subst z; rw [show (C.fill a xs).He a = some (.lst xs) from upd_same] at h2; cases h2
      refine ⟨⟨a, h1, ?_, h3⟩, fun _ z => ?_⟩
      · rw [← h2]; exact (upd_ne ne).symm
      · rw [h1] at z; cases z; exact ne rfl
    · rintro ⟨⟨a, h1, h2, h3⟩, h4⟩
      have ne : a ≠ D := fun z => h4 rfl (by rw [h1, z])
      exact ⟨a, h1, (upd_ne ne).trans h2, h3⟩
  | io d =>
    constructor
    · rintro ⟨a, h1, h2, h3⟩
      refine ⟨⟨a, h1, h2, h3⟩, fun _ z => ?_⟩
      rw [h1] at z; cases z
      exact hio (List.mem_of_getElem? h2)
    · exact fun h => h.1
/-- the new list is made -/
theorem Sim.fill0 (S : Sim C σ H0 H env) (hD : H D = none) : Sim (C.fill D []) σ H0 (upd H D (.lst [])) env := by
  have he : C.He D = none := S.he hD
  have hio : ¬ C.io D := fun z => S.ioH D z hD
  have h0e : C.H0e D = none := (S.ex0.tr S.ex).no hD
  refine { tabs := (ext_upd hD).tabs S.tabs, tno := S.tno, ok := ⟨fun a ha => ?_, fun a o h => ?_⟩, ex := S.ex.tr (ext_upd hD), ex0 := S.ex0, fresh := fun a h h' => ?_, keep := fun a o h z => ?_, ioH := fun a h => ?_, len := S.len, slots := fun i => ?_, inj := S.inj }
  · obtain ⟨h1, h2⟩ := S.ok.ioNo a ha
    refine ⟨h1, fun z => h2 ?_⟩
    have ne : a ≠ D := fun w => hio (w ▸ ha)
    exact (upd_ne ne).symm.trans z
  · have ne : a ≠ D := ne_of_none h h0e
    exact (upd_ne ne).trans (S.ok.ex _ _ h)
  · have ne : a ≠ D := fun w => by subst w; exact h' (S.ex.no hD)
    exact (upd_ne ne).trans (S.fresh a h h')
  · by_cases ne : a = D
    · subst ne
      rw [show (C.fill a []).He a = some (.lst []) from upd_same] at h
      cases h; exact .inl upd_same
    · rw [upd_ne ne]
      exact S.keep a o ((upd_ne ne).symm.trans h) z
  · have ne : a ≠ D := fun w => hio (w ▸ h)
    rw [upd_ne ne]; exact S.ioH a h
  · refine (sl_fill he hio).mpr ⟨(S.slots i).step (Ext.rfl' _) fun a ha e => ⟨(S.own ha e).1, upd_ne (fun w => by
      obtain ⟨_, o, z⟩ := S.own ha e
      rw [w, hD] at z; cases z)⟩, fun ha e => ?_⟩
    obtain ⟨_, o, z⟩ := S.own ha e
    rw [hD] at z; cases z
theorem Sim.fillAt (S : Sim (C.fill D xs) σ H0 H env) (hio : ¬ C.io D) : H D = some (.lst xs) := (S.keep D _ upd_same hio).at nofun
theorem Sim.fillNo (S : Sim (C.fill D xs) σ H0 H env) (h0e : C.H0e D = none) : H0 D = none := by
  cases z : H0 D with
  | none => rfl
  | some o =>
    have := S.fresh D h0e (by rw [z]; exact nofun)
    rw [show (C.fill D xs).He D = some (.lst xs) from upd_same] at this
    cases this
/-- it grows -/
theorem Sim.fill (S : Sim (C.fill D xs) σ H0 H env) (he : C.He D = none) (hio : ¬ C.io D) (h0e : C.H0e D = none) : Sim (C.fill D ys) σ H0 (upd H D (.lst ys)) env := by
  have hn := S.fillNo h0e
  have own : ∀ i, ownS (getS env i) = true → σ[i]? ≠ some (some (.ref D)) := fun i hi => ((sl_fill he hio).mp (S.slots i)).2 hi
  refine { tabs := tabs_upd (S.fillAt hio) nofun nofun S.tabs, tno := S.tno, ok := ⟨fun a ha => ?_, fun a o h => ?_⟩, ex := fun a o h => ?_, ex0 := S.ex0, fresh := fun a h h' => ?_, keep := fun a o h z => ?_, ioH := fun a h => ?_, len := S.len, slots := fun i => ?_, inj := S.inj }
  · obtain ⟨h1, h2⟩ := S.ok.ioNo a ha
    have ne : a ≠ D := fun w => hio (w ▸ ha)
    exact ⟨h1, fun z => h2 ((upd_ne ne).trans ((upd_ne ne).symm.trans z))⟩
  · have ne : a ≠ D := ne_of_none h h0e
    exact (upd_ne ne).trans ((upd_ne ne).symm.trans (S.ok.ex _ _ h))
  · rw [upd_ne (ne_of_none h hn)]; exact S.ex _ _ h
  · have ne : a ≠ D := fun w => by subst w; exact h' hn
    exact (upd_ne ne).trans ((upd_ne ne).symm.trans (S.fresh a h h'))
  · by_cases ne : a = D
    · subst ne
      rw [show (C.fill a ys).He a = some (.lst ys) from upd_same] at h
      cases h; exact .inl upd_same
    · rw [upd_ne ne]
      exact S.keep a o ((upd_ne ne).trans ((upd_ne ne).symm.trans h)) z
  · have ne : a ≠ D := fun w => hio (w ▸ h)
    rw [upd_ne ne]; exact S.ioH a h
  · refine (sl_fill he hio).mpr ⟨((sl_fill he hio).mp (S.slots i)).1.step (Ext.rfl' _) fun a ha e => ⟨(S.own ha e).1, upd_ne (fun w => own i ha (by rw [e, w]))⟩, own i⟩
/-- behind the comprehension -/
theorem Sim.fillBack {G G' : Hp} {env1 : Env} {vs : List Nat} (S : Sim (C.fill D xs) (L2.wipe σ vs) H0 H (wipeE env vs)) (S1 : Sim C σ G G' env1) (e : Ext G H0) (hD : G' D = none) (hc : (vs.all fun i => calmS (getS env1 i)) = true) : Sim C σ H0 H (backE env1 env vs) := by
  have he : C.He D = none := S1.he hD
  have hio : ¬ C.io D := fun z => S1.ioH D z hD
  have calm : ∀ i ∈ vs, ownS (getS env1 i) = false := fun i hi => by
    have := (List.all_eq_true.mp hc) i hi
    cases z : getS env1 i <;> simp_all [calmS, ownS]
  have hlen : env.length = σ.length := by have := S.len; rw [len_wipe, wipe_length] at this; exact this
  have notin : ∀ i, ownS (getS (backE env1 env vs) i) = true → i ∉ vs ∧ ownS (getS (wipeE env vs) i) = true ∧ (L2.wipe σ vs)[i]? = σ[i]? := fun i hi => by
    rw [getS_back] at hi
    by_cases h : i ∈ vs
    · by_cases hl : i < env.length
      · simp only [h, hl, and_self, if_true] at hi; rw [calm i h] at hi; cases hi
      · have z : getS env i = .un := by unfold getS; rw [List.getD_eq_getElem?_getD, List.getElem?_eq_none (by omega)]; rfl
        simp only [h, hl, and_false, if_false, z] at hi; cases hi
    · simp only [h, false_and, if_false] at hi
      exact ⟨h, by rw [getS_wipe]; simpa [h] using hi, by rw [wipe_get]; simp [h]⟩
  refine { tabs := S.tabs, tno := S.tno, ok := S1.ok, ex := S.ex, ex0 := S.ex0, fresh := fun a h h' => ?_, keep := fun a o h z => ?_, ioH := S.ioH, len := by rw [len_back]; exact hlen, slots := fun i => ?_, inj := fun i j a hij hi hj ei ej => ?_ }
  · have := S.fresh a h h'
    by_cases ne : a = D
    · subst ne; exact he
    · exact (upd_ne ne).symm.trans this
  · have ne : a ≠ D := ne_of_none h he
    exact S.keep a o ((upd_ne ne).trans h) z
  · rw [getS_back]
    by_cases h : i ∈ vs
    · by_cases hl : i < env.length
      · simp only [h, hl, and_self, if_true]
        have q := S1.slots i
        have cz := (List.all_eq_true.mp hc) i h
        cases z : getS env1 i with
        | un => trivial
        | fn => rw [z] at cz; cases cz
        | fz d => rw [z] at q; obtain ⟨v, q1, q2⟩ := q; exact ⟨v, q1, Rep.mono e _ _ q2⟩
        | ow d => rw [z] at cz; cases cz
        | io d => rw [z] at cz; cases cz
      · have z : getS env i = .un := by unfold getS; rw [List.getD_eq_getElem?_getD, List.getElem?_eq_none (by omega)]; rfl
        simp only [h, hl, and_false, if_false, z]; trivial
    · simp only [h, false_and, if_false]
      have q := ((sl_fill he hio).mp (S.slots i)).1
      rw [getS_wipe, wipe_get] at q
      simpa [h] using q
  · obtain ⟨h1, h2, h3⟩ := notin i hi
    obtain ⟨h4, h5, h6⟩ := notin j hj
    exact S.inj i j a hij h2 h5 (h3.trans ei) (h6.trans ej)
end
abbrev W0 : WX := fun _ _ _ _ => False
def tElt (T : Tbl) (cl : CallF) (e : Ex) : TE := fun σ H Q => ∃ (h0 he : Hp) (io : List (Option Addr)) (fa : Addr), tI ⟨T, h0, he, io, fa⟩ W0 cl e σ H Q
def tTst (T : Tbl) (cl : CallF) (hc : Bool) (e : Ex) : TT := fun σ H Q => match hc with
  | true => ∃ (h0 he : Hp) (io : List (Option Addr)) (fa : Addr), tT ⟨T, h0, he, io, fa⟩ W0 cl e σ H Q
  | false => Q true H
section
variable {X : Cx} {C : Ctx} {W : WX} {cl : CallF}
theorem pe_elt {T : Tbl} {elt : Expr} {e' : Ex} (h : ∀ (h0 he : Hp) (io : List (Option Addr)) (fa : Addr), PE X elt (tI ⟨T, h0, he, io, fa⟩ W0 cl e')) : PE X elt (tElt T cl e') := ⟨fun pins s σ H Q I ⟨h0, he, io, fa, q⟩ => (h h0 he io fa).run pins s σ H Q I q⟩
theorem pt_tst {T : Tbl} {c : Expr} {e' : Ex} (h : ∀ (h0 he : Hp) (io : List (Option Addr)) (fa : Addr), PT X c (tT ⟨T, h0, he, io, fa⟩ W0 cl e')) : PTs X [c] (tTst T cl true e') := pts_one ⟨fun pins s σ H Q I ⟨h0, he, io, fa, q⟩ => (h h0 he io fa).run pins s σ H Q I q⟩
theorem pt_tst0 {T : Tbl} {e' : Ex} : PTs X [] (tTst T cl false e') := pts_nil
theorem takesW0 {X : Cx} : Takes X W0 := fun u s' ⟨a, B, sI, pins, σ, H, cls, d, e, I, nb, up, sky, na, os, ag, w⟩ => w.elim
theorem lcAll_bad {vs : List Nat} {env1 : Env} {σ : L2.St} {K : U → Env → Hp → Hp → Prop} {H0 : Hp} {r : R (List D)} (h : RQ C W σ K H0 (lcAll vs env1 r)) : (vs.all fun i => calmS (getS env1 i)) = true ∧ ∃ ds env2, r = .ok ds env2 ∧ RQ C W σ K H0 (.ok (.nw (.lst ds)) (backE env1 env2 vs)) := by
  unfold lcAll at h
  split at h
  · exact h.elim
  · rename_i hc
    simp only [Bool.not_eq_true', Bool.not_eq_false] at hc
    split at h
    · rename_i ds env2
      exact ⟨hc, ds, env2, rfl, h⟩
    · exact h.elim
theorem readLc {σ : L2.St} {H : Hp} {Q : VK} {vs : List Nat} {tg : Tg} {it : It} {hc : Bool} {c e : Ex} (hK : X.K = C.T.K) (hv : tgIn vs tg = true) (h : tI C W cl (.lc vs tg it hc c e) σ H Q) :
    tLc (tItr C W cl it) (rTg X.K tg) (tTst C.T cl hc c) (tElt C.T cl e) vs σ H Q := by
  obtain ⟨H0, env, S, q⟩ := h
  simp only [ev] at q
  refine ⟨H0, env, S, ?_⟩
  cases z : itD cl it env with
  | bad => rw [z] at q; exact q.elim
  | exc x env1 => rw [z] at q; exact q
  | ok ds env1 =>
    rw [z] at q
    simp only [R.bind_ok] at q
    intro G G' e0 S1 J wk D hD
    have he : C.He D = none := S1.he hD
    have hio : ¬ C.io D := fun z => S1.ioH D z hD
    have h0e : C.H0e D = none := (S1.ex0.tr S1.ex).no hD
    let P : Nat → Hp → Prop := fun i H => i ≤ ds.length ∧ ∃ H0 env acc xs, Ext G H0 ∧ Sim (C.fill D xs) (wipe σ vs) H0 H (wipeE env vs) ∧ RepAll C.T H0 acc xs ∧
      RQ C W σ (KV C σ Q) H0 (lcAll vs env1 (lcD (lcTurn vs tg hc (ev cl c) (ev cl e)) (ds.drop i) env acc))
    refine ⟨fun i m H => m = ds.length - i ∧ P i H, ⟨ds.length, by simp, Nat.zero_le _, G, env1, [], [], Ext.rfl' _, (S1.fill0 hD).wipe vs, by simp [RepAll], by rw [List.drop_zero]; exact RQ.mono e0 q⟩, ?_⟩
    rintro i m H ⟨rfl, hi, H1, env2, acc, xs, e1, S2, ra, q2⟩
    by_cases hlt : i < ds.length
    · have hd : ds[i]? = some ds[i] := List.getElem?_eq_getElem hlt
      obtain ⟨g1, g2⟩ := wk.1 i H1 H _ e1 S2.ex hd
      refine .inr ⟨g1, P (i + 1), fun H' p => ⟨ds.length - (i + 1), by omega, rfl, p⟩, fun x H' hy => ?_⟩
      obtain ⟨H2, gr, rx⟩ := g2 x H' hy
      have S3 := S2.gr gr
      rw [List.drop_eq_getElem_cons hlt] at q2
      obtain ⟨hcalm, ds', env', hr, q2'⟩ := lcAll_bad q2
      -- the turn's own equation
      cases hst : storeG tg ds[i] (wipeE env2 vs) with
      | none => simp [lcD, lcTurn, hst] at hr
      | some env3 =>
        rw [hK]
        refine Sim.tg (C := C.fill D xs) tg S3 rx hst fun σ2 S4 hw => ⟨by rw [hw vs hv, wipe_wipe], ?_⟩
        have wσ : wipe σ2 vs = wipe σ vs := by rw [hw vs hv, wipe_wipe]
        have r2 : RepAll C.T H2 acc xs := RepAll.mono gr.e0 _ _ ra
        have hturnF : hc = false → lcTurn vs tg hc (ev cl c) (ev cl e) ds[i] env2 = ((ev cl e env3).bind fun u env3 => orBad (fzU env3 u) fun p => .ok (some p.1) p.2) := fun z => by
          subst z
          unfold lcTurn
          rw [hst]
          rfl
        have hturnT : hc = true → lcTurn vs tg hc (ev cl c) (ev cl e) ds[i] env2 = ((ev cl c env3).bind fun u env2 => orBad (rdU env2 u) fun x => orBad (truD x) fun t => match t with
              | true => (ev cl e env2).bind fun u env3 => orBad (fzU env3 u) fun p => .ok (some p.1) p.2
              | false => .ok none env2) := fun z => by
          subst z
          unfold lcTurn
          rw [hst]
          rfl
        -- behind the test: the element
        have elem : ∀ env4 H3 H3', Ext H2 H3 → Sim (C.fill D xs) σ2 H3 H3' env4 → lcTurn vs tg hc (ev cl c) (ev cl e) ds[i] env2 = ((ev cl e env4).bind fun u env3 => orBad (fzU env3 u) fun p => .ok (some p.1) p.2) →
            tElt C.T cl e σ2 H3' fun y H4 => ∃ acc, H4 D = some (.lst acc) ∧ acc.length < sizeLine ∧ P (i + 1) (upd H4 D (.lst (acc ++ [y]))) := by
          intro env4 H3 H3' e3 S5 ht
          unfold lcD at q2 hr
          rw [ht] at q2 hr
          refine ⟨C.H0e, upd C.He D (.lst xs), C.ioAt, C.fa, H3, env4, S5, ?_⟩
          cases zz : ev cl e env4 with
          | bad => rw [zz] at hr; cases hr
          | exc x env5 => rw [zz] at hr; cases hr
          | ok u env5 =>
            rw [zz] at q2 hr
            simp only [R.bind_ok] at q2 hr
            intro H4 H4' e4 S6 v hu
            cases zf : fzU env5 u with
            | none => rw [zf] at hr; cases hr
            | some p =>
              rw [zf] at q2 hr
              simp only [orBad_some] at q2 hr
              obtain ⟨H5, e5, S7, r7⟩ := S6.take hu zf
              by_cases hl : acc.length < LIM
              · rw [if_pos hl] at q2
                refine ⟨xs, S6.fillAt hio, by rw [r2.len]; exact Nat.lt_of_lt_of_le hl lim_line, hlt, H5, p.2, acc ++ [p.1], xs ++ [v], (((e1.tr gr.e0).tr e3).tr e4).tr e5, ?_, ?_, RQ.mono (((gr.e0.tr e3).tr e4).tr e5) q2⟩
                · have := (S7.fill (ys := xs ++ [v]) he hio h0e).wipe vs
                  rw [wσ] at this
                  exact this
                · exact (RepAll.mono ((e3.tr e4).tr e5) _ _ r2).app (by simp only [RepAll]; exact ⟨v, [], rfl, r7, rfl⟩)
              · rw [if_neg hl] at hr; cases hr
        cases hc with
        | false =>
          exact iteT (B := P (i + 1) H') (elem env3 H2 H' (Ext.rfl' _) S4 (hturnF rfl))
        | true =>
          refine ⟨C.H0e, upd C.He D (.lst xs), C.ioAt, C.fa, H2, env3, S4, ?_⟩
          have hturn := hturnT rfl
          have hr' := hr
          unfold lcD at hr'
          rw [hturn] at hr'
          unfold evT
          cases zc : ev cl c env3 with
          | bad => rw [zc] at hr'; cases hr'
          | exc x env5 => rw [zc] at hr'; cases hr'
          | ok u env5 =>
            rw [zc] at hr' hturn
            simp only [R.bind_ok] at hr' hturn ⊢
            cases zr : rdU env5 u with
            | none => rw [zr] at hr'; cases hr'
            | some d =>
              rw [zr] at hr' hturn
              simp only [orBad_some] at hr' hturn ⊢
              cases zt : truD d with
              | none => rw [zt] at hr'; cases hr'
              | some t =>
                rw [zt] at hr' hturn
                simp only [orBad_some] at hr' hturn ⊢
                intro H3 H3' e3 S5
                cases t with
                | true =>
                  rw [if_pos rfl]
                  exact elem env5 H3 H3' e3 S5 hturn
                | false =>
                  rw [if_neg Bool.false_ne_true]
                  have q3 := q2
                  unfold lcD at q3
                  rw [hturn] at q3
                  refine ⟨hlt, H3, env5, acc, xs, (e1.tr gr.e0).tr e3, ?_, RepAll.mono e3 _ _ r2, RQ.mono (gr.e0.tr e3) q3⟩
                  have := S5.wipe vs
                  rw [wσ] at this
                  exact this
    · have hge : ds.length ≤ i := by omega
      refine .inl ⟨wk.2 i H (e1.tr S2.ex) hge, ?_⟩
      rw [List.drop_eq_nil_of_le hge] at q2
      obtain ⟨hcalm, ds', env', hr, q3⟩ := lcAll_bad q2
      cases hr
      have S5 := S2.fillBack S1 e1 hD hcalm
      refine q3 H1 H (Ext.rfl' _) S5 (.ref D) ?_
      show RepN _ _ _ _ _ _ _
      unfold RepN
      rw [if_pos (show isMutD (PP.D.lst acc) = true from rfl)]
      refine ⟨D, rfl, he, ⟨D, xs, rfl, S2.fillNo h0e, S2.fillAt hio, ra⟩, fun j hj ej => ?_⟩
      rw [getS_back] at hj
      by_cases h : j ∈ vs
      · by_cases hl : j < env2.length
        · simp only [h, hl, and_self, if_true] at hj
          have cz := (List.all_eq_true.mp hcalm) j h
          cases z : getS env1 j <;> rw [z] at hj cz <;> first | (cases hj; done) | (cases cz; done)
        · have z : getS env2 j = .un := by unfold getS; rw [List.getD_eq_getElem?_getD, List.getElem?_eq_none (by omega)]; rfl
          simp only [h, hl, and_false, if_false, z] at hj; cases hj
      · simp only [h, false_and, if_false] at hj
        have q := ((sl_fill he hio).mp (S2.slots j)).2 (by rw [getS_wipe]; simpa [h] using hj)
        rw [wipe_get] at q
        simp only [h, if_false] at q
        exact q ej
theorem c_lc {elt tg iter : Expr} {ifs : List Expr} {scope : Scope} {own : List (Str × Nat)} {pos : Pos} {vs : List Nat} {tg' : Tg} {it' : It} {hc : Bool} {c' e' : Ex} (hK : X.K = C.T.K) (hcalm : X.calm = true) (hN : X.N.Nodup) (hi : PI X tg iter (tItr C W cl it')) (ok : BlkOk X.N X.env.scope scope own)
    (hg : ∀ (s : Shared) (H : Hp) (C : Addr) (cl : List (Str × Addr)) (fp : List Addr), PG (X.blk s H scope (compEnvC scope cl C X.env) fp) tg (rTg X.K tg'))
    (ht : ∀ (s : Shared) (H : Hp) (Ca : Addr) (ce : List (Str × Addr)) (fp : List Addr), PTs (X.blk s H scope (compEnvC scope ce Ca X.env) fp) ifs (tTst C.T cl hc c'))
    (he : ∀ (s : Shared) (H : Hp) (Ca : Addr) (ce : List (Str × Addr)) (fp : List Addr), PE (X.blk s H scope (compEnvC scope ce Ca X.env) fp) elt (tElt C.T cl e'))
    (hv : tgIn vs tg' = true := by decide) (hvs : own.map (·.2) = vs := by rfl) (hs : ∀ x, foldedSetIterable iter X.env x = pure x := by intro _; rfl) :
    PE X (.ListComp elt [⟨tg, iter, ifs, 0⟩] scope pos) (tI C W cl (.lc vs tg' it' hc c' e')) := by
  subst hvs
  exact peI (pe_lc hcalm hN hi ok hg ht he hs) fun σ H Q q => readLc hK hv q
/-- name = [..] on one line -/
theorem s_asgLc {i : Nat} {y : Str} {py : Pos} {elt tg iter : Expr} {ifs : List Expr} {scope : Scope} {own : List (Str × Nat)} {pos spos : Pos} {vs : List Nat} {tg' : Tg} {it' : It} {hc : Bool} {c' e' : Ex} (hK : X.K = C.T.K) (hcalm : X.calm = true) (hN : X.N.Nodup) (hy : X.N[i]? = some y) (hyl : X.env.scope.names.lookup y = some .local)
    (hsw : swapsWith (.ListComp elt [⟨tg, iter, ifs, 0⟩] scope pos) (some (.Name y py)) spos.line X.env = pure true) (hi : PI X tg iter (tItr C W cl it')) (ok : BlkOk X.N X.env.scope scope own)
    (hg : ∀ (s : Shared) (H : Hp) (C : Addr) (cl : List (Str × Addr)) (fp : List Addr), PG (X.blk s H scope (compEnvC scope cl C X.env) fp) tg (rTg X.K tg'))
    (ht : ∀ (s : Shared) (H : Hp) (Ca : Addr) (ce : List (Str × Addr)) (fp : List Addr), PTs (X.blk s H scope (compEnvC scope ce Ca X.env) fp) ifs (tTst C.T cl hc c'))
    (he : ∀ (s : Shared) (H : Hp) (Ca : Addr) (ce : List (Str × Addr)) (fp : List Addr), PE (X.blk s H scope (compEnvC scope ce Ca X.env) fp) elt (tElt C.T cl e'))
    (hv : tgIn vs tg' = true := by decide) (hvs : own.map (·.2) = vs := by rfl) (hs : ∀ x, foldedSetIterable iter X.env x = pure x := by intro _; rfl) :
    PS X (.Assign [.Name y py] (.ListComp elt [⟨tg, iter, ifs, 0⟩] scope pos) spos) (tS C W cl (.asg i (.lc vs tg' it' hc c' e'))) := by
  subst hvs
  refine psI (ps_setLc hcalm hN hy hyl hsw hi ok hg ht he hs) fun E σ H ⟨H0, env, S, q⟩ => ?_
  simp only [ex] at q
  exact readLc (Q := fun x H1 => gName i x σ H1 E.nx) hK hv (seqE S q fun u env1 v H1 H1' e1 S1 u1 q1 => by
    obtain ⟨env2, ha, q1⟩ := q1.orB
    obtain ⟨H2, e2, S2⟩ := S1.asg u1 ha
    exact q1 _ H2 H1' e2 S2)
end
end PP
end

section
set_option maxHeartbeats 1000000
/-! Texts and lists: built-in functions and methods. -/
namespace PP
open PySem PySem.Spec PyProof.Rows L2
section
variable {X : Cx} {C : Ctx} {W : WX} {cl : CallF} {e a b o : Expr} {es : List Expr} {e' a' b' o' : Ex} {es' : Exs} {pos : Pos}
/-! in, not in -/
theorem dp_lst {T : Tbl} {H0 H : Hp} {ys : List D} {ps : List PyData} {v : V} (hK : X.K = T.K) (e : Ext H0 H) (h : toPyAll ys = some ps) {dy : D} (hy : dy = .lst ys ∨ dy = .kst ys) (r : RdV T H0 H dy v) : Dp X.K H v (.list ps) := by
  rcases hy with rfl | rfl
  · exact dp_rd hK e (by simp only [toPy, h, Option.map_some]) r
  · exact dp_rd hK e (by simp only [toPy, h, Option.map_some]) r
theorem o_in {T : Tbl} (hK : X.K = T.K) (hu : X.A.units + 65 < cLine) : OpR X (compareOp .In) (rD T (op2 .isin)) := orI ((op_inD hu).or op_in_sign) fun x y H Q ⟨H0, dx, dy, d, e, hx, hy, hg, q⟩ => by
  rcases isin_inv hg with ⟨ys, h1, h2⟩ | ⟨u, z, rfl, rfl, h2⟩
  · obtain ⟨p, ps, h3, h4, h5, h6, rfl⟩ := inD_bl h2
    exact .inl ⟨p, ps, dp_rd hK e h3 hx, dp_lst hK e h4 h1 hy, h5, h6, q _ _ _ (Gr.rfl' e) (.flat rfl (r_bl _ _ _))⟩
  · obtain ⟨c, rfl, rfl⟩ := inS_bl h2
    exact .inr ⟨c, z, rd_str hx, rd_str hy, q _ _ _ (Gr.rfl' e) (.flat rfl (r_bl _ _ _))⟩
theorem o_notin {T : Tbl} (hK : X.K = T.K) (hu : X.A.units + 65 < cLine) : OpR X (compareOp .NotIn) (rD T (op2 .notin)) := orI (op_notInD hu) fun x y H Q ⟨H0, dx, dy, d, e, hx, hy, hg, q⟩ => by
  obtain ⟨ys, b, h1, h2, rfl⟩ := notin_inv hg
  obtain ⟨p, ps, h3, h4, h5, h6, hb⟩ := inD_bl h2
  cases hb
  exact ⟨p, ps, dp_rd hK e h3 hx, dp_lst hK e h4 h1 hy, h5, h6, q _ _ _ (Gr.rfl' e) (.flat rfl (r_bl _ _ _))⟩
/-! functions -/
theorem b_tuple (hK : X.K = C.T.K) : CallR X (.type "tuple") (rDn C.T (biD .tuple)) := callI call_tuple_of fun xs H Q ⟨H0, ds, d, e, hr, hg, q⟩ => by
  have lst : ∀ {ys : List D} {a : Addr} {us : List V}, SqL X.K H a us → RepAll C.T H0 ys us → (∀ v H0' H', Gr C.T H0 H H0' H' → RepG C.T H0' H' H (.tup ys) v → Q v H') → SqL X.K H a us ∧ ∀ l, H l = none → Q (.ref l) (upd H l (.tup us)) := fun {ys a us} h1 h2 q =>
    ⟨h1, fun l hl => q _ _ _ (Gr.froz e hl) (.flat rfl (by simp only [Rep]; exact ⟨l, us, rfl, SqT.of upd_same, RepAll.mono (ext_upd (e.no hl)) _ _ h2⟩))⟩
  match ds, hg with
  | [.lst ys], hg =>
    cases hg
    obtain ⟨v, rfl, h1⟩ := rd1 hr
    obtain ⟨a, us, rfl, h2, h3⟩ := rd_lst e h1
    exact ⟨a, us, rfl, .inl (lst (.inl h2) h3 q)⟩
  | [.kst ys], hg =>
    cases hg
    obtain ⟨v, rfl, h1⟩ := rd1 hr
    obtain ⟨a, us, rfl, h2, h3⟩ := rd_kst e h1
    exact ⟨a, us, rfl, .inl (lst (hK ▸ h2) h3 q)⟩
  | [.tup ys], hg =>
    cases hg
    obtain ⟨v, rfl, h1⟩ := rd1 hr
    rcases h1 with h1 | h1
    · have h1' := h1
      simp only [Rep] at h1'
      obtain ⟨a, us, rfl, h2, h3⟩ := h1'
      exact ⟨a, us, rfl, .inr ⟨hK ▸ e.sqT h2, q _ _ _ (Gr.rfl' e) (.flat rfl h1)⟩⟩
    · exact h1.elim
theorem b_str : CallR X (.type "str") (rDn C.T (biD .str)) := callI call_str_int fun xs H Q ⟨H0, ds, d, e, hr, hg, q⟩ => by
  match ds, hg with
  | [.int i], hg =>
    simp only [biD] at hg
    split at hg
    · rename_i hl
      cases hg
      obtain ⟨v, rfl, h1⟩ := rd1 hr
      cases rd_int h1
      exact ⟨i, rfl, of_decide_eq_true hl, q _ _ _ (Gr.rfl' e) (.flat rfl (r_str _ _ _))⟩
    · cases hg
theorem bls_of {T : Tbl} {H : Hp} : ∀ {ds : List D} {bs : List Bool} {vs : List V}, blsD ds = some bs → RepAll T H ds vs → vs = bs.map V.bl
  | [], bs, vs, h, r => by cases h; simp only [RepAll] at r; subst r; rfl
  | d :: ds, bs, vs, h, r => by
    cases d with
    | bl c =>
      simp only [blsD, Option.map_eq_some_iff] at h
      obtain ⟨cs, h1, rfl⟩ := h
      simp only [RepAll, Rep] at r
      obtain ⟨v, r', rfl, rfl, r2⟩ := r
      rw [bls_of h1 r2]; rfl
    | _ => cases h
theorem ints_of {T : Tbl} {H : Hp} : ∀ {ds : List D} {bs : List Int} {vs : List V}, intsD ds = some bs → RepAll T H ds vs → vs = bs.map V.int
  | [], bs, vs, h, r => by cases h; simp only [RepAll] at r; subst r; rfl
  | d :: ds, bs, vs, h, r => by
    cases d with
    | int c =>
      simp only [intsD, Option.map_eq_some_iff] at h
      obtain ⟨cs, h1, rfl⟩ := h
      simp only [RepAll, Rep] at r
      obtain ⟨v, r', rfl, rfl, r2⟩ := r
      rw [ints_of h1 r2]; rfl
    | _ => cases h
theorem strs_of {T : Tbl} {H : Hp} : ∀ {ds : List D} {bs : List Str} {vs : List V}, strsD ds = some bs → RepAll T H ds vs → vs = bs.map V.str
  | [], bs, vs, h, r => by cases h; simp only [RepAll] at r; subst r; rfl
  | d :: ds, bs, vs, h, r => by
    cases d with
    | str c =>
      simp only [strsD, Option.map_eq_some_iff] at h
      obtain ⟨cs, h1, rfl⟩ := h
      simp only [RepAll, Rep] at r
      obtain ⟨v, r', rfl, rfl, r2⟩ := r
      rw [strs_of h1 r2]; rfl
    | _ => cases h
theorem b_all (hc : X.calm = true) : CallR X (.builtin "all") (rDn C.T (biD .all)) := callI (cr_all hc) fun xs H Q ⟨H0, ds, d, e, hr, hg, q⟩ => by
  match ds, hg with
  | [.lst ys], hg =>
    simp only [biD, Option.map_eq_some_iff] at hg
    obtain ⟨bs, hb, rfl⟩ := hg
    obtain ⟨v, rfl, h1⟩ := rd1 hr
    obtain ⟨a, us, rfl, h2, h3⟩ := rd_lst e h1
    exact ⟨a, bs, rfl, .inl (bls_of hb h3 ▸ h2), q _ _ _ (Gr.rfl' e) (.flat rfl (r_bl _ _ _))⟩
theorem b_any (hc : X.calm = true) : CallR X (.builtin "any") (rDn C.T (biD .any)) := callI (cr_any hc) fun xs H Q ⟨H0, ds, d, e, hr, hg, q⟩ => by
  match ds, hg with
  | [.lst ys], hg =>
    simp only [biD, Option.map_eq_some_iff] at hg
    obtain ⟨bs, hb, rfl⟩ := hg
    obtain ⟨v, rfl, h1⟩ := rd1 hr
    obtain ⟨a, us, rfl, h2, h3⟩ := rd_lst e h1
    exact ⟨a, bs, rfl, .inl (bls_of hb h3 ▸ h2), q _ _ _ (Gr.rfl' e) (.flat rfl (r_bl _ _ _))⟩
theorem b_sum (hc : X.calm = true) : CallR X (.builtin "sum") (rDn C.T (biD .sum)) := callI (cr_sum hc) fun xs H Q ⟨H0, ds, d, e, hr, hg, q⟩ => by
  match ds, hg with
  | [.lst ys], hg =>
    simp only [biD, Option.map_eq_some_iff] at hg
    obtain ⟨bs, hb, rfl⟩ := hg
    obtain ⟨v, rfl, h1⟩ := rd1 hr
    obtain ⟨a, us, rfl, h2, h3⟩ := rd_lst e h1
    exact ⟨a, bs, rfl, .inl (ints_of hb h3 ▸ h2), q _ _ _ (Gr.rfl' e) (.flat rfl (r_int _ _ _))⟩
theorem b_maxL (hc : X.calm = true) : CallR X (.builtin "max") (rDn C.T (biD .maxL)) := callI (cr_max hc) fun xs H Q ⟨H0, ds, d, e, hr, hg, q⟩ => by
  match ds, hg with
  | [.lst ys], hg =>
    simp only [biD, Option.bind_eq_some_iff, Option.map_eq_some_iff] at hg
    obtain ⟨bs, hb, m, hm, rfl⟩ := hg
    obtain ⟨v, rfl, h1⟩ := rd1 hr
    obtain ⟨a, us, rfl, h2, h3⟩ := rd_lst e h1
    have hm' := List.max?_eq_some_iff.mp hm
    refine ⟨a, bs, rfl, .inl (ints_of hb h3 ▸ h2), List.length_pos_of_mem hm'.1, fun k hk hk2 => ?_⟩
    have : k = m := Int.le_antisymm (hm'.2 k hk) (hk2 m hm'.1)
    subst this
    exact q _ _ _ (Gr.rfl' e) (.flat rfl (r_int _ _ _))
theorem b_minL (hc : X.calm = true) : CallR X (.builtin "min") (rDn C.T (biD .minL)) := callI (cr_min hc) fun xs H Q ⟨H0, ds, d, e, hr, hg, q⟩ => by
  match ds, hg with
  | [.lst ys], hg =>
    simp only [biD, Option.bind_eq_some_iff, Option.map_eq_some_iff] at hg
    obtain ⟨bs, hb, m, hm, rfl⟩ := hg
    obtain ⟨v, rfl, h1⟩ := rd1 hr
    obtain ⟨a, us, rfl, h2, h3⟩ := rd_lst e h1
    have hm' := List.min?_eq_some_iff.mp hm
    refine ⟨a, bs, rfl, .inl (ints_of hb h3 ▸ h2), List.length_pos_of_mem hm'.1, fun k hk hk2 => ?_⟩
    have : k = m := Int.le_antisymm (hk2 m hm'.1) (hm'.2 k hk)
    subst this
    exact q _ _ _ (Gr.rfl' e) (.flat rfl (r_int _ _ _))
/-! methods -/
def tyB : B → String
  | .index => "list" | _ => "str"
theorem rd_recv {T : Tbl} {H0 H : Hp} {B : B} {d : D} {v : V} {Ty : String} (hK : X.K = T.K) (e : Ext H0 H) (r : RdV T H0 H d v) (h : recvB B d = true) (hT : Ty = tyB B) : tyV X.K Ty v H := by
  subst hT
  cases B <;> cases d <;> first | (cases h; done) | skip
  · cases rd_str r; rfl
  · cases rd_str r; rfl
  · obtain ⟨a, xs, rfl, h1, _⟩ := rd_lst e r; exact .inl ⟨rfl, xs, .inl h1⟩
  · obtain ⟨a, xs, rfl, h1, _⟩ := rd_kst e r; exact .inl ⟨rfl, xs, hK ▸ h1⟩
/-- what a method gives, by the data -/
def rM1 (T : Tbl) (B : B) : V → List V → Hp → VK → Prop := fun x xs H Q => ∃ y, xs = [y] ∧ ∃ H0 dx dy d, Ext H0 H ∧ RdV T H0 H dx x ∧ RdV T H0 H dy y ∧ biD B [dx, dy] = some d ∧ ∀ v H0' H', Gr T H0 H H0' H' → RepG T H0' H' H d v → Q v H'
theorem c_bm {name : Str} {apos : Pos} {id Ty : String} {B : B} (hK : X.K = C.T.K) (pa : PlainAttrs Ty) (slot : Slot Ty name id) (hty : typeOf (.builtin id) = pure (.type "method_descriptor")) (hm : MtR X id (rM1 C.T B)) (hT : Ty = tyB B)
    (ho : PE X o (tI C W cl o')) (he : PE X e (tI C W cl e')) (hbase : attributeBase o name X.env (eval o X.env) = eval o X.env := by rfl)
    (hfew : ((backTo pos (starEach [e] X.env)).all (fun x => !x.1) && (backToKw pos (keywordEach [] X.env)).all (fun x => x.1.isSome)
      && decide (([e] : List Expr).length + ([] : List Keyword).length + (if ([] : List Keyword).isEmpty then 0 else 1) < 30)) = true := by rfl)
    (hline : (apos.endLine == pos.line) = true := by rfl) (hs : starEach [e] X.env = (false, eval e X.env) :: starEach [] X.env := by rfl) (hplain : (backTo pos (starEach [] X.env)).any (·.1) = false := by rfl) :
    PE X (.Call (.Attribute o name apos) [e] [] pos) (tI C W cl (.bm B o' e')) :=
  peI (pe_bm pa slot hty hm ho (pa_cons he pa_nil hs) hbase hfew hline hs hplain) fun σ H Q ⟨H0, env, S, q⟩ => by
    simp only [ev] at q
    refine seqI S q fun u env1 x H1 H1' e1 S1 u1 q1 => ?_
    obtain ⟨d0, hd0, q2⟩ := q1.orB
    split at q2
    · exact q2.elim
    rename_i hrc
    simp only [Bool.not_eq_true, Bool.not_eq_false'] at hrc
    refine ⟨rd_recv hK S1.ex (S1.rd u1 hd0) hrc hT, ?_⟩
    obtain ⟨H1f, e1f, S1f, u1f⟩ := S1.pend u1
    refine seqI S1f (RQ.mono e1f q2) fun w env2 y H2 H2' e2 S2 u2 q3 => ?_
    obtain ⟨dx, hx, q4⟩ := q3.orB
    obtain ⟨dy, hy, q5⟩ := q4.orB
    obtain ⟨z, hz, q6⟩ := q5.orB
    exact ⟨y, rfl, H2, dx, dy, z, S2.ex, S2.rd (u1f.wait e2) hx, S2.rd u2 hy, hz, fun v H0' H' g r => fin_nw S2 q6 g r⟩
theorem repAll_strs {T : Tbl} {H : Hp} : ∀ zs : List Str, RepAll T H (zs.map D.str) (zs.map V.str)
  | [] => by simp [RepAll]
  | z :: zs => by simp only [List.map_cons, RepAll, Rep]; exact ⟨_, _, rfl, rfl, repAll_strs zs⟩
theorem mtI {id : String} {r r' : V → List V → Hp → VK → Prop} (h : MtR X id r) (i : ∀ x xs H Q, r' x xs H Q → r x xs H Q) : MtR X id r' := fun pins s σ H x xs v us Q I rx rxs q => h pins s σ H x xs v us Q I rx rxs (i x xs H Q q)
theorem m_split : MtR X "str.split" (rM1 C.T .split) := mtI mt_split fun x xs H Q ⟨y, hxs, H0, dx, dy, d, e, hx, hy, hg, q⟩ => by
  cases dx with
  | str a =>
    cases dy with
    | str b =>
      simp only [biD] at hg
      split at hg
      · rename_i hl
        cases hg
        simp only [Bool.and_eq_true, decide_eq_true_eq, Bool.not_eq_true'] at hl
        refine ⟨a, b, rd_str hx, by rw [hxs, rd_str hy], hl.2, ?_, fun p hp => q _ _ _ (Gr.own e hp) (.lst e hp (repAll_strs _))⟩
        have h1 := hl.1
        have h2 : LIM + 2 ≤ sizeLine := by rw [PySem.sizeLine_eq]; decide
        omega
      · cases hg
    | _ => cases hg
  | _ => cases hg
theorem m_join (hK : X.K = C.T.K) : MtR X "str.join" (rM1 C.T .join) := mtI mt_join fun x xs H Q ⟨y, hxs, H0, dx, dy, d, e, hx, hy, hg, q⟩ => by
  cases dx with
  | str a =>
    cases dy with
    | lst ys =>
      simp only [biD, Option.bind_eq_some_iff] at hg
      obtain ⟨zs, hz, hg⟩ := hg
      split at hg
      · rename_i hl
        cases hg
        obtain ⟨p, us, rfl, h1, h2⟩ := rd_lst e hy
        refine ⟨a, p, zs, rd_str hx, hxs, .inl (.inl (strs_of hz h2 ▸ h1)), ?_, q _ _ _ (Gr.rfl' e) (.flat rfl (r_str _ _ _))⟩
        have h2 : LIM ≤ 16777216 := by decide
        omega
      · cases hg
    | _ => cases hg
  | _ => cases hg
end
end PP
end

section
set_option maxHeartbeats 1000000
/-! Objects of own classes: fields, making, methods, operators. -/
namespace PP
open PySem PySem.Spec PyProof.Rows L2
theorem Tbl.ck_some {T : Tbl} {c : Nat} {ks : List Nat} {C : Addr} (h : T.ck c ks = some C) : T.cn c = some C ∧ ∀ k ∈ ks, T.fo c k = true := by
  unfold Tbl.ck at h
  split at h
  · rename_i z
    exact ⟨h, List.all_eq_true.mp (Bool.and_eq_true_iff.mp z).2⟩
  · cases h
theorem Tbl.ck_ec {T : Tbl} {c : Nat} {ks : List Nat} {C : Addr} (h : T.ck c ks = some C) : T.ec c = false := by
  unfold Tbl.ck at h
  split at h
  · rename_i z
    simpa using (Bool.and_eq_true_iff.mp z).1
  · cases h
theorem Tbl.cx_some {T : Tbl} {c : Nat} {ks : List Nat} {C : Addr} (h : T.cx c ks = some C) : T.cn c = some C ∧ (∀ k ∈ ks, T.fo c k = true) ∧ T.ec c = true := by
  unfold Tbl.cx at h
  split at h
  · rename_i z
    exact ⟨h, List.all_eq_true.mp (Bool.and_eq_true_iff.mp z).2, (Bool.and_eq_true_iff.mp z).1⟩
  · cases h
section
variable {T : Tbl} {H0 H : Hp} {x : V}
theorem rd_obj (e : Ext H0 H) {c : Nat} {ks : List Nat} {ds : List D} (h : RdV T H0 H (.obj c ks ds) x) :
    ∃ a C dx xs, x = .ref a ∧ T.ck c ks = some C ∧ H a = some (.ins C dx ((ks.map T.fn).zip xs)) ∧ xs.length = ks.length ∧ RepAll T H0 ds xs := by
  rcases h with h | h
  · simp only [Rep] at h
    obtain ⟨a, C, dx, xs, h1, hc, h2, h3⟩ := h
    exact ⟨a, C, dx, xs, h1, hc, e _ _ h2, h3⟩
  · obtain ⟨a, C, dx, xs, h1, h0, hc, h2, h3⟩ := h
    exact ⟨a, C, dx, xs, h1, hc, h2, h3⟩
end
/-- a field's name among the names of a class's fields -/
structure FldOk (K : PySem.W.Frag) (T : Tbl) (k : Nat) (f : Str) : Prop where
  nm : T.fn k = f
  inj : ∀ c j, T.fo c k = true → T.fo c j = true → T.fn j = f → j = k
  ok : ∀ c C, T.cn c = some C → T.fo c k = true → T.ec c = false → Cls K C ∧ NoAttr K C f
  ex : ∀ c C, T.cn c = some C → T.fo c k = true → T.ec c = true → XfC K C ∧ NoAttr K C f
theorem fld_look {T : Tbl} {H : Hp} {f : Str} {k : Nat} (hn : T.fn k = f) : ∀ {ks : List Nat} {ds : List D} {xs : List V} {z : D}, (∀ j ∈ ks, T.fn j = f → j = k) → RepAll T H ds xs → xs.length = ks.length → fldD ks ds k = some z →
    ∃ v, ((ks.map T.fn).zip xs).lookup f = some v ∧ Rep T H z v ∧ k ∈ ks
  | [], _, _, _, _, _, _, h => by simp [fldD] at h
  | j :: ks, [], _, _, _, _, _, h => by simp [fldD] at h
  | j :: ks, d :: ds, xs, z, hi, hr, hl, h => by
    obtain ⟨v, r, rfl, h1, h2⟩ := (by simpa only [RepAll] using hr : ∃ v r, xs = v :: r ∧ Rep T H d v ∧ RepAll T H ds r)
    unfold fldD at h
    simp only [List.map_cons, List.zip_cons_cons, List.lookup_cons]
    by_cases e : j = k
    · rw [if_pos e] at h
      cases h
      subst e
      rw [show (f == T.fn j) = true by rw [hn]; exact beq_self_eq_true _]
      exact ⟨v, rfl, h1, List.mem_cons_self⟩
    · rw [if_neg e] at h
      rw [show (f == T.fn j) = false by
        rw [beq_eq_false_iff_ne]
        exact fun q => e (hi j List.mem_cons_self q.symm)]
      obtain ⟨v', q1, q2, q3⟩ := fld_look hn (fun i hm => hi i (List.mem_cons_of_mem _ hm)) h2 (by simpa using hl) h
      exact ⟨v', q1, q2, List.mem_cons_of_mem _ q3⟩
section
variable {X : Cx} {C : Ctx} {W : WX} {cl : CallF} {e a b c : Expr} {es : List Expr} {e' a' b' c' : Ex} {es' : Exs} {pos : Pos}
/-- e.f, of an object or an exception -/
theorem pe_fldX {f : Str} {te : TE} (he : PE X e te) (hb : attributeBase e f X.env (eval e X.env) = eval e X.env) : PE X (.Attribute e f pos) (fun σ H Q => te σ H fun x H1 =>
    (∃ a C dx fs v, x = .ref a ∧ H1 a = some (.ins C dx fs) ∧ Cls X.K C ∧ NoAttr X.K C f ∧ fs.lookup f = some v ∧ Q v H1) ∨
    ∃ a Ca dd fs v, x = .ref a ∧ H1 a = some (ErrO Ca (some dd) a) ∧ H1 dd = some (.xd fs) ∧ fs.lookup f = some v ∧ XfC X.K Ca ∧ NoAttr X.K Ca f ∧ Q v H1) := by
  refine ⟨fun pins s σ H Q I h => ?_⟩
  refine attr_of hb (thn (he.run pins s σ H _ I h) fun u s1 ⟨x, H1, I1, rx, hq⟩ => ?_)
  rcases hq with ⟨a, C, dx, fs, v, ex, ea, c, n, l, q⟩ | ⟨a, Ca, dd, fs, v, ex, ea, ed, l, T, hno, q⟩
  · subst ex
    obtain rfl : u = Value.ref a := rx
    exact getattr_ok I1 ea c n l fun u' s2 I2 ru => ⟨v, H1, I2, ru, q⟩
  · subst ex
    obtain rfl : u = Value.ref a := rx
    have ho : ObjOk X.prog X.w H1 s1.heap a (ErrO Ca (some dd) a) := I1.hok a _ ea
    unfold ErrO at ho
    obtain ⟨⟨oe, vs, hge, hz, hd⟩, _, _⟩ := ho
    have hx : ObjOk X.prog X.w H1 s1.heap dd (.xd fs) := I1.hok dd _ ed
    obtain ⟨mA, hns, hr⟩ := hx
    obtain ⟨od, ho, hl⟩ := lookIn_ns hns
    obtain ⟨u, hu, ru⟩ := RelO.some_of (v := v) (o := mA f) (by rw [← l]; exact hr f)
    have J : PySem.W.InstAt s1.heap a oe Ca (some od) := ⟨hge, hz.1, by unfold PySem.W.notCls; rw [hd] <;> rfl, by rw [hz.2]; exact ho⟩
    exact PySem.HandSPX.exc_get I1.kIn J T.ga T.gg T.exC (PySem.W.findObj_own T.hdC hno rfl (by rw [hl, hu])) (handed_of ru) ⟨v, H1, I1.tok _, ru, q⟩
theorem fldD_mem : ∀ {ks : List Nat} {vs : List D} {k : Nat} {z : D}, fldD ks vs k = some z → k ∈ ks := by
  intro ks
  induction ks with
  | nil => intro vs k z h; simp [fldD] at h
  | cons j ks ih =>
    intro vs k z h
    cases vs with
    | nil => simp [fldD] at h
    | cons v vs =>
      unfold fldD at h
      by_cases e : j = k
      · exact e ▸ List.mem_cons_self
      · rw [if_neg e] at h; exact List.mem_cons_of_mem _ (ih h)
theorem c_fld {f : Str} {k : Nat} (hK : X.K = C.T.K) (he : PE X e (tI C W cl e')) (F : FldOk X.K C.T k f) (hb : attributeBase e f X.env (eval e X.env) = eval e X.env := by rfl) : PE X (.Attribute e f pos) (tI C W cl (.fld e' k)) :=
  peI (pe_fldX he hb) fun σ H Q ⟨H0, env, S, q⟩ => by
    simp only [ev] at q
    refine seqI S q fun u env1 x H1 H1' e1 S1 u1 q1 => ?_
    obtain ⟨d, hd, q2⟩ := q1.orB
    obtain ⟨z, hz, q3⟩ := q2.orB
    have hr := S1.rd u1 hd
    clear q1 q2
    cases d with
    | obj c ks vs =>
      obtain ⟨p, Ca, dx, xs, rfl, hc, hp, hl, ha⟩ := rd_obj S1.ex hr
      obtain ⟨hc1, hc2⟩ := Tbl.ck_some hc
      have hk : k ∈ ks := by
        have : ∀ {ks : List Nat} {vs : List D} {z : D}, fldD ks vs k = some z → k ∈ ks := by
          intro ks
          induction ks with
          | nil => intro vs z h; simp [fldD] at h
          | cons j ks ih =>
            intro vs z h
            cases vs with
            | nil => simp [fldD] at h
            | cons v vs =>
              unfold fldD at h
              by_cases e : j = k
              · exact e ▸ List.mem_cons_self
              · rw [if_neg e] at h; exact List.mem_cons_of_mem _ (ih h)
        exact this hz
      obtain ⟨v, l1, l2, _⟩ := fld_look F.nm (fun j hj => F.inj c j (hc2 k hk) (hc2 j hj)) ha hl hz
      obtain ⟨o1, o2⟩ := F.ok c Ca hc1 (hc2 k hk) (Tbl.ck_ec hc)
      exact .inl ⟨p, Ca, dx, _, v, rfl, hp, o1, o2, l1, q3 H1 H1' (Ext.rfl' _) S1 v l2⟩
    | err c ks vs =>
      have hk := fldD_mem hz
      rcases hr with hr | hr
      · simp only [Rep] at hr
        obtain ⟨a, Ca, dx, rfl, hc, hp, hr⟩ := hr
        obtain ⟨hc1, hc2, hc3⟩ := Tbl.cx_some hc
        rcases hr with ⟨hr, _⟩ | ⟨dd, xs, rfl, hdd, hl, ha⟩
        · subst hr; cases hk
        · obtain ⟨v, l1, l2, _⟩ := fld_look F.nm (fun j hj => F.inj c j (hc2 k hk) (hc2 j hj)) ha hl hz
          obtain ⟨o1, o2⟩ := F.ex c Ca hc1 (hc2 k hk) hc3
          exact .inr ⟨a, Ca, dd, _, v, rfl, S1.ex _ _ hp, S1.ex _ _ hdd, l1, o1, o2, q3 H1 H1' (Ext.rfl' _) S1 v l2⟩
      · exact hr.elim
    | _ => cases hz
theorem put_zip {T : Tbl} {H : Hp} {f : Str} {k : Nat} (hn : T.fn k = f) {z : D} {v : V} (hz : Rep T H z v) : ∀ {ks : List Nat} {ds : List D} {xs : List V}, (∀ j ∈ ks, T.fn j = f → j = k) → RepAll T H ds xs → xs.length = ks.length → ds.length = ks.length →
    ∃ xs', putF f v ((ks.map T.fn).zip xs) = (((putD ks ds k z).1.map T.fn).zip xs') ∧ xs'.length = (putD ks ds k z).1.length ∧ RepAll T H (putD ks ds k z).2 xs' ∧ ∀ j ∈ (putD ks ds k z).1, j ∈ ks ∨ j = k
  | [], [], xs, _, hr, _, _ => by
    simp only [RepAll] at hr
    subst hr
    refine ⟨[v], ?_, rfl, ?_, ?_⟩
    · simp [putF, putD, hn]
    · simp only [putD, RepAll]; exact ⟨v, [], rfl, hz, rfl⟩
    · intro j hj; simp [putD] at hj; exact .inr hj
  | [], _ :: _, _, _, _, _, h => by simp at h
  | _ :: _, [], _, _, _, _, h => by simp at h
  | j :: ks, d :: ds, xs, hi, hr, hl, hd => by
    obtain ⟨w, r, rfl, h1, h2⟩ := (by simpa only [RepAll] using hr : ∃ v r, xs = v :: r ∧ Rep T H d v ∧ RepAll T H ds r)
    unfold putD
    simp only [List.map_cons, List.zip_cons_cons]
    by_cases e : j = k
    · subst e
      simp only [if_true]
      refine ⟨v :: r, ?_, by simpa using hl, ?_, fun i hi => .inl hi⟩
      · simp [putF, hn]
      · simp only [RepAll]; exact ⟨v, r, rfl, hz, h2⟩
    · have ne : T.fn j ≠ f := fun q => e (hi j List.mem_cons_self q)
      obtain ⟨xs', q1, q2, q3, q4⟩ := put_zip hn hz (fun i hm => hi i (List.mem_cons_of_mem _ hm)) h2 (by simpa using hl) (by simpa using hd)
      simp only [if_neg e]
      refine ⟨w :: xs', ?_, by simp [q2], ?_, ?_⟩
      · simp only [putF, if_neg ne, q1, List.map_cons, List.zip_cons_cons]
      · simp only [RepAll]; exact ⟨w, xs', rfl, h1, q3⟩
      · intro i hm
        simp only [List.mem_cons] at hm ⊢
        rcases hm with rfl | hm
        · exact .inl (.inl rfl)
        · rcases q4 i hm with z | z
          · exact .inl (.inr z)
          · exact .inr z
theorem RepAll.lenD {T : Tbl} {H : Hp} : ∀ {ds : List D} {xs : List V}, RepAll T H ds xs → ds.length = xs.length
  | [], _, h => by simp only [RepAll] at h; subst h; rfl
  | d :: ds, _, h => by
    simp only [RepAll] at h
    obtain ⟨v, r, rfl, _, h2⟩ := h
    simp [RepAll.lenD h2]
/-- an owned object at a slot -/
theorem Sim.ob (S : Sim C σ H0 H env) {i c : Nat} {ks : List Nat} {vs : List D} (h : getS env i = .ow (.obj c ks vs) ∨ getS env i = .io (.obj c ks vs)) :
    ∃ a, σ[i]? = some (some (.ref a)) ∧ ownS (getS env i) = true ∧ RepO C.T H0 H (.obj c ks vs) (.ref a) := by
  have hi := S.slots i
  rcases h with z | z
  · rw [z] at hi ⊢
    obtain ⟨a, h1, _, h3⟩ := hi
    exact ⟨a, h1, rfl, h3⟩
  · rw [z] at hi ⊢
    obtain ⟨a, h1, _, h3⟩ := hi
    exact ⟨a, h1, rfl, h3⟩
/-- name.f = value -/
theorem s_setF {st : Stmt} {i k : Nat} {f : Str} {cs : List Nat} {σ : L2.St} (hK : X.K = C.T.K) (F : FldOk X.K C.T k f) (hc : ∀ c ∈ cs, C.T.fo c k = true) (h : PS X st (sFld X.K (tVar i) (tI C W cl e') f)) : PS X st (tS C W cl (.setF i cs k e')) := psI h fun E σ H ⟨H0, env, S, q⟩ => by
  simp only [ex] at q
  refine seqE S q fun u env1 v H1 H1' e1 S1 u1 q1 => ?_
  obtain ⟨⟨d, env2⟩, hf, q2⟩ := q1.orB
  obtain ⟨H2, e2, S2, r2⟩ := S1.take u1 hf
  have fin : ∀ c ks vs, getS env2 i = .ow (.obj c ks vs) ∨ getS env2 i = .io (.obj c ks vs) → RS C W E H1 (if (decide (ks.length < 100) && decide (vs.length = ks.length) && cs.contains c) = true then .ok .next (env2.set i (setIO (getS env2 i) (.obj c (putD ks vs k d).1 (putD ks vs k d).2))) else .bad) →
      ∃ x H2, σ[i]? = some (some x) ∧ H2 = H1' ∧ ∃ a C dx fs, x = .ref a ∧ H2 a = some (.ins C dx fs) ∧ Cls X.K C ∧ NoAttr X.K C f ∧ fs.length < 1000 ∧ E.nx σ (upd H2 a (.ins C dx (putF f v fs))) := by
    intro c ks vs hg q4
    split at q4
    · rename_i hz
      simp only [Bool.and_eq_true, decide_eq_true_eq, List.contains_iff_mem] at hz
      obtain ⟨⟨hz1, hz2⟩, hz3⟩ := hz
      obtain ⟨a, ha, ho, hr⟩ := S2.ob hg
      obtain ⟨b, Ca, dx, xs, eb, hn, hck, hp, hl, hx⟩ := hr
      cases eb
      obtain ⟨hc1, hc2⟩ := Tbl.ck_some hck
      obtain ⟨o1, o2⟩ := F.ok c Ca hc1 (hc c hz3) (Tbl.ck_ec hck)
      obtain ⟨xs', p1, p2, p3, p4⟩ := put_zip F.nm r2 (fun j hj => F.inj c j (hc c hz3) (hc2 j hj)) hx hl hz2
      refine ⟨_, _, ha, rfl, a, Ca, dx, _, rfl, hp, o1, o2, ?_, ?_⟩
      · rw [List.length_zip, List.length_map]; omega
      · rw [p1]
        refine q4 _ H2 _ e2 (S2.mut ho ha ⟨a, Ca, dx, xs', rfl, hn, ?_, upd_same, p2, p3⟩)
        unfold Tbl.ck
        rw [if_pos (Bool.and_eq_true_iff.mpr ⟨by rw [Tbl.ck_ec hck]; rfl, List.all_eq_true.mpr fun j hj => (p4 j hj).elim (hc2 j) fun z => by rw [z]; exact hc c hz3⟩)]
        exact hc1
    · exact q4.elim
  split at q2
  · rename_i c ks vs hg
    obtain ⟨x, _, hx, rfl, r⟩ := fin c ks vs (.inl hg) (by rw [hg]; exact q2)
    exact ⟨x, hx, r⟩
  · rename_i c ks vs hg
    obtain ⟨x, _, hx, rfl, r⟩ := fin c ks vs (.inr hg) (by rw [hg]; exact q2)
    exact ⟨x, hx, r⟩
  · exact q2.elim
/-- constants behind the arguments -/
def CstOk (T : Tbl) : List D → List V → Prop := fun ds vs => ∀ H, RepAll T H ds vs
theorem UcOk.app {σ : L2.St} {H0 : Hp} {ds : List D} {dvs : List V} (hd : RepAll C.T H0 ds dvs) : ∀ {us : List U} {vs : List V}, UcOk C σ H0 us vs → UcOk C σ H0 (us ++ ds.map .d) (vs ++ dvs)
  | [], _, h => by
    cases h
    induction ds generalizing dvs with
    | nil => simp only [RepAll] at hd; subst hd; rfl
    | cons d ds ih =>
      simp only [RepAll] at hd
      obtain ⟨v, r, rfl, h1, h2⟩ := hd
      exact ⟨v, r, rfl, h1, ih h2⟩
  | .d x :: us, _, h => by obtain ⟨v, r, rfl, h1, h2⟩ := h; exact ⟨v, r ++ dvs, rfl, h1, UcOk.app hd h2⟩
  | .sl i :: us, _, h => by obtain ⟨v, r, rfl, h1, h2⟩ := h; exact ⟨v, r ++ dvs, rfl, h1, UcOk.app hd h2⟩
  | .nw _ :: _, _, h => h.elim
/-- a call, from the reading of its run -/
theorem read_run {σ : L2.St} {H1 H1' : Hp} {Q : VK} {env1 : Env} {f n : Nat} {ms : List Bool} {us : List U} {vs : List V} (S1 : Sim C σ H1 H1' env1) (hv : UcOk C σ H1 us vs) (hn : ms.length = n) (q : RQ C W σ (KV C σ Q) H1 (runC cl f ms us env1)) :
    spF C.T cl f n vs H1' Q fun cls d H' => W cls d σ H' := by
  unfold runC at q
  obtain ⟨as, ha, q⟩ := q.orB
  split at q
  rotate_left
  · exact q.elim
  rename_i hd
  obtain ⟨g1, g2, g3⟩ := args_ok S1 ha hv
  refine ⟨H1, as, S1.ex, g1, io_nodup S1 ha hv hd, g2.trans hn, S1.tb, ?_⟩
  cases zc : cl f as with
  | bad => simp only [zc] at q; exact q
  | exc x outs =>
    simp only [zc] at q
    intro cls d H0' H' g o hx
    exact q cls d H0' H' g.e0 (S1.call ha hv hd g o) hx
  | ok r outs =>
    simp only [zc] at q
    intro v H0' H' g hr o
    have S2 := S1.call ha hv hd g o
    exact q H0' H' g.e0 S2 v (ret_u S1 ha hv hd g o hr)
theorem tac_len {ms : List Bool} : ∀ {es : Exs} {env env1 : Env} {us : List U}, evC cl ms es env = .ok us env1 → True := fun _ => trivial
/-- f(..) with defaults behind -/
theorem c_callD {x : Str} {p : Pos} {k f n : Nat} {fa : Addr} {fd : FuncData} {ps : List Str} {ms : List Bool} {ds : List D} {dvs : List V} {dus : List Value} (F : FnG X.prog X.w X.K X.mg X.base k fa fd ps (spF C.T cl f n)) (hgd : X.A.guards = some []) (hr : Room k X.A) (tk : Takes X W)
    (hg : Gl X x) (hm : X.mg x = some (.ref fa)) (hk : PySem.W.keepIn X.K (.ref fa) = true) (hb : Binds X.K fd ps dus) (hdv : Vals dvs dus) (hds : CstOk C.T ds dvs) (ha : PA X (e :: es) (tAC C W cl ms es')) (hn : (ms ++ ds.map fun _ => false).length = n := by rfl) (hdb : (x == ("__debug__" : Str)) = false := by decide)
    (he : starEach (e :: es) X.env = (false, eval e X.env) :: starEach es X.env := by rfl) (hpl : (backTo pos (starEach es X.env)).any (·.1) = false := by rfl) : PE X (.Call (.Name x p) (e :: es) [] pos) (tI C W cl (.callD f ms es' ds)) := by
  refine peI (t := fun σ H Q => tAC C W cl ms es' σ H fun vs H1 => spF C.T cl f n (vs ++ dvs) H1 Q fun cls d H' => W cls d σ H') ⟨fun pins s σ H Q I h => ?_⟩ fun σ H Q q => ?_
  · refine wpAny_Call_Name_kw (ld_glob I hg hm ?_ hdb)
    refine PySem.W.callWith_K (h₀ := X.base) I.ok.mod.kin hk (thn (ha.run pos pins s σ H _ I h) fun us s1 hq => ?_) he hpl
    obtain ⟨vs, H1, I1, r, q⟩ := hq
    exact ⟨I1.kIn, F.go hgd hr hb hdv tk (fun _ _ _ z => z) I1 r q⟩
  · obtain ⟨H0, env, S, q⟩ := q
    simp only [ev] at q
    refine ⟨H0, env, S, ?_⟩
    cases z : evC cl ms es' env with
    | bad => rw [z] at q; exact q.elim
    | exc x env1 => rw [z] at q; exact q
    | ok us env1 =>
      rw [z] at q
      simp only [R.bind_ok] at q
      intro H1 H1' e1 S1 vs hv
      exact read_run S1 (hv.app (hds _)) hn (RQ.mono e1 q)
theorem c_callD0 {x : Str} {p : Pos} {k f n : Nat} {fa : Addr} {fd : FuncData} {ps : List Str} {ds : List D} {dvs : List V} {dus : List Value} (F : FnG X.prog X.w X.K X.mg X.base k fa fd ps (spF C.T cl f n)) (hgd : X.A.guards = some []) (hr : Room k X.A) (tk : Takes X W)
    (hg : Gl X x) (hm : X.mg x = some (.ref fa)) (hk : PySem.W.keepIn X.K (.ref fa) = true) (hb : Binds X.K fd ps dus) (hdv : Vals dvs dus) (hds : CstOk C.T ds dvs) (hn : (ds.map fun _ => false).length = n := by rfl) (hdb : (x == ("__debug__" : Str)) = false := by decide) : PE X (.Call (.Name x p) [] [] pos) (tI C W cl (.callD f [] .nil ds)) := by
  refine peI (t := fun σ H Q => spF C.T cl f n dvs H Q fun cls d H' => W cls d σ H') ⟨fun pins s σ H Q I h => ?_⟩ fun σ H Q q => ?_
  · refine wpAny_Call_Name_kw (ld_glob I hg hm ?_ hdb)
    exact PySem.W.callWith_K0 I.kIn hk (F.go (us := []) hgd hr hb hdv tk (fun _ _ _ z => z) I .nil h)
  · obtain ⟨H0, env, S, q⟩ := q
    simp only [ev, evC, R.bind_ok, List.nil_append] at q
    exact read_run (us := ds.map .d) (vs := dvs) S (UcOk.app (us := []) (vs := []) (hds _) rfl) hn q
/-- a method of the classes cs: where it stands, what it promises -/
def SpOk (X : Cx) (T : Tbl) (cl : CallF) (m : Nat) (nm : Str) (cs : List Nat) (n : Nat) (dvs : List V) : Prop :=
  ∀ c ∈ cs, ∀ C, T.cn c = some C → Cls X.K C ∧ (∀ j, T.fo c j = true → T.fn j ≠ nm) ∧ ∃ k f fd ps dus, Meth X.K C nm f ∧ FnG X.prog X.w X.K X.mg X.base k f fd ps (spF T cl (spec c m) n) ∧ Room k X.A ∧ Binds X.K fd ps dus ∧ Vals dvs dus
theorem look_none {T : Tbl} {nm : Str} : ∀ {ks : List Nat} {xs : List V}, (∀ j ∈ ks, T.fn j ≠ nm) → ((ks.map T.fn).zip xs).lookup nm = none
  | [], _, _ => rfl
  | _ :: _, [], _ => rfl
  | k :: ks, x :: xs, h => by
    simp only [List.map_cons, List.zip_cons_cons, List.lookup_cons]
    rw [show (nm == T.fn k) = false by rw [beq_eq_false_iff_ne]; exact fun q => h k List.mem_cons_self q.symm]
    exact look_none fun j hj => h j (List.mem_cons_of_mem _ hj)
/-- what is read of a method's call -/
def tMt (C : Ctx) (W : WX) (cl : CallF) (a' : Ex) (m : Nat) (nm : Str) (cs : List Nat) (n : Nat) (dvs : List V) (t : TA) : TE := fun σ H Q => tI C W cl a' σ H fun x H1 => ∃ p c Ca dx fs, x = .ref p ∧ H1 p = some (.ins Ca dx fs) ∧ c ∈ cs ∧ C.T.cn c = some Ca ∧
  ((∀ j, C.T.fo c j = true → C.T.fn j ≠ nm) → fs.lookup nm = none) ∧ t σ H1 fun vs H2 => spF C.T cl (spec c m) n (x :: (vs ++ dvs)) H2 Q fun cls d H' => W cls d σ H'
theorem readM {σ : L2.St} {H : Hp} {Q : VK} {io : Bool} {m n : Nat} {nm : Str} {cs : List Nat} {ms : List Bool} {ds : List D} {dvs : List V} (hds : CstOk C.T ds dvs) (hn : (io :: (ms ++ ds.map fun _ => false)).length = n)
    (h : tI C W cl (.mth io a' m cs ms es' ds) σ H Q) : tMt C W cl a' m nm cs n dvs (tAC C W cl ms es') σ H Q := by
  obtain ⟨H0, env, S, q⟩ := h
  simp only [ev] at q
  refine seqI S q fun u env1 x H1 H1' e1 S1 u1 q1 => ?_
  obtain ⟨⟨c, ur, env2⟩, hr, q2⟩ := q1.orB
  split at q2
  · exact q2.elim
  rename_i hcs
  simp only [Bool.not_eq_true, Bool.not_eq_false', List.contains_iff_mem] at hcs
  -- the one who is asked, and what stands behind
  have key : ∃ H2, Ext H1 H2 ∧ Sim C σ H2 H1' env2 ∧ (∃ p Ca dx ks xs, x = .ref p ∧ H1' p = some (.ins Ca dx ((ks.map C.T.fn).zip xs)) ∧ C.T.ck c ks = some Ca) ∧
      ∀ H3, Ext H2 H3 → ∀ {us : List U} {vs : List V}, UcOk C σ H3 us vs → UcOk C σ H3 (ur :: us) (x :: vs) := by
    unfold recvU at hr
    cases io with
    | true =>
      simp only at hr
      cases u with
      | d y => cases hr
      | nw y => cases hr
      | sl i =>
        simp only at hr
        split at hr
        · rename_i c' ks vs hg
          cases hr
          obtain ⟨a, ha, _, b, Ca, dx, xs, eb, _, hck, hp, hl, hx⟩ := S1.ob (.inl hg)
          cases eb
          have ex : x = .ref a := by
            have u1' : σ[i]? = some (some x) := u1
            rw [ha] at u1'; cases u1'; rfl
          exact ⟨H1, Ext.rfl' _, S1, ⟨a, Ca, dx, ks, xs, ex, hp, hck⟩, fun H3 e3 us vs hu => ⟨x, vs, rfl, u1, hu⟩⟩
        · rename_i c' ks vs hg
          cases hr
          obtain ⟨a, ha, _, b, Ca, dx, xs, eb, _, hck, hp, hl, hx⟩ := S1.ob (.inr hg)
          cases eb
          have ex : x = .ref a := by
            have u1' : σ[i]? = some (some x) := u1
            rw [ha] at u1'; cases u1'; rfl
          exact ⟨H1, Ext.rfl' _, S1, ⟨a, Ca, dx, ks, xs, ex, hp, hck⟩, fun H3 e3 us vs hu => ⟨x, vs, rfl, u1, hu⟩⟩
        · cases hr
    | false =>
      simp only at hr
      split at hr
      · rename_i c' ks vs env' hf
        cases hr
        obtain ⟨H2, e2, S2, r2⟩ := S1.take u1 hf
        have r3 := r2
        simp only [Rep] at r3
        obtain ⟨a, Ca, dx, xs, h1, hck, h2, _⟩ := r3
        exact ⟨H2, e2, S2, ⟨a, Ca, dx, ks, xs, h1, S2.ex _ _ h2, hck⟩, fun H3 e3 us vs hu => ⟨x, vs, rfl, Rep.mono e3 _ _ r2, hu⟩⟩
      · cases hr
  obtain ⟨H2, e2, S2, ⟨p, Ca, dx, ks, xs, hx, hp, hck⟩, hu⟩ := key
  obtain ⟨hc1, hc2⟩ := Tbl.ck_some hck
  have q3 := RQ.mono e2 q2
  refine ⟨p, c, Ca, dx, _, hx, hp, hcs, hc1, fun hno => look_none fun j hj => hno j (hc2 j hj), H2, env2, S2, ?_⟩
  cases z : evC cl ms es' env2 with
  | bad => rw [z] at q3; exact q3.elim
  | exc y env3 => rw [z] at q3; exact q3
  | ok us env3 =>
    rw [z] at q3
    simp only [R.bind_ok] at q3
    intro H3 H3' e3 S3 vs hv
    exact read_run S3 (hu H3 e3 (hv.app (hds _))) hn (RQ.mono e3 q3)
/-- o.m(e, ..) -/
theorem c_mth {o : Expr} {nm : Str} {apos : Pos} {io : Bool} {m n : Nat} {cs : List Nat} {ms : List Bool} {ds : List D} {dvs : List V} {pl : Sem Bool} (SP : SpOk X C.T cl m nm cs n dvs) (hds : CstOk C.T ds dvs) (hgd : X.A.guards = some []) (tk : Takes X W)
    (he : PE X o (tI C W cl a')) (ha : PA X (e :: es) (tAC C W cl ms es')) (hn : (io :: (ms ++ ds.map fun _ => false)).length = n := by rfl)
    (hst : starEach (e :: es) X.env = (false, eval e X.env) :: starEach es X.env := by rfl) (hpl : (backTo pos (starEach es X.env)).any (·.1) = false := by rfl)
    (ht : eval (.Call (.Attribute o nm apos) (e :: es) [] pos) X.env = (do
      let ov ← eval o X.env
      standAt apos.atName
      let (f, first) ← holding [ov] (getMethod ov nm pl)
      callWith pos f first (backTo pos (starEach (e :: es) X.env)) (backToKw pos (keywordEach [] X.env))) := by rfl) :
    PE X (.Call (.Attribute o nm apos) (e :: es) [] pos) (tI C W cl (.mth io a' m cs ms es' ds)) := by
  refine peI (t := tMt C W cl a' m nm cs n dvs (tAC C W cl ms es')) ⟨fun pins s σ H Q I h => ?_⟩ fun σ H Q q => readM hds hn q
  refine PySem.W.methodCall_KW (pl := pl) (thn (he.run pins s σ H _ I h) fun u s1 ⟨x, H1, I1, rx, p, c, Ca, dx, fs, ex, ea, hcs, hcn, l, q⟩ => ?_) ht
  subst ex
  obtain rfl : u = Value.ref p := rx
  obtain ⟨kc, hno, k, f, fd, ps, dus, hm, F, hr, hb, hd⟩ := SP c hcs Ca hcn
  refine getmeth_ok I1 ea kc hm (l hno) ?_
  refine PySem.W.callWith_K (first := [.ref p]) (h₀ := X.base) I.ok.mod.kin hm.kp (thn (ha.run pos pins s1 σ H1 _ I1 q) fun us s2 ⟨vs, H2, I2, r, q2⟩ => ⟨I2.kIn, ?_⟩) hst hpl
  exact F.go (us := .ref p :: us) (vs := .ref p :: vs) hgd hr hb hd tk (fun _ _ _ z => z) I2 (.cons rfl r) q2
theorem c_mth0 {o : Expr} {nm : Str} {apos : Pos} {io : Bool} {m n : Nat} {cs : List Nat} {ds : List D} {dvs : List V} {pl : Sem Bool} (SP : SpOk X C.T cl m nm cs n dvs) (hds : CstOk C.T ds dvs) (hgd : X.A.guards = some []) (tk : Takes X W)
    (he : PE X o (tI C W cl a')) (hn : (io :: (ds.map fun _ => false)).length = n := by rfl)
    (ht : eval (.Call (.Attribute o nm apos) [] [] pos) X.env = (do
      let ov ← eval o X.env
      standAt apos.atName
      let (f, first) ← holding [ov] (getMethod ov nm pl)
      callWith pos f first (backTo pos (starEach [] X.env)) (backToKw pos (keywordEach [] X.env))) := by rfl) :
    PE X (.Call (.Attribute o nm apos) [] [] pos) (tI C W cl (.mth io a' m cs [] .nil ds)) := by
  refine peI (t := tMt C W cl a' m nm cs n dvs (tAC C W cl [] .nil)) ⟨fun pins s σ H Q I h => ?_⟩ fun σ H Q q => readM hds hn q
  refine PySem.W.methodCall_KW (pl := pl) (thn (he.run pins s σ H _ I h) fun u s1 ⟨x, H1, I1, rx, p, c, Ca, dx, fs, ex, ea, hcs, hcn, l, q⟩ => ?_) ht
  subst ex
  obtain rfl : u = Value.ref p := rx
  obtain ⟨kc, hno, k, f, fd, ps, dus, hm, F, hr, hb, hd⟩ := SP c hcs Ca hcn
  refine getmeth_ok I1 ea kc hm (l hno) ?_
  obtain ⟨H0, env, S, q⟩ := q
  simp only [evC] at q
  exact PySem.W.callWith_K0 (first := [.ref p]) I1.kIn hm.kp (F.go (us := [.ref p]) (vs := [.ref p]) hgd hr hb hd tk (fun _ _ _ z => z) I1 (.cons rfl .nil) (q H0 H1 (Ext.rfl' _) S [] rfl))
end
end PP
end

section
set_option maxHeartbeats 2000000
/-! Exceptions as values: isinstance. -/
namespace PySem.W
open PySem PySem.Spec PySem.Calls PyProof.Rows
section
variable {prog : Program} {w : World} {A : Around} {E : Value → Shared → Prop} {s : Shared} {K : Frag} {x D : Addr} {ox : Obj} {od : Option Obj}
theorem pp_dataD {C : Addr} {name : Str} {a g : Value} (hc : (clsIn K C).isSome = true) (ha : findIn K (.ref C) name = some (some a)) (hg : specialIn K a "__get__" = some (some g)) (ht : takesIn K a = some true) : findObj K C od name = some (.bind g a) := by
  obtain ⟨cd, hc⟩ := Option.isSome_iff_exists.mp hc
  unfold findObj
  rw [hc, Option.bind_some, ha, Option.bind_some]
  simp [hg, ht]
theorem pp_classE {Q : Option Value → Shared → Prop} (hga : findIn K (.ref D) "__getattribute__" = some (some (.builtin "BaseException.__getattribute__"))) (hgt : findIn K (.ref D) "__getattr__" = some none) (hsub : subIn K (.ref D) (.type "BaseException") = some true)
    (hdct : hasDictIn K D = true) (ha : findIn K (.ref D) "__class__" = some (some (.builtin "object.__class__")))
    (hn : specialIn K (.builtin "object.__class__") "__get__" = some (some (.builtin "getset_descriptor.__get__"))) (htk : takesIn K (.builtin "object.__class__") = some true) (hm : mroIn K D (.type "object") = some true)
    (X : K.In s.heap) (I : InstAt s.heap x ox D od) (h : Q (some (.ref D)) { s with toks := s.toks + 1 }) : wpAny (model prog w) A (getAttr? (.ref x) "__class__") Q E s := by
  have hf : findObj K D od "__class__" = some (.bind (.builtin "getset_descriptor.__get__") (.builtin "object.__class__")) := pp_dataD (by obtain ⟨cd, hc, _⟩ := any_some hdct; rw [hc]; rfl) ha hn htk
  obtain ⟨hp, g, d, t, os⟩ := s
  have L0 := I.type (M := model prog w)
  have L1 := looks_findIn (M := model prog w) X hga
  have L2 := looks_findIn (M := model prog w) X hgt
  have L3 := looks_find (M := model prog w) X I hf
  have sub : Looks (model prog w) hp (isInstance (.ref x) (.type "BaseException")) true := L0.andThen (looks_subIn X hsub)
  have hx0 : (false && onTheHeap (Value.builtin "BaseException.__getattribute__")) = false := rfl
  have hx2 : (Value.builtin "BaseException.__getattribute__" == Value.builtin "object.__getattribute__") = false := by decide +kernel
  have hx1 : (onTheHeap (Value.ref D) && Value.builtin "BaseException.__getattribute__" == Value.builtin "object.__getattribute__") = false := by rw [hx2]; rfl
  unfold getAttr? getAttrBy? getAttrBy
  refine wpAny_bind (wpAny_mkText (wpAny_bind (wpAny_attempt (wpAny_holding (wpAny_bind (L0.at (wpAny_bind (L1.at ?_))))))))
  show wpAny _ _ (if (onTheHeap (Value.ref D) && Value.builtin "BaseException.__getattribute__" == Value.builtin "object.__getattribute__") = true then _ else _) _ _ _
  rw [hx1, if_neg Bool.false_ne_true]
  unfold getAttrByItsOwn hookBefore
  refine wpAny_bind ?_
  rw [if_pos (show onTheHeap (Value.ref D) = true from rfl)]
  refine L2.at ?_
  refine wpAny_bind (wpAny_attempt (wpAny_holding ?_))
  unfold callGetattribute
  rw [hx0, if_neg Bool.false_ne_true]
  unfold boundAndCalled
  rw [PySem.F.excAttr_ValueError.ga.bind (.ref x)]
  refine wpAny_bind (wpAny_pure ?_)
  show wpAny _ _ (call (.builtin "BaseException.__getattribute__") [.ref x, .str "__class__" t]) _ _ _
  refine wpAny_call (codeAny_call_builtin PySem.F.excAttr_ValueError.ga.plain PySem.F.entry_bexc_ga ?_)
  refine @check_slot (model prog w) _ _ ⟨hp, g, d, t + 1, os⟩ "BaseException.__getattribute__" "BaseException" "__getattribute__" (.ref x) [.str "__class__" t] [] _ (by decide +kernel) (by decide +kernel) sub (PySem.F.args_bexc_ga (.ref x) (.str "__class__" t)) ?_
  unfold Builtin.«object.__getattribute__»
  refine wpAny_bind (wpAny_of_eq (a := ((Value.ref x : Value), [Value.str "__class__" t])) (by first | rfl | (simp only [slotArgs]; rfl)) ?_)
  refine wpAny_bind (wpAny_pure (wpAny_bind (L0.at (wpAny_bind (L3.at ?_)))))
  show wpAny _ _ (holding [Value.builtin "object.__class__"] (call (.builtin "getset_descriptor.__get__") [.builtin "object.__class__", .ref x, .ref D]) >>= ret) _ _ _
  refine wpAny_bind (wpAny_holding (wpAny_call (class_get (s := ⟨hp, g, d, t + 1, os⟩) (ox := ox) (od := od) X I hm ?_)))
  refine wpAny_pure ?_
  show wpAny _ _ (handedOut (.ref D)) _ _ _
  rw [handedOut_of (v := .ref D) rfl]
  first
    | exact wpAny_pure (wpAny_pure h)
    | exact wpAny_pure h
    | exact wpAny_pure (wpAny_bind (wpAny_pure (wpAny_pure h)))
theorem pp_kitE (hga : findIn K (.ref D) "__getattribute__" = some (some (.builtin "BaseException.__getattribute__"))) (hgt : findIn K (.ref D) "__getattr__" = some none) (hsub : subIn K (.ref D) (.type "BaseException") = some true) (hdct : hasDictIn K D = true) (ha : findIn K (.ref D) "__class__" = some (some (.builtin "object.__class__")))
    (hn : specialIn K (.builtin "object.__class__") "__get__" = some (some (.builtin "getset_descriptor.__get__"))) (htk : takesIn K (.builtin "object.__class__") = some true) (hm : mroIn K D (.type "object") = some true) :
    KitX K (.ref x) (.ref D) (fun h => InstAt h x ox D od) where
  ty := fun _ _ _ I => I.type
  it := fun _ _ X _ => by
    obtain ⟨cdD, hcD, _⟩ := any_some hdct
    unfold clsIn at hcD
    split at hcD
    · rename_i c' d' cd' sl' ho
      intro A' Q' E' s' k q
      unfold isType loadHead
      exact wpAny_bind (wpAny_loadPart (k _ _ (X _ _ ho)) (wpAny_pure q))
    · cases hcD
  ne := fun h tp dd its n sl X htp => by
    obtain ⟨cdD, hcD, _⟩ := any_some hdct
    refine Bool.eq_false_iff.mpr fun q => ?_
    have e : D = tp := Value.ref.inj (beq_iff_eq.mp q)
    subst e
    unfold clsIn at hcD
    split at hcD
    · rename_i c' d' cd' sl' ho
      have z := (X _ _ ho).symm.trans htp
      cases z
    · cases hcD
  ca := fun X I k => pp_classE hga hgt hsub hdct ha hn htk hm X I k
end
end PySem.W
namespace PP
open PySem PySem.Spec PyProof.Rows L2
/-- an exception at a, as the heap tells of it -/
def ExcAt (H : Hp) (a Ca : Addr) : Prop := ∃ d, H a = some (ErrO Ca d a) ∧ (d = none ∨ ∃ dd fs, d = some dd ∧ H dd = some (.xd fs))
theorem exc_inst {X : Cx} {pins : List (Addr × Obj)} {σ : L2.St} {H : Hp} {s : Shared} {a Ca : Addr} (I : Inv X pins σ H s) (h : ExcAt H a Ca) : ∃ (oe : Obj) (od : Option Obj), PySem.W.InstAt s.heap a oe Ca od := by
  obtain ⟨d, ha, hd⟩ := h
  have ho : ObjOk X.prog X.w H s.heap a (ErrO Ca d a) := I.hok a _ ha
  unfold ErrO at ho
  obtain ⟨⟨oe, vs, hge, hz, hdt⟩, _, _⟩ := ho
  have nc : PySem.W.notCls oe = true := by unfold PySem.W.notCls; rw [hdt] <;> rfl
  rcases hd with rfl | ⟨dd, fs, rfl, hdd⟩
  · exact ⟨oe, none, hge, hz.1, nc, by rw [hz.2]; trivial⟩
  · have hx : ObjOk X.prog X.w H s.heap dd (.xd fs) := I.hok dd _ hdd
    obtain ⟨mA, ⟨od, es, ep, ho, _⟩, _⟩ := hx
    exact ⟨oe, some od, hge, hz.1, nc, by rw [hz.2]; exact ho⟩
/-- isinstance(e, c), e an exception that is tracked -/
def rIsX (K : PySem.W.Frag) : List V → Hp → VK → Prop := fun xs H Q => ∃ (a Ca : Addr) (c : V) (cv : Value) (b : Bool), xs = [.ref a, c] ∧ ExcAt H a Ca ∧ ExcC K Ca ∧ (∀ u, RelV c u → u = cv) ∧ PySem.W.kitOne K (.ref Ca) cv = some b ∧ Q (.bl b) H
theorem call_isX {X : Cx} : CallR X (.builtin "isinstance") (rIsX X.K) := by
  intro pins s σ H xs us Q I r h
  obtain ⟨a, Ca, c, cv, b, rfl, hx, C, hcv, e, q⟩ := h
  cases r with
  | cons rx rr =>
    cases rr with
    | cons rt rr =>
      cases rr
      cases rx
      have ec := hcv _ rt
      subst ec
      obtain ⟨oe, od, J⟩ := exc_inst I hx
      exact PySem.W.kia_one (PySem.W.pp_kitE C.hg C.hk C.hs C.hd C.ha C.hn C.ht C.hm) I.kIn J e (fun z => nomatch z) fun tk => ⟨.bl b, H, I.kept (t' := tk) fun _ _ z => z, rfl, q⟩
theorem rd_err {T : Tbl} {H0 H : Hp} (e : Ext H0 H) {c : Nat} {ks : List Nat} {vs : List D} {x : V} (h : RdV T H0 H (.err c ks vs) x) : ∃ a Ca, x = .ref a ∧ T.cn c = some Ca ∧ T.ec c = true ∧ ExcAt H a Ca := by
  rcases h with h | h
  · simp only [Rep] at h
    obtain ⟨a, Ca, d, rfl, hc, hp, hr⟩ := h
    obtain ⟨hc1, _, hc3⟩ := Tbl.cx_some hc
    refine ⟨a, Ca, rfl, hc1, hc3, d, e _ _ hp, ?_⟩
    rcases hr with ⟨_, rfl⟩ | ⟨dd, xs, rfl, hdd, _⟩
    · exact .inl rfl
    · exact .inr ⟨dd, _, rfl, e _ _ hdd⟩
  · exact h.elim
end PP
end

section
set_option maxHeartbeats 1000000
/-! Own operators of instances. -/
namespace PP
open PySem PySem.Spec PyProof.Rows L2
/-- what a comparison by an own def asks of the class -/
def NFs (K : PySem.W.Frag) (T : Tbl) (C : Addr) : Prop := (∀ t ∈ (["NoneType", "bool", "int", "str", "list", "tuple", "dict"] : List String), PySem.W.notFirst K C (.type t) = true) ∧ ∀ c' C', T.cn c' = some C' → PySem.W.notFirst K C (.ref C') = true
section
open PySem.W PySem.Calls
variable {prog : Program} {w : World} {A : Around} {E : Value → Shared → Prop} {s : Shared} {K : Frag} {x C L f : Addr} {h₀ : Heap} {m : Str → Option Value} {ox : Obj} {od : Option Obj} {T : String}
/-- x op b, x of an own class that has the operator, b of a built-in type -/
theorem bin_ty {op : Operator} {b : Value} {fo ro rc : Option Value} {Q : Value → Shared → Prop} (F : Fr h₀ L s.heap m) (X0 : K.In h₀) (I : InstAt s.heap x ox C od) (Lb : Looks (model prog w) s.heap (typeOf b) (.type T)) (self1 : selfFirst K C = true)
    (at1 : findIn K (.ref C) (PySem.dunder op.info.2) = some (some (.ref f))) (fn1 : isFn K (.ref f) = true) (at2 : findIn K (.ref C) (dunderR op.info.2) = some rc) (rc1 : rc = none ∨ ∃ g : Addr, rc = some (.ref g))
    (b1 : findIn K (.type T) (PySem.dunder op.info.2) = some fo) (b2 : findIn K (.type T) (dunderR op.info.2) = some ro) (sub1 : subIn K (.type T) (.ref C) = some false)
    (run : wpAny (model prog w) A (call (.ref f) [.ref x, b]) (W.CmpBack Q) E s) : wpAny (model prog w) A (binaryOp op (.ref x) b) Q E s := by
  have kin := X0.keeps F.keep
  obtain ⟨cd, rest, hcd, hm⟩ := ksp_first self1
  rcases oi : op.info with ⟨sy, nn⟩; rw [oi] at at1 at2 b1 b2; dsimp only at at1 at2 b1 b2
  have tried := ksp_try kin I at1 fn1 run
  obtain ⟨hh, gl, dd, tt, os⟩ := s
  have A1 : Looks (model prog w) hh (typeOf (.ref x)) (.ref C) := I.type
  have A3 := fills_K (M := model prog w) kin hcd hm at1; have A4 := ksp_fillsT (M := model prog w) kin b1 b2
  have A5 := looks_subIn (M := model prog w) kin sub1; have A6 := ksp_inPy (M := model prog w) kin at1 at2 rc1
  have A7 : Looks (model prog w) hh (numberSlotInPython (.type T) nn) false := Looks.of_pure rfl; have A8 := looks_findIn (M := model prog w) kin b2
  generalize ((fo.isSome && !isSeqSlot fo) || (ro.isSome && !isSeqSlot ro)) = rt at A4
  have nq : (Value.ref C == Value.type T) = false := Bool.eq_false_iff.mpr fun z => nomatch beq_iff_eq.mp z
  simp only [binaryOp, oi]
  refine wpAny_holding (wpAny_bind ?_); unfold binaryOp1
  refine wpAny_bind (A1.at (wpAny_bind (Lb.at (wpAny_bind (A3.at ?_))))); simp only [nq, Bool.false_eq_true, if_false]
  cases rt <;>
  · ksp_lk
    refine wpAny_mono tried (fun r s2 z => ?_) fun _ _ e => e
    obtain ⟨v, rfl, z⟩ := z
    ksp_lk
    exact z
end
section
variable {X : Cx} {C : Ctx} {W : WX} {cl : CallF} {a b : Expr} {a' b' : Ex} {pos : Pos}
/-- an operation whose left one may be an object of an own class, read -/
def rOw (C : Ctx) (W : WX) (cl : CallF) (o : O2) (cs ts : List Nat) (σ : L2.St) : R2 := fun x y H Q => (∃ H0 dx dy, Ext H0 H ∧ Rep C.T H0 dx x ∧ Rep C.T H0 dy y ∧ (∃ c ∈ cs, (∃ ks vs, dx = .obj c ks vs) ∧ okR o ts c dy = true ∧ spF C.T cl (spec c (opc o)) 2 [x, y] H Q fun cls d H' => W cls d σ H')) ∨ rD C.T (op2 o) x y H Q
theorem readO {σ : L2.St} {H : Hp} {Q : VK} {o : O2} {cs ts : List Nat} (hne : o ≠ .ne) (h : tI C W cl (.opo o cs ts a' b') σ H Q) : tOp (rOw C W cl o cs ts σ) (tI C W cl a') (tI C W cl b') σ H Q := by
  obtain ⟨H0, env, S, q⟩ := h
  simp only [ev] at q
  refine seqI S q fun u env1 x H1 H1' e1 S1 u1 q1 => ?_
  obtain ⟨⟨dx, env2⟩, hf, q2⟩ := q1.orB
  obtain ⟨H2, e2, S2, r2⟩ := S1.take u1 hf
  refine seqI S2 (RQ.mono e2 q2) fun w env3 y H3 H3' e3 S3 u3 q3 => ?_
  obtain ⟨⟨dy, env4⟩, hg, q4⟩ := q3.orB
  obtain ⟨H4, e4, S4, r4⟩ := S3.take u3 hg
  have rx : Rep C.T H4 dx x := Rep.mono (e3.tr e4) _ _ r2
  have q5 := RQ.mono e4 q4
  simp only at q5
  have plain : (∀ z, op2 o dx dy = some z → RQ C W σ (KV C σ Q) H4 (.ok (.nw z) env4)) → (∃ z, op2 o dx dy = some z) → rOw C W cl o cs ts σ x y H3' Q := fun k ⟨z, hz⟩ =>
    .inr ⟨H4, dx, dy, z, S4.ex, .inl rx, .inl r4, hz, fun v H0' H' g r => fin_nw S4 (k z hz) g r⟩
  cases dx with
  | obj c ks vs =>
    unfold ownOp at q5
    simp only at q5
    split at q5
    · exact q5.elim
    rename_i hcs
    simp only [Bool.not_eq_true, Bool.not_eq_false', Bool.and_eq_true, List.contains_iff_mem] at hcs
    refine .inl ⟨H4, _, dy, S4.ex, rx, r4, c, hcs.1, ⟨ks, vs, rfl⟩, hcs.2, H4, [.fz (.obj c ks vs), .fz dy], S4.ex, ⟨x, [y], rfl, rx, y, [], rfl, r4, rfl⟩, ?_, rfl, S4.tb, ?_⟩
    · intro i j p hi hj
      match i, hi with
      | 0, hi => simp [ioL] at hi
      | 1, hi => simp [ioL] at hi
      | _ + 2, hi => simp [ioL] at hi
    · cases zc : cl (spec c (opc o)) [.fz (.obj c ks vs), .fz dy] with
      | bad => simp only [zc] at q5; exact q5
      | exc z outs =>
        simp only [zc] at q5
        intro cls d H0' H' g _ hx
        refine q5 cls d H0' H' g.e0 (S4.gr ⟨g.e0, fun p o hp => g.keep p o (by simp [ioL]) hp, g.e01, g.new, g.tb⟩) hx
      | ok r outs =>
        simp only [zc] at q5
        intro v H0' H' g hr _
        have S5 := S4.gr ⟨g.e0, fun p o hp => g.keep p o (by simp [ioL]) hp, g.e01, g.new, g.tb⟩
        have q6 : RQ C W σ (KV C σ Q) H4 (.ok r env4) := by
          cases o <;> first | exact q5 | exact (hne rfl).elim
        refine q6 H0' H' g.e0 S5 v ?_
        cases r with
        | d z => exact hr
        | sl i => exact hr.elim
        | nw z => exact RepG.nw S4 hr
  | _ =>
    obtain ⟨z, hz, q6⟩ := RQ.orB (show RQ C W σ (KV C σ Q) H4 (orBad (op2 o _ dy) fun z => .ok (.nw z) env4) from q5)
    exact plain (fun z' hz' => by rw [hz] at hz'; cases hz'; exact q6) ⟨z, hz⟩
/-- the type of a value, looked at -/
theorem ty_looks {pins : List (Addr × Obj)} {σ : L2.St} {H0 H : Hp} {s : Shared} {d : D} {y : V} {u : Value} (hK : X.K = C.T.K) (I : Inv X pins σ H s) (e : Ext H0 H) (r : Rep C.T H0 d y) (ry : RelV y u) (hodd : oddD d = false) :
    (isObjD d = false ∧ PySem.W.Looks (model X.prog X.w) s.heap (typeOf u) (.type (tyN d))) ∨ (∃ c ks vs Ca, d = .obj c ks vs ∧ C.T.cn c = some Ca ∧ PySem.W.Looks (model X.prog X.w) s.heap (typeOf u) (.ref Ca)) := by
  cases hd : isObjD d with
  | false =>
    obtain ⟨P, Z, hp, _⟩ := kit_of I ry (tyx hK e (.inl r) hd)
    exact .inl ⟨rfl, Z.ty _ _ I.kIn hp⟩
  | true =>
    cases d with
    | obj c ks vs =>
      obtain ⟨p, Ca, dx, xs, rfl, hck, hp, _⟩ := rd_obj e (.inl r)
      obtain ⟨mA, O, _⟩ := ins_get I.hok hp
      obtain ⟨od, J, _⟩ := O.look
      cases (show u = Value.ref p from ry)
      exact .inr ⟨c, ks, vs, Ca, rfl, (Tbl.ck_some hck).1, J.type⟩
    | cls c => cases hodd
    | err c ks vs => cases hodd
    | _ => cases hd
theorem okR_odd {o : O2} {ts : List Nat} {c : Nat} {d : D} (h : okR o ts c d = true) : oddD d = false := by cases d <;> first | rfl | cases h
theorem c_cmpO {op : CmpOp} {o : O2} {cs ts : List Nat} {nm : Str} (hK : X.K = C.T.K) (hu : X.A.units < cLine) (hop : ∀ a b, compareOp op a b = richCompare op a b) (hnm : (cmpInfo op).2.1 = nm) (SP : SpOk X C.T cl (opc o) nm cs 2 []) (NF : ∀ c ∈ cs, ∀ Ca, C.T.cn c = some Ca → NFs X.K C.T Ca)
    (hgd : X.A.guards = some []) (tk : Takes X W) (ho : OpR X (compareOp op) (rD C.T (op2 o))) (ha : PE X a (tI C W cl a')) (hb : PE X b (tI C W cl b')) (hm : behindInMarks op b = false) (hne : o ≠ .ne) : PE X (.Compare a [op] [b] pos) (tI C W cl (.opo o cs ts a' b')) := by
  refine peI (t := fun σ H Q => tOp (rOw C W cl o cs ts σ) (tI C W cl a') (tI C W cl b') σ H Q) ⟨fun pins s σ H Q I h => wpAny_Compare1 (binT ha hb I h fun v u s2 x y H2 I2 rx ry q => ?_) hm⟩ fun σ H Q q => readO hne q
  rcases q with ⟨H0, dx, dy, e, r1, r2, c, hcs, ⟨ks, vs, rfl⟩, hkr, hsp⟩ | q
  · obtain ⟨p, Ca, dd, xs, rfl, hck, hp, _⟩ := rd_obj e (.inl r1)
    have hcn := (Tbl.ck_some hck).1
    obtain ⟨kc, hno, k, f, fd, ps, dus, hm, F, hr, hb, hd⟩ := SP c hcs Ca hcn
    obtain ⟨n1, n2⟩ := NF c hcs Ca hcn
    obtain ⟨mA, O, _⟩ := ins_get I2.hok hp
    obtain ⟨od, J, _⟩ := O.look
    obtain ⟨mm, hF⟩ := I2.fr
    cases (show v = Value.ref p from rx)
    rw [hop]
    have run : wpAny (model X.prog X.w) X.A (call (.ref f) [.ref p, u]) (PySem.W.CmpBack (EP X pins σ Q)) X.xe s2 := by
      refine wpAny_mono (F.go (us := [.ref p, u]) (vs := [.ref p, y]) hgd hr hb hd tk (fun _ _ _ z => z) I2 (.cons rfl (.cons ry .nil)) (by rw [List.append_nil]; exact hsp)) (fun w s' z => ?_) fun _ _ x => x
      obtain ⟨z', H', I', rz, qz⟩ := z
      exact SlX.cmpback rz ⟨z', H', I', rz, qz⟩
    have hs : PySem.W.findIn X.K (.ref Ca) (cmpInfo op).2.1 = some (some (.ref f)) := by rw [hnm]; exact hm.at_
    rcases ty_looks hK I2 e r2 ry (okR_odd hkr) with ⟨hod, L⟩ | ⟨c', ks', vs', Cb, rfl, hcn', L⟩
    · refine PySem.W.cmp_K (op := op) hu hF I2.ok.mod.kin J L (n1 _ ?_) hs hm.fn run
      cases dy <;> first | (cases hod; done) | (show tyN _ ∈ _; simp [tyN])
    · exact PySem.W.cmp_K (op := op) hu hF I2.ok.mod.kin J L (n2 c' Cb hcn') hs hm.fn run
  · exact ho pins s2 σ H2 x y v u Q I2 rx ry q
/-- what an own operator asks of the class, and of the built-in types at its right -/
structure BinC (K : PySem.W.Frag) (C : Addr) (op : Operator) (ts : List Nat) : Prop where
  first : PySem.W.selfFirst K C = true
  refl : ∃ rc : Option Value, PySem.W.findIn K (.ref C) (dunderR op.info.2) = some rc ∧ (rc = none ∨ ∃ g : Addr, rc = some (.ref g))
  ty : ∀ d : D, isObjD d = false → ts.contains (kdD d) = true → (∃ fo ro : Option Value, PySem.W.findIn K (.type (tyN d)) (PySem.dunder op.info.2) = some fo ∧ PySem.W.findIn K (.type (tyN d)) (dunderR op.info.2) = some ro) ∧ PySem.W.subIn K (.type (tyN d)) (.ref C) = some false
theorem c_binO {op : Operator} {o : O2} {cs ts : List Nat} {nm : Str} (hK : X.K = C.T.K) (hnm : PySem.dunder op.info.2 = nm) (SP : SpOk X C.T cl (opc o) nm cs 2 []) (BC : ∀ c ∈ cs, ∀ Ca, C.T.cn c = some Ca → BinC X.K Ca op ts)
    (hgd : X.A.guards = some []) (tk : Takes X W) (ho : OpR X (binaryOp op) (rD C.T (op2 o))) (ha : PE X a (tI C W cl a')) (hb : PE X b (tI C W cl b')) (hne : isCmpO o = false) : PE X (.BinOp a op b pos) (tI C W cl (.opo o cs ts a' b')) := by
  refine peI (t := fun σ H Q => tOp (rOw C W cl o cs ts σ) (tI C W cl a') (tI C W cl b') σ H Q) ⟨fun pins s σ H Q I h => wpAny_BinOp (binT ha hb I h fun v u s2 x y H2 I2 rx ry q => ?_)⟩ fun σ H Q q => readO (by rintro rfl; cases hne) q
  rcases q with ⟨H0, dx, dy, e, r1, r2, c, hcs, ⟨ks, vs, rfl⟩, hkr, hsp⟩ | q
  · obtain ⟨p, Ca, dd, xs, rfl, hck, hp, _⟩ := rd_obj e (.inl r1)
    have hcn := (Tbl.ck_some hck).1
    obtain ⟨kc, hno, k, f, fd, ps, dus, hm, F, hr, hb, hd⟩ := SP c hcs Ca hcn
    have B := BC c hcs Ca hcn
    obtain ⟨mA, O, _⟩ := ins_get I2.hok hp
    obtain ⟨od, J, _⟩ := O.look
    obtain ⟨mm, hF⟩ := I2.fr
    cases (show v = Value.ref p from rx)
    have run : wpAny (model X.prog X.w) X.A (call (.ref f) [.ref p, u]) (PySem.W.CmpBack (EP X pins σ Q)) X.xe s2 := by
      refine wpAny_mono (F.go (us := [.ref p, u]) (vs := [.ref p, y]) hgd hr hb hd tk (fun _ _ _ z => z) I2 (.cons rfl (.cons ry .nil)) (by rw [List.append_nil]; exact hsp)) (fun w s' z => ?_) fun _ _ x => x
      obtain ⟨z', H', I', rz, qz⟩ := z
      exact SlX.cmpback rz ⟨z', H', I', rz, qz⟩
    have hs : PySem.W.findIn X.K (.ref Ca) (PySem.dunder op.info.2) = some (some (.ref f)) := by rw [hnm]; exact hm.at_
    rcases ty_looks hK I2 e r2 ry (okR_odd hkr) with ⟨hod, L⟩ | ⟨c', ks', vs', Cb, rfl, hcn', L⟩
    · have hts : ts.contains (kdD dy) = true := by
        cases dy <;> first | (cases hod; done) | (simp only [okR, hne, Bool.false_or] at hkr; exact hkr)
      obtain ⟨⟨fo, ro, t1, t2⟩, t3⟩ := B.ty dy hod hts
      obtain ⟨rc, q1, q2⟩ := B.refl
      exact bin_ty hF I2.ok.mod.kin J L B.first hs hm.fn q1 q2 t1 t2 t3 run
    · simp only [okR, hne, Bool.false_or, beq_iff_eq] at hkr
      subst hkr
      rw [hcn] at hcn'; cases hcn'
      exact PySem.W.binop_K hF I2.ok.mod.kin J L B.first hs hm.fn run
  · exact ho pins s2 σ H2 x y v u Q I2 rx ry q
end
end PP
end

section
set_option maxHeartbeats 1000000
/-! Properties, making, isinstance of own classes, in and != by own defs. -/
namespace PP
open PySem PySem.Spec PyProof.Rows L2
section
variable {X : Cx} {C : Ctx} {W : WX} {cl : CallF} {e a b : Expr} {es : List Expr} {e' a' b' : Ex} {es' : Exs} {pos : Pos}
/-- a property of the classes cs -/
def SpP (X : Cx) (T : Tbl) (cl : CallF) (m : Nat) (nm : Str) (cs : List Nat) : Prop :=
  ∀ c ∈ cs, ∀ C, T.cn c = some C → Cls X.K C ∧ ∃ k p g fd ps, PropOf X.K C nm p g ∧ FnG X.prog X.w X.K X.mg X.base k g fd ps (spF T cl (spec c m) 1) ∧ Room (k + 1) X.A ∧ Binds X.K fd ps []
theorem prop_run {pins : List (Addr × Obj)} {σ : L2.St} {H : Hp} {s : Shared} {Q : VK} {fl : Bool} {E' : Value → Shared → Prop} {k : Nat} {Ca p g x dx : Addr} {fs : List (Str × V)} {f : Str} {fd : FuncData} {ps : List Str} {sp : Sp} (I : Inv X pins σ H s) (at1 : H x = some (.ins Ca dx fs)) (kc : Cls X.K Ca)
    (P : PropOf X.K Ca f p g) (F : FnG X.prog X.w X.K X.mg X.base k g fd ps sp) (hgd : X.A.guards = some []) (room : Room (k + 1) X.A) (bd : Binds X.K fd ps []) (q : sp [.ref x] H Q fun _ _ _ => False) : wpAny (model X.prog X.w) X.A (getAttr (.ref x) f fl) (EP X pins σ Q) E' s := by
  obtain ⟨mA, O, _⟩ := ins_get I.hok at1
  obtain ⟨od, J, _⟩ := O.look
  obtain ⟨rest, rcd⟩ := P.rec_
  have I1 := I.tok (s.toks + 1)
  have len1 : ([Value.ref x] ++ ([] : List Value)).length = ps.length := by rw [← F.len _ _ _ _ q]; rfl
  have some1 : (PySem.W.clsIn X.K Ca).isSome = true := by
    obtain ⟨cd, z, _⟩ := PySem.W.any_some kc.hd
    rw [z]; rfl
  refine PySem.W.get_bind I.kIn J (PySem.W.plainGet_of (kc.get f)).1 (PySem.W.findObj_data some1 P.at_ P.get P.tak) (PySem.W.plainGet_of (kc.get f)).2 (wpAny_call (PySem.W.prop_get (s := { s with toks := s.toks + 1 }) I.kIn rcd ?_))
  refine codeAny_mono (F.run X.A.in1 X.stack { s with toks := s.toks + 1 } H ⟨[.ref x], []⟩ [.ref x] [.ref x] Q _ hgd room.in1 I1.env0.in1 (bd _ [.ref x] I1.kIn len1) (.cons rfl .nil) q) fun r s' z => ?_
  cases r with
  | error er => obtain ⟨_, _, _, _, _, _, _, _, _, _, _, _, w⟩ := z; exact w.elim
  | ok fl =>
    cases fl with
    | ret u =>
      obtain ⟨v, H', I3, rv, q3⟩ := I1.after z
      show wpAny _ _ (handedOut u) _ _ _
      rw [PySem.W.handedOut_of (handed_of rv)]
      exact wpAny_pure ⟨v, H', I3, rv, q3⟩
    | _ => exact False.elim z
theorem c_prp {m : Nat} {nm : Str} {cs : List Nat} (SP : SpP X C.T cl m nm cs) (hgd : X.A.guards = some []) (he : PE X e (tI C W cl e')) (hab : attributeBase e nm X.env (eval e X.env) = eval e X.env := by rfl) : PE X (.Attribute e nm pos) (tI C W cl (.prp e' m cs)) := by
  refine peI (t := fun σ H Q => tI C W cl e' σ H fun x H1 => ∃ p c Ca dx fs, x = .ref p ∧ H1 p = some (.ins Ca dx fs) ∧ c ∈ cs ∧ C.T.cn c = some Ca ∧ spF C.T cl (spec c m) 1 [.ref p] H1 Q fun _ _ _ => False) ⟨fun pins s σ H Q I h => ?_⟩ fun σ H Q q => ?_
  · refine attr_of hab (thn (he.run pins s σ H _ I h) fun u s1 ⟨x, H1, I1, rx, p, c, Ca, dx, fs, ex, ea, hcs, hcn, q⟩ => ?_)
    subst ex
    obtain rfl : u = Value.ref p := rx
    obtain ⟨kc, k, pp, g, fd, ps, hp, F, hr, hb⟩ := SP c hcs Ca hcn
    exact prop_run I1 ea kc hp F hgd hr hb q
  · obtain ⟨H0, env, S, q⟩ := q
    simp only [ev] at q
    refine seqI S q fun u env1 x H1 H1' e1 S1 u1 q1 => ?_
    obtain ⟨⟨c, ur, env2⟩, hr, q2⟩ := q1.orB
    split at q2
    · exact q2.elim
    rename_i hcs
    simp only [Bool.not_eq_true, Bool.not_eq_false', List.contains_iff_mem] at hcs
    unfold recvU at hr
    simp only at hr
    split at hr
    · rename_i c' ks vs env' hf
      cases hr
      obtain ⟨H2, e2, S2, r2⟩ := S1.take u1 hf
      obtain ⟨z, hz, q3⟩ := (RQ.mono e2 q2).orB
      cases hz
      have r3 := r2
      simp only [Rep] at r3
      obtain ⟨p, Ca, dx, xs, rfl, hck, h2, _⟩ := r3
      refine ⟨p, c, Ca, dx, _, rfl, S2.ex _ _ h2, hcs, (Tbl.ck_some hck).1, H2, [.fz (.obj c ks vs)], S2.ex, ⟨.ref p, [], rfl, r2, rfl⟩, ?_, rfl, S2.tb, ?_⟩
      · intro i j y hi hj
        match i, hi with
        | 0, hi => simp [ioL] at hi
        | _ + 1, hi => simp [ioL] at hi
      · cases zc : cl (spec c m) [.fz (.obj c ks vs)] with
        | bad => simp only [zc] at q3; exact q3
        | exc z outs => simp only [zc] at q3; exact q3.elim
        | ok r outs =>
          simp only [zc] at q3
          intro v H0' H' g hr _
          have S5 := S2.gr ⟨g.e0, fun p o hp => g.keep p o (by simp [ioL]) hp, g.e01, g.new, g.tb⟩
          refine q3 H0' H' g.e0 S5 v ?_
          cases r with
          | d z => exact hr
          | sl i => exact hr.elim
          | nw z => exact RepG.nw S2 hr
    · cases hr
/-- what isinstance asks, for an own class u at T.cn k and each other one -/
structure IsO (X : Cx) (T : Tbl) (cs : List Nat) (u : Value) : Prop where
  ty : ∀ d : D, isObjD d = false → PySem.W.kitOne X.K (.type (tyN d)) u = some false
  ex : ∀ c C, T.cn c = some C → T.ec c = true → ExcC X.K C ∧ PySem.W.kitOne X.K (.ref C) u = some (cs.contains c)
  ob : ∀ c C, T.cn c = some C → T.ec c = false → PySem.W.kitOne X.K (.ref C) u = some (cs.contains c) ∧ Cls X.K C ∧ PySem.W.findIn X.K (.ref C) "__class__" = some (some (.builtin "object.__class__")) ∧ PySem.W.specialIn X.K (.builtin "object.__class__") "__get__" = some (some (.builtin "getset_descriptor.__get__")) ∧
    PySem.W.takesIn X.K (.builtin "object.__class__") = some true ∧ PySem.W.mroIn X.K C (.type "object") = some true
theorem c_isO {p : Pos} {cs : List Nat} {Cu : Addr} (hK : X.K = C.T.K) (IO : IsO X C.T cs (.ref Cu)) (hg : Gl X "isinstance") (hm : X.mg "isinstance" = none)
    (ha : PE X e (tI C W cl e')) (hb : PE X b (tC (.ref Cu))) (he : starEach [e, b] X.env = (false, eval e X.env) :: starEach [b] X.env := by rfl) (he2 : starEach [b] X.env = (false, eval b X.env) :: starEach [] X.env := by rfl)
    (hpl : (backTo pos (starEach [b] X.env)).any (·.1) = false := by rfl) : PE X (.Call (.Name "isinstance" p) [e, b] [] pos) (tI C W cl (.isObj cs e')) :=
  peI (pe_callB (call_isi.or call_isX) hg hm (by decide +kernel) (pa_cons ha (pa_cons hb pa_nil he2) he) (by decide) (by decide) he hpl) fun σ H Q ⟨H0, env, S, q⟩ => by
    simp only [ev] at q
    refine seqI S q fun u env1 v H1 H1' e1 S1 u1 q1 => ?_
    obtain ⟨d, hd, q2⟩ := q1.orB
    have r := S1.rd u1 hd
    cases hod : isObjD d with
    | false =>
      have eb : isObjOf cs d = false := by cases d <;> first | rfl | cases hod
      have ec : isClsD d = false := by cases d <;> first | rfl | cases hod
      rw [eb, ec] at q2
      exact .inl ⟨v, _, _, _, false, rfl, .own Cu, tyx hK S1.ex r hod, IO.ty d hod, fin_nw S1 q2 (Gr.rfl' S1.ex) (.flat rfl (r_bl _ _ _))⟩
    | true =>
      cases d with
      | obj c ks vs =>
        obtain ⟨pp, Ca, dx, xs, rfl, hck, hp, _⟩ := rd_obj S1.ex r
        obtain ⟨h1, h2, h3, h4, h5, h6⟩ := IO.ob c Ca (Tbl.ck_some hck).1 (Tbl.ck_ec hck)
        exact .inl ⟨_, _, _, _, cs.contains c, rfl, .own Cu, .base (.ins hp h2 h3 h4 h5 h6), h1, fin_nw S1 q2 (Gr.rfl' S1.ex) (.flat rfl (r_bl _ _ _))⟩
      | err c ks vs =>
        obtain ⟨a, Ca, rfl, hcn, hec, hx⟩ := rd_err S1.ex r
        obtain ⟨h1, h2⟩ := IO.ex c Ca hcn hec
        exact .inr ⟨a, Ca, _, _, cs.contains c, rfl, hx, h1, fun u hu => hu, h2, fin_nw S1 q2 (Gr.rfl' S1.ex) (.flat rfl (r_bl _ _ _))⟩
      | cls c => exact q2.elim
      | _ => cases hod
/-- what isinstance of a built-in type says of objects and exceptions -/
structure IsB (X : Cx) (T : Tbl) (u : Value) : Prop where
  ex : ∀ c C, T.cn c = some C → T.ec c = true → ExcC X.K C ∧ PySem.W.kitOne X.K (.ref C) u = some false
  ob : ∀ c C, T.cn c = some C → T.ec c = false → PySem.W.kitOne X.K (.ref C) u = some false ∧ Cls X.K C ∧ PySem.W.findIn X.K (.ref C) "__class__" = some (some (.builtin "object.__class__")) ∧ PySem.W.specialIn X.K (.builtin "object.__class__") "__get__" = some (some (.builtin "getset_descriptor.__get__")) ∧
    PySem.W.takesIn X.K (.builtin "object.__class__") = some true ∧ PySem.W.mroIn X.K C (.type "object") = some true
theorem isB_none {X : Cx} {T : Tbl} {u : Value} (h : ∀ c, T.cn c = none) : IsB X T u := ⟨fun c C e _ => (by rw [h c] at e; cases e), fun c C e _ => (by rw [h c] at e; cases e)⟩
/-- isinstance(e, T), T built-in -/
theorem c_isi {p : Pos} {B : B} {n : String} (hK : X.K = C.T.K) (hB : ∀ d z, biD B [d] = some z → ∃ r, z = .bl r ∧ ((isObjD d = false ∧ kitB (tyN d) n = some r) ∨ (isXD d = true ∧ r = false))) (IB : IsB X C.T (.type n)) (hg : Gl X "isinstance") (hm : X.mg "isinstance" = none)
    (ha : PE X e (tI C W cl e')) (hb : PE X b (tC (.ty n))) (he : starEach [e, b] X.env = (false, eval e X.env) :: starEach [b] X.env := by rfl) (he2 : starEach [b] X.env = (false, eval b X.env) :: starEach [] X.env := by rfl)
    (hpl : (backTo pos (starEach [b] X.env)).any (·.1) = false := by rfl) : PE X (.Call (.Name "isinstance" p) [e, b] [] pos) (tI C W cl (.bi B (.cons e' .nil))) :=
  peI (pe_callB (call_isi.or call_isX) hg hm (by decide +kernel) (pa_cons ha (pa_cons hb pa_nil he2) he) (by decide) (by decide) he hpl) fun σ H Q ⟨H0, env, S, q⟩ => by
    simp only [ev, evR] at q
    have q' : RQ C W σ (KV C σ Q) H0 ((ev cl e' env).bind fun u env1 => orBad (rdAll env1 [pend u]) fun ds => orBad (biD B ds) fun z => .ok (.nw z) env1) := by
      cases z : ev cl e' env <;> simp only [z, R.bind_ok, R.bind_exc, R.bind_bad] at q ⊢ <;> exact q
    refine seqI S q' fun u env1 v H1 H1' e1 S1 u1 q1 => ?_
    obtain ⟨H2, e2, S2, u2⟩ := S1.pend u1
    obtain ⟨ds, hd, q1⟩ := q1.orB
    obtain ⟨z, hz, q1⟩ := q1.orB
    unfold rdAll at hd
    split at hd
    · rename_i d ds' h1 h2
      cases h2
      cases hd
      obtain ⟨r, rfl, ho⟩ := hB d z hz
      have rr := S2.rd u2 h1
      have q9 := RQ.mono e2 q1
      rcases ho with ⟨ho, hk⟩ | ⟨hx, rfl⟩
      · exact .inl ⟨v, _, _, _, r, rfl, .ty n, tyx hK S2.ex rr ho, kit_ty hk, fin_nw S2 q9 (Gr.rfl' S2.ex) (.flat rfl (r_bl _ _ _))⟩
      · cases d with
        | obj c ks vs =>
          obtain ⟨pp, Ca, dx, xs, rfl, hck, hp, _⟩ := rd_obj S2.ex rr
          obtain ⟨h1, h2, h3, h4, h5, h6⟩ := IB.ob c Ca (Tbl.ck_some hck).1 (Tbl.ck_ec hck)
          exact .inl ⟨_, _, _, _, false, rfl, .ty n, .base (.ins hp h2 h3 h4 h5 h6), h1, fin_nw S2 q9 (Gr.rfl' S2.ex) (.flat rfl (r_bl _ _ _))⟩
        | err c ks vs =>
          obtain ⟨a, Ca, rfl, hcn, hec, hx⟩ := rd_err S2.ex rr
          obtain ⟨h1, h2⟩ := IB.ex c Ca hcn hec
          exact .inr ⟨a, Ca, _, _, false, rfl, hx, h1, fun u hu => hu, h2, fin_nw S2 q9 (Gr.rfl' S2.ex) (.flat rfl (r_bl _ _ _))⟩
        | _ => cases hx
    · cases hd
theorem fz_noIo {as : List Ar} {vs : List V} {T : Tbl} {H0 H : Hp} (h : allFz as = true) (hr : ArOk T H0 H as vs) : ∀ i : Nat, (ioL as vs)[i]? ≠ some (some (p : Addr)) := by
  induction as generalizing vs with
  | nil => intro i; cases hr; simp [ioL]
  | cons a as ih =>
    cases a with
    | io d => cases h
    | fz d =>
      obtain ⟨v, r, rfl, _, h2⟩ := hr
      intro i
      cases i with
      | zero => simp [ioL]
      | succ i => simpa [ioL] using ih (by simpa [allFz] using h) h2 i
theorem fz_outs {as : List Ar} {vs : List V} {T : Tbl} {H0 H Ha Hb : Hp} {ds : List D} (h : allFz as = true) (hr : ArOk T H0 H as vs) (ho : OutsOk T Ha Hb (ioL as vs) ds) : ds = [] := by
  induction as generalizing vs with
  | nil => cases hr; exact ho
  | cons a as ih =>
    cases a with
    | io d => cases h
    | fz d =>
      obtain ⟨v, r, rfl, _, h2⟩ := hr
      exact ih (by simpa [allFz] using h) h2 ho
theorem ArOk.grow {T : Tbl} {H0 H H' : Hp} : ∀ {as : List Ar} {vs : List V}, allFz as = true → ArOk T H0 H as vs → ArOk T H0 H' as vs
  | [], _, _, h => h
  | .fz d :: as, _, hz, h => by
    obtain ⟨v, r, rfl, h1, h2⟩ := h
    exact ⟨v, r, rfl, h1, ArOk.grow (by simpa [allFz] using hz) h2⟩
  | .io _ :: _, _, hz, _ => by cases hz
/-- a new object's reading -/
theorem read_mk {σ : L2.St} {H1 H1' : Hp} {Q : VK} {env1 : Env} {c n : Nat} {Ca x dx : Addr} {as : List Ar} {vs : List V} (S1 : Sim C σ H1 H1' env1) (hz : allFz as = true) (hr : ArOk C.T H1 H1' as vs) (hn : as.length + 1 = n) (hc : C.T.ck c [] = some Ca)
    (nx : H1' x = none) (nd : H1' dx = none) (ne : dx ≠ x) (q : RQ C W σ (KV C σ Q) H1 (makeO cl c as env1)) :
    spF C.T cl (spec c 0) n (.ref x :: vs) (upd (upd H1' dx (.own x)) x (.ins Ca dx [])) (fun v H2 => v = .non ∧ Q (.ref x) H2) fun cls d H' => W cls d σ H' := by
  have n1 : H1 x = none := S1.ex.no nx
  have n2 : H1 dx = none := S1.ex.no nd
  have E1 : Ext H1' (upd (upd H1' dx (.own x)) x (.ins Ca dx [])) := (ext_upd nd).tr (ext_upd (by rw [upd_ne ne.symm]; exact nx))
  refine ⟨H1, .io (.obj c [] []) :: as, S1.ex.tr E1, ⟨x, vs, rfl, ⟨x, Ca, dx, [], rfl, n1, hc, upd_same, rfl, rfl⟩, hr.grow hz⟩, ?_, hn, ⟨E1.tabs S1.tabs, S1.tno⟩, ?_⟩
  · intro i j a hi hj
    cases i with
    | zero => cases j with
      | zero => rfl
      | succ j => exact (fz_noIo hz hr j hj).elim
    | succ i => exact (fz_noIo hz hr i hi).elim
  · have grow : ∀ {H0' H' : Hp}, GrC C.T (some x :: ioL as vs) H1 (upd (upd H1' dx (.own x)) x (.ins Ca dx [])) H0' H' → Gr C.T H1 H1' H0' H' := fun g =>
      ⟨g.e0, fun a o ha => by
        have na : a ≠ x := ne_of_none ha nx
        refine g.keep a o (fun hm => ?_) (E1 a o ha)
        rcases List.mem_cons.mp hm with z | z
        · cases z; exact na rfl
        · obtain ⟨i, hi⟩ := List.mem_iff_getElem?.mp z
          exact fz_noIo hz hr i hi, g.e01, fun a h h' => by
        have := g.new a h h'
        exact E1.no this, fun t => g.tb (E1.tabs t)⟩
    unfold makeO at q
    cases zc : cl (spec c 0) (.io (.obj c [] []) :: as) with
    | bad => simp only [zc] at q; exact q
    | exc z outs =>
      simp only [zc] at q
      intro cls d H0' H' g o hx
      exact q cls d H0' H' g.e0 (S1.gr (grow g)) hx
    | ok r outs =>
      simp only [zc] at q
      split at q
      · rename_i hh
        intro v H0' H' g hr2 o
        cases hh
        obtain ⟨d, ds', e1, o1, o2⟩ := o
        have := fz_outs hz hr o2
        subst this
        cases e1
        refine ⟨by simpa only [RetOk, Rep] using hr2, ?_⟩
        refine q H0' H' g.e0 (S1.gr (grow g)) (.ref x) ?_
        show RepN _ _ _ _ _ _ _
        unfold RepN
        rw [if_pos (RepO.ref o1).1]
        refine ⟨x, rfl, S1.he nx, o1, fun i hi ei => ?_⟩
        obtain ⟨_, o, z⟩ := S1.own hi ei
        rw [nx] at z; cases z
      · rename_i hh
        cases hh
      · exact q.elim
theorem under_guards {A : Around} {Ca : Addr} {us : List Value} {kw : List (Str × Value)} (h : A.guards = some []) : (A.under (.builtin "type.__call__" ⟨.ref Ca :: us, kw⟩)).guards = some [] := by
  first
  | exact h
  | (simp [Around.under, h]; done)
  | (rw [Around.under_plainId (by decide +kernel)]; exact h)
theorem mk_run {k : Nat} {f Ca : Addr} {fd : FuncData} {ps : List Str} {sp : Sp} {ds : List Value} {dvs : List V} {pins : List (Addr × Obj)} {σ : L2.St} {H : Hp} {s : Shared} {Q : VK} {us : List Value} {vs : List V} {E : XK}
    (M : Mk X.K Ca f) (F : FnG X.prog X.w X.K X.mg X.base k f fd ps sp) (hgd : X.A.guards = some []) (room : Room (k + 1) X.A) (bd : Binds X.K fd ps ds) (hd : Vals dvs ds) (tk : Takes X W) (hE : ∀ cls d H', E cls d H' → W cls d σ H')
    (I : Inv X pins σ H s) (r : Vals vs us) (h : ∀ x dx, H x = none → H dx = none → dx ≠ x → sp (.ref x :: (vs ++ dvs)) (upd (upd H dx (.own x)) x (.ins Ca dx [])) (fun v H2 => v = .non ∧ Q (.ref x) H2) E) :
    wpAny (model X.prog X.w) X.A (call (.ref Ca) us) (EP X pins σ Q) X.xe s := by
  have q := h (s.heap.objs.size + 1) s.heap.objs.size (I.hok.fresh (Nat.le_succ _)) (I.hok.fresh (Nat.le_refl _)) (Nat.ne_of_lt (Nat.lt_succ_self _))
  have J := Inv.made (C := Ca) I
  have rr : Vals (V.ref (s.heap.objs.size + 1) :: (vs ++ dvs)) (Value.ref (s.heap.objs.size + 1) :: (us ++ ds)) := .cons rfl (r.append hd)
  have ll : (Value.ref (s.heap.objs.size + 1) :: us ++ ds).length = ps.length := by
    have z := rr.length
    rw [F.len _ _ _ _ q] at z; exact z.symm
  refine wpAny_call (make_map (f := f) I.kIn M.makes M.init (beq_iff_eq.mp M.fn) (codeAny_mono (F.run _ X.stack _ _ ⟨Value.ref (s.heap.objs.size + 1) :: us, []⟩ (Value.ref (s.heap.objs.size + 1) :: (us ++ ds)) _ _ E (under_guards hgd) (room.make Ca us []) (J.env0.make Ca us []) (bd _ (Value.ref (s.heap.objs.size + 1) :: us) J.kIn ll) rr q) fun r s' z => ?_))
  cases r with
  | error e => exact tk _ _ (XE.of_call J hE z)
  | ok fl =>
    cases fl with
    | ret u =>
      obtain ⟨v, H', I3, rv, ev, q3⟩ := J.after z
      subst ev
      exact ⟨rv, ⟨V.ref (s.heap.objs.size + 1), H', I3, rfl, q3⟩⟩
    | _ => exact False.elim z
/-- what is read of C(..) -/
def tMk (C : Ctx) (W : WX) (cl : CallF) (c n : Nat) (Ca : Addr) (dvs : List V) (t : TA) : TE := fun σ H Q => t σ H fun vs H1 => ∀ x dx, H1 x = none → H1 dx = none → dx ≠ x →
  spF C.T cl (spec c 0) n (.ref x :: (vs ++ dvs)) (upd (upd H1 dx (.own x)) x (.ins Ca dx [])) (fun v H2 => v = .non ∧ Q (.ref x) H2) fun cls d H' => W cls d σ H'
theorem readMk {σ : L2.St} {H : Hp} {Q : VK} {c n : Nat} {Ca : Addr} {ms : List Bool} {ds : List D} {dvs : List V} (hcn : C.T.ck c [] = some Ca) (hds : CstOk C.T ds dvs) (hn : (ms ++ ds.map fun _ => false).length + 1 = n) (h : tI C W cl (.mk c ms es' ds) σ H Q) :
    tMk C W cl c n Ca dvs (tAC C W cl ms es') σ H Q := by
  obtain ⟨H0, env, S, q⟩ := h
  simp only [ev] at q
  refine ⟨H0, env, S, ?_⟩
  cases z : evC cl ms es' env with
  | bad => rw [z] at q; exact q.elim
  | exc x env1 => rw [z] at q; exact q
  | ok us env1 =>
    rw [z] at q
    simp only [R.bind_ok] at q
    intro H1 H1' e1 S1 vs hv x dx nx nd ne
    obtain ⟨as, ha, q1⟩ := (RQ.mono e1 q).orB
    split at q1
    · rename_i hz
      obtain ⟨g1, g2, _⟩ := args_ok S1 ha (hv.app (hds _))
      exact read_mk S1 hz g1 (by rw [g2]; exact hn) hcn nx nd ne q1
    · exact q1.elim
theorem c_mk {x : Str} {p : Pos} {k c n : Nat} {f Ca : Addr} {fd : FuncData} {ps : List Str} {ms : List Bool} {ds : List D} {dvs : List V} {dus : List Value} (M : Mk X.K Ca f) (F : FnG X.prog X.w X.K X.mg X.base k f fd ps (spF C.T cl (spec c 0) n)) (hgd : X.A.guards = some []) (room : Room (k + 1) X.A)
    (tk : Takes X W) (hg : Gl X x) (hm : X.mg x = some (.ref Ca)) (hcn : C.T.ck c [] = some Ca) (bd : Binds X.K fd ps dus) (hdv : Vals dvs dus) (hds : CstOk C.T ds dvs) (ha : PA X (e :: es) (tAC C W cl ms es')) (hn : (ms ++ ds.map fun _ => false).length + 1 = n := by rfl)
    (hdb : (x == ("__debug__" : Str)) = false := by decide) (he : starEach (e :: es) X.env = (false, eval e X.env) :: starEach es X.env := by rfl) (hpl : (backTo pos (starEach es X.env)).any (·.1) = false := by rfl) : PE X (.Call (.Name x p) (e :: es) [] pos) (tI C W cl (.mk c ms es' ds)) := by
  refine peI (t := tMk C W cl c n Ca dvs (tAC C W cl ms es')) ⟨fun pins s σ H Q I h => ?_⟩ fun σ H Q q => readMk hcn hds hn q
  refine wpAny_Call_Name_kw (ld_glob I hg hm ?_ hdb)
  refine PySem.W.callWith_K (h₀ := X.base) I.ok.mod.kin M.kp (thn (ha.run pos pins s σ H _ I h) fun us s1 hq => ?_) he hpl
  obtain ⟨vs, H1, I1, r, q⟩ := hq
  exact ⟨I1.kIn, mk_run M F hgd room bd hdv tk (fun _ _ _ z => z) I1 r q⟩
theorem c_mk0 {x : Str} {p : Pos} {k c n : Nat} {f Ca : Addr} {fd : FuncData} {ps : List Str} {ds : List D} {dvs : List V} {dus : List Value} (M : Mk X.K Ca f) (F : FnG X.prog X.w X.K X.mg X.base k f fd ps (spF C.T cl (spec c 0) n)) (hgd : X.A.guards = some []) (room : Room (k + 1) X.A)
    (tk : Takes X W) (hg : Gl X x) (hm : X.mg x = some (.ref Ca)) (hcn : C.T.ck c [] = some Ca) (bd : Binds X.K fd ps dus) (hdv : Vals dvs dus) (hds : CstOk C.T ds dvs) (hn : (ds.map fun _ => false).length + 1 = n := by rfl)
    (hdb : (x == ("__debug__" : Str)) = false := by decide) : PE X (.Call (.Name x p) [] [] pos) (tI C W cl (.mk c [] .nil ds)) := by
  refine peI (t := tMk C W cl c n Ca dvs (tAC C W cl [] .nil)) ⟨fun pins s σ H Q I h => ?_⟩ fun σ H Q q => readMk hcn hds hn q
  refine wpAny_Call_Name_kw (ld_glob I hg hm ?_ hdb)
  obtain ⟨H0, env, S, q⟩ := h
  simp only [evC] at q
  exact PySem.W.callWith_K0 I.kIn M.kp (mk_run (us := []) M F hgd room bd hdv tk (fun _ _ _ z => z) I .nil (q H0 H (Ext.rfl' _) S [] rfl))
/-- a call of two frozen things -/
theorem own_two {σ : L2.St} {H4 H3' : Hp} {env4 : Env} {f : Nat} {dx dy : D} {x y : V} {g : U → R U} {Q Q' : VK} (S4 : Sim C σ H4 H3' env4) (rx : Rep C.T H4 dx x) (ry : Rep C.T H4 dy y)
    (q : match cl f [.fz dx, .fz dy] with
      | .ok r _ => RQ C W σ (KV C σ Q) H4 (g r)
      | .exc z _ => RQ C W σ (KV C σ Q) H4 (.exc z env4)
      | .bad => False)
    (k : ∀ r v H0' H', Gr C.T H4 H3' H0' H' → RetOk C.T H0' H' H3' r v → RQ C W σ (KV C σ Q) H4 (g r) → Q' v H') : spF C.T cl f 2 [x, y] H3' Q' fun cls d H' => W cls d σ H' := by
  refine ⟨H4, [.fz dx, .fz dy], S4.ex, ⟨x, [y], rfl, rx, y, [], rfl, ry, rfl⟩, ?_, rfl, S4.tb, ?_⟩
  · intro i j p hi hj
    match i, hi with
    | 0, hi => simp [ioL] at hi
    | 1, hi => simp [ioL] at hi
    | _ + 2, hi => simp [ioL] at hi
  · cases zc : cl f [.fz dx, .fz dy] with
    | bad => simp only [zc] at q
    | exc z outs =>
      simp only [zc] at q
      intro cls d H0' H' g _ hx
      exact q cls d H0' H' g.e0 (S4.gr ⟨g.e0, fun p o hp => g.keep p o (by simp [ioL]) hp, g.e01, g.new, g.tb⟩) hx
    | ok r outs =>
      simp only [zc] at q
      intro v H0' H' g hr _
      exact k r v H0' H' ⟨g.e0, fun p o hp => g.keep p o (by simp [ioL]) hp, g.e01, g.new, g.tb⟩ hr q
/-- x in y, y perhaps of an own class -/
def rIn (C : Ctx) (W : WX) (cl : CallF) (neg : Bool) (cs : List Nat) (σ : L2.St) : R2 := fun x y H Q => (∃ H0 dy c, Ext H0 H ∧ Rep C.T H0 dy y ∧ c ∈ cs ∧ (∃ ks vs, dy = .obj c ks vs) ∧
  spF C.T cl (spec c 17) 2 [y, x] H (fun v H' => ∃ t, v = .bl t ∧ Q (.bl (if neg then !t else t)) H') fun cls d H' => W cls d σ H') ∨ rD C.T (op2 (if neg then .notin else .isin)) x y H Q
theorem readIn {σ : L2.St} {H : Hp} {Q : VK} {neg : Bool} {cs : List Nat} (h : tI C W cl (.ino neg cs a' b') σ H Q) : tOp (rIn C W cl neg cs σ) (tI C W cl a') (tI C W cl b') σ H Q := by
  obtain ⟨H0, env, S, q⟩ := h
  simp only [ev] at q
  refine seqI S q fun u env1 x H1 H1' e1 S1 u1 q1 => ?_
  obtain ⟨⟨dx, env2⟩, hf, q2⟩ := q1.orB
  obtain ⟨H2, e2, S2, r2⟩ := S1.take u1 hf
  refine seqI S2 (RQ.mono e2 q2) fun w env3 y H3 H3' e3 S3 u3 q3 => ?_
  obtain ⟨⟨dy, env4⟩, hg, q4⟩ := q3.orB
  obtain ⟨H4, e4, S4, r4⟩ := S3.take u3 hg
  have rx : Rep C.T H4 dx x := Rep.mono (e3.tr e4) _ _ r2
  have q5 := RQ.mono e4 q4
  simp only at q5
  cases dy with
  | obj c ks vs =>
    unfold ownIn at q5
    simp only at q5
    split at q5
    · exact q5.elim
    rename_i hcs
    simp only [Bool.not_eq_true, Bool.not_eq_false', List.contains_iff_mem] at hcs
    refine .inl ⟨H4, _, c, S4.ex, r4, hcs, ⟨ks, vs, rfl⟩, own_two (Q := Q) (g := fun r => match r with | .d (.bl t) => .ok (.nw (.bl (if neg then !t else t))) env4 | _ => .bad) S4 r4 rx ?_ ?_⟩
    · cases zc : cl (spec c 17) [.fz (.obj c ks vs), .fz dx] with
      | bad => simp only [zc] at q5; exact q5
      | exc z outs => simp only [zc] at q5 ⊢; exact q5
      | ok r outs =>
        simp only [zc] at q5 ⊢
        split at q5
        · rename_i hh; cases hh; exact q5
        · rename_i hh; cases hh
        · exact q5.elim
    · intro r v H0' H' g hr q6
      split at q6
      · rename_i t
        have rv : v = .bl t := by simpa only [RetOk, Rep] using hr
        exact ⟨t, rv, q6 H0' H' g.e0 (S4.gr g) _ (RepG.nw S4 (.flat rfl (r_bl _ _ _)))⟩
      · exact q6.elim
  | _ =>
    obtain ⟨z, hz, q6⟩ := RQ.orB (show RQ C W σ (KV C σ Q) H4 (orBad (op2 (if neg then .notin else .isin) dx _) fun z => .ok (.nw z) env4) from q5)
    exact .inr ⟨H4, dx, _, z, S4.ex, .inl rx, .inl r4, hz, fun v H0' H' g r => fin_nw S4 q6 g r⟩
theorem c_inO {neg : Bool} {cs : List Nat} {op : CmpOp} (hop : op = if neg then .NotIn else .In) (SP : SpOk X C.T cl 17 "__contains__" cs 2 []) (hgd : X.A.guards = some []) (tk : Takes X W) (ho : OpR X (compareOp op) (rD C.T (op2 (if neg then .notin else .isin))))
    (ha : PE X a (tI C W cl a')) (hb : PE X b (tI C W cl b')) (hm : behindInMarks op b = false) : PE X (.Compare a [op] [b] pos) (tI C W cl (.ino neg cs a' b')) := by
  refine peI (t := fun σ H Q => tOp (rIn C W cl neg cs σ) (tI C W cl a') (tI C W cl b') σ H Q) ⟨fun pins s σ H Q I h => wpAny_Compare1 (binT ha hb I h fun v u s2 x y H2 I2 rx ry q => ?_) hm⟩ fun σ H Q q => readIn q
  rcases q with ⟨H0, dy, c, e, r2, hcs, ⟨ks, vs, rfl⟩, hsp⟩ | q
  · obtain ⟨p, Ca, dd, xs, rfl, hck, hp, _⟩ := rd_obj e (.inl r2)
    have hcn := (Tbl.ck_some hck).1
    obtain ⟨kc, hno, k, f, fd, ps, dus, hme, F, hr, hb, hd⟩ := SP c hcs Ca hcn
    obtain ⟨mA, O, _⟩ := ins_get I2.hok hp
    obtain ⟨od, J, _⟩ := O.look
    obtain ⟨mm, hF⟩ := I2.fr
    cases (show u = Value.ref p from ry)
    have run := F.go (Q := fun v H' => ∃ t, v = .bl t ∧ Q (.bl (if neg then !t else t)) H') (us := [.ref p, v]) (vs := [.ref p, x]) hgd hr hb hd tk (fun _ _ _ z => z) I2 (.cons rfl (.cons rx .nil)) (by rw [List.append_nil]; exact hsp)
    cases neg with
    | true =>
      subst hop
      refine PySem.W.notIn_K hF I2.ok.mod.kin J hme.at_ hme.fn (wpAny_mono run (fun w s' z => ?_) fun _ _ x => x)
      obtain ⟨z', H', I', rz, t, rfl, qz⟩ := z
      cases (show w = Value.bool t from rz)
      exact wpAny_truthy_bool ⟨.bl (!t), H', I', rfl, qz⟩
    | false =>
      subst hop
      refine PySem.W.in_K hF I2.ok.mod.kin J hme.at_ hme.fn (wpAny_mono run (fun w s' z => ?_) fun _ _ x => x)
      obtain ⟨z', H', I', rz, t, rfl, qz⟩ := z
      cases (show w = Value.bool t from rz)
      exact wpAny_truthy_bool ⟨.bl t, H', I', rfl, qz⟩
  · exact ho pins s2 σ H2 x y v u Q I2 rx ry q
end
end PP
end

section
set_option maxHeartbeats 1000000
/-! Properties, making, isinstance of own classes, in and != by own defs. -/
namespace PySem.W
open PySem PySem.Calls PyProof.Rows
section
variable {prog : Program} {w : World} {A : Around} {E : Value → Shared → Prop} {s : Shared} {K : Frag} {x C L f : Addr} {h₀ : Heap} {m : Str → Option Value} {ox : Obj} {od : Option Obj}
theorem ppne_bind (self : Value) : bindSpecial (.builtin "object.__ne__") self = pure (.builtin "object.__ne__", [self]) :=
  (Slot.of (T := "object") (name := "__ne__") (owner := "object") (n := "__ne__") (by rw [typeLookup_type, builtinLookup_eq_fast]; kernel_rfl) (by decide +kernel) (by decide +kernel) (by decide +kernel) (.inl (by decide +kernel)) (by rw [isSubtype_type]; kernel_rfl)).bind self
theorem ppne_plain : plainId "object.__ne__" = true := by decide +kernel
/-- x != b by the class's own == -/
theorem pp_ne {b tb : Value} {Q : Value → Shared → Prop} (hu : A.units + 1 < cLine) (F : Fr h₀ L s.heap m) (X0 : K.In h₀) (I : InstAt s.heap x ox C od) (hb : Looks (model prog w) s.heap (typeOf b) tb) (hn : notFirst K C tb = true)
    (he : findIn K (.ref C) "__eq__" = some (some (.ref f))) (hf : isFn K (.ref f) = true) (hne : findIn K (.ref C) "__ne__" = some (some (.builtin "object.__ne__"))) (hi : Looks (model prog w) s.heap (isInstance (.ref x) (.type "object")) true)
    (h : wpAny (model prog w) A.in1 (call (.ref f) [.ref x, b]) (fun v s' => ∃ t, v = .bool t ∧ Q (.bool (!t)) s') E s) : wpAny (model prog w) A (richCompare .NotEq (.ref x) b) Q E s := by
  have kin := X0.keeps F.keep
  have one : wpAny (model prog w) A (tryCompare (.ref x) "__ne__" b) (fun r s' => ∃ v, r = some v ∧ Q v s') E s := by
    unfold tryCompare
    simp only [callSpecialIfBound?, bindSpecialIfBound?]
    refine wpAny_bind (wpAny_holding (wpAny_bind (wpAny_bind (wpAny_bind (I.type.here ((looks_findIn kin hne).here ?_))))))
    refine wpAny_bind (wpAny_askSetting (wpAny_ite ?_))
    have inst : Looks (model prog w) s.heap (isInstance (.ref x) (.type "object")) true := hi
    have body : wpAny (model prog w) A.in1 (Builtin.«object.__ne__» ⟨[.ref x, b], []⟩) (fun fin s' => ∃ v, fin = .done (.ret v) ∧ (∃ t, v = Value.bool t) ∧ Q v s') E s := by
      unfold Builtin.«object.__ne__»
      have hs : slotArgs "__ne__" 1 ⟨[.ref x, b], []⟩ = pure (.ref x, [b]) := by kernel_rfl
      rw [hs]
      refine wpAny_bind (wpAny_pure ?_)
      refine wpAny_bind (wpAny_cRoomFor hu ?_)
      refine wpAny_bind (ifBound_K kin I he hf (wpAny_mono h (fun v s' z => ?_) fun _ _ e => e))
      obtain ⟨t, rfl, z⟩ := z
      refine wpAny_bind (wpAny_truthy_bool ?_)
      exact wpAny_pure ⟨_, rfl, ⟨_, rfl⟩, z⟩
    have run : wpAny (model prog w) A (call (.builtin "object.__ne__") ([.ref x] ++ [b])) (fun v s' => (∃ t, v = Value.bool t) ∧ Q v s') E s := by
      refine wpAny_call (codeAny_call_builtin ppne_plain PySem.F.cmpEntry_ne ?_)
      refine check_slot PySem.F.cmpKind_ne PySem.F.cmpSplit_ne inst (PySem.F.cmpArgs_ne _ _) ?_
      refine wpAny_mono body (fun z s' q => ?_) fun _ _ e => e
      obtain ⟨v, rfl, q⟩ := q
      exact q
    have fin : wpAny (model prog w) A (call (.builtin "object.__ne__") ([.ref x] ++ [b]) >>= fun v => pure (some v)) (fun r s' => ∃ v, r = some v ∧ (∃ t, v = Value.bool t) ∧ Q v s') E s := wpAny_bind (wpAny_mono run (fun v s' z => wpAny_pure ⟨v, rfl, z⟩) fun _ _ e => e)
    have fin2 : ∀ {m : Sem (Option (Value × List Value))}, wpAny (model prog w) A m (fun a s' => a = some (.builtin "object.__ne__", [.ref x]) ∧ s' = s) E s → wpAny (model prog w) A m (fun a s' => wpAny (model prog w) A (match a with
        | some (g, first) => do
          let v ← call g (first ++ [b])
          pure (some v)
        | x => pure none) (fun a s' => wpAny (model prog w) A (match a with
          | some Value.notImplemented => pure none
          | none => pure none
          | some v => pure (some v)) (fun r s' => ∃ v, r = some v ∧ Q v s') E s') E s') E s := fun hm => wpAny_mono hm (fun a s' z => by
        obtain ⟨rfl, rfl⟩ := z
        refine wpAny_mono fin (fun r s' z => ?_) fun _ _ e => e
        obtain ⟨v, rfl, ⟨t, rfl⟩, q⟩ := z
        exact wpAny_pure ⟨_, rfl, q⟩) fun _ _ e => e
    split
    · rw [ppne_bind]
      exact fin2 (wpAny_bind (wpAny_pure (wpAny_pure ⟨rfl, rfl⟩)))
    · rw [ppne_bind]
      exact fin2 (wpAny_tryCatch (wpAny_bind (wpAny_pure (wpAny_pure ⟨rfl, rfl⟩))))
  unfold richCompare
  simp only [oneThing_ref]
  refine wpAny_holding (wpAny_bind (wpAny_cRoomFor (Nat.lt_of_succ_lt hu) ?_)); rw [cmpInfo_NotEq]; dsimp only
  refine wpAny_bind (I.type.here (wpAny_bind (hb.here ?_))); split
  · rename_i q
    have e : subIn K tb (.ref C) = some false := by
      rcases Bool.or_eq_true_iff.mp hn with e | e
      · rw [beq_iff_eq.mp e] at q; simp at q
      · exact beq_iff_eq.mp e
    refine wpAny_bind ((looks_subIn kin e).here ?_); simp only [Bool.false_eq_true, if_false]
    refine wpAny_bind (wpAny_mono one (fun r s' z => ?_) fun _ _ e => e); obtain ⟨v, rfl, hq⟩ := z
    exact wpAny_pure hq
  · refine wpAny_bind (wpAny_pure ?_); simp only [Bool.false_eq_true, if_false]
    refine wpAny_bind (wpAny_mono one (fun r s' z => ?_) fun _ _ e => e); obtain ⟨v, rfl, hq⟩ := z
    exact wpAny_pure hq
end
end PySem.W
namespace PP
open PySem PySem.Spec PyProof.Rows L2
section
variable {X : Cx} {C : Ctx} {W : WX} {cl : CallF} {e a b : Expr} {es : List Expr} {e' a' b' : Ex} {es' : Exs} {pos : Pos}
theorem FnG.goIn {k : Nat} {f : Addr} {fd : FuncData} {ps : List Str} {sp : Sp} {ds : List Value} {dvs : List V} {pins : List (Addr × Obj)} {σ : L2.St} {H : Hp} {s : Shared} {Q : VK} {us : List Value} {vs : List V} {E : XK}
    (F : FnG X.prog X.w X.K X.mg X.base k f fd ps sp) (hgd : X.A.guards = some []) (hr : Room (k + 1) X.A) (hb : Binds X.K fd ps ds) (hd : Vals dvs ds) (tk : Takes X W) (hE : ∀ cls d H', E cls d H' → W cls d σ H')
    (I : Inv X pins σ H s) (r : Vals vs us) (h : sp (vs ++ dvs) H Q E) : wpAny (model X.prog X.w) X.A.in1 (call (.ref f) us) (EP X pins σ Q) X.xe s := by
  have r2 := r.append hd
  have hlen : (us ++ ds).length = ps.length := r2.length ▸ F.len _ _ _ _ h
  refine wpAny_call (codeAny_mono (F.run X.A.in1 X.stack s H ⟨us, []⟩ _ _ Q E hgd hr.in1 I.env0.in1 (hb s us I.kIn hlen) r2 h) fun res s' hq => ?_)
  cases res with
  | error ee => exact tk _ _ (XE.of_call I hE hq)
  | ok fl =>
    cases fl with
    | ret u => exact I.after hq
    | _ => exact hq.elim
/-- x != y, x perhaps of an own class with its own == -/
def rNe (C : Ctx) (W : WX) (cl : CallF) (cs : List Nat) (σ : L2.St) : R2 := fun x y H Q => (∃ H0 dx dy c, Ext H0 H ∧ Rep C.T H0 dx x ∧ Rep C.T H0 dy y ∧ c ∈ cs ∧ oddD dy = false ∧ (∃ ks vs, dx = .obj c ks vs) ∧
  spF C.T cl (spec c 16) 2 [x, y] H (fun v H' => ∃ t, v = .bl t ∧ Q (.bl (!t)) H') fun cls d H' => W cls d σ H') ∨ rD C.T (op2 .ne) x y H Q
theorem readNe {σ : L2.St} {H : Hp} {Q : VK} {cs : List Nat} (h : tI C W cl (.neo cs a' b') σ H Q) : tOp (rNe C W cl cs σ) (tI C W cl a') (tI C W cl b') σ H Q := by
  obtain ⟨H0, env, S, q⟩ := h
  simp only [ev] at q
  refine seqI S q fun u env1 x H1 H1' e1 S1 u1 q1 => ?_
  obtain ⟨⟨dx, env2⟩, hf, q2⟩ := q1.orB
  obtain ⟨H2, e2, S2, r2⟩ := S1.take u1 hf
  refine seqI S2 (RQ.mono e2 q2) fun w env3 y H3 H3' e3 S3 u3 q3 => ?_
  obtain ⟨⟨dy, env4⟩, hg, q4⟩ := q3.orB
  obtain ⟨H4, e4, S4, r4⟩ := S3.take u3 hg
  have rx : Rep C.T H4 dx x := Rep.mono (e3.tr e4) _ _ r2
  have q5 := RQ.mono e4 q4
  simp only at q5
  cases dx with
  | obj c ks vs =>
    unfold ownNe at q5
    simp only at q5
    split at q5
    · exact q5.elim
    rename_i hcs
    replace hcs : c ∈ cs ∧ oddD dy = false := by simpa [List.contains_iff_mem] using hcs
    refine .inl ⟨H4, _, dy, c, S4.ex, rx, r4, hcs.1, hcs.2, ⟨ks, vs, rfl⟩, own_two (Q := Q) (g := fun r => match r with | .d (.bl t) => .ok (.nw (.bl (!t))) env4 | _ => .bad) S4 rx r4 ?_ ?_⟩
    · cases zc : cl (spec c 16) [.fz (.obj c ks vs), .fz dy] with
      | bad => simp only [zc] at q5; exact q5
      | exc z outs => simp only [zc] at q5 ⊢; exact q5
      | ok r outs =>
        simp only [zc] at q5 ⊢
        split at q5
        · rename_i hh; cases hh; exact q5
        · rename_i hh; cases hh
        · exact q5.elim
    · intro r v H0' H' g hr q6
      split at q6
      · rename_i t
        have rv : v = .bl t := by simpa only [RetOk, Rep] using hr
        exact ⟨t, rv, q6 H0' H' g.e0 (S4.gr g) _ (RepG.nw S4 (.flat rfl (r_bl _ _ _)))⟩
      · exact q6.elim
  | _ =>
    simp only [ownNe] at q5
    obtain ⟨z, hz, q6⟩ := q5.orB
    exact .inr ⟨H4, _, dy, z, S4.ex, .inl rx, .inl r4, hz, fun v H0' H' g r => fin_nw S4 q6 g r⟩
/-- what != asks of the class, besides its own == -/
structure NeC (K : PySem.W.Frag) (C : Addr) : Prop where
  ne : PySem.W.findIn K (.ref C) "__ne__" = some (some (.builtin "object.__ne__"))
  top : PySem.W.mroIn K C (.type "object") = some true
def SpQ (X : Cx) (T : Tbl) (cl : CallF) (cs : List Nat) : Prop :=
  ∀ c ∈ cs, ∀ C, T.cn c = some C → Cls X.K C ∧ NeC X.K C ∧ NFs X.K T C ∧ ∃ k f fd ps dus, Meth X.K C "__eq__" f ∧ FnG X.prog X.w X.K X.mg X.base k f fd ps (spF T cl (spec c 16) 2) ∧ Room (k + 1) X.A ∧ Binds X.K fd ps dus ∧ Vals [] dus
theorem c_neO {cs : List Nat} (hK : X.K = C.T.K) (hu : X.A.units + 64 < cLine) (SP : SpQ X C.T cl cs) (hgd : X.A.guards = some []) (tk : Takes X W) (ho : OpR X (compareOp .NotEq) (rD C.T (op2 .ne)))
    (ha : PE X a (tI C W cl a')) (hb : PE X b (tI C W cl b')) (hm : behindInMarks .NotEq b = false) : PE X (.Compare a [.NotEq] [b] pos) (tI C W cl (.neo cs a' b')) := by
  refine peI (t := fun σ H Q => tOp (rNe C W cl cs σ) (tI C W cl a') (tI C W cl b') σ H Q) ⟨fun pins s σ H Q I h => wpAny_Compare1 (binT ha hb I h fun v u s2 x y H2 I2 rx ry q => ?_) hm⟩ fun σ H Q q => readNe q
  rcases q with ⟨H0, dx, dy, c, e, r1, r2, hcs, hodd, ⟨ks, vs, rfl⟩, hsp⟩ | q
  · obtain ⟨p, Ca, dd, xs, rfl, hck, hp, _⟩ := rd_obj e (.inl r1)
    have hcn := (Tbl.ck_some hck).1
    obtain ⟨kc, nc, ⟨n1, n2⟩, k, f, fd, ps, dus, hme, F, hr, hb, hd⟩ := SP c hcs Ca hcn
    obtain ⟨mA, O, _⟩ := ins_get I2.hok hp
    obtain ⟨od, J, _⟩ := O.look
    obtain ⟨mm, hF⟩ := I2.fr
    cases (show v = Value.ref p from rx)
    have run := F.goIn (Q := fun v H' => ∃ t, v = .bl t ∧ Q (.bl (!t)) H') (us := [.ref p, u]) (vs := [.ref p, y]) hgd hr hb hd tk (fun _ _ _ z => z) I2 (.cons rfl (.cons ry .nil)) (by rw [List.append_nil]; exact hsp)
    have run2 := wpAny_mono run (fun w s' z => (by
      obtain ⟨z', H', I', rz, t, rfl, qz⟩ := z
      cases (show w = Value.bool t from rz)
      exact ⟨t, rfl, .bl (!t), H', I', rfl, qz⟩ : ∃ t, w = Value.bool t ∧ EP X pins σ Q (.bool (!t)) s')) fun _ _ x => x
    have inst : PySem.W.Looks (model X.prog X.w) s2.heap (isInstance (.ref p) (.type "object")) true := J.type.andThen (PySem.W.looks_mroIn I2.kIn nc.top)
    rcases ty_looks hK I2 e r2 ry hodd with ⟨hod, L⟩ | ⟨c', ks', vs', Cb, rfl, hcn', L⟩
    · refine PySem.W.pp_ne (by omega) hF I2.ok.mod.kin J L (n1 _ ?_) hme.at_ hme.fn nc.ne inst run2
      cases dy <;> first | (cases hod; done) | (show tyN _ ∈ _; simp [tyN])
    · exact PySem.W.pp_ne (by omega) hF I2.ok.mod.kin J L (n2 c' Cb hcn') hme.at_ hme.fn nc.ne inst run2
  · exact ho pins s2 σ H2 x y v u Q I2 rx ry q
end
end PP
end

section
set_option maxHeartbeats 2000000
/-! Exceptions: made, raised, caught. -/
namespace PP
open PySem PySem.Spec PyProof.Rows L2
theorem RepAll.rev {T : Tbl} {H : Hp} : ∀ {ds : List D} {vs : List V}, RepAll T H ds vs → RepAll T H ds.reverse vs.reverse
  | [], _, h => by simp only [RepAll] at h; subst h; simp [RepAll]
  | d :: ds, _, h => by
    simp only [RepAll] at h
    obtain ⟨v, r, rfl, h2, h3⟩ := h
    rw [List.reverse_cons, List.reverse_cons]
    exact (RepAll.rev h3).app (by simp only [RepAll]; exact ⟨v, [], rfl, h2, rfl⟩)
theorem zip_rev {α β : Type} : ∀ {xs : List α} {ys : List β}, xs.length = ys.length → (xs.zip ys).reverse = xs.reverse.zip ys.reverse
  | [], [], _ => rfl
  | [], _ :: _, h => by simp at h
  | _ :: _, [], h => by simp at h
  | x :: xs, y :: ys, h => by
    rw [List.zip_cons_cons, List.reverse_cons, List.reverse_cons, List.reverse_cons, zip_rev (by simpa using h), List.zip_append (by simpa using h)]
    rfl
/-- what an exception's own __init__ keeps -/
def spI (Ca : Addr) (ns : List Str) : Sp := fun vs H Q _ => ∃ a ys, vs = .ref a :: ys ∧ ys.length = ns.length ∧ H a = some (exo a Ca none) ∧
  ∀ dx, H dx = none → dx ≠ a → Q .non (upd (upd H dx (exd dx ((ns.zip ys).reverse))) a (exo a Ca (some dx)))
theorem exc_fn1 {P : Program} {w : World} {K : PySem.W.Frag} {mg : Str → Option Value} {base : Heap} {x qual f1 : Str} {st : Stmt} {f Ca : Addr} {fd : FuncData} {N ps : List Str} {k : Nat} (Fu : FunV K x qual st f fd) (S : FnScope N ps (defScope st)) (hp : ps.length = 2)
    (T : OexC K Ca) (hno : PySem.W.findIn K (.ref Ca) f1 = some none)
    (hb : ∀ {X : Cx}, (∃ (cdv : Value) (A : Around) (outer : List PySem.Env) (s : Shared) (H : Hp) (E : XK), X = cxOf (L2.CX P w) P w K mg base N qual (defScope st) f cdv A outer s H E) → PSs X (defBody st) (tSeq (tOst K f1 (tVar 0) (tVar 1)) tNext)) :
    FnG P w K mg base (k + 1) f fd ps (spI Ca [f1]) := by
  refine FnG.of Fu S (fun vs H Q E ⟨a, ys, e, h, _⟩ => by rw [e, List.length_cons, h, hp]; rfl) fun cdv hcd A outer s H vs Q E hg hr hsp => ?_
  refine ⟨_, hb ⟨cdv, A, outer, s, H, E, rfl⟩, ?_⟩
  obtain ⟨a, ys, rfl, hl, ha, q⟩ := hsp
  match ys, hl with
  | [y], _ =>
    refine ⟨y, rfl, .ref a, rfl, a, Ca, rfl, T, hno, .inl ⟨ha, fun dx hd hne => ?_⟩⟩
    exact q dx hd hne
theorem exc_fn2 {P : Program} {w : World} {K : PySem.W.Frag} {mg : Str → Option Value} {base : Heap} {x qual f1 f2 : Str} {st : Stmt} {f Ca : Addr} {fd : FuncData} {N ps : List Str} {k : Nat} (Fu : FunV K x qual st f fd) (S : FnScope N ps (defScope st)) (hp : ps.length = 3)
    (T : OexC K Ca) (hno1 : PySem.W.findIn K (.ref Ca) f1 = some none) (hno2 : PySem.W.findIn K (.ref Ca) f2 = some none)
    (hb : ∀ {X : Cx}, (∃ (cdv : Value) (A : Around) (outer : List PySem.Env) (s : Shared) (H : Hp) (E : XK), X = cxOf (L2.CX P w) P w K mg base N qual (defScope st) f cdv A outer s H E) → PSs X (defBody st) (tSeq (tOst K f1 (tVar 0) (tVar 1)) (tSeq (tOst K f2 (tVar 0) (tVar 2)) tNext))) :
    FnG P w K mg base (k + 1) f fd ps (spI Ca [f1, f2]) := by
  refine FnG.of Fu S (fun vs H Q E ⟨a, ys, e, h, _⟩ => by rw [e, List.length_cons, h, hp]; rfl) fun cdv hcd A outer s H vs Q E hg hr hsp => ?_
  refine ⟨_, hb ⟨cdv, A, outer, s, H, E, rfl⟩, ?_⟩
  obtain ⟨a, ys, rfl, hl, ha, q⟩ := hsp
  match ys, hl with
  | [y, z], _ =>
    refine ⟨y, rfl, .ref a, rfl, a, Ca, rfl, T, hno1, .inl ⟨ha, fun dx hd hne => ?_⟩⟩
    refine ⟨z, rfl, .ref a, rfl, a, Ca, rfl, T, hno2, .inr ⟨dx, [(f1, y)], upd_same, by rw [upd_ne hne, upd_same], by simp, ?_⟩⟩
    have e : upd (upd (upd H dx (exd dx [(f1, y)])) a (exo a Ca (some dx))) dx (exd dx ((f2, z) :: [(f1, y)])) = upd (upd H dx (exd dx [(f2, z), (f1, y)])) a (exo a Ca (some dx)) := by
      funext b
      by_cases h1 : b = dx
      · subst h1; rw [upd_same, upd_ne hne, upd_same]
      · rw [upd_ne h1]
        by_cases h2 : b = a
        · subst h2; rw [upd_same, upd_same]
        · rw [upd_ne h2, upd_ne h2, upd_ne h1, upd_ne h1]
    rw [e]
    exact q dx hd hne
section
variable {X : Cx} {C : Ctx} {W : WX} {cl : CallF} {e a b c : Expr} {es : List Expr} {e' a' b' c' : Ex} {es' : Exs} {pos : Pos}
/-- C(e, ..), an exception is made -/
def tMkX (Ca : Addr) (ns : List Str) (ta : TA) : L2.St → Hp → XK → Prop := fun σ H Q => ta σ H fun vs H1 => vs.length = ns.length ∧ ∀ d, H1 d = none → Q (.ref Ca) (some d) (upd H1 d (.xd ((ns.zip vs).reverse)))
theorem pmk_X {x : Str} {Ca fI : Addr} {k : Nat} {fd : FuncData} {ps ns : List Str} {ta : TA} {p : Pos} (T : OexC X.K Ca) (iC : PySem.W.findIn X.K (.ref Ca) "__init__" = some (some (.ref fI))) (tI : PySem.W.typeIn X.K (.ref fI) = some (.type "function"))
    (F1 : FnG X.prog X.w X.K X.mg X.base k fI fd ps (spI Ca ns)) (hgd : X.A.guards = some []) (hr : Room (k + 1) X.A) (hb : Binds X.K fd ps []) (tk : Takes X W) (hlen : ns.length ≤ 100) (hg : Gl X x) (hm : X.mg x = some (.ref Ca)) (ha : PA X (e :: es) ta)
    (hdb : (x == ("__debug__" : Str)) = false := by decide) (he : starEach (e :: es) X.env = (false, eval e X.env) :: starEach es X.env := by rfl) (hpl : (backTo pos (starEach es X.env)).any (·.1) = false := by rfl) :
    PMk X (.Call (.Name x p) (e :: es) [] pos) (tMkX Ca ns ta) := by
  intro pins s σ H Q I h
  obtain ⟨nm, q, N, bs, bm, sn, sub, ab, col, dd, k0, k1, k2, k3, k5, hC, hbm⟩ := T.cls
  refine wpAny_Call_Name_kw (ld_glob I hg hm ?_ hdb)
  refine PySem.W.callWith_K (h₀ := X.base) I.ok.mod.kin T.kC (thn (ha.run pos pins s σ H _ I h) fun us s1 ⟨vs, H1, I1, r1, hz, q1⟩ => ⟨I1.kIn, ?_⟩) he hpl
  show wpAny _ _ (call (.ref Ca) us) _ _ _
  obtain ⟨hp, g, dr, tk1, os⟩ := s1
  have hsz : hp.objs.size ≤ hp.objs.size + 1 := Nat.le_succ _
  have hn : H1 (hp.objs.size + 1) = none := I1.hok.fresh hsz
  have kk : ∀ b o, hp.get? b = some o → ((hp.push (PySem.W.kdv_tup us)).push (PySem.HandSPX.excO Ca hp.objs.size)).get? b = some o := fun b o e => Heap.get?_push_of_some _ (Heap.get?_push_of_some _ e)
  have hget : ((hp.push (PySem.W.kdv_tup us)).push (PySem.HandSPX.excO Ca hp.objs.size)).get? (hp.objs.size + 1) = some (PySem.HandSPX.excO Ca hp.objs.size) := by heap_get
  have I2 : Inv X pins σ (upd H1 (hp.objs.size + 1) (exo (hp.objs.size + 1) Ca none)) ⟨(hp.push (PySem.W.kdv_tup us)).push (PySem.HandSPX.excO Ca hp.objs.size), g, dr, tk1, os⟩ :=
    I1.laid (t' := tk1) (a := hp.objs.size + 1) (o := exo (hp.objs.size + 1) Ca none) (h' := (hp.push (PySem.W.kdv_tup us)).push (PySem.HandSPX.excO Ca hp.objs.size)) kk hsz (exo_ok hget)
  have hq : spI Ca ns (.ref (hp.objs.size + 1) :: vs) (upd H1 (hp.objs.size + 1) (exo (hp.objs.size + 1) Ca none))
      (fun v H2 => v = .non ∧ ∃ (d : Addr) (fs : List (Str × V)), H2 (hp.objs.size + 1) = some (exo (hp.objs.size + 1) Ca (some d)) ∧ H2 d = some (exd d fs) ∧ H1 d = none ∧ Q (.ref Ca) (some d) (upd (del H2 (hp.objs.size + 1)) d (.xd fs))) (fun _ _ _ => False) := by
    refine ⟨_, vs, rfl, hz, upd_same, fun dx hd hne => ⟨rfl, dx, _, upd_same, by rw [upd_ne hne, upd_same], ?_, ?_⟩⟩
    · rw [upd_ne hne] at hd; exact hd
    · have hd1 : H1 dx = none := by rw [upd_ne hne] at hd; exact hd
      have ee : upd (del (upd (upd (upd H1 (hp.objs.size + 1) (exo (hp.objs.size + 1) Ca none)) dx (exd dx ((ns.zip vs).reverse))) (hp.objs.size + 1) (exo (hp.objs.size + 1) Ca (some dx))) (hp.objs.size + 1)) dx (.xd ((ns.zip vs).reverse)) = upd H1 dx (.xd ((ns.zip vs).reverse)) := by
        funext b
        by_cases h1 : b = dx
        · subst h1; rw [upd_same, upd_same]
        · rw [upd_ne h1, upd_ne h1]
          by_cases h2 : b = hp.objs.size + 1
          · subst h2; rw [del_same, hn]
          · rw [del_ne h2, upd_ne h2, upd_ne h1, upd_ne h2]
      rw [ee]
      exact q1 dx hd1
  have r2 : Vals (V.ref (hp.objs.size + 1) :: vs) (Value.ref (hp.objs.size + 1) :: us) := .cons rfl r1
  have hl : (Value.ref (hp.objs.size + 1) :: us ++ []).length = ps.length := by
    have e := r2.length
    rw [F1.len _ _ _ _ hq] at e
    rw [List.append_nil]
    exact e.symm
  have hus : us.length ≤ sizeLine := by
    rw [← Paired.length r1, hz, sizeLine_eq]
    omega
  have hb2 := hb ⟨(hp.push (PySem.W.kdv_tup us)).push (PySem.HandSPX.excO Ca hp.objs.size), g, dr, tk1, os⟩ (Value.ref (hp.objs.size + 1) :: us) I2.kIn hl
  refine wpAny_call (PySem.HandSPX.call_own F.excBase_ValueError (fun Y => PySem.HandSPX.refsVE_contains Y bm hbm) (I1.kIn _ _ hC) (PySem.W.looks_findIn I1.kIn iC) (fun self => PySem.W.bind_fn I1.kIn self tI) hus
    (codeAny_mono (F1.run _ X.stack _ _ ⟨Value.ref (hp.objs.size + 1) :: us, []⟩ (Value.ref (hp.objs.size + 1) :: us) _ _ (fun _ _ _ => False) hgd (hr.make Ca us []) (I2.env0.make Ca us []) (by simpa using hb2) r2 hq) fun r s' hq' => ?_))
  cases r with
  | error er => exact (passes_call (W := fun _ _ _ _ => False) (Takes.imp tk fun _ _ _ _ z => z.elim) (fun _ _ _ _ z => z)) pins σ _ _ er s' I2 hq'
  | ok fl =>
    cases fl with
    | ret u =>
      obtain ⟨v, H2, os2, bare2, un2, hok2, rv, ev, d, fs, ea, ed, hd1, q2⟩ := hq'
      subst ev
      obtain ⟨h2, g2, d2, t2, os'⟩ := s'
      exact ⟨rv, mk_end (raises_own T.exC T.tyC) I1 hsz kk un2 hok2 os2 bare2 ea ed hd1 q2⟩
    | next => exact False.elim hq'
    | brk => exact False.elim hq'
    | cont => exact False.elim hq'
/-- a made exception as a value -/
theorem pe_ofMk {t : L2.St → Hp → XK → Prop} (h : PMk X e t) : PE X e (fun σ H Q => t σ H fun cls d H' => ∃ Ca, cls = .ref Ca ∧ ∀ a, H' a = none → Q (.ref a) (upd H' a (ErrO Ca d a))) := by
  refine ⟨fun pins s σ H Q I hh => ?_⟩
  refine wpAny_mono (h pins s σ H _ I hh) (fun u s1 hu => ?_) fun _ _ x => x
  obtain ⟨a, oe, vs, sI, H', cls, d, rfl, J, k, hne, ha, hz, hd, h1, na, os, ag, r, Ca, rfl, q⟩ := hu
  have new : ObjOk X.prog X.w (upd H' a (ErrO Ca d a)) s1.heap a (ErrO Ca d a) := ⟨⟨oe, vs, ha, hz, hd⟩, ⟨oe, ha⟩, fun _ _ ⟨o, v, q, r⟩ k => ⟨o, v, k o q, r⟩⟩
  have K1 := J.call (ch := []) (h' := s1.heap) (g' := s1.gens) (t' := s1.toks) (d' := s1.drawn) (H' := upd H' a (ErrO Ca d a)) (Un.laidN k hne na) (J.hok.laidN k na new) ag (fun _ z => nomatch z)
  obtain ⟨a1, a2, a3, a4, a5⟩ := s1
  have e5 : a5 = sI.os := os
  subst e5
  exact ⟨.ref a, _, K1, rfl, q a na⟩
theorem made_rep {σ : L2.St} {H1 H1' : Hp} {env1 : Env} {ds : List D} {vs : List V} {c : Nat} {ks : List Nat} {ns : List Str} {Ca d a : Addr} (hcx : C.T.cx c ks = some Ca) (hns : ks.map C.T.fn = ns.reverse) (S1 : Sim C σ H1 H1' env1) (hv : RepAll C.T H1 ds vs) (hl : ds.length = ks.length)
    (hd : H1' d = none) (ha : upd H1' d (.xd ((ns.zip vs).reverse)) a = none) :
    Gr C.T H1 H1' (upd (upd H1 d (.xd ((ns.zip vs).reverse))) a (ErrO Ca (some d) a)) (upd (upd H1' d (.xd ((ns.zip vs).reverse))) a (ErrO Ca (some d) a)) ∧
      Rep C.T (upd (upd H1 d (.xd ((ns.zip vs).reverse))) a (ErrO Ca (some d) a)) (.err c ks ds.reverse) (.ref a) := by
  have g1 : Gr C.T H1 H1' (upd H1 d (.xd ((ns.zip vs).reverse))) (upd H1' d (.xd ((ns.zip vs).reverse))) := Gr.froz S1.ex hd
  have g2 : Gr C.T _ _ (upd (upd H1 d (.xd ((ns.zip vs).reverse))) a (ErrO Ca (some d) a)) (upd (upd H1' d (.xd ((ns.zip vs).reverse))) a (ErrO Ca (some d) a)) := Gr.froz g1.e01 ha
  have ne : d ≠ a := fun z => by subst z; rw [upd_same] at ha; cases ha
  have ln : ns.length = ks.length := by have := congrArg List.length hns; simpa using this.symm
  refine ⟨g1.tr g2, ?_⟩
  simp only [Rep]
  refine ⟨a, Ca, some d, rfl, hcx, upd_same, .inr ⟨d, vs.reverse, rfl, ?_, ?_, (RepAll.mono (g1.e0.tr g2.e0) _ _ hv).rev⟩⟩
  · rw [upd_ne ne, upd_same, zip_rev (by rw [hv.len, hl, ln]), hns]
  · rw [List.length_reverse, hv.len, hl]
theorem c_mkE {c : Nat} {ks : List Nat} {ns : List Str} {Ca : Addr} (hcx : C.T.cx c ks = some Ca) (hns : ks.map C.T.fn = ns.reverse) (hM : PMk X e (tMkX Ca ns (tAF C W cl es'))) : PE X e (tI C W cl (.mkE c ks es')) :=
  peI (pe_ofMk hM) fun σ H Q ⟨H0, env, S, q⟩ => by
    simp only [ev] at q
    refine ⟨H0, env, S, ?_⟩
    cases z : evF cl es' env with
    | bad => rw [z] at q; exact q
    | exc x env1 => rw [z] at q; exact q
    | ok ds env1 =>
      rw [z] at q
      simp only [R.bind_ok] at q
      split at q
      rotate_left
      · exact q.elim
      rename_i hl
      intro H1 H1' e1 S1 vs hv
      have ln : ns.length = ks.length := by have := congrArg List.length hns; simpa using this.symm
      refine ⟨by rw [hv.len, hl, ln], fun d hd => ⟨Ca, rfl, fun a ha => ?_⟩⟩
      obtain ⟨g, r⟩ := made_rep hcx hns S1 hv hl hd ha
      exact q _ _ (e1.tr g.e0) (S1.gr g) (.ref a) r
theorem s_raise {c : Nat} {ks : List Nat} {ns : List Str} {Ca : Addr} (hcx : C.T.cx c ks = some Ca) (hns : ks.map C.T.fn = ns.reverse) (hc : X.calm = true) (tk : Takes X W) (hM : PMk X e (tMkX Ca ns (tAF C W cl es'))) : PS X (.Raise (some e) none pos) (tS C W cl (.raise c ks es')) :=
  psI (ps_raise hc tk hM) fun E σ H ⟨H0, env, S, q⟩ => by
    simp only [ex] at q
    refine ⟨H0, env, S, ?_⟩
    cases z : evF cl es' env with
    | bad => rw [z] at q; exact q
    | exc x env1 => rw [z] at q; exact fun cls d H0' H' e' S' x => q σ cls d H0' H' e' S' x
    | ok ds env1 =>
      rw [z] at q
      simp only [R.bind_ok] at q
      split at q
      rotate_left
      · exact q.elim
      rename_i hl
      intro H1 H1' e1 S1 vs hv
      have ln : ns.length = ks.length := by have := congrArg List.length hns; simpa using this.symm
      refine ⟨by rw [hv.len, hl, ln], fun d hd => ?_⟩
      have g1 : Gr C.T H1 H1' (upd H1 d (.xd ((ns.zip vs).reverse))) (upd H1' d (.xd ((ns.zip vs).reverse))) := Gr.froz S1.ex hd
      refine q σ _ _ _ _ (e1.tr g1.e0) (S1.gr g1) ⟨Ca, hcx, rfl, .inr ⟨d, vs.reverse, rfl, ?_, ?_, (RepAll.mono g1.e0 _ _ hv).rev⟩⟩
      · rw [upd_same, zip_rev (by rw [hv.len, hl, ln]), hns]
      · rw [List.length_reverse, hv.len, hl]
end
end PP
end

section
set_option maxHeartbeats 4000000
/-! try .. except X as e: name = e. -/
namespace PP
open PySem PySem.Spec PyProof.Rows L2
/-- an exception that is at hand, its class any value -/
def ErrV (cls : Value) (d : Option Addr) (a : Addr) : HO := .ext fun h => ∃ (oe : Obj) (vs : Array Value), h.get? a = some oe ∧ Zc cls d oe ∧ oe.data = .fields vs
theorem errV {C : Addr} {d : Option Addr} {a : Addr} : ErrV (.ref C) d a = ErrO C d a := rfl
theorem errV_ok {P : Program} {w : World} {H : Hp} {h : Heap} {a : Addr} {cls : Value} {d : Option Addr} {oe : Obj} {vs : Array Value} (e : h.get? a = some oe) (z : Zc cls d oe) (hd : oe.data = .fields vs) : ObjOk P w H h a (ErrV cls d a) :=
  ⟨⟨oe, vs, e, z, hd⟩, ⟨oe, e⟩, fun _ _ ⟨o, v, q, r⟩ k => ⟨o, v, k o q, r⟩⟩
theorem inv_track {X : Cx} {pins : List (Addr × Obj)} {σ : L2.St} {H : Hp} {s : Shared} {a : Addr} {oe : Obj} {vs : Array Value} {φ : Heap → Prop} (I : L2.Inv X pins σ H s) (ha : s.heap.get? a = some oe) (hd : oe.data = .fields vs) (na : H a = none) (n0 : X.s_0.heap.get? a = none) (nL : a ≠ X.env.locals)
    (np : ∀ p ∈ X.pn ++ pins, p.1 ≠ a) (new : ObjOk X.prog X.w (upd H a (.ext φ)) s.heap a (.ext φ)) : L2.Inv X pins σ (upd H a (.ext φ)) s := by
  have hc : ∀ x c, X.env.cells.lookup x = some c → c ≠ a := fun x c e z => by
    obtain ⟨v, o, ho, hd2⟩ := I.cell x c e
    rw [z, ha] at ho
    cases ho
    rw [hd] at hd2
    cases hd2
  refine ⟨I.ok, I.os, I.bare, ⟨I.base.keep, I.base.slot, fun b o e n hx => ?_, I.base.there, fun b xs e => ?_, fun b o u e => ?_, fun b ps e => ?_⟩, I.loc, I.cell, ?_, fun x c e => ?_, fun p hp => ?_, fun b u e => ?_, I.len⟩
  · rw [upd_ne (fun z => by rw [z, n0] at e; cases e)]
    exact I.base.free b o e n hx
  · have q := I.base.tups b xs e
    rw [upd_ne (ne_of_none q na)]; exact q
  · have q := I.base.frzs b o u e
    rw [upd_ne (ne_of_none q na)]; exact q
  · obtain ⟨m, q⟩ := I.base.tbls b ps e
    exact ⟨m, by rw [upd_ne (ne_of_none q na)]; exact q⟩
  · rw [upd_ne (Ne.symm nL)]; exact I.free
  · rw [upd_ne (hc x c e)]; exact I.freeC x c e
  · obtain ⟨e, n, ne, nf, d⟩ := I.pin p hp
    exact ⟨e, by rw [upd_ne (np p hp)]; exact n, ne, nf, d⟩
  · by_cases hb : b = a
    · subst hb
      rw [upd_same] at e
      cases e
      exact new
    · rw [upd_ne hb] at e
      exact (I.hok b u e).stay (fun c v _ q => q) (fun c q => by rw [upd_ne (ne_of_none q na)]; exact q) fun c xs q => by rw [upd_ne (ne_of_none q na)]; exact q
/-- what 'except x as n' wishes of an exception of the body: it stays at hand -/
def wKeep (K : PySem.W.Frag) (c : Value) (i : Nat) (ts : Addr → Value → Option Addr → TS) (Wout : WX) (D : Ends) : WX := fun cls d σ H =>
  ∃ b, PySem.W.exmOne K cls c = some b ∧ (b = true → i < σ.length → ∀ a, H a = none → ts a cls d { nx := fun σ' H' => H' a = none → D.nx (σ'.set i none) (upd H' a (ErrV cls d a)), rt := fun _ _ => False, bk := fun _ _ => False, ct := fun _ _ => False } (σ.set i (some (.ref a))) H) ∧
    (b = false → Wout cls d σ H)
section
variable {X : Cx} {x n : Str} {c : Value} {i : Nat} {body suite : List Stmt} {b₀ : Stmt} {np pos pos' : Pos} {tb : WX → TS} {ts : Addr → Value → Option Addr → TS} {Wout : WX}
theorem ps_try_keep (hs : X.stack = X.env :: X.outer) (hf : X.env.frame = some X.env.locals) (hex : X.ex = []) (hN : X.N.Nodup) (hi : X.N[i]? = some n) (hln : X.env.kindOf n = some .local) (hc : Names X x c) (tk : Takes X Wout)
    (hb : ∀ (W : WX) (pn : List (Addr × Obj)) (xe : Value → Shared → Prop), Takes (X.tr pn xe) W → PassesOwn (model X.prog X.w) X.A X.env xe → PSs (X.tr pn xe) body (tb W))
    (hsu : ∀ (a : Addr) (oe : Obj) (cls : Value) (d : Option Addr) (pn : List (Addr × Obj)), Zc cls d oe → (∃ vs, oe.data = .fields vs) → PSs (X.suite a ((a, oe) :: pn)) (b₀ :: suite) (ts a cls d)) :
    PS X (.Try body [.ExceptHandler (some (.Name x np)) (some n) (b₀ :: suite) pos'] [] [] pos) (fun D σ H => tb (wKeep X.K c i ts Wout D) D σ H) := by
  refine ⟨fun pins s σ H D I h => ?_⟩
  have ok := I.ok
  have hfr : X.A.frames = some (X.env :: X.outer) := by rw [ok.frames, hs]
  have hloc : Loc X.env.scope n := .inl hln
  refine wpAny_Try_except ?_
  refine wpAny_mono ((hb (wKeep X.K c i ts Wout D) (X.pn ++ pins) (fun e s₁ => wpAny (model X.prog X.w) X.A (noteFrame e X.env) (fun _ s₂ => wpAny (model X.prog X.w) X.A (setFlight e none) (fun _ s₃ =>
    wpAny (model X.prog X.w) X.A (handleBy e X.env [.ExceptHandler (some (.Name x np)) (some n) (b₀ :: suite) pos']) (SP X pins D) X.xe s₃) X.xe s₂) X.xe s₁) (fun u s' xx => ?_) PassesOwn.looking).run [] s σ H D (I.toTry _) h) (fun f s1 hsp => ?_) (fun e s1 he => he)
  · -- the catch
    obtain ⟨a, B, sI, pins', σ', H', cls, d, rfl, J', nb, up, sky, na, os, ag, b, hb1, hyes, hno⟩ := xx
    have J : Inv X pins σ' H' sI := J'.ofTry ok
    have sky' : Sky B (X.env :: X.outer) a (Zc cls d) X.env.locals s'.heap := by rw [← hs]; exact sky
    show wpAny (model X.prog X.w) X.A (noteFrame (.ref a) X.env) _ _ _
    refine Sky.land Zc.steady hfr hf sky' fun h3 fl3 up3 => ?_
    have J3 : Inv X pins σ' H' { s' with heap := h3 } := J.landed nb fl3.1 (up.trans up3) os ag
    obtain ⟨oe3, vs3, he3, hz3, hd3⟩ := fl3.there
    have notFr : ∀ {h : Heap} {o : Obj} {vs : Array Value}, h.FunFrames B (X.env :: X.outer) → h.get? a = some o → o.data = .fields vs → a ∉ frs (X.env :: X.outer) := fun {h o vs} ff e dd hm => by
      obtain ⟨_, o', e', hnf⟩ := ff.mem hm
      rw [e] at e'; cases e'
      exact hnf _ dd
    have nfr := notFr fl3.2.2.1 he3 hd3
    have nL : a ≠ X.env.locals := fun z => nfr (List.mem_filterMap.mpr ⟨X.env, List.mem_cons_self, by rw [hf, z]⟩)
    have nF : a ∉ X.fs := fun hm => by
      obtain ⟨e, he, q⟩ := List.mem_filterMap.mp hm
      exact nfr (List.mem_filterMap.mpr ⟨e, List.mem_cons_of_mem _ he, q⟩)
    have nB : B.get? a = none := fl3.2.1
    have nI : sI.heap.get? a = none := by
      cases e : sI.heap.get? a with
      | none => rfl
      | some o =>
        have q := nb a o e (by rw [hs]; exact nfr)
        rw [nB] at q; cases q
    have n0 : X.s_0.heap.get? a = none := by
      cases e : X.s_0.heap.get? a with
      | none => rfl
      | some o =>
        obtain ⟨o', q⟩ := J.base.there a o e (by rw [hex]; exact fun z => nomatch z)
        rw [nI] at q; cases q
    have npin : ∀ p ∈ X.pn ++ pins, p.1 ≠ a := fun p hp z => by
      obtain ⟨e, _⟩ := J.pin p hp
      rw [z, nI] at e; cases e
    have S3 := J3.suite he3 hd3 na nL nF
    refine wpAny_handleBy_cons (codeAny_handlers_test ?_) (by intro q; cases q)
    have LT : PySem.W.Looks (model X.prog X.w) h3 (typeOf (.ref a)) cls := fun A Q E s k q => wpAny_typeOf_ref (k _ _ he3) (by rw [hz3.1]; exact q)
    have LM := PySem.W.exm_one (M := model X.prog X.w) (J3.kIn) LT hb1
    have test : ∀ {Q : Value → Shared → Prop} {E : Value → Shared → Prop}, Q c { s' with heap := h3 } → wpAny (model X.prog X.w) (X.A.mark (some (.ref a))) (eval (.Name x np) X.env) Q E { s' with heap := h3 } := fun {Q E} q => by
      obtain ⟨hg, hdbg, hm | ⟨hm, hv, hnn⟩⟩ := hc
      · exact ld_glob (X := X.suite a ((a, oe3) :: (X.pn ++ pins))) S3 hg hm q hdbg
      · exact ld_blt (X := X.suite a ((a, oe3) :: (X.pn ++ pins))) S3 hg hm hv q hnn hdbg
    refine test (LM.here ?_)
    cases b with
    | true =>
      refine codeAny_handlers_suite_as ?_
      refine HandSPX.lands_againZ fl3 fun h4 fl4 up4 => ?_
      have J4 : Inv X pins σ' H' { s' with heap := h4 } := J.landed nb fl4.1 ((up.trans up3).trans up4) os ag
      obtain ⟨oe4, vs4, he4, hz4, hd4⟩ := fl4.there
      have S4 := J4.suite he4 hd4 na nL nF
      refine store_ok (X := X.suite a ((a, oe4) :: (X.pn ++ pins))) (v := .ref a) S4 hN hi hloc rfl (fun s5 S5 => ?_) (.inr hln)
      refine wpAny_mono ((hsu a oe4 cls d (X.pn ++ pins) hz4 ⟨_, hd4⟩).run [] s5 _ H' _ S5 (hyes rfl (by rw [J.len]; exact (List.getElem?_eq_some_iff.mp hi).1) a na)) (fun f s6 hsp => ?_) (fun _ _ z => False.elim z)
      have end_ : ∀ {σ6 : L2.St} {H6 : Hp} {Q : Shared → Prop}, Inv (X.suite a ((a, oe4) :: (X.pn ++ pins))) [] σ6 H6 s6 → (H6 a = none → ∀ s7, Inv X pins (σ6.set i none) (upd H6 a (ErrV cls d a)) s7 → Q s7) →
          wpAny (model X.prog X.w) X.A (do bindName X.env n .none; unbindBehindTheSuite X.env n pos') (fun _ s7 => Q s7) X.xe s6 := fun {σ6 H6 Q} S6 hq => by
        obtain ⟨pa, pb, _⟩ := S6.pin (a, oe4) (List.mem_append_left _ List.mem_cons_self)
        exact gone_ok (inv_track (S6.unsuite ok) pa hd4 pb n0 nL npin (errV_ok pa hz4 hd4)) hN hi hln (hq pb)
      cases f with
      | next =>
        obtain ⟨σ6, H6, S6, q6⟩ := hsp
        exact end_ S6 fun na6 s7 J7 => ⟨_, _, J7, q6 na6⟩
      | brk =>
        obtain ⟨σ6, H6, S6, q6⟩ := hsp
        exact q6.elim
      | cont =>
        obtain ⟨σ6, H6, S6, q6⟩ := hsp
        exact q6.elim
      | ret u =>
        obtain ⟨v6, σ6, H6, S6, r6, q6⟩ := hsp
        exact q6.elim
    | false =>
      show wpAny _ X.A (handleBy (.ref a) X.env []) _ _ _
      refine wpAny_handleBy_nil ?_
      obtain ⟨k1, k2, k3, oe, vs, T, oT, ts', he, hz, hd, h1, hr⟩ := id fl3
      unfold PySem.passOn
      refine wpAny_bind (wpAny_field he hd h1 ?_)
      rw [if_neg (show ¬ ((Value.ref T == Value.none) = true) from by simp)]
      have fin : wpAny (model X.prog X.w) X.A (setFlight (.ref a) X.env.frame) (fun _ s4 => wpAny (model X.prog X.w) X.A (throw (.ref a) : Sem Flow) (SP X pins D) X.xe s4) X.xe { s' with heap := h3 } := by
        rw [hf]
        refine HandSPX.setFlight_upZ fl3 fun h4 hh4 up4 => wpAny_throw (tk _ _ ?_)
        exact ⟨a, B, sI, pins, σ', H', cls, d, rfl, J, nb, (up.trans up3).trans up4, .inr (.inr (by rw [hs]; exact hh4)), na, os, ag, hno rfl⟩
      first
        | exact wpAny_bind (wpAny_pure (wpAny_bind fin))
        | exact wpAny_bind fin
  · cases f with
    | next =>
      obtain ⟨σ', H', J', q⟩ := hsp
      exact wpAny_execs_nil ⟨σ', H', J'.ofTry ok, q⟩
    | brk =>
      obtain ⟨σ', H', J', q⟩ := hsp
      exact ⟨σ', H', J'.ofTry ok, q⟩
    | cont =>
      obtain ⟨σ', H', J', q⟩ := hsp
      exact ⟨σ', H', J'.ofTry ok, q⟩
    | ret u =>
      obtain ⟨v, σ', H', J', r, q⟩ := hsp
      exact ⟨v, σ', H', J'.ofTry ok, r, q⟩
end
theorem Sim.unset {C : Ctx} {σ : L2.St} {H0 H : Hp} {env : Env} (S : Sim C σ H0 H env) (i : Nat) : Sim C (σ.set i none) H0 H (env.set i .un) := by
  have old : ∀ j, ownS (getS (env.set i .un) j) = true → i ≠ j ∧ ownS (getS env j) = true := fun j h => by
    rw [getS_set] at h
    by_cases z : i = j
    · subst z
      by_cases l : i < env.length
      · simp only [l, and_self, if_true] at h; cases h
      · have e : getS env i = .un := by unfold getS; rw [List.getD_eq_getElem?_getD, List.getElem?_eq_none (by omega)]; rfl
        simp only [l, and_false, if_false, e] at h; cases h
    · simp only [z, false_and, if_false] at h; exact ⟨z, h⟩
  refine { tabs := S.tabs, tno := S.tno, ok := S.ok, ex := S.ex, ex0 := S.ex0, fresh := S.fresh, keep := S.keep, ioH := S.ioH, len := by simp only [List.length_set]; exact S.len, slots := fun j => ?_, inj := fun j k a hjk hj hk ej ek => ?_ }
  · rw [getS_set]
    by_cases z : i = j
    · subst z
      by_cases l : i < env.length
      · simp only [l, and_self, if_true]; trivial
      · have e : getS env i = .un := by unfold getS; rw [List.getD_eq_getElem?_getD, List.getElem?_eq_none (by omega)]; rfl
        simp only [l, and_false, if_false, e]; trivial
    · simp only [z, false_and, if_false]
      rw [List.getElem?_set_ne z]
      exact S.slots j
  · obtain ⟨n1, o1⟩ := old j hj
    obtain ⟨n2, o2⟩ := old k hk
    rw [List.getElem?_set_ne n1] at ej
    rw [List.getElem?_set_ne n2] at ek
    exact S.inj j k a hjk o1 o2 ej ek
section
variable {X : Cx} {C : Ctx} {W : WX} {cl : CallF} {x n : Str} {body : List Stmt} {np pos pos' p1 p2 p3 : Pos} {b' : Ss} {cs : List Nat} {i j : Nat} {CE : Addr} {m : Str}
/-- try: body, except x as n: m = n -/
theorem s_try (hs : X.stack = X.env :: X.outer) (hf : X.env.frame = some X.env.locals) (hex : X.ex = []) (hN : X.N.Nodup) (hi : X.N[i]? = some n) (hln : X.env.kindOf n = some .local) (hc : Names X x (.ref CE)) (tk : Takes X W)
    (hcs : ∀ c ∈ cs, ∀ Ca, C.T.cn c = some Ca → PySem.W.exmOne X.K (.ref Ca) (.ref CE) = some true) (hij : i ≠ j)
    (hb : ∀ (W : WX) (pn : List (Addr × Obj)) (xe : Value → Shared → Prop), Takes (X.tr pn xe) W → PassesOwn (model X.prog X.w) X.A X.env xe → PSs (X.tr pn xe) body (tSs C W cl b'))
    (hsu : ∀ (a : Addr) (oe : Obj) (pn : List (Addr × Obj)), PSs (X.suite a ((a, oe) :: pn)) [.Assign [.Name m p1] (.Name n p2) p3] (tSeq (tAsg (tVar i) (gName j)) tNext)) :
    PS X (.Try body [.ExceptHandler (some (.Name x np)) (some n) [.Assign [.Name m p1] (.Name n p2) p3] pos'] [] [] pos) (tS C W cl (.tryC b' cs i j)) := by
  refine psI (ps_try_keep (ts := fun _ _ _ => tSeq (tAsg (tVar i) (gName j)) tNext) hs hf hex hN hi hln hc tk hb fun a oe cls d pn _ _ => hsu a oe pn) fun E σ H ⟨H0, env, S, q⟩ => ?_
  refine ⟨H0, env, S, ?_⟩
  simp only [ex] at q
  cases z : exs cl b' env with
  | bad => rw [z] at q; exact q
  | ok fl env1 => rw [z] at q; cases fl <;> exact q
  | exc y env1 =>
    rw [z] at q
    simp only at q
    split at q
    rotate_left
    · exact q.elim
    rename_i hy
    intro σ1 cls d H1 H1' e1 S1 hx
    obtain ⟨Ca, hcx, rfl, hx⟩ := hx
    obtain ⟨hcn, _, hec⟩ := Tbl.cx_some hcx
    refine ⟨true, hcs y.1 (by simpa [List.contains_iff_mem] using hy) Ca hcn, fun _ hli a ha => ?_, fun z => by cases z⟩
    refine ⟨.ref a, by rw [List.getElem?_set_self hli], fun ha' => ?_⟩
    have g := Gr.froz (T := C.T) (o := ErrO Ca d a) S1.ex ha
    have S2 := S1.gr g
    have S3 := S2.store (i := i) (v := .ref a) (s := .un) rfl trivial (fun _ _ z => by cases z)
    have S4 := S3.store (i := j) (v := .ref a) (s := .fz (.err y.1 y.2.1 y.2.2)) rfl (by
      refine ⟨.ref a, rfl, ?_⟩
      simp only [Rep]
      refine ⟨a, Ca, d, rfl, hcx, upd_same, ?_⟩
      rcases hx with hx | ⟨dd, xs, rfl, hd, hl, hr⟩
      · exact .inl hx
      · exact .inr ⟨dd, xs, rfl, g.e0 _ _ hd, hl, RepAll.mono g.e0 _ _ hr⟩) (fun _ _ z => by cases z)
    exact q _ _ _ (e1.tr g.e0) (S4.unset i)
end
end PP
end

section
set_option maxHeartbeats 4000000
/-! a lambda without parameters, handed to a def that calls it. -/
namespace PP
open PySem PySem.Spec PyProof.Rows L2 LamX
section
variable {X : Cx} {pins : List (Addr × Obj)} {σ : L2.St} {H HZ : Hp} {s s1 : Shared}
/-- the lambda is made; all but its table stays -/
theorem lam_mk {T : List (Addr × Str)} {c P : Addr} {params : Arguments} {body : Expr} {scope : Scope} {pos : Pos} {E : Value → Shared → Prop} {Q : Value → Shared → Prop} (I : Inv X pins σ H s) (TB : TabB X.base X.mg c P) (hcode : X.env.code = .ref c)
    (hm : (P, X.env.qual ++ "<lambda>") ∈ T) (hu : ∀ p ∈ T, p.1 = P → p.2 = X.env.qual ++ "<lambda>") (hT : Tabs T H) (hdef : defaultsOf params X.env = ([], [])) (hfree : ∀ y ∈ scope.names, y.2 = .free → ∃ c, X.env.cells.lookup y.1 = some c)
    (h : ∀ (f c' : Addr) (pm ctv : Value) (H1 : Hp) (s' : Shared), Inv X pins σ H1 s' → (∀ b o, b ≠ P → H b = some o → H1 b = some o) → Tabs T H1 →
      s'.heap.get? f = some (PySem.W.kla_obj "<lambda>" (X.env.qual ++ "<lambda>") params body scope (cloFrom X.env.cells scope.names []) pm c' ctv) → H1 f = none → f ∉ frs X.stack → H1 c' = some (CodeO c' (X.env.qual ++ "<lambda>")) → Q (.ref f) s') :
    wpAny (model X.prog X.w) X.A (eval (.Lambda params body scope pos) X.env) Q E s := by
  obtain ⟨ps, hP, ht, ha⟩ := hT _ hm
  refine PySem.W.kla_eval hdef ?_
  have bP : s.heap.BuiltinsAt X.mg P := TB.bm.keeps I.bk
  have hP' : s.heap.get? P = some { cls := .none, data := .fields ps } := I.hok P _ hP
  have nofr : ∀ f, s.heap.objs.size ≤ f → f ∉ frs X.stack := fun f hf z => by
    rcases List.mem_cons.mp (I.stkSub _ z) with e | e
    · have h1 := I.lt
      rw [← e] at h1
      exact Nat.lt_irrefl _ (Nat.lt_of_lt_of_le h1 hf)
    · exact I.nofs hf e
  cases hc : codeAmong pos ps.toList with
  | none =>
    refine PySem.W.kla_makeFunction (mg := X.mg) (c := c) (P := P) (ps := ps) (closure_ok hfree) I.ok.glob (I.mod.glob.keeps I.bk) hcode (TB.code.keeps I.bk) hP' ht hc TB.gP bP fun c' ctv h' tk hx hge hlt hrec htb => ?_
    obtain ⟨c2, oc, vs, t, e2, hoc, hd, hv⟩ := hrec
    cases e2
    have hsz : s.heap.objs.size ≤ h'.objs.size := Nat.le_trans hge (Nat.le_of_lt hlt)
    have nC : H c' = none := I.hok.fresh hge
    have I1 := inv_table (t' := tk) (more := #[rawInt pos.line, rawInt pos.col, .ref c']) (h' := h'.push (PySem.W.kla_obj "<lambda>" (X.env.qual ++ "<lambda>") params body scope (cloFrom X.env.cells scope.names []) ((X.mg "__name__").getD .none) c' ctv)) I hP
      (fun b o hb e => Heap.get?_push_of_some _ (hx b o hb e)) (Heap.get?_push_of_some _ htb) hge ⟨oc, vs, t, Heap.get?_push_of_some _ hoc, hd, hv⟩
    have hE : ∀ b o, b ≠ P → H b = some o → upd (upd H P (.tbl (ps ++ #[rawInt pos.line, rawInt pos.col, .ref c']))) c' (CodeO c' (X.env.qual ++ "<lambda>")) b = some o := fun b o n e => by
      rw [upd_ne (ne_of_none e nC), upd_ne n]
      exact e
    have neP : ∀ b : Addr, ∀ q : Str, H b = some (CodeO b q) → b ≠ P := fun b q e z => by
      rw [z, hP] at e
      exact codeO_ne ps (Option.some.inj e).symm
    have eL : (ps ++ #[rawInt pos.line, rawInt pos.col, .ref c']).toList = ps.toList ++ [rawInt pos.line, rawInt pos.col, .ref c'] := by simp
    refine h h'.objs.size c' ((X.mg "__name__").getD .none) ctv _ _ I1 hE (fun p hp => ?_) (Heap.get?_push_size _ rfl) ?_ (nofr _ hsz) upd_same
    · by_cases hb : p.1 = P
      · rw [hu p hp hb, hb]
        refine ⟨_, by rw [upd_ne (ne_of_none hP nC), upd_same], by rw [eL]; exact PySem.TriplesOk_snoc _ _ _ _ ht, fun p' cv hcv => ?_⟩
        rw [eL] at hcv
        rcases among_app _ ht hcv with z | z
        · obtain ⟨c0, e1, e2⟩ := ha p' cv z
          exact ⟨c0, e1, hE _ _ (neP c0 _ e2) e2⟩
        · exact ⟨c', z, upd_same⟩
      · obtain ⟨ps', a1, a2, a3⟩ := hT p hp
        refine ⟨ps', by rw [upd_ne (ne_of_none a1 nC), upd_ne hb]; exact a1, a2, fun p' cv hcv => ?_⟩
        obtain ⟨c0, e1, e2⟩ := a3 p' cv hcv
        exact ⟨c0, e1, hE _ _ (neP c0 _ e2) e2⟩
    · have n1 : h'.objs.size ≠ c' := Nat.ne_of_gt hlt
      have n2 : h'.objs.size ≠ P := Nat.ne_of_gt (Nat.lt_of_lt_of_le (Heap.lt_size hP') hsz)
      rw [upd_ne n1, upd_ne n2]
      exact I.hok.fresh hsz
  | some cv =>
    obtain ⟨c', e, hco⟩ := ha pos cv hc
    subst e
    refine PySem.W.kla_makeFunctionHit (mg := X.mg) (c := c) (P := P) (ps := ps) (closure_ok hfree) I.ok.glob (I.mod.glob.keeps I.bk) hcode (TB.code.keeps I.bk) hP' ht hc bP fun ctv h' tk hx hsz => ?_
    have I1 : Inv X pins σ H { s with heap := h'.push (PySem.W.kla_obj "<lambda>" (X.env.qual ++ "<lambda>") params body scope (cloFrom X.env.cells scope.names []) ((X.mg "__name__").getD .none) c' ctv), toks := tk } := I.kept fun b o e => Heap.get?_push_of_some _ (hx b o e)
    exact h h'.objs.size c' ((X.mg "__name__").getD .none) ctv H _ I1 (fun b o _ e => e) hT (Heap.get?_push_size _ rfl) (I.hok.fresh hsz) (nofr _ hsz) hco
end
/-! ### the environment, frozen -/
section
variable {C : Ctx} {W : WX} {σ : L2.St} {cl : CallF} {H0 H H0' H' : Hp} {env : Env}
theorem Sim.frzAll : ∀ {vs : List Nat} {H0 : Hp} {env env1 : Env}, Sim C σ H0 H env → frzAll vs env = some env1 → ∃ H0', Ext H0 H0' ∧ Sim C σ H0' H env1
  | [], H0, env, env1, S, h => by cases h; exact ⟨H0, Ext.rfl' _, S⟩
  | i :: vs, H0, env, env1, S, h => by
    unfold PP.frzAll at h
    obtain ⟨⟨d, env2⟩, hf, h⟩ := Option.bind_eq_some_iff.mp h
    have hv : ∃ v, σ[i]? = some (some v) := by
      have q := S.slots i
      cases z : getS env i with
      | un => simp [fzU, z] at hf
      | fn => simp [fzU, z] at hf
      | io d => simp [fzU, z] at hf
      | fz d => rw [z] at q; obtain ⟨v, h1, _⟩ := q; exact ⟨v, h1⟩
      | ow d => rw [z] at q; obtain ⟨a, h1, _⟩ := q; exact ⟨_, h1⟩
    obtain ⟨v, hv⟩ := hv
    obtain ⟨H1, e1, S1, _⟩ := S.take (u := .sl i) hv hf
    obtain ⟨H2, e2, S2⟩ := Sim.frzAll S1 h
    exact ⟨H2, e1.tr e2, S2⟩
theorem Sim.frzAllK : ∀ {vs : List Nat} {H0 : Hp} {env env1 : Env}, Sim C σ H0 H env → PP.frzAll vs env = some env1 → ∃ H0', Ext H0 H0' ∧ Sim C σ H0' H env1 ∧ ∀ a, H0 a = none → ∀ o, H0' a = some o → (∀ ps, o ≠ .tup ps) ∧ ∀ x u, o ≠ .frz x u
  | [], H0, env, env1, S, h => by cases h; exact ⟨H0, Ext.rfl' _, S, fun a h o h' => by rw [h] at h'; cases h'⟩
  | i :: vs, H0, env, env1, S, h => by
    unfold PP.frzAll at h
    obtain ⟨⟨d, env2⟩, hf, h⟩ := Option.bind_eq_some_iff.mp h
    have hv : ∃ v, σ[i]? = some (some v) := by
      have q := S.slots i
      cases z : getS env i with
      | un => simp [fzU, z] at hf
      | fn => simp [fzU, z] at hf
      | io d => simp [fzU, z] at hf
      | fz d => rw [z] at q; obtain ⟨v, h1, _⟩ := q; exact ⟨v, h1⟩
      | ow d => rw [z] at q; obtain ⟨a, h1, _⟩ := q; exact ⟨_, h1⟩
    obtain ⟨v, hv⟩ := hv
    obtain ⟨H1, e1, S1, _, d1⟩ := S.takeK hv hf
    obtain ⟨H2, e2, S2, d2⟩ := Sim.frzAllK S1 h
    refine ⟨H2, e1.tr e2, S2, fun a ha o ho => ?_⟩
    cases q : H1 a with
    | none => exact d2 a q o ho
    | some o' =>
      have := e2 a o' q
      rw [ho] at this
      cases this
      exact d1 a ha o q
open Classical in
/-- without what was frozen for a while -/
noncomputable def minus (H0 H1 H : Hp) : Hp := fun a => if H0 a = none ∧ H1 a ≠ none then none else H a
mutual
theorem rep_minus {T : Tbl} {H0 H1 H : Hp} (e : Ext H1 H) (dif : ∀ a, H0 a = none → ∀ o, H1 a = some o → (∀ ps, o ≠ .tup ps) ∧ ∀ x u, o ≠ .frz x u) : ∀ (d : D) (v : V), noLst d = true → Rep T H d v → Rep T (minus H0 H1 H) d v
  | .non, _, _, h => by simpa only [Rep] using h
  | .bl _, _, _, h => by simpa only [Rep] using h
  | .int _, _, _, h => by simpa only [Rep] using h
  | .str _, _, _, h => by simpa only [Rep] using h
  | .tup ds, v, hn, h => by
    simp only [Rep] at h ⊢
    obtain ⟨a, xs, h1, h2, h3⟩ := h
    refine ⟨a, xs, h1, ?_, reps_minus e dif ds xs (by simpa only [noLst] using hn) h3⟩
    have key : ∀ o, H a = some o → ((∃ ps, o = .tup ps) ∨ ∃ x u, o = .frz x u) → minus H0 H1 H a = some o := fun o ho hk => by
      unfold minus
      rw [if_neg]
      · exact ho
      · rintro ⟨z1, z2⟩
        cases q : H1 a with
        | none => exact z2 q
        | some o' =>
          have := e a o' q
          rw [ho] at this
          cases this
          obtain ⟨k1, k2⟩ := dif a z1 o q
          rcases hk with ⟨ps, rfl⟩ | ⟨x, u, rfl⟩
          · exact k1 _ rfl
          · exact k2 _ _ rfl
    rcases h2 with (h2 | ⟨o, h2⟩) | h2
    · exact .inl (.inl (key _ h2 (.inl ⟨_, rfl⟩)))
    · exact .inl (.inr ⟨o, key _ h2 (.inr ⟨_, _, rfl⟩)⟩)
    · exact .inr h2
  | .lst _, _, hn, _ => by simp [noLst] at hn
  | .kst _, _, hn, _ => by simp [noLst] at hn
  | .dK _ _, _, hn, _ => by simp [noLst] at hn
  | .dT _ _, _, hn, _ => by simp [noLst] at hn
  | .obj _ _ _, _, hn, _ => by simp [noLst] at hn
  | .cls _, _, hn, _ => by simp [noLst] at hn
  | .err _ _ _, _, hn, _ => by simp [noLst] at hn
theorem reps_minus {T : Tbl} {H0 H1 H : Hp} (e : Ext H1 H) (dif : ∀ a, H0 a = none → ∀ o, H1 a = some o → (∀ ps, o ≠ .tup ps) ∧ ∀ x u, o ≠ .frz x u) : ∀ (ds : List D) (vs : List V), noLsts ds = true → RepAll T H ds vs → RepAll T (minus H0 H1 H) ds vs
  | [], vs, _, h => by simpa only [RepAll] using h
  | d :: ds, vs, hn, h => by
    simp only [noLsts, Bool.and_eq_true] at hn
    simp only [RepAll] at h ⊢
    obtain ⟨v, r, h1, h2, h3⟩ := h
    exact ⟨v, r, h1, rep_minus e dif d v hn.1 h2, reps_minus e dif ds r hn.2 h3⟩
end
theorem Gr.back {T : Tbl} {H0 H1 H H0' H' : Hp} (g : Gr T H1 H H0' H') (e1 : Ext H0 H1) (dif : ∀ a, H0 a = none → ∀ o, H1 a = some o → (∀ ps, o ≠ .tup ps) ∧ ∀ x u, o ≠ .frz x u) {d : D} {v : V} (hn : noLst d = true) (hv : Rep T H0' d v) : ∃ H5, Gr T H0 H H5 H' ∧ Rep T H5 d v := by
  refine ⟨minus H0 H1 H0', ⟨fun a o h => ?_, g.e, fun a o h => ?_, fun a h h' => ?_, g.tb⟩, rep_minus g.e0 dif d v hn hv⟩
  · unfold minus
    rw [if_neg (fun z => by rw [h] at z; cases z.1)]
    exact g.e0 a o (e1 a o h)
  · unfold minus at h
    split at h
    · cases h
    · exact g.e01 a o h
  · unfold minus at h'
    split at h'
    · exact absurd rfl h'
    · rename_i z
      have : H1 a = none := by
        cases q : H1 a with
        | none => rfl
        | some o => exact absurd ⟨h, by rw [q]; nofun⟩ z
      exact g.new a this h'
theorem getS_mask {i : Nat} : getS (maskE env) i = maskS (getS env i) := by
  unfold getS maskE
  simp only [List.getD_eq_getElem?_getD, List.getElem?_map]
  cases env[i]? <;> rfl
/-- the caller's own frozen names, at a later heap -/
theorem Sim.mask (S : Sim C σ H0 H env) (e0 : Ext H0 H0') (e01 : Ext H0' H') (t : LamX.Tabs C.T.tt H') (tn : ∀ p ∈ C.T.tt, H0' p.1 = none) : Sim ⟨C.T, H0', H', [], 0⟩ σ H0' H' (maskE env) where
  ok := ⟨fun a ha => absurd (show some a ∈ ([] : List (Option Addr)) from ha) (by simp), e01⟩
  ex := e01
  ex0 := Ext.rfl' _
  fresh := fun a h h' => (h' h).elim
  keep := fun a o h _ => .inl h
  ioH := fun a ha => absurd (show some a ∈ ([] : List (Option Addr)) from ha) (by simp)
  len := by unfold maskE; rw [List.length_map]; exact S.len
  slots := fun i => by
    rw [getS_mask]
    have q := S.slots i
    cases z : getS env i with
    | fz d => rw [z] at q; obtain ⟨v, h1, h2⟩ := q; exact ⟨v, h1, Rep.mono e0 _ _ h2⟩
    | un => trivial
    | fn => trivial
    | ow d => trivial
    | io d => trivial
  inj := fun i j a hij hi _ _ _ => by
    rw [getS_mask] at hi
    cases z : getS env i <;> (rw [z] at hi; cases hi)
  tabs := t
  tno := tn
theorem getS_lamE {n i : Nat} (hn : 0 < n) : getS (lamE n) i = if i = 0 then .fn else .un := by
  have hl : (startE n []).length = n := startE_len
  unfold lamE
  rw [getS_set, getS_start (Nat.zero_le _)]
  by_cases h : i = 0
  · subst h; simp [hl, hn]
  · simp [h, Ne.symm h]
/-- the def that asks begins -/
theorem sim_lam {T : Tbl} {N : List Str} {f : Addr} {n : Nat} (hN : N.length = n) (hn : 0 < n) (e : Ext H0 H) (tb : TbOk T H0 H) : Sim ⟨T, H0, H, [], f⟩ (L2.start N [.ref f]) H0 H (lamE n) where
  ok := ⟨fun a ha => absurd (show some a ∈ ([] : List (Option Addr)) from ha) (by simp), e⟩
  ex := e
  ex0 := Ext.rfl' _
  fresh := fun a h h' => (h' h).elim
  keep := fun a o h _ => .inl h
  ioH := fun a ha => absurd (show some a ∈ ([] : List (Option Addr)) from ha) (by simp)
  len := by
    unfold lamE L2.start
    rw [List.length_set, startE_len]
    simp only [List.length_append, List.length_map, List.length_replicate, List.length_cons, List.length_nil]
    omega
  slots := fun i => by
    rw [getS_lamE hn]
    split
    · rename_i z; subst z; rfl
    · trivial
  inj := fun i j a hij hi hj _ _ => by
    rw [getS_lamE hn] at hi
    split at hi <;> cases hi
  tabs := tb.1
  tno := tb.2
end
/-! ### the call -/
/-- what a lambda gave, as its call gives it -/
def outD (o : D) (env : Env) : R U := match o with
  | .tup [.non, d] => .ok (.d d) env
  | .err c ks vs => .exc (c, ks, vs) env
  | _ => .bad
theorem ask_out {o : D} {cl : CallF} {env : Env} : askR (askCl o cl 999 []) env = outD o env := by
  unfold askCl outD
  rw [if_pos rfl]
  split
  · rfl
  · rfl
  · rename_i h1 h2
    split
    · rename_i d; exact (h1 d rfl rfl).elim
    · rename_i c ks vs; exact (h2 c ks vs rfl rfl).elim
    · rfl
/-- a def that asks what it got -/
def HearG (P : Program) (w : World) (K : PySem.W.Frag) (mg : Str → Option Value) (base : Heap) (Ng : List Str) (x a : Str) (stg : Stmt) (g : Addr) (T : Tbl) (cl0 : CallF) (F : Fn) (j : Nat) : Prop :=
  ∀ {Z : Cx} {CZ : Ctx} {WZ : WX} {o : D}, Z.K = CZ.T.K → Z.A.units + 64 < cLine → Z.A.units + 200 < cLine → Z.A.guards = some [] → Room j Z.A → Takes Z WZ → PassesOwn (model Z.prog Z.w) Z.A Z.env Z.xe →
      (∃ (cdv : Value) (A : Around) (outer : List PySem.Env) (s : Shared) (H : Hp) (E : XK), Z = cxOf (L2.CX P w) P w K mg base Ng x (defScope stg) g cdv A outer s H E ∧ CZ.T = T) →
      (∀ (W : WX) (pn : List (Addr × Obj)) (xe : Value → Shared → Prop) (p1 p2 : Pos), Takes (Z.tr pn xe) W → PE (Z.tr pn xe) (.Call (.Name a p1) [] [] p2) (tI CZ W (askCl o cl0) (.ask 0))) → PSs Z (defBody stg) (tSs CZ WZ (askCl o cl0) F.body)
/-- what the asking def's end must serve -/
def tHR (C : Ctx) (W : WX) (σ : L2.St) (H1 H : Hp) (env1 : Env) (Q : VK) : RC → Prop
  | .ok r _ => ∀ H0' H', Gr C.T H1 H H0' H' → ∀ v, UOk C σ H0' H' env1 r v → Q v H'
  | .exc x _ => ∀ cls d H0' H', Gr C.T H1 H H0' H' → XOk C.T H0' H' x cls d → W cls d σ H'
  | .bad => False
def tHeard (C : Ctx) (W : WX) (cl : CallF) (f : Nat) (e' : Ex) : TE := fun σ H Q => ∃ env1 H1, Sim C σ H1 H env1 ∧ match ev cl e' (maskE env1) with
  | .ok u env2 => ∃ p, fzU env2 u = some p ∧ tHR C W σ H1 H env1 Q (cl f [.fz (.tup [.non, p.1])])
  | .exc x _ => tHR C W σ H1 H env1 Q (cl f [.fz (.err x.1 x.2.1 x.2.2)])
  | .bad => False
section
variable {X : Cx} {C : Ctx} {W : WX} {cl cl0 : CallF} {pos p lpos : Pos} {e' : Ex}
theorem c_heardG {x a : Str} {g c P : Addr} {f j : Nat} {stg : Stmt} {fdg : FuncData} {Ng : List Str} {F : Fn} {params : Arguments} {body : Expr} {scope : Scope}
    (hg : Gl X x) (hm : X.mg x = some (.ref g)) (Fg : Fun X.K x x stg g fdg) (Sg : FnScope Ng [a] (defScope stg)) (hNg : Ng[0]? = some a) (hva : Vis (defScope stg) a) (hln : Ng.length = F.n) (hb : Binds X.K fdg [a] [])
    (hf : ∀ o, cl f [.fz o] ≠ .bad → cl f [.fz o] = finR [] (exs (askCl o cl0) F.body (lamE F.n)))
    (hG : HearG X.prog X.w X.K X.mg X.base Ng x a stg g C.T cl0 F (j + 1))
    (TB : TabB X.base X.mg c P) (hcode : X.env.code = .ref c) (hmT : (P, X.env.qual ++ "<lambda>") ∈ C.T.tt) (hu : ∀ q ∈ C.T.tt, q.1 = P → q.2 = X.env.qual ++ "<lambda>")
    (hK : X.K = C.T.K) (hgd : X.A.guards = some []) (hr : Room (j + 2) X.A) (tk : Takes X W) (L : LamS X.env.scope scope) (hdef : defaultsOf params X.env = ([], []))
    (hbind : ∀ (q : Str) (cl : List (Str × Addr)) (pm cv ctv : Value), bindArgs (PySem.W.kla_fn "<lambda>" q params body scope cl pm cv ctv) ⟨[], []⟩ = pure [])
    (hbody : ∀ {Y : Cx} {CY : Ctx} {WY : WX}, Y.K = CY.T.K → Y.A.units + 64 < cLine → Y.A.units + 200 < cLine → Y.A.guards = some [] → Room j Y.A → Takes Y WY → PassesOwn (model Y.prog Y.w) Y.A Y.env Y.xe →
      (∃ (A : Around) (outer : List PySem.Env) (s : Shared) (H : Hp) (E : XK) (f c' : Addr), Y = lamCx X A outer s H E scope f c' ∧ CY.T = C.T) → PE Y body (tI CY WY cl e'))
    (hdb : (x == ("__debug__" : Str)) = false := by decide) (hd : (a == ("__debug__" : Str)) = false := by decide) (hcd : (a == ("__classdict__" : Str)) = false := by decide) :
    PE X (.Call (.Name x p) [.Lambda params body scope lpos] [] pos) (tHeard C W cl f e') := by
  obtain ⟨oc, od, kV, doc, pm, an, cdv, ct, osl, rfl, lk, hcdv⟩ := Fg.ex
  refine ⟨fun pins s σ H Q I h => ?_⟩
  obtain ⟨env1, H1, S1, q⟩ := h
  refine wpAny_Call_Name_kw (ld_glob I hg hm ?_ hdb)
  refine PySem.W.callWith_K (h₀ := X.base) I.ok.mod.kin Fg.kp ?_ (by rfl) (by rfl)
  show wpAny _ _ (spliced ((false, eval (.Lambda params body scope lpos) X.env) :: backTo pos (starEach [] X.env))) _ _ s
  refine Calls.spliced_cons (lam_mk I TB hcode hmT hu S1.tabs hdef (L.has I.ok) fun f' c' pm' ctv H1' s' I1 eN T1 hf' hfn hfr hco => ?_)
  refine Calls.spliced_nil ⟨I1.kIn, ?_⟩
  -- the caller's names at the new heap
  have neP : ∀ b o, H1 b = some o → b ≠ P := fun b o e z => by
    have := S1.tno _ hmT
    rw [← z, e] at this
    cases this
  have g1 : Gr C.T H1 H H1 H1' := ⟨Ext.rfl' _, fun b o e => by
    by_cases hbP : b = P
    · obtain ⟨ps, h1, _⟩ := S1.tabs _ hmT
      obtain ⟨ps', h2, _⟩ := T1 _ hmT
      subst hbP
      rw [h1] at e
      cases e
      exact .inr ⟨ps, ps', rfl, h2⟩
    · exact .inl (eN b o hbP e), fun b o e => eN b o (neP b o e) (S1.ex b o e), fun a h h' => (h' h).elim, fun _ => T1⟩
  have S2 := S1.gr g1
  -- what comes of the lambda
  obtain ⟨o, ho, qo⟩ : ∃ o, tHR C W σ H1 H env1 Q (cl f [.fz o]) ∧ ∀ (CZ : Ctx) (HZ0 HZ : Hp) (σZ : L2.St) (envz : Env) (WZ : WX) (QZ : VK), CZ.T = C.T → Ext H1 HZ0 → Ext HZ0 HZ → LamX.Tabs C.T.tt HZ → (∀ p ∈ C.T.tt, HZ0 p.1 = none) → Sim CZ σZ HZ0 HZ envz →
      RQ CZ WZ σZ (KV CZ σZ QZ) HZ0 (outD o envz) →
      tI ⟨C.T, HZ0, HZ, [], 0⟩ (fun cls d _ H' => WZ cls d σZ H') cl e' σ HZ QZ := by
    have grow : ∀ {CZ : Ctx} {HZ0 HZ : Hp} {env2 : Env} {H0' H' : Hp}, CZ.T = C.T → Ext HZ0 H0' → Sim ⟨C.T, HZ0, HZ, [], 0⟩ σ H0' H' env2 → Gr CZ.T HZ0 HZ H0' H' := fun hCZ e0 S3 => ⟨e0, fun b u e => S3.keep b u e (fun z => absurd (show some b ∈ ([] : List (Option Addr)) from z) (by simp)), S3.ex, S3.fresh, fun _ => by rw [hCZ]; exact S3.tabs⟩
    cases z : ev cl e' (maskE env1) with
    | bad => rw [z] at q; exact q.elim
    | exc x env2 =>
      rw [z] at q
      obtain ⟨xc, xk, xv⟩ := x
      refine ⟨_, q, fun CZ HZ0 HZ σZ envz WZ QZ hCZ eZ e01 t tn SZ qz => ⟨HZ0, maskE env1, S2.mask eZ e01 t tn, ?_⟩⟩
      rw [z]
      intro cls d H0' H' e0 S3 hx
      refine qz cls d H0' H' e0 (SZ.gr (grow hCZ e0 S3)) ?_
      rw [hCZ]
      exact hx
    | ok u env2 =>
      rw [z] at q
      obtain ⟨⟨d, env3⟩, hfu, q⟩ := q
      refine ⟨_, q, fun CZ HZ0 HZ σZ envz WZ QZ hCZ eZ e01 t tn SZ qz => ⟨HZ0, maskE env1, S2.mask eZ e01 t tn, ?_⟩⟩
      rw [z]
      intro H0' H' e0 S3 v hv
      obtain ⟨H4, e4, S4, r4⟩ := S3.take hv hfu
      have g4 := grow (CZ := CZ) hCZ (e0.tr e4) S4
      refine qz H4 H' (e0.tr e4) (SZ.gr g4) v ?_
      show Rep _ _ _ _
      rw [hCZ]
      exact r4
  -- the def that asks
  have run : codeAny (model X.prog X.w) X.A (.call (.ref g) ⟨[.ref f'], []⟩) (CR (L2.CX X.prog X.w) X.stack X.prog X.w H1' s' Q (fun cls d H' => W cls d σ H')) s' := by
    refine run_ofS (N := Ng) (ps := [a]) (us := [.ref f']) (vs := [.ref f']) lk hcdv Sg hr I1.env0 (hb s' [.ref f'] I1.kIn rfl) (.cons rfl .nil) rfl fun hr' => ?_
    have hask : ∀ (WZ : WX) (pn : List (Addr × Obj)) (xe : Value → Shared → Prop) (p1 p2 : Pos), Takes ((cxOf (L2.CX X.prog X.w) X.prog X.w X.K X.mg X.base Ng x (defScope stg) g cdv X.A X.stack s' H1' (fun cls d H' => W cls d σ H')).tr pn xe) WZ →
        PE ((cxOf (L2.CX X.prog X.w) X.prog X.w X.K X.mg X.base Ng x (defScope stg) g cdv X.A X.stack s' H1' (fun cls d H' => W cls d σ H')).tr pn xe) (.Call (.Name a p1) [] [] p2) (tI ⟨C.T, H1, H1', [], f'⟩ WZ (askCl o cl0) (.ask 0)) := by
      intro WZ pn xe p1 p2 tkZ
      refine ⟨fun pinsZ sZ σZ HZ QZ IZ ⟨HZ0, envz, SZ, qz⟩ => ?_⟩
      simp only [ev] at qz
      split at qz
      rotate_left
      · exact qz.elim
      rename_i hfn0
      have hs0 : σZ[0]? = some (some (.ref f')) := by
        have z := SZ.slots 0
        rw [hfn0] at z
        exact z
      have hcZ : HZ c' = some (CodeO c' (X.env.qual ++ "<lambda>")) := (SZ.keep c' _ hco (fun z => absurd (show some c' ∈ ([] : List (Option Addr)) from z) (by simp))).at fun ps z => codeO_ne ps z
      have qz' : RQ ⟨C.T, H1, H1', [], f'⟩ WZ σZ (KV ⟨C.T, H1, H1', [], f'⟩ σZ QZ) HZ0 (outD o envz) := by
        rw [ask_out] at qz
        exact qz
      have ht := qo ⟨C.T, H1, H1', [], f'⟩ HZ0 HZ σZ envz WZ QZ rfl SZ.ex0 SZ.ex SZ.tabs SZ.tno SZ qz'
      refine wpAny_Call_Name_kw (thn ((pe_var (pos := p1) (i := 0) hNg hva hd hcd).run pinsZ sZ σZ HZ (fun v H1 => v = .ref f' ∧ H1 = HZ) IZ ⟨.ref f', hs0, rfl, rfl⟩) fun u s1 ⟨v, H2, I2, r2, q2⟩ => ?_)
      obtain ⟨ev', eH⟩ := q2
      subst ev'
      rw [eH] at I2
      obtain rfl : u = Value.ref f' := r2
      have of1 : s1.heap.get? f' = some (PySem.W.kla_obj "<lambda>" (X.env.qual ++ "<lambda>") params body scope (cloFrom X.env.cells scope.names []) pm' c' ctv) := I2.base.keep f' _ hf' hfn hfr (fun z => nomatch (show f' ∈ ([] : List Addr) from z))
      refine PySem.W.callWith_F0 ⟨_, _, _, _, of1⟩ ?_
      have un : Un (frs X.stack) [] H1' HZ s'.heap s1.heap := I2.base
      obtain ⟨⟨oc, vs', t, hoc, hdc, hvc⟩, _, _⟩ := I2.hok c' _ hcZ
      have rc : codeAny (model X.prog X.w) (X.A.deeper (envOfC x (defScope stg) s'.heap.objs.size g cdv)) (.call (.ref f') ⟨[], []⟩) (CR (L2.CX X.prog X.w) (envOfC x (defScope stg) s'.heap.objs.size g cdv :: X.stack) X.prog X.w HZ s1 QZ (fun cls d H' => WZ cls d σZ H')) s1 := by
        refine PySem.W.kla_callFunE hr'.depth of1 rfl L.co L.gen rfl ⟨c', oc, vs', t, rfl, hoc, hdc, hvc⟩ ?_
        rw [hbind]
        refine wpAny_pure (wpAny_newFunctionEnv (fun y hy => (L.own y hy).2) (fun y hy => absurd hy (by simp)) (fun h₁ hns hsb => ⟨I2.nolimit.fresh _ hsb, ?_⟩) L.kind)
        show codeAny _ _ (.expr body (lamEnv X scope s1.heap.objs.size f' c')) _ _
        have kp : ∀ b o, s1.heap.get? b = some o → h₁.get? b = some o := fun b o e => hsb.extBut b o (Nat.ne_of_lt (Heap.lt_size e)) (Heap.get?_push_of_some _ e)
        have J : Inv (lamCx X (X.A.deeper (envOfC x (defScope stg) s'.heap.objs.size g cdv)) (envOfC x (defScope stg) s'.heap.objs.size g cdv :: X.stack) s1 HZ (fun cls d H' => WZ cls d σZ H') scope f' c') [] σ HZ { s1 with heap := h₁, toks := s1.toks + ([] : List (Str × Value)).length } :=
          lam_start2 I1 L I2.env0 hr'.hd un hns kp
        have hrl : Room j (lamCx X (X.A.deeper (envOfC x (defScope stg) s'.heap.objs.size g cdv)) (envOfC x (defScope stg) s'.heap.objs.size g cdv :: X.stack) s1 HZ (fun cls d H' => WZ cls d σZ H') scope f' c').A := hr'.deeper _
        have hpe := hbody (Y := lamCx X (X.A.deeper (envOfC x (defScope stg) s'.heap.objs.size g cdv)) (envOfC x (defScope stg) s'.heap.objs.size g cdv :: X.stack) s1 HZ (fun cls d H' => WZ cls d σZ H') scope f' c') (CY := ⟨C.T, HZ0, HZ, [], 0⟩) (WY := fun cls d _ H' => WZ cls d σZ H')
          hK (by have := hrl.un; omega) (by have := hrl.un; omega) hgd hrl (takes_of rfl rfl rfl rfl) (passes_of rfl) ⟨_, _, _, _, _, _, _, rfl, rfl⟩
        refine PySem.W.kla_codeExpr (wpAny_mono (hpe.run [] _ _ HZ QZ J ht) (fun v s' hq => ?_) fun e s' hq => hq)
        obtain ⟨w', H', J', rv, q⟩ := hq
        exact ⟨w', H', J'.os, J'.bare, J'.base, J'.hok, rv, q⟩
      refine wpAny_call (codeAny_mono rc fun r s2 hq => ?_)
      cases r with
      | error e => exact tkZ _ _ (XE.of_call I2 (fun _ _ _ z => z) hq)
      | ok fl =>
        cases fl with
        | ret u => exact I2.after hq
        | next => exact False.elim hq
        | brk => exact False.elim hq
        | cont => exact False.elim hq
    have hP := hG (Z := cxOf (L2.CX X.prog X.w) X.prog X.w X.K X.mg X.base Ng x (defScope stg) g cdv X.A X.stack s' H1' (fun cls d H' => W cls d σ H')) (CZ := ⟨C.T, H1, H1', [], f'⟩) (WZ := fun cls d _ H' => W cls d σ H') (o := o)
      hK (by have := hr'.un; exact (by omega : (X.A.deeper (envOfC x (defScope stg) s'.heap.objs.size g cdv)).units + 64 < cLine)) (by have := hr'.un; exact (by omega : (X.A.deeper (envOfC x (defScope stg) s'.heap.objs.size g cdv)).units + 200 < cLine)) hgd hr' (takes_of rfl rfl rfl rfl) (passes_of rfl) ⟨_, _, _, _, _, _, rfl, rfl⟩ hask
    refine ⟨_, hP, H1, lamE F.n, sim_lam hln (by rw [← hln]; exact (List.getElem?_eq_some_iff.mp hNg).1) S2.ex S2.tb, ?_⟩
    rw [hf o (fun z => by rw [z] at ho; exact ho)] at ho
    unfold finR at ho
    have back : ∀ {CZ : Ctx} {σZ : L2.St} {H0' H' : Hp} {envz : Env}, CZ = ⟨C.T, H1, H1', [], f'⟩ → Sim CZ σZ H0' H' envz → Gr C.T H1 H1' H0' H' := fun hCZ SZ => by
      subst hCZ
      exact ⟨SZ.ex0, fun b u e => SZ.keep b u e (fun z => absurd (show some b ∈ ([] : List (Option Addr)) from z) (by simp)), SZ.ex, SZ.fresh, fun _ => SZ.tabs⟩
    cases z : exs (askCl o cl0) F.body (lamE F.n) with
    | bad => simp only [z] at ho; exact ho
    | exc x env5 =>
      simp only [z, outsOf, finX] at ho
      intro σ5 cls d H0' H' _ S5 hx
      have g5 := back rfl S5
      exact ho cls d H0' H' (g1.tr g5) hx
    | ok fl env5 =>
      simp only [z, outsOf] at ho
      cases fl with
      | brk => exact ho.elim
      | cont => exact ho.elim
      | next =>
        intro σ5 H0' H' _ S5
        have g5 := back rfl S5
        exact ho H0' H' (g1.tr g5) .non (by show Rep _ _ _ _; simp only [Rep])
      | ret u =>
        intro σ5 H0' H' v _ S5 hv
        have g5 := back rfl S5
        cases u with
        | sl i => exact ho.elim
        | d y => exact ho H0' H' (g1.tr g5) v hv
        | nw y =>
          simp only [finO] at ho
          have h' : RepN ⟨C.T, H1, H1', [], f'⟩ σ5 H0' H' env5 y v := hv
          unfold RepN at h'
          unfold nrm at ho
          by_cases hmu : isMutD y = true
          · rw [if_pos hmu] at h' ho
            obtain ⟨b, rfl, hb1, hb2, _⟩ := h'
            refine ho H0' H' (g1.tr g5) _ ?_
            exact RepG.nw S2 (by unfold RepG; rw [if_pos hmu]; exact ⟨b, rfl, hb1, hb2⟩)
          · rw [if_neg hmu] at h' ho
            exact ho H0' H' (g1.tr g5) _ h'
  refine wpAny_call (codeAny_mono run fun r s2 hq => ?_)
  cases r with
  | error e => exact tk _ _ (XE.of_call I1 (fun _ _ _ z => z) hq)
  | ok fl =>
    cases fl with
    | ret u => exact I1.after hq
    | next => exact False.elim hq
    | brk => exact False.elim hq
    | cont => exact False.elim hq
theorem c_heard {x a : Str} {g c P : Addr} {f j : Nat} {stg : Stmt} {fdg : FuncData} {Ng : List Str} {F : Fn} {vs : List Nat} {params : Arguments} {body : Expr} {scope : Scope}
    (hg : Gl X x) (hm : X.mg x = some (.ref g)) (Fg : Fun X.K x x stg g fdg) (Sg : FnScope Ng [a] (defScope stg)) (hNg : Ng[0]? = some a) (hva : Vis (defScope stg) a) (hln : Ng.length = F.n) (hb : Binds X.K fdg [a] [])
    (hf : ∀ o, cl f [.fz o] ≠ .bad → cl f [.fz o] = finR [] (exs (askCl o cl0) F.body (lamE F.n)))
    (hG : HearG X.prog X.w X.K X.mg X.base Ng x a stg g C.T cl0 F (j + 1))
    (TB : TabB X.base X.mg c P) (hcode : X.env.code = .ref c) (hmT : (P, X.env.qual ++ "<lambda>") ∈ C.T.tt) (hu : ∀ q ∈ C.T.tt, q.1 = P → q.2 = X.env.qual ++ "<lambda>")
    (hK : X.K = C.T.K) (hgd : X.A.guards = some []) (hr : Room (j + 2) X.A) (tk : Takes X W) (L : LamS X.env.scope scope) (hdef : defaultsOf params X.env = ([], []))
    (hbind : ∀ (q : Str) (cl : List (Str × Addr)) (pm cv ctv : Value), bindArgs (PySem.W.kla_fn "<lambda>" q params body scope cl pm cv ctv) ⟨[], []⟩ = pure [])
    (hbody : ∀ {Y : Cx} {CY : Ctx} {WY : WX}, Y.K = CY.T.K → Y.A.units + 64 < cLine → Y.A.units + 200 < cLine → Y.A.guards = some [] → Room j Y.A → Takes Y WY → PassesOwn (model Y.prog Y.w) Y.A Y.env Y.xe →
      (∃ (A : Around) (outer : List PySem.Env) (s : Shared) (H : Hp) (E : XK) (f c' : Addr), Y = lamCx X A outer s H E scope f c' ∧ CY.T = C.T) → PE Y body (tI CY WY cl e'))
    (hdb : (x == ("__debug__" : Str)) = false := by decide) (hd : (a == ("__debug__" : Str)) = false := by decide) (hcd : (a == ("__classdict__" : Str)) = false := by decide) :
    PE X (.Call (.Name x p) [.Lambda params body scope lpos] [] pos) (tI C W cl (.heard f vs e')) :=
  peI (c_heardG hg hm Fg Sg hNg hva hln hb hf hG TB hcode hmT hu hK hgd hr tk L hdef hbind hbody hdb hd hcd) fun σ H Q ⟨H0, env, S, q⟩ => by
    simp only [ev] at q
    obtain ⟨env1, hfz, q⟩ := q.orB
    obtain ⟨H1, e1, S1⟩ := S.frzAll hfz
    have q := RQ.mono e1 q
    have key : ∀ o, RQ C W σ (KV C σ Q) H1 (hearC cl f o env1) → tHR C W σ H1 H env1 Q (cl f [.fz o]) := fun o ho => by
      unfold hearC at ho
      cases z : cl f [.fz o] with
      | bad => rw [z] at ho; exact ho
      | exc x outs => rw [z] at ho; exact fun cls d H0' H' g hx => ho cls d H0' H' g.e0 (S1.gr g) hx
      | ok r outs => rw [z] at ho; exact fun H0' H' g v hv => ho H0' H' g.e0 (S1.gr g) v hv
    refine ⟨env1, H1, S1, ?_⟩
    cases z : ev cl e' (maskE env1) with
    | bad => rw [z] at q; exact q
    | exc x env2 => rw [z] at q; exact key _ q
    | ok u env2 =>
      rw [z] at q
      simp only at q
      obtain ⟨p, hfu, q⟩ := q.orB
      exact ⟨p, hfu, key _ q⟩
/-- the names keep what they own -/
theorem c_heardK {x a : Str} {g c P : Addr} {f j : Nat} {stg : Stmt} {fdg : FuncData} {Ng : List Str} {F : Fn} {vs : List Nat} {params : Arguments} {body : Expr} {scope : Scope}
    (hg : Gl X x) (hm : X.mg x = some (.ref g)) (Fg : Fun X.K x x stg g fdg) (Sg : FnScope Ng [a] (defScope stg)) (hNg : Ng[0]? = some a) (hva : Vis (defScope stg) a) (hln : Ng.length = F.n) (hb : Binds X.K fdg [a] [])
    (hf : ∀ o, cl f [.fz o] ≠ .bad → cl f [.fz o] = finR [] (exs (askCl o cl0) F.body (lamE F.n)))
    (hG : HearG X.prog X.w X.K X.mg X.base Ng x a stg g C.T cl0 F (j + 1))
    (TB : TabB X.base X.mg c P) (hcode : X.env.code = .ref c) (hmT : (P, X.env.qual ++ "<lambda>") ∈ C.T.tt) (hu : ∀ q ∈ C.T.tt, q.1 = P → q.2 = X.env.qual ++ "<lambda>")
    (hK : X.K = C.T.K) (hgd : X.A.guards = some []) (hr : Room (j + 2) X.A) (tk : Takes X W) (L : LamS X.env.scope scope) (hdef : defaultsOf params X.env = ([], []))
    (hbind : ∀ (q : Str) (cl : List (Str × Addr)) (pm cv ctv : Value), bindArgs (PySem.W.kla_fn "<lambda>" q params body scope cl pm cv ctv) ⟨[], []⟩ = pure [])
    (hbody : ∀ {Y : Cx} {CY : Ctx} {WY : WX}, Y.K = CY.T.K → Y.A.units + 64 < cLine → Y.A.units + 200 < cLine → Y.A.guards = some [] → Room j Y.A → Takes Y WY → PassesOwn (model Y.prog Y.w) Y.A Y.env Y.xe →
      (∃ (A : Around) (outer : List PySem.Env) (s : Shared) (H : Hp) (E : XK) (f c' : Addr), Y = lamCx X A outer s H E scope f c' ∧ CY.T = C.T) → PE Y body (tI CY WY cl e'))
    (hdb : (x == ("__debug__" : Str)) = false := by decide) (hd : (a == ("__debug__" : Str)) = false := by decide) (hcd : (a == ("__classdict__" : Str)) = false := by decide) :
    PE X (.Call (.Name x p) [.Lambda params body scope lpos] [] pos) (tI C W cl (.heardK f vs e')) :=
  peI (c_heardG hg hm Fg Sg hNg hva hln hb hf hG TB hcode hmT hu hK hgd hr tk L hdef hbind hbody hdb hd hcd) fun σ H Q ⟨H0, env, S, q⟩ => by
    simp only [ev] at q
    obtain ⟨env1, hfz, q⟩ := q.orB
    obtain ⟨H1, e1, S1, dif⟩ := S.frzAllK hfz
    have key : ∀ o, RQ C W σ (KV C σ Q) H0 (keepC env (hearC cl f o env1)) → tHR C W σ H1 H env1 Q (cl f [.fz o]) := fun o ho => by
      unfold hearC at ho
      cases z : cl f [.fz o] with
      | bad => rw [z] at ho; exact ho
      | exc x outs => rw [z] at ho; exact ho.elim
      | ok r outs =>
        rw [z] at ho
        cases r with
        | sl i => exact ho.elim
        | nw y => exact ho.elim
        | d y =>
          simp only [keepC] at ho
          split at ho
          · rename_i hn
            intro H0' H' g v hv
            obtain ⟨H5, g5, r5⟩ := g.back e1 dif hn hv
            exact ho H5 H' g5.e0 (S.gr g5) v r5
          · exact ho.elim
    refine ⟨env1, H1, S1, ?_⟩
    cases z : ev cl e' (maskE env1) with
    | bad => rw [z] at q; exact q
    | exc x env2 => rw [z] at q; exact key _ q
    | ok u env2 =>
      rw [z] at q
      simp only at q
      obtain ⟨p, hfu, q⟩ := q.orB
      exact ⟨p, hfu, key _ q⟩
end
end PP
end

section
set_option maxHeartbeats 2000000
/-! f-strings, str of objects, static methods, making by keywords. -/
namespace PP
open PySem PySem.Spec PyProof.Rows L2
section
variable {X : Cx} {C : Ctx} {W : WX} {cl : CallF} {e a b : Expr} {es : List Expr} {e' a' b' : Ex} {es' : Exs} {pos : Pos}
/-! ### f-strings -/
def tPs (C : Ctx) (W : WX) (cl : CallF) : Exs → List TE
  | .nil => []
  | .cons e es => tFmt (tI C W cl e) :: tPs C W cl es
  | .star _ _ => []
theorem p_cst {s : Str} {j : Nat} {p : Pos} : PE X (.Constant (.str s) j p) (tFmt (tI C W cl (.cst (.str s)))) :=
  peI (c_cst (C := C) (W := W) (cl := cl) (d := .str s) pe_str (fun H => r_str _ H _)) fun σ H Q ⟨H0, env, S, q⟩ => ⟨H0, env, S, fun H1 H1' e1 S1 v hv => by
    have hv' : v = .str s := by simpa only [UOk, Rep] using hv
    subst hv'
    rcases q H1 H1' e1 S1 (.str s) hv with ⟨y, e2, _, q⟩ | ⟨i, e2, _⟩
    · cases e2; exact q
    · cases e2⟩
theorem joinsI {σ : L2.St} {Q : Str → Hp → Prop} : ∀ (es : Exs) (acc : Str) (H H0 : Hp) (env : Env), Sim C σ H0 H env → RQ C W σ (fun z _ _ H' => Q z H') H0 (evJ cl es acc env) → tJs (tPs C W cl es) acc σ H Q
  | .nil, acc, H, H0, env, S, q => q H0 H (Ext.rfl' _) S
  | .star _ _, acc, H, H0, env, S, q => q.elim
  | .cons e es, acc, H, H0, env, S, q => by
    simp only [evJ] at q
    refine seqI S q fun u env1 x H1 H1' e1 S1 u1 q1 => ?_
    obtain ⟨d, hd, q2⟩ := q1.orB
    obtain ⟨y, hy, q3⟩ := q2.orB
    have r := S1.rd u1 hd
    have key : (acc ++ y).length ≤ sizeLine ∧ tJs (tPs C W cl es) (acc ++ y) σ H1' Q := by
      split at q3
      · rename_i hl
        exact ⟨Nat.le_trans hl lim_line, joinsI es (acc ++ y) H1' H1 env1 S1 q3⟩
      · exact q3.elim
    unfold fmtD at hy
    split at hy
    · split at hy
      · rename_i hz
        cases hy
        cases rd_str r
        exact .inl ⟨_, rfl, Nat.le_trans hz lim_line, _, rfl, key⟩
      · cases hy
    · split at hy
      · rename_i hz
        cases hy
        cases rd_int r
        exact .inr ⟨_, rfl, hz, _, rfl, key⟩
      · cases hy
    · cases hy
theorem c_fstr {v1 v2 : Expr} {rest : List Expr} (h : PJ X (v1 :: v2 :: rest) (tPs C W cl es')) : PE X (.JoinedStr (v1 :: v2 :: rest) pos) (tI C W cl (.fstr es')) := peI (pe_joined h) fun σ H Q ⟨H0, env, S, q⟩ => by
  simp only [ev] at q
  refine joinsI (Q := fun out H1 => Q (.str out) H1) es' Str.empty H H0 env S ?_
  cases z : evJ cl es' Str.empty env with
  | bad => rw [z] at q; exact q
  | exc x env1 => rw [z] at q; exact q
  | ok y env1 =>
    rw [z] at q
    exact fun H0' H' e' S' => q H0' H' e' S' (.str y) (by show RepN _ _ _ _ _ _ _; unfold RepN; rw [if_neg (by simp [isMutD])]; simp only [Rep])
theorem str_empty_app (y : Str) : Str.empty ++ y = y := by
  refine TL.ext_tl ?_
  rw [TL.tl_append]
  rfl
theorem tI_mono {σ : L2.St} {H : Hp} {Q Q' : VK} (h : ∀ v H', Q v H' → Q' v H') (q : tI C W cl e' σ H Q) : tI C W cl e' σ H Q' := by
  obtain ⟨H0, env, S, q⟩ := q
  refine ⟨H0, env, S, ?_⟩
  cases z : ev cl e' env with
  | bad => rw [z] at q; exact q
  | exc x env1 => rw [z] at q; exact q
  | ok u env1 => rw [z] at q; exact fun H0' H' e1 S1 v hv => h v H' (q H0' H' e1 S1 v hv)
theorem c_fstr1 (h : PE X e (tFmt (tI C W cl e'))) : PE X (.JoinedStr [e] pos) (tI C W cl (.fstr (.cons e' .nil))) := peI (pe_joined1 h) fun σ H Q ⟨H0, env, S, q⟩ => by
  simp only [ev] at q
  have z := joinsI (C := C) (W := W) (cl := cl) (σ := σ) (Q := fun out H1 => Q (.str out) H1) (.cons e' .nil) Str.empty H H0 env S (by
    cases z : evJ cl (.cons e' .nil) Str.empty env with
    | bad => rw [z] at q; exact q
    | exc x env1 => rw [z] at q; exact q
    | ok y env1 =>
      rw [z] at q
      exact fun H0' H' e' S' => q H0' H' e' S' (.str y) (by show RepN _ _ _ _ _ _ _; unfold RepN; rw [if_neg (by simp [isMutD])]; simp only [Rep]))
  simp only [tPs, tJs] at z
  refine tI_mono (fun x H1 hx => ?_) z
  rcases hx with ⟨y, e1, h1, y', e2, _, q1⟩ | ⟨i, e1, h1, y', e2, _, q1⟩
  · cases e2
    rw [str_empty_app] at q1
    exact .inl ⟨y, e1, h1, q1⟩
  · cases e2
    rw [str_empty_app] at q1
    exact .inr ⟨i, e1, h1, q1⟩
/-! ### str(o), o of an own class -/
theorem FnG.goIn2 {k : Nat} {f : Addr} {fd : FuncData} {ps : List Str} {sp : Sp} {ds : List Value} {dvs : List V} {pins : List (Addr × Obj)} {σ : L2.St} {H : Hp} {s : Shared} {Q : VK} {us : List Value} {vs : List V} {E : XK}
    (F : FnG X.prog X.w X.K X.mg X.base k f fd ps sp) (hgd : X.A.guards = some []) (hr : Room (k + 2) X.A) (hb : Binds X.K fd ps ds) (hd : Vals dvs ds) (tk : Takes X W) (hE : ∀ cls d H', E cls d H' → W cls d σ H')
    (I : Inv X pins σ H s) (r : Vals vs us) (h : sp (vs ++ dvs) H Q E) : wpAny (model X.prog X.w) X.A.in1.in1 (call (.ref f) us) (EP X pins σ Q) X.xe s := by
  have r2 := r.append hd
  have hlen : (us ++ ds).length = ps.length := r2.length ▸ F.len _ _ _ _ h
  refine wpAny_call (codeAny_mono (F.run X.A.in1.in1 X.stack s H ⟨us, []⟩ _ _ Q E hgd hr.in1.in1 I.env0.in1.in1 (hb s us I.kIn hlen) r2 h) fun res s' hq => ?_)
  cases res with
  | error ee => exact tk _ _ (XE.of_call I hE hq)
  | ok fl =>
    cases fl with
    | ret u => exact I.after hq
    | _ => exact hq.elim
/-- what a method that is called by the machine needs -/
def SpM (X : Cx) (T : Tbl) (cl : CallF) (m : Nat) (nm : Str) (cs : List Nat) : Prop :=
  ∀ c ∈ cs, ∀ C, T.cn c = some C → ∃ k f fd ps, Meth X.K C nm f ∧ FnG X.prog X.w X.K X.mg X.base k f fd ps (spF T cl (spec c m) 1) ∧ Room (k + 2) X.A ∧ Binds X.K fd ps []
def rStrO (T : Tbl) (cl : CallF) (cs : List Nat) : List V → Hp → VK → Prop := fun xs H Q => ∃ p c Ca dx fs, xs = [.ref p] ∧ H p = some (.ins Ca dx fs) ∧ c ∈ cs ∧ T.cn c = some Ca ∧ spF T cl (spec c 21) 1 [.ref p] H (fun v H' => ∃ z, v = .str z ∧ Q (.str z) H') fun _ _ _ => False
theorem call_strO {cs : List Nat} (SP : SpM X C.T cl 21 "__str__" cs) (hgd : X.A.guards = some []) (tk : Takes X W) : CallR X (.type "str") (rStrO C.T cl cs) := by
  intro pins s σ H xs us Q I r h
  obtain ⟨p, c, Ca, dx, fs, rfl, ea, hcs, hcn, q⟩ := h
  cases r with
  | cons rx rr =>
    cases rr
    cases rx
    obtain ⟨k, f, fd, ps, hm, F, hr, hb⟩ := SP c hcs Ca hcn
    obtain ⟨mA, O, _⟩ := ins_get I.hok ea
    obtain ⟨od, J, _⟩ := O.look
    have run := F.goIn2 (W := W) (E := fun _ _ _ => False) (us := [.ref p]) (vs := [.ref p]) hgd hr hb .nil tk (fun _ _ _ z => False.elim z) I (.cons rfl .nil) (by rw [List.append_nil]; exact q)
    refine PySem.W.kso_call (by have := hr.un; show X.A.units + 1 + 1 < _; omega) I.kIn J hm.at_ hm.fn (wpAny_mono run (fun v s' hv => ?_) fun _ _ x => x)
    obtain ⟨v', H', I', rv, z, rfl, q'⟩ := hv
    obtain ⟨t, rfl⟩ := (show ∃ t, v = Value.str z t from rv)
    exact ⟨.str z, H', I', ⟨t, rfl⟩, q'⟩
theorem c_strO {p : Pos} {cs : List Nat} (SP : SpM X C.T cl 21 "__str__" cs) (hgd : X.A.guards = some []) (tk : Takes X W) (hg : Gl X "str") (hm : X.mg "str" = none) (ha : PE X e (tI C W cl e'))
    (he : starEach [e] X.env = (false, eval e X.env) :: starEach [] X.env := by rfl) (hpl : (backTo pos (starEach [] X.env)).any (·.1) = false := by rfl) : PE X (.Call (.Name "str" p) [e] [] pos) (tI C W cl (.strO cs e')) :=
  peI (pe_callTy (call_strO SP hgd tk) hg hm (by decide +kernel) (pa_cons ha pa_nil he) (by decide) (by decide) he hpl) fun σ H Q ⟨H0, env, S, q⟩ => by
    simp only [ev] at q
    refine seqI S q fun u env1 x H1 H1' e1 S1 u1 q1 => ?_
    obtain ⟨⟨c, ur, env2⟩, hr, q2⟩ := q1.orB
    split at q2
    · exact q2.elim
    rename_i hcs
    simp only [Bool.not_eq_true, Bool.not_eq_false', List.contains_iff_mem] at hcs
    unfold recvU at hr
    simp only at hr
    split at hr
    · rename_i c' ks vs env' hf
      cases hr
      obtain ⟨H2, e2, S2, r2⟩ := S1.take u1 hf
      obtain ⟨z, hz, q3⟩ := (RQ.mono e2 q2).orB
      cases hz
      have r3 := r2
      simp only [Rep] at r3
      obtain ⟨p, Ca, dx, xs, rfl, hck, h2, _⟩ := r3
      refine ⟨p, c, Ca, dx, _, rfl, S2.ex _ _ h2, hcs, (Tbl.ck_some hck).1, H2, [.fz (.obj c ks vs)], S2.ex, ⟨.ref p, [], rfl, r2, rfl⟩, ?_, rfl, S2.tb, ?_⟩
      · intro i j y hi hj
        match i, hi with
        | 0, hi => simp [ioL] at hi
        | _ + 1, hi => simp [ioL] at hi
      · cases zc : cl (spec c 21) [.fz (.obj c ks vs)] with
        | bad => simp only [zc] at q3; exact q3
        | exc z outs => simp only [zc] at q3; exact q3.elim
        | ok r outs =>
          simp only [zc] at q3
          split at q3
          · rename_i zz ww hh
            cases hh
            intro v H0' H' g hr _
            have hv : v = .str zz := by simpa only [RetOk, Rep] using hr
            have S5 := S2.gr ⟨g.e0, fun p o hp => g.keep p o (by simp [ioL]) hp, g.e01, g.new, g.tb⟩
            exact ⟨zz, hv, q3 H0' H' g.e0 S5 (.str zz) (by show RepN _ _ _ _ _ _ _; unfold RepN; rw [if_neg (by simp [isMutD])]; simp only [Rep])⟩
          · exact q3.elim
    · cases hr
/-! ### C.m(..), m a static method -/
structure StMet (K : PySem.W.Frag) (C : Addr) (mc : Value) (m : Str) (p g : Addr) : Prop where
  rd : ClX.CRead K C mc
  at_ : PySem.W.findCls K (.ref C) mc m = some (.get (.builtin "staticmethod.__get__") (.ref p) .none (.ref C))
  rc : ∃ rest, PySem.W.recIn K p "staticmethod" = some (.ref g :: rest)
  kp : PySem.W.keepIn K (.ref g) = true
theorem c_callS {x m : Str} {p1 apos : Pos} {k f n : Nat} {Ca p g : Addr} {mc : Value} {fd : FuncData} {ps : List Str} {ms : List Bool} {pl : Sem Bool} (F : FnG X.prog X.w X.K X.mg X.base k g fd ps (spF C.T cl f n)) (hgd : X.A.guards = some []) (hr : Room k X.A) (tk : Takes X W)
    (hg : Gl X x) (hm : X.mg x = some (.ref Ca)) (M : StMet X.K Ca mc m p g) (hb : Binds X.K fd ps []) (ha : PA X (e :: es) (tAC C W cl ms es')) (hn : ms.length = n := by rfl) (hdb : (x == ("__debug__" : Str)) = false := by decide)
    (he : starEach (e :: es) X.env = (false, eval e X.env) :: starEach es X.env := by rfl) (hpl : (backTo pos (starEach es X.env)).any (·.1) = false := by rfl)
    (ht : eval (.Call (.Attribute (.Name x p1) m apos) (e :: es) [] pos) X.env = (do
      let ov ← eval (.Name x p1) X.env
      standAt apos.atName
      let (f, first) ← holding [ov] (getMethod ov m pl)
      callWith pos f first (backTo pos (starEach (e :: es) X.env)) (backToKw pos (keywordEach [] X.env))) := by rfl) : PE X (.Call (.Attribute (.Name x p1) m apos) (e :: es) [] pos) (tI C W cl (.call f ms es')) := by
  refine peI (t := tCl C.T W cl f n (tAC C W cl ms es')) ⟨fun pins s σ H Q I h => ?_⟩ fun σ H Q q => readC hn q
  refine PySem.W.methodCall_KW (pl := pl) (ld_glob I hg hm ?_ hdb) ht
  obtain ⟨rest, hrc⟩ := M.rc
  refine PySem.W.method_cls I.kIn M.rd.ga (PySem.W.cls_bind I.kIn M.rd.rd M.at_ (wpAny_call (PySem.W.sm_get (s := { s with toks := s.toks + 1 }) I.kIn hrc (PySem.W.handed_on (by rfl) ?_))))
  have I0 := I.tok (s.toks + 1)
  refine PySem.W.callWith_K (h₀ := X.base) (first := []) I.ok.mod.kin M.kp (thn (ha.run pos pins _ σ H _ I0 h) fun us s1 hq => ?_) he hpl
  obtain ⟨vs, H1, I1, r, q⟩ := hq
  exact ⟨I1.kIn, F.go hgd hr hb .nil tk (fun _ _ _ z => z) I1 r (by rw [List.append_nil]; exact q)⟩
/-! ### C(k = v, ..) -/
def KwBindsS (K : PySem.W.Frag) (fd : FuncData) (ps ks : List Str) (pm : List Nat) : Prop := ∀ (s : Shared) (u : Value) (ws : List Value), K.In s.heap → ws.length = ks.length → BindsTo s fd ⟨[u], ks.zip ws⟩ (ps.zip (u :: permL pm ws))
theorem c_mkP {x : Str} {p : Pos} {k c n : Nat} {f Ca : Addr} {fd : FuncData} {ps ks : List Str} {pm : List Nat} {kws : List Keyword} (M : Mk X.K Ca f) (F : FnG X.prog X.w X.K X.mg X.base k f fd ps (spF C.T cl (spec c 0) n)) (hgd : X.A.guards = some []) (room : Room (k + 1) X.A)
    (tk : Takes X W) (hg : Gl X x) (hm : X.mg x = some (.ref Ca)) (hcn : C.T.ck c [] = some Ca) (hb : KwBindsS X.K fd ps ks pm) (ha : PK X kws (tAC C W cl (pm.map fun _ => false) es')) (hn : pm.length + 1 = n := by rfl) (hkn : ks.length = pm.length := by rfl)
    (hall : (backToKw pos (keywordEach kws X.env)).all (·.1.isSome) = true := by rfl) (hks : (backToKw pos (keywordEach kws X.env)).filterMap (·.1) = ks := by rfl) (hdb : (x == ("__debug__" : Str)) = false := by decide)
    (hpl : ((backTo pos (starEach [] X.env)).any (·.1) || (backToKw pos (keywordEach kws X.env)).any (·.1.isNone)) = false := by rfl) :
    PE X (.Call (.Name x p) [] kws pos) (tI C W cl (.mkP c pm es')) := by
  refine ⟨fun pins s σ H Q I h => ?_⟩
  refine wpAny_Call_Name_kw (ld_glob I hg hm ?_ hdb)
  obtain ⟨H0, env, S, q⟩ := h
  simp only [ev] at q
  refine PySem.W.callWith_KW0 (h₀ := X.base) I.ok.mod.kin M.kp hall ?_ hpl
  have hread : tAC C W cl (pm.map fun _ => false) es' σ H fun vs H1 => vs.length = pm.length ∧ ∀ x dx, H1 x = none → H1 dx = none → dx ≠ x →
      spF C.T cl (spec c 0) n (.ref x :: permL pm vs) (upd (upd H1 dx (.own x)) x (.ins Ca dx [])) (fun v H2 => v = .non ∧ Q (.ref x) H2) fun cls d H' => W cls d σ H' := by
    refine ⟨H0, env, S, ?_⟩
    cases z : evC cl (pm.map fun _ => false) es' env with
    | bad => rw [z] at q; exact q.elim
    | exc x env1 => rw [z] at q; exact q
    | ok us env1 =>
      rw [z] at q
      simp only [R.bind_ok] at q
      intro H1 H1' e1 S1 vs hv0
      obtain ⟨as, ha', q1⟩ := (RQ.mono e1 q).orB
      split at q1
      rotate_left
      · exact q1.elim
      rename_i hz
      rw [Bool.and_eq_true, decide_eq_true_eq] at hz
      refine ⟨hv0.len.trans hz.2, fun x dx nx nd ne => ?_⟩
      obtain ⟨g1, g2, _⟩ := args_ok S1 ha' (hv0.perm pm)
      exact read_mk S1 hz.1 g1 (by rw [g2, List.length_map]; exact hn) hcn nx nd ne q1
  refine thn (ha.run pos pins s σ H _ I hread) fun ws s1 hq => ?_
  obtain ⟨zs, H1, I1, rz, hl, q1⟩ := hq
  refine ⟨I1.kIn, ?_⟩
  rw [hks]
  have q2 := q1 (s1.heap.objs.size + 1) s1.heap.objs.size (I1.hok.fresh (Nat.le_succ _)) (I1.hok.fresh (Nat.le_refl _)) (Nat.ne_of_lt (Nat.lt_succ_self _))
  have J := Inv.made (C := Ca) I1
  have rr : Vals (V.ref (s1.heap.objs.size + 1) :: permL pm zs) (Value.ref (s1.heap.objs.size + 1) :: permL pm ws) := .cons rfl (vals_perm rz pm)
  refine wpAny_call (make_map (f := f) I1.kIn M.makes M.init (beq_iff_eq.mp M.fn) (codeAny_mono (F.run _ X.stack _ _ ⟨Value.ref (s1.heap.objs.size + 1) :: [], ks.zip ws⟩ (Value.ref (s1.heap.objs.size + 1) :: permL pm ws) _ _ _ (under_guards hgd) (room.make Ca [] (ks.zip ws)) (J.env0.make Ca [] (ks.zip ws))
    (hb _ (Value.ref (s1.heap.objs.size + 1)) ws J.kIn (by rw [← rz.length, hl, hkn])) rr q2) fun r s' z => ?_))
  cases r with
  | error e => exact tk _ _ (XE.of_call J (fun _ _ _ z => z) z)
  | ok fl =>
    cases fl with
    | ret u =>
      obtain ⟨v, H', I3, rv, ev, q3⟩ := J.after z
      subst ev
      exact ⟨rv, ⟨V.ref (s1.heap.objs.size + 1), H', I3, rfl, q3⟩⟩
    | _ => exact False.elim z
end
end PP
end

section
set_option maxHeartbeats 2000000
/-! Facts of classes, packed; the end of a law with its tables. -/
namespace PP
open PySem PySem.Spec PyProof.Rows L2
def tys : List String := ["NoneType", "bool", "int", "str", "list", "tuple", "dict"]
theorem tyN_tys {d : D} (h : isObjD d = false) : tyN d ∈ tys := by
  cases d <;> first | (cases h; done) | (show tyN _ ∈ tys; simp [tyN, tys])
/-- the address of a name of the main module -/
def adr (K : PySem.W.Frag) (x : Str) : Option Addr := match PySem.W.nsIn K mainGlobals x with
  | some (some (.ref C)) => some C
  | _ => none
theorem adr_of {K : PySem.W.Frag} {x : Str} {C : Addr} (h : PySem.W.nsIn K mainGlobals x = some (some (.ref C))) : adr K x = some C := by
  unfold adr
  rw [h]
def naB (K : PySem.W.Frag) (C : Addr) (fs : List Str) : Bool := fs.all fun f => decide (PySem.W.findIn K (.ref C) f = some none)
theorem na_of {K : PySem.W.Frag} {C : Addr} {fs : List Str} (h : naB K C fs = true) : ∀ f ∈ fs, NoAttr K C f := fun f hf => (of_decide_eq_true (List.all_eq_true.mp h f hf) : PySem.W.findIn K (.ref C) f = some none)
def clsB (K : PySem.W.Frag) (C : Addr) : Bool := PySem.W.plainGet K C Str.empty && (PySem.W.hasDictIn K C && (PySem.W.plainOver K C && (decide (PySem.W.findIn K (.ref C) "__setattr__" = some (some (.builtin "object.__setattr__"))))))
theorem cls_of {K : PySem.W.Frag} {C : Addr} (h : clsB K C = true) : Cls K C := by
  unfold clsB at h
  simp only [Bool.and_eq_true, decide_eq_true_eq] at h
  exact ⟨h.1, h.2.1, h.2.2.1, h.2.2.2⟩
/-- what is asked of __class__ -/
def cgB (K : PySem.W.Frag) (C : Addr) : Bool := decide (PySem.W.findIn K (.ref C) "__class__" = some (some (.builtin "object.__class__"))) && (decide (PySem.W.specialIn K (.builtin "object.__class__") "__get__" = some (some (.builtin "getset_descriptor.__get__"))) && (decide (PySem.W.takesIn K (.builtin "object.__class__") = some true) && decide (PySem.W.mroIn K C (.type "object") = some true)))
def xcB (K : PySem.W.Frag) (C : Addr) : Bool := xfB K C && cgB K C
theorem xf_of {K : PySem.W.Frag} {C : Addr} (h : xcB K C = true) : XfC K C := xfB_ok (Bool.and_eq_true_iff.mp h).1
theorem xc_of {K : PySem.W.Frag} {C : Addr} (h : xcB K C = true) : ExcC K C := by
  obtain ⟨h1, h2⟩ := Bool.and_eq_true_iff.mp h
  have x := xfB_ok h1
  unfold cgB at h2
  simp only [Bool.and_eq_true, decide_eq_true_eq] at h2
  exact ⟨x.ga, x.gg, x.exC, x.hdC, h2.1, h2.2.1, h2.2.2.1, h2.2.2.2⟩
/-- isinstance: the built-in types, then each class with its answer -/
def isoB (K : PySem.W.Frag) (u : Addr) (cs : List (Addr × Bool)) : Bool := (tys.all fun t => decide (PySem.W.kitOne K (.type t) (.ref u) = some false)) && cs.all fun p => decide (PySem.W.kitOne K (.ref p.1) (.ref u) = some p.2)
theorem iso_of {X : Cx} {T : Tbl} {cs : List Nat} {u : Addr} {l : List (Addr × Bool)} (h : isoB X.K u l = true) (hl : ∀ c C, T.cn c = some C → (C, cs.contains c) ∈ l ∧ (T.ec c = true → ExcC X.K C) ∧ (T.ec c = false → Cls X.K C ∧ cgB X.K C = true)) : IsO X T cs (.ref u) := by
  obtain ⟨h1, h2⟩ := Bool.and_eq_true_iff.mp h
  refine ⟨fun d hd => of_decide_eq_true (List.all_eq_true.mp h1 _ (tyN_tys hd)), fun c C hc he => ?_, fun c C hc he => ?_⟩
  · obtain ⟨m, x, _⟩ := hl c C hc
    exact ⟨x he, of_decide_eq_true (List.all_eq_true.mp h2 _ m)⟩
  · obtain ⟨m, _, x⟩ := hl c C hc
    obtain ⟨x1, x2⟩ := x he
    unfold cgB at x2
    simp only [Bool.and_eq_true, decide_eq_true_eq] at x2
    exact ⟨of_decide_eq_true (List.all_eq_true.mp h2 _ m), x1, x2.1, x2.2.1, x2.2.2.1, x2.2.2.2⟩
/-- < <= == ..: neither a built-in type nor a class goes first -/
def nfB (K : PySem.W.Frag) (C : Addr) (Cs : List Addr) : Bool := (tys.all fun t => PySem.W.notFirst K C (.type t)) && Cs.all fun D => PySem.W.notFirst K C (.ref D)
theorem nf_of {K : PySem.W.Frag} {T : Tbl} {C : Addr} {Cs : List Addr} (h : nfB K C Cs = true) (hl : ∀ c' C', T.cn c' = some C' → C' ∈ Cs) : NFs K T C := by
  obtain ⟨h1, h2⟩ := Bool.and_eq_true_iff.mp h
  exact ⟨fun t ht => List.all_eq_true.mp h1 t ht, fun c' C' hc => List.all_eq_true.mp h2 _ (hl c' C' hc)⟩
def refO : Option (Option Value) → Bool
  | some none => true | some (some (.ref _)) => true | _ => false
def bcB (K : PySem.W.Frag) (C : Addr) (op : Operator) : Bool := PySem.W.selfFirst K C && (refO (PySem.W.findIn K (.ref C) (dunderR op.info.2)) && tys.all fun t => (PySem.W.findIn K (.type t) (PySem.dunder op.info.2)).isSome && ((PySem.W.findIn K (.type t) (dunderR op.info.2)).isSome && decide (PySem.W.subIn K (.type t) (.ref C) = some false)))
theorem bc_of {K : PySem.W.Frag} {C : Addr} {op : Operator} {ts : List Nat} (h : bcB K C op = true) : BinC K C op ts := by
  unfold bcB at h
  rw [Bool.and_eq_true, Bool.and_eq_true] at h
  obtain ⟨h1, h2, h3⟩ := h
  refine ⟨h1, ?_, fun d hd _ => ?_⟩
  · cases z : PySem.W.findIn K (.ref C) (dunderR op.info.2) with
    | none => rw [z] at h2; cases h2
    | some r =>
      refine ⟨r, rfl, ?_⟩
      cases r with
      | none => exact .inl rfl
      | some v =>
        rw [z] at h2
        cases v <;> first | (cases h2; done) | exact .inr ⟨_, rfl⟩
  · have q := List.all_eq_true.mp h3 _ (tyN_tys hd)
    rw [Bool.and_eq_true, Bool.and_eq_true, decide_eq_true_eq] at q
    obtain ⟨q1, q2, q3⟩ := q
    obtain ⟨a, ha⟩ := Option.isSome_iff_exists.mp q1
    obtain ⟨b, hb⟩ := Option.isSome_iff_exists.mp q2
    exact ⟨⟨a, b, ha, hb⟩, q3⟩
def neB (K : PySem.W.Frag) (C : Addr) : Bool := decide (PySem.W.findIn K (.ref C) "__ne__" = some (some (.builtin "object.__ne__"))) && decide (PySem.W.mroIn K C (.type "object") = some true)
theorem ne_of' {K : PySem.W.Frag} {C : Addr} (h : neB K C = true) : NeC K C := by
  obtain ⟨h1, h2⟩ := Bool.and_eq_true_iff.mp h
  exact ⟨of_decide_eq_true h1, of_decide_eq_true h2⟩
/-- an except clause of the class at CE -/
def exmB (K : PySem.W.Frag) (CE : Addr) (Cs : List Addr) : Bool := Cs.all fun C => decide (PySem.W.exmOne K (.ref C) (.ref CE) = some true)
theorem exm_of {K : PySem.W.Frag} {CE : Addr} {Cs : List Addr} (h : exmB K CE Cs = true) {C : Addr} (hc : C ∈ Cs) : PySem.W.exmOne K (.ref C) (.ref CE) = some true := of_decide_eq_true (List.all_eq_true.mp h C hc)
/-- an exception class of one's own -/
theorem oex_of {K : PySem.W.Frag} {C : Addr} {nm q : Str} {N : Addr} {bs bm : List Value} {sn : List Str} {sub : List Value} {ab : Bool} {col : Option Bool} {dd : Option Addr} {k0 k1 k2 k3 k5 : Option Value} (h : K.lookup C = some (excClassObj nm q C N bs bm true sn sub ab col dd k0 k1 k2 k3 k5 "ValueError.__new__")) (hr : PySem.HandSPX.refsVE bm = true)
    (h2 : (decide (PySem.W.findIn K (.ref C) "__setattr__" = some (some (.builtin "object.__setattr__"))) && (decide (PySem.W.subIn K (.ref C) (.type "BaseException") = some true) && (decide (PySem.W.typeIn K (.ref C) = some (.type "type")) && PySem.W.keepIn K (.ref C)))) = true) : OexC K C := by
  simp only [Bool.and_eq_true, decide_eq_true_eq] at h2
  exact ⟨⟨_, _, _, _, _, _, _, _, _, _, _, _, _, _, _, h, hr⟩, h2.1, h2.2.1, h2.2.2.1, h2.2.2.2⟩
/-! ### tables -/
def ttOf (K : PySem.W.Frag) (names : List Str) : List (Addr × Str) := names.filterMap fun x => (PySem.W.tabIn K x).map fun p => (p.2, x ++ ".<locals>." ++ "<lambda>")
def csOf (names : List Str) (K : PySem.W.Frag) : List (Addr × Addr) := names.filterMap fun x => PySem.W.tabIn K x
theorem tt_mem {K : PySem.W.Frag} {names : List Str} {x : Str} {c P : Addr} (h : PySem.W.tabIn K x = some (c, P)) (hx : x ∈ names) : (P, x ++ ".<locals>." ++ "<lambda>") ∈ ttOf K names :=
  List.mem_filterMap.mpr ⟨x, hx, by rw [h]; rfl⟩
def ttB (K : PySem.W.Frag) (names : List Str) (P : Addr) (y : Str) : Bool := (ttOf K names).all fun q => !(q.1 == P) || decide (q.2 = y)
theorem tt_un {K : PySem.W.Frag} {names : List Str} {P : Addr} {y : Str} (h : ttB K names P y = true) : ∀ q ∈ ttOf K names, q.1 = P → q.2 = y := fun q hq e => by
  have z := List.all_eq_true.mp h q hq
  rw [e] at z
  simpa using z
theorem cs_tt {names : List Str} {K : PySem.W.Frag} : ∀ p ∈ ttOf K names, ∃ q ∈ csOf names K, q.2 = p.1 := fun p hp => by
  obtain ⟨x, hx, e⟩ := List.mem_filterMap.mp hp
  rw [Option.map_eq_some_iff] at e
  obtain ⟨q, hq, rfl⟩ := e
  exact ⟨q, List.mem_filterMap.mpr ⟨x, hx, hq⟩, rfl⟩
/-- THE END of a law in whose defs lambdas are made (names) -/
theorem law_walkN {l : PySem.W.OpenLaw} {n k : Nat} {q : Program} {loose : List Str} {XP : (Str → Option Value) → Heap → Prop} {YP : World → Heap → Prop} {d : DefRec} {K : Params → PySem.W.Frag} {sp : PySem.W.Frag → Sp} {x : Str} (names : List Str)
    (hn : l.most = some n) (hn2 : n ≤ sizeLine) (hdf : d.params.defaults = []) (hr : Room k callerA) (hY : ∀ (w : World) (h : Heap), YP w h → (K w.params).In h)
    (hq : (names.all fun x => ((recsOf q).find? fun e => e.name == x).isSome) = true)
    (hl : ∀ w : World, ((csOf names (K w.params)).all fun p => ((K w.params).lookup p.2).isNone) = true)
    (hF : ∀ (w : World) (mg : Str → Option Value) (fa : Addr) (h : Heap), (K w.params).In h → h.Ns mainGlobals mg → mg d.name = some (.ref fa) →
      ∃ fd : FuncData, (∀ (s : Shared) (u : Value), BindsTo s fd ⟨[u], []⟩ [(x, u)]) ∧
        ∀ base : Heap, (K w.params).In base → base.Ns mainGlobals mg → (∀ x ∈ names, ∀ c P, PySem.W.tabIn (K w.params) x = some (c, P) → LamX.TabB base mg c P) → FnG l.prog w (K w.params) mg base k fa fd [x] (sp (K w.params)))
    (hsp : ∀ (K : PySem.W.Frag) (H : Hp) (a : Addr) (ns : List Int), ns.length ≤ n → (∀ p ∈ csOf names K, H p.2 = some (.tbl #[])) → SqL K H a (ns.map V.int) → sp K [.ref a] H (fun v _ => v = .bl true) fun _ _ _ => False) :
    PySem.W.WalkO q loose XP YP l.row.toRowW d [] (fun f vs => PySem.call f vs) := by
  refine law_walk (x := x) (cs := csOf names) hn hn2 hdf hr hY (fun w mg fa h hK hm hf Tb => ?_) hsp
  obtain ⟨fd, hb, hF⟩ := hF w mg fa h hK hm hf
  refine ⟨fd, fun p hp => ?_, hb, fun base h1 h2 h3 => hF base h1 h2 fun x hx c P ht => h3 (c, P) (List.mem_filterMap.mpr ⟨x, hx, ht⟩)⟩
  have hnone := List.all_eq_true.mp (hl w) p hp
  obtain ⟨x, hx, e⟩ := List.mem_filterMap.mp hp
  obtain ⟨dd, hd⟩ := Option.isSome_iff_exists.mp (List.all_eq_true.mp hq x hx)
  obtain ⟨z1, z2⟩ := Tb x dd p.1 p.2 hd e
  exact ⟨z2, Option.isNone_iff_eq_none.mp hnone, z1⟩
/-- defaults -/
theorem binds_of {K : PySem.W.Frag} {x qual : Str} {st : Stmt} {dvs : List V} {f : Addr} {fd : FuncData} {ps : List Str} (F : FunD K x qual (defArgs st) (defBody st) (defScope st) dvs [] f fd) (n j : Nat) (hd : dvs ≠ []) (hn : n + (dvs.length - j) = ps.length)
    (h : ∀ (T : Addr) (kV doc pm : Value) (an : Option Addr) (cdv ct : Value) (us its : List Value), us.length = n → its.length = dvs.length →
      ∃ k, bindArgs (PySem.W.fnOf x qual (defArgs st) (defBody st) (defScope st) (.ref T) kV doc pm an cdv ct) ⟨us, []⟩ = seqItems? (.ref T) >>= k ∧ k (some its.toArray) = pure (ps.zip (us ++ its.drop j))) : ∃ ds, Vals (dvs.drop j) ds ∧ Binds K fd ps ds := F.binds1 n j hd hn h
theorem kbinds_of {K : PySem.W.Frag} {x qual : Str} {st : Stmt} {dvs : List V} {f : Addr} {fd : FuncData} {ps ks : List Str} {pm : List Nat} (F : FunD K x qual (defArgs st) (defBody st) (defScope st) dvs [] f fd) (hd : dvs ≠ [])
    (h : ∀ (T : Addr) (kV doc pm' : Value) (an : Option Addr) (cdv ct : Value) (u : Value) (its ws : List Value), its.length = dvs.length → ws.length = ks.length →
      ∃ k, bindArgs (PySem.W.fnOf x qual (defArgs st) (defBody st) (defScope st) (.ref T) kV doc pm' an cdv ct) ⟨[u], ks.zip ws⟩ = seqItems? (.ref T) >>= k ∧ k (some its.toArray) = pure (ps.zip (u :: permL pm ws))) : KwBindsS K fd ps ks pm := by
  obtain ⟨oc, od, dV, kV, doc, pm', an, cdv, ct, osl, rfl, lk, hcd, hD, hK⟩ := F.ex
  rcases hD with ⟨e, _⟩ | ⟨_, T, o, its, m, rfl, lT, oT, rT⟩
  · exact absurd e hd
  · intro s u ws X l2
    obtain ⟨k, e1, e2⟩ := h T kV doc pm' an cdv ct u its ws rT.length.symm l2
    refine BindsTo.of_looks fun M => ?_
    rw [e1]
    exact looks_items X lT oT (.of_pure e2)
theorem funD_V {K : PySem.W.Frag} {x qual : Str} {st : Stmt} {dvs : List V} {kws : List (Str × V)} {f : Addr} {fd : FuncData} (F : FunD K x qual (defArgs st) (defBody st) (defScope st) dvs kws f fd) : FunV K x qual st f fd := by
  obtain ⟨oc, od, dV, kV, doc, pm, an, cdv, ct, osl, e, l, c, _, _⟩ := F.ex
  exact ⟨⟨oc, od, dV, kV, doc, pm, an, cdv, ct, osl, e, l, c⟩, F.kp⟩
theorem hear_calls {fs : Nat → Option Fn} {F : Fn} {k f : Nat} {o : D} (hF : fs f = some F) (hl : F.lam = true) (h : calls fs k f [.fz o] ≠ .bad) : calls fs k f [.fz o] = finR [] (exs (askCl o (calls fs (k - 1))) F.body (lamE F.n)) := by
  cases k with
  | zero => exact absurd rfl h
  | succ k =>
    show (match fs f with | some F => _ | none => _) = _
    rw [hF]
    show (match F.lam with | false => _ | true => _) = _
    rw [hl]
    rfl
def isbB (K : PySem.W.Frag) (cs : List Addr) : Bool := tys.all fun t => cs.all fun C => decide (PySem.W.kitOne K (.ref C) (.type t) = some false)
theorem isb_of {X : Cx} {T : Tbl} {l : List Addr} {t : String} (h : isbB X.K l = true) (ht : t ∈ tys) (hl : ∀ c C, T.cn c = some C → C ∈ l ∧ (T.ec c = true → ExcC X.K C) ∧ (T.ec c = false → Cls X.K C ∧ cgB X.K C = true)) : IsB X T (.type t) := by
  have h2 := List.all_eq_true.mp h t ht
  refine ⟨fun c C hc he => ?_, fun c C hc he => ?_⟩
  · obtain ⟨m, x, _⟩ := hl c C hc
    exact ⟨x he, of_decide_eq_true (List.all_eq_true.mp h2 _ m)⟩
  · obtain ⟨m, _, x⟩ := hl c C hc
    obtain ⟨x1, x2⟩ := x he
    unfold cgB at x2
    simp only [Bool.and_eq_true, decide_eq_true_eq] at x2
    exact ⟨of_decide_eq_true (List.all_eq_true.mp h2 _ m), x1, x2.1, x2.2.1, x2.2.2.1, x2.2.2.2⟩
end PP
end

section
namespace PP
open PySem L2
/-- is_integer(value): 0 value -/
def F_is_integer : Fn := { n := 1, body := (.cons (.ret (.and (.bi .isInt (.cons (.var 0) .nil)) (.not (.bi .isBool (.cons (.var 0) .nil))))) .nil) }
/-- is_between(value, least, most): 0 value 1 least 2 most -/
def F_is_between : Fn := { n := 3, body := (.cons (.ret (.and (.call 0 [false] (.cons (.var 0) .nil)) (.chain .le .le (.var 1) (.var 0) (.var 2)))) .nil) }
/-- is_level(value): 0 value -/
def F_is_level : Fn := { n := 1, body := (.cons (.ret (.call 1 [false, false, false] (.cons (.var 0) (.cons (.cst (.int 0)) (.cons (.cst (.int 100)) .nil))))) .nil) }
/-- is_pair(value): 0 value -/
def F_is_pair : Fn := { n := 1, body := (.cons (.ret (.and (.bi .isTuple (.cons (.var 0) .nil)) (.and (.op2 .eq (.bi .len (.cons (.var 0) .nil)) (.cst (.int 2))) (.and (.call 0 [false] (.cons (.ix (.var 0) (.cst (.int 0))) .nil)) (.call 0 [false] (.cons (.ix (.var 0) (.cst (.int 1))) .nil)))))) .nil) }
/-- need_box(other): 0 other -/
def F_need_box : Fn := { n := 1, body := (.cons (.iff (.not (.isObj [5] (.var 0))) (.cons (.raise 3 [1] (.cons (.cst (.str "other")) .nil)) .nil) .nil) .nil) }
/-- moved_by(box, move, sign): 0 box 1 move 2 sign -/
def F_moved_by : Fn := { n := 3, body := (.cons (.iff (.not (.call 3 [false] (.cons (.var 1) .nil))) (.cons (.raise 3 [1] (.cons (.cst (.str "move")) .nil)) .nil) .nil) (.cons (.ret (.mk 5 [false, false, false, false] (.cons (.op2 .add (.fld (.var 0) 2) (.op2 .mul (.var 2) (.ix (.var 1) (.cst (.int 0))))) (.cons (.op2 .add (.fld (.var 0) 3) (.op2 .mul (.var 2) (.ix (.var 1) (.cst (.int 1))))) (.cons (.fld (.var 0) 4) (.cons (.fld (.var 0) 5) .nil)))) [])) .nil)) }
/-- need_shift(n): 0 n -/
def F_need_shift : Fn := { n := 1, body := (.cons (.iff (.not (.call 1 [false, false, false] (.cons (.var 0) (.cons (.cst (.int 0)) (.cons (.cst (.int 100)) .nil))))) (.cons (.raise 4 [0] (.cons (.var 0) .nil)) .nil) .nil) .nil) }
/-- is_within(one, other): 0 one 1 other -/
def F_is_within : Fn := { n := 2, body := (.cons (.iff (.or (.op2 .lt (.fld (.var 0) 2) (.fld (.var 1) 2)) (.op2 .lt (.fld (.var 0) 3) (.fld (.var 1) 3))) (.cons (.ret (.cst (.bl false))) .nil) .nil) (.cons (.ret (.and (.op2 .le (.op2 .add (.fld (.var 0) 2) (.fld (.var 0) 4)) (.op2 .add (.fld (.var 1) 2) (.fld (.var 1) 4))) (.op2 .le (.op2 .add (.fld (.var 0) 3) (.fld (.var 0) 5)) (.op2 .add (.fld (.var 1) 3) (.fld (.var 1) 5))))) .nil)) }
/-- common_box(one, other): 0 one 1 other 2 left 3 low 4 right 5 top -/
def F_common_box : Fn := { n := 6, body := (.cons (.par [2, 3] (.cons (.bi .max2 (.cons (.bi .int (.cons (.fld (.var 0) 2) .nil)) (.cons (.bi .int (.cons (.fld (.var 1) 2) .nil)) .nil))) (.cons (.bi .max2 (.cons (.bi .int (.cons (.fld (.var 0) 3) .nil)) (.cons (.bi .int (.cons (.fld (.var 1) 3) .nil)) .nil))) .nil))) (.cons (.asg 4 (.bi .min2 (.cons (.bi .int (.cons (.op2 .add (.fld (.var 0) 2) (.fld (.var 0) 4)) .nil)) (.cons (.bi .int (.cons (.op2 .add (.fld (.var 1) 2) (.fld (.var 1) 4)) .nil)) .nil)))) (.cons (.asg 5 (.bi .min2 (.cons (.bi .int (.cons (.op2 .add (.fld (.var 0) 3) (.fld (.var 0) 5)) .nil)) (.cons (.bi .int (.cons (.op2 .add (.fld (.var 1) 3) (.fld (.var 1) 5)) .nil)) .nil)))) (.cons (.ret (.ife (.and (.op2 .lt (.var 2) (.var 4)) (.op2 .lt (.var 3) (.var 5))) (.mk 5 [false, false, false, false] (.cons (.var 2) (.cons (.var 3) (.cons (.op2 .sub (.var 4) (.var 2)) (.cons (.op2 .sub (.var 5) (.var 3)) .nil)))) []) (.cst .non))) .nil)))) }
/-- least_box(one, other): 0 one 1 other 2 left 3 low 4 right 5 top -/
def F_least_box : Fn := { n := 6, body := (.cons (.par [2, 3] (.cons (.bi .min2 (.cons (.bi .int (.cons (.fld (.var 0) 2) .nil)) (.cons (.bi .int (.cons (.fld (.var 1) 2) .nil)) .nil))) (.cons (.bi .min2 (.cons (.bi .int (.cons (.fld (.var 0) 3) .nil)) (.cons (.bi .int (.cons (.fld (.var 1) 3) .nil)) .nil))) .nil))) (.cons (.asg 4 (.bi .max2 (.cons (.bi .int (.cons (.op2 .add (.fld (.var 0) 2) (.fld (.var 0) 4)) .nil)) (.cons (.bi .int (.cons (.op2 .add (.fld (.var 1) 2) (.fld (.var 1) 4)) .nil)) .nil)))) (.cons (.asg 5 (.bi .max2 (.cons (.bi .int (.cons (.op2 .add (.fld (.var 0) 3) (.fld (.var 0) 5)) .nil)) (.cons (.bi .int (.cons (.op2 .add (.fld (.var 1) 3) (.fld (.var 1) 5)) .nil)) .nil)))) (.cons (.ret (.mk 5 [false, false, false, false] (.cons (.var 2) (.cons (.var 3) (.cons (.op2 .sub (.var 4) (.var 2)) (.cons (.op2 .sub (.var 5) (.var 3)) .nil)))) [])) .nil)))) }
/-- Box.__init__(self, x, y, width, height): 0 self 1 x 2 y 3 width 4 height -/
def F_Box__init__ : Fn := { n := 5, body := (.cons (.iff (.not (.call 1 [false, false, false] (.cons (.var 1) (.cons (.cst (.int 0)) (.cons (.op2 .sub (.cst (.int 1267650600228229401496703205376)) (.cst (.int 1))) .nil))))) (.cons (.raise 3 [1] (.cons (.cst (.str "x")) .nil)) .nil) .nil) (.cons (.iff (.not (.call 1 [false, false, false] (.cons (.var 2) (.cons (.cst (.int 0)) (.cons (.op2 .sub (.cst (.int 1267650600228229401496703205376)) (.cst (.int 1))) .nil))))) (.cons (.raise 3 [1] (.cons (.cst (.str "y")) .nil)) .nil) .nil) (.cons (.iff (.not (.call 1 [false, false, false] (.cons (.var 3) (.cons (.cst (.int 1)) (.cons (.cst (.int 1267650600228229401496703205376)) .nil))))) (.cons (.raise 3 [1] (.cons (.cst (.str "width")) .nil)) .nil) .nil) (.cons (.iff (.not (.call 1 [false, false, false] (.cons (.var 4) (.cons (.cst (.int 1)) (.cons (.cst (.int 1267650600228229401496703205376)) .nil))))) (.cons (.raise 3 [1] (.cons (.cst (.str "height")) .nil)) .nil) .nil) (.cons (.setF 0 [5] 2 (.var 1)) (.cons (.setF 0 [5] 3 (.var 2)) (.cons (.setF 0 [5] 4 (.var 3)) (.cons (.setF 0 [5] 5 (.var 4)) .nil)))))))) }
/-- Box.square(level): 0 level -/
def F_Box_square : Fn := { n := 1, body := (.cons (.iff (.not (.call 2 [false] (.cons (.var 0) .nil))) (.cons (.raise 2 [0] (.cons (.var 0) .nil)) .nil) .nil) (.cons (.ret (.mk 5 [false, false, false, false] (.cons (.cst (.int 0)) (.cons (.cst (.int 0)) (.cons (.op2 .shl (.cst (.int 1)) (.var 0)) (.cons (.op2 .shl (.cst (.int 1)) (.var 0)) .nil)))) [])) .nil)) }
/-- Box.__and__(self, other): 0 self 1 other -/
def F_Box__and__ : Fn := { n := 2, body := (.cons (.ex (.call 4 [false] (.cons (.var 1) .nil))) (.cons (.ret (.call 8 [false, false] (.cons (.var 0) (.cons (.var 1) .nil)))) .nil)) }
/-- Box.__or__(self, other): 0 self 1 other -/
def F_Box__or__ : Fn := { n := 2, body := (.cons (.ex (.call 4 [false] (.cons (.var 1) .nil))) (.cons (.ret (.call 9 [false, false] (.cons (.var 0) (.cons (.var 1) .nil)))) .nil)) }
/-- Box.__add__(self, move): 0 self 1 move -/
def F_Box__add__ : Fn := { n := 2, body := (.cons (.ret (.call 5 [false, false, false] (.cons (.var 0) (.cons (.var 1) (.cons (.cst (.int 1)) .nil))))) .nil) }
/-- Box.__sub__(self, move): 0 self 1 move -/
def F_Box__sub__ : Fn := { n := 2, body := (.cons (.ret (.call 5 [false, false, false] (.cons (.var 0) (.cons (.var 1) (.cons (.op1 .neg (.cst (.int 1))) .nil))))) .nil) }
/-- Box.__rshift__(self, n): 0 self 1 n 2 left 3 low 4 right 5 top -/
def F_Box__rshift__ : Fn := { n := 6, body := (.cons (.ex (.call 6 [false] (.cons (.var 1) .nil))) (.cons (.par [2, 3] (.cons (.op2 .shr (.fld (.var 0) 2) (.var 1)) (.cons (.op2 .shr (.fld (.var 0) 3) (.var 1)) .nil))) (.cons (.par [4, 5] (.cons (.op2 .shr (.op2 .sub (.op2 .add (.fld (.var 0) 2) (.fld (.var 0) 4)) (.cst (.int 1))) (.var 1)) (.cons (.op2 .shr (.op2 .sub (.op2 .add (.fld (.var 0) 3) (.fld (.var 0) 5)) (.cst (.int 1))) (.var 1)) .nil))) (.cons (.ret (.mk 5 [false, false, false, false] (.cons (.var 2) (.cons (.var 3) (.cons (.op2 .add (.op2 .sub (.var 4) (.var 2)) (.cst (.int 1))) (.cons (.op2 .add (.op2 .sub (.var 5) (.var 3)) (.cst (.int 1))) .nil)))) [])) .nil)))) }
/-- Box.__lshift__(self, n): 0 self 1 n -/
def F_Box__lshift__ : Fn := { n := 2, body := (.cons (.ex (.call 6 [false] (.cons (.var 1) .nil))) (.cons (.ret (.mk 5 [false, false, false, false] (.cons (.op2 .shl (.fld (.var 0) 2) (.var 1)) (.cons (.op2 .shl (.fld (.var 0) 3) (.var 1)) (.cons (.op2 .shl (.fld (.var 0) 4) (.var 1)) (.cons (.op2 .shl (.fld (.var 0) 5) (.var 1)) .nil)))) [])) .nil)) }
/-- Box.__le__(self, other): 0 self 1 other -/
def F_Box__le__ : Fn := { n := 2, body := (.cons (.ex (.call 4 [false] (.cons (.var 1) .nil))) (.cons (.ret (.call 7 [false, false] (.cons (.var 0) (.cons (.var 1) .nil)))) .nil)) }
/-- Box.__lt__(self, other): 0 self 1 other -/
def F_Box__lt__ : Fn := { n := 2, body := (.cons (.ex (.call 4 [false] (.cons (.var 1) .nil))) (.cons (.ret (.and (.call 7 [false, false] (.cons (.var 0) (.cons (.var 1) .nil))) (.not (.call 7 [false, false] (.cons (.var 1) (.cons (.var 0) .nil)))))) .nil)) }
/-- Box.__ge__(self, other): 0 self 1 other -/
def F_Box__ge__ : Fn := { n := 2, body := (.cons (.ex (.call 4 [false] (.cons (.var 1) .nil))) (.cons (.ret (.call 7 [false, false] (.cons (.var 1) (.cons (.var 0) .nil)))) .nil)) }
/-- Box.__gt__(self, other): 0 self 1 other -/
def F_Box__gt__ : Fn := { n := 2, body := (.cons (.ex (.call 4 [false] (.cons (.var 1) .nil))) (.cons (.ret (.and (.call 7 [false, false] (.cons (.var 1) (.cons (.var 0) .nil))) (.not (.call 7 [false, false] (.cons (.var 0) (.cons (.var 1) .nil)))))) .nil)) }
/-- Box.__str__(self): 0 self -/
def F_Box__str__ : Fn := { n := 1, body := (.cons (.ret (.fstr (.cons (.fld (.var 0) 2) (.cons (.cst (.str " ")) (.cons (.fld (.var 0) 3) (.cons (.cst (.str " ")) (.cons (.fld (.var 0) 4) (.cons (.cst (.str " ")) (.cons (.fld (.var 0) 5) .nil))))))))) .nil) }
end PP
end

section
namespace PP
open PySem L2
theorem ev_w0 {cl : CallF} {i} {s0 : Sl} {r0 : Env} : ev cl (.var i) (s0 :: r0) = (match getS (s0 :: r0) i with
    | .un => .bad
    | .fz d => .ok (.d d) (s0 :: r0)
    | _ => .ok (.sl i) (s0 :: r0)) := rfl
theorem ev_w1 {cl : CallF} {d} {s0 : Sl} {r0 : Env} : ev cl (.cst d) (s0 :: r0) = (.ok (.d d) (s0 :: r0)) := rfl
theorem ev_w2 {cl : CallF} {a} {b} {o} {s0 : Sl} {r0 : Env} : ev cl (.op2 o a b) (s0 :: r0) = ((ev cl a (s0 :: r0)).bind fun u env1 => (ev cl b env1).bind fun w env2 =>
      orBad (rdU env2 (pend u)) fun x => orBad (rdU env2 w) fun y => orBad (op2 o x y) fun z => .ok (.nw z) env2) := rfl
theorem ev_w3 {cl : CallF} {a} {o} {s0 : Sl} {r0 : Env} : ev cl (.op1 o a) (s0 :: r0) = ((ev cl a (s0 :: r0)).bind fun u env1 => orBad (rdU env1 u) fun x => orBad (op1 o x) fun z => .ok (.nw z) env1) := rfl
theorem ev_w4 {cl : CallF} {a} {b} {c} {o} {p} {s0 : Sl} {r0 : Env} : ev cl (.chain o p a b c) (s0 :: r0) = ((ev cl a (s0 :: r0)).bind fun u env1 => (ev cl b env1).bind fun w env2 =>
      orBad (rdU env2 (pend u)) fun x => orBad (rdU env2 (pend w)) fun y => orBad (op2 o x y) fun z => match z with
        | .bl true => (ev cl c env2).bind fun q env3 => orBad (rdU env3 (pend w)) fun y' => orBad (rdU env3 q) fun r => orBad (op2 p y' r) fun z' => .ok (.nw z') env3
        | .bl false => .ok (.nw (.bl false)) env2
        | _ => .bad) := rfl
theorem ev_w5 {cl : CallF} {a} {b} {s0 : Sl} {r0 : Env} : ev cl (.and a b) (s0 :: r0) = ((ev cl a (s0 :: r0)).bind fun u env1 => orBad (rdU env1 u) fun x => orBad (truD x) fun t => match t with
        | true => ev cl b env1
        | false => .ok (pend u) env1) := rfl
theorem ev_w6 {cl : CallF} {a} {b} {s0 : Sl} {r0 : Env} : ev cl (.or a b) (s0 :: r0) = ((ev cl a (s0 :: r0)).bind fun u env1 => orBad (rdU env1 u) fun x => orBad (truD x) fun t => match t with
        | true => .ok (pend u) env1
        | false => ev cl b env1) := rfl
theorem ev_w7 {cl : CallF} {a} {s0 : Sl} {r0 : Env} : ev cl (.not a) (s0 :: r0) = ((ev cl a (s0 :: r0)).bind fun u env1 => orBad (rdU env1 u) fun x => orBad (truD x) fun t => .ok (.nw (.bl (!t))) env1) := rfl
theorem ev_w8 {cl : CallF} {a} {b} {c} {s0 : Sl} {r0 : Env} : ev cl (.ife c a b) (s0 :: r0) = ((ev cl c (s0 :: r0)).bind fun u env1 => orBad (rdU env1 u) fun x => orBad (truD x) fun t => match t with
        | true => ev cl a env1
        | false => ev cl b env1) := rfl
theorem ev_w9 {cl : CallF} {es} {s0 : Sl} {r0 : Env} : ev cl (.tup es) (s0 :: r0) = ((evF cl es (s0 :: r0)).bind fun ds env1 => if ds.length ≤ LIM then .ok (.nw (.tup ds)) env1 else .bad) := rfl
theorem ev_w10 {cl : CallF} {es} {s0 : Sl} {r0 : Env} : ev cl (.lst es) (s0 :: r0) = ((evF cl es (s0 :: r0)).bind fun ds env1 => if ds.length ≤ LIM then .ok (.nw (.lst ds)) env1 else .bad) := rfl
theorem ev_w11 {cl : CallF} {s0 : Sl} {r0 : Env} : ev cl (.dic) (s0 :: r0) = (.ok (.nw (.dK [] [])) (s0 :: r0)) := rfl
theorem ev_w12 {cl : CallF} {es} {f} {ms} {s0 : Sl} {r0 : Env} : ev cl (.call f ms es) (s0 :: r0) = ((evC cl ms es (s0 :: r0)).bind fun us env1 => orBad (argsOf env1 ms us) fun as =>
      if dupFree (ioSlots us) then match cl f as with
        | .ok r outs => .ok r (putIO env1 (ioSlots us) outs)
        | .exc x outs => .exc x (putIO env1 (ioSlots us) outs)
        | .bad => .bad
      else .bad) := rfl
theorem ev_w13 {cl : CallF} {es} {f} {ms} {pm} {s0 : Sl} {r0 : Env} : ev cl (.callP f ms pm es) (s0 :: r0) = ((evC cl (ms.map fun _ => false) es (s0 :: r0)).bind fun us env1 => orBad (argsOf env1 ms (permL pm us)) fun as =>
      if dupFree (ioSlots (permL pm us)) && decide (us.length = ms.length) then match cl f as with
        | .ok r outs => .ok r (putIO env1 (ioSlots (permL pm us)) outs)
        | .exc x outs => .exc x (putIO env1 (ioSlots (permL pm us)) outs)
        | .bad => .bad
      else .bad) := rfl
theorem ev_w14 {cl : CallF} {b} {es} {s0 : Sl} {r0 : Env} : ev cl (.bi b es) (s0 :: r0) = ((evR cl es (s0 :: r0)).bind fun us env1 => orBad (rdAll env1 us) fun ds => orBad (biD b ds) fun z => .ok (.nw z) env1) := rfl
theorem ev_w15 {cl : CallF} {a} {i} {s0 : Sl} {r0 : Env} : ev cl (.ix a i) (s0 :: r0) = ((ev cl a (s0 :: r0)).bind fun u env1 => (ev cl i env1).bind fun w env2 =>
      orBad (rdU env2 (pend u)) fun x => orBad (rdU env2 w) fun y => orBad (ixD x y) fun z => .ok (.d z) env2) := rfl
theorem ev_w16 {cl : CallF} {a} {bh} {bl} {hi} {lo} {s0 : Sl} {r0 : Env} : ev cl (.slice a bl bh lo hi) (s0 :: r0) = ((ev cl a (s0 :: r0)).bind fun u env1 => (optP bl (ev cl lo) env1).bind fun l env2 => (optP bh (ev cl hi) env2).bind fun h env3 => orBad (rdU env3 (pend u)) fun x => match x with
        | .lst xs => .ok (.nw (.lst (cutD xs l h))) env3
        | .kst xs => .ok (.nw (.lst (cutD xs l h))) env3
        | _ => .bad) := rfl
theorem ev_w17 {cl : CallF} {a} {k} {s0 : Sl} {r0 : Env} : ev cl (.fld a k) (s0 :: r0) = ((ev cl a (s0 :: r0)).bind fun u env1 => orBad (rdU env1 u) fun x => orBad (fldOf x k) fun z => .ok (.d z) env1) := rfl
theorem ev_w18 {cl : CallF} {a} {b} {cs} {o} {ts} {s0 : Sl} {r0 : Env} : ev cl (.opo o cs ts a b) (s0 :: r0) = ((ev cl a (s0 :: r0)).bind fun u env1 => orBad (fzU env1 u) fun p => (ev cl b p.2).bind fun w env2 => orBad (fzU env2 w) fun q => ownOp cl o cs ts p.1 q.1 q.2) := rfl
theorem ev_w19 {cl : CallF} {ds} {es} {f} {ms} {s0 : Sl} {r0 : Env} : ev cl (.callD f ms es ds) (s0 :: r0) = ((evC cl ms es (s0 :: r0)).bind fun us env1 => runC cl f (ms ++ ds.map fun _ => false) (us ++ ds.map .d) env1) := rfl
theorem ev_w20 {cl : CallF} {c} {ds} {es} {ms} {s0 : Sl} {r0 : Env} : ev cl (.mk c ms es ds) (s0 :: r0) = ((evC cl ms es (s0 :: r0)).bind fun us env1 => orBad (argsOf env1 (ms ++ ds.map fun _ => false) (us ++ ds.map .d)) fun as => if allFz as then makeO cl c as env1 else .bad) := rfl
theorem ev_w21 {cl : CallF} {a} {cs} {ds} {es} {io} {m} {ms} {s0 : Sl} {r0 : Env} : ev cl (.mth io a m cs ms es ds) (s0 :: r0) = ((ev cl a (s0 :: r0)).bind fun u env1 => orBad (recvU io env1 u) fun p => if !cs.contains p.1 then .bad else (evC cl ms es p.2.2).bind fun us env2 =>
      runC cl (spec p.1 m) (io :: (ms ++ ds.map fun _ => false)) (p.2.1 :: (us ++ ds.map .d)) env2) := rfl
theorem ev_w22 {cl : CallF} {a} {cs} {m} {s0 : Sl} {r0 : Env} : ev cl (.prp a m cs) (s0 :: r0) = ((ev cl a (s0 :: r0)).bind fun u env1 => orBad (recvU false env1 u) fun p => if !cs.contains p.1 then .bad else orBad (rdU p.2.2 p.2.1) fun x => match cl (spec p.1 m) [.fz x] with
      | .ok r _ => .ok r p.2.2
      | _ => .bad) := rfl
theorem ev_w23 {cl : CallF} {a} {b} {cs} {neg} {s0 : Sl} {r0 : Env} : ev cl (.ino neg cs a b) (s0 :: r0) = ((ev cl a (s0 :: r0)).bind fun u env1 => orBad (fzU env1 u) fun p => (ev cl b p.2).bind fun w env2 => orBad (fzU env2 w) fun q => ownIn cl neg cs p.1 q.1 q.2) := rfl
theorem ev_w24 {cl : CallF} {a} {b} {cs} {s0 : Sl} {r0 : Env} : ev cl (.neo cs a b) (s0 :: r0) = ((ev cl a (s0 :: r0)).bind fun u env1 => orBad (fzU env1 u) fun p => (ev cl b p.2).bind fun w env2 => orBad (fzU env2 w) fun q => ownNe cl cs p.1 q.1 q.2) := rfl
theorem ev_w25 {cl : CallF} {c} {e} {hc} {it} {tg} {vs} {s0 : Sl} {r0 : Env} : ev cl (.lc vs tg it hc c e) (s0 :: r0) = ((itD cl it (s0 :: r0)).bind fun ds env1 => lcAll vs env1 (lcD (lcTurn vs tg hc (ev cl c) (ev cl e)) ds env1 [])) := rfl
theorem ev_w26 {cl : CallF} {e} {i} {s0 : Sl} {r0 : Env} : ev cl (.popI i e) (s0 :: r0) = (if !isLs (getS (s0 :: r0) i) then .bad else (ev cl e (s0 :: r0)).bind fun u env1 => orBad (rdU env1 u) fun k => match getS env1 i, k with
      | .ow (.lst xs), .int n => orBad (popD xs n) fun p => .ok (.d p.1) (env1.set i (.ow (.lst p.2)))
      | .io (.lst xs), .int n => orBad (popD xs n) fun p => .ok (.d p.1) (env1.set i (.io (.lst p.2)))
      | _, _ => .bad) := rfl
theorem ev_w27 {cl : CallF} {b} {e} {o} {s0 : Sl} {r0 : Env} : ev cl (.bm b o e) (s0 :: r0) = ((ev cl o (s0 :: r0)).bind fun u env1 => orBad (rdU env1 u) fun x0 => if !recvB b x0 then .bad else (ev cl e env1).bind fun w env2 => orBad (rdU env2 (pend u)) fun x => orBad (rdU env2 w) fun y => orBad (biD b [x, y]) fun z => .ok (.nw z) env2) := rfl
theorem ev_w28 {cl : CallF} {a} {cs} {s0 : Sl} {r0 : Env} : ev cl (.lenO cs a) (s0 :: r0) = ((ev cl a (s0 :: r0)).bind fun u env1 => orBad (recvU false env1 u) fun p => if !cs.contains p.1 then .bad else orBad (rdU p.2.2 p.2.1) fun x => match cl (spec p.1 19) [.fz x] with
      | .ok (.d (.int n)) _ => if decide (0 ≤ n) && decide (n < 2 ^ 40) then .ok (.nw (.int n)) p.2.2 else .bad
      | _ => .bad) := rfl
theorem ev_w29 {cl : CallF} {es} {s0 : Sl} {r0 : Env} : ev cl (.fstr es) (s0 :: r0) = ((evJ cl es Str.empty (s0 :: r0)).bind fun z env1 => .ok (.nw (.str z)) env1) := rfl
theorem ev_w30 {cl : CallF} {a} {cs} {s0 : Sl} {r0 : Env} : ev cl (.strO cs a) (s0 :: r0) = ((ev cl a (s0 :: r0)).bind fun u env1 => orBad (recvU false env1 u) fun p => if !cs.contains p.1 then .bad else orBad (rdU p.2.2 p.2.1) fun x => match cl (spec p.1 21) [.fz x] with
      | .ok (.d (.str z)) _ => .ok (.nw (.str z)) p.2.2
      | _ => .bad) := rfl
theorem ev_w31 {cl : CallF} {c} {es} {pm} {s0 : Sl} {r0 : Env} : ev cl (.mkP c pm es) (s0 :: r0) = ((evC cl (pm.map fun _ => false) es (s0 :: r0)).bind fun us env1 => orBad (argsOf env1 (pm.map fun _ => false) (permL pm us)) fun as => if allFz as && decide (us.length = pm.length) then makeO cl c as env1 else .bad) := rfl
theorem ev_w32 {cl : CallF} {c} {es} {ks} {pm} {s0 : Sl} {r0 : Env} : ev cl (.mkEP c ks pm es) (s0 :: r0) = ((evF cl es (s0 :: r0)).bind fun ds env1 => if (permL pm ds).length = ks.length ∧ ds.length = ks.length then .ok (.d (.err c ks (permL pm ds).reverse)) env1 else .bad) := rfl
theorem ev_w33 {cl : CallF} {c} {es} {ks} {s0 : Sl} {r0 : Env} : ev cl (.mkE c ks es) (s0 :: r0) = ((evF cl es (s0 :: r0)).bind fun ds env1 => if ds.length = ks.length then .ok (.d (.err c ks ds.reverse)) env1 else .bad) := rfl
theorem ev_w34 {cl : CallF} {e} {f} {vs} {s0 : Sl} {r0 : Env} : ev cl (.heard f vs e) (s0 :: r0) = (orBad (frzAll vs (s0 :: r0)) fun env1 => match ev cl e (maskE env1) with
      | .ok u env2 => orBad (fzU env2 u) fun p => hearC cl f (.tup [.non, p.1]) env1
      | .exc x _ => hearC cl f (.err x.1 x.2.1 x.2.2) env1
      | .bad => .bad) := rfl
theorem ev_w35 {cl : CallF} {e} {f} {vs} {s0 : Sl} {r0 : Env} : ev cl (.heardK f vs e) (s0 :: r0) = (orBad (frzAll vs (s0 :: r0)) fun env1 => match ev cl e (maskE env1) with
      | .ok u env2 => orBad (fzU env2 u) fun p => keepC (s0 :: r0) (hearC cl f (.tup [.non, p.1]) env1)
      | .exc x _ => keepC (s0 :: r0) (hearC cl f (.err x.1 x.2.1 x.2.2) env1)
      | .bad => .bad) := rfl
theorem ev_w36 {cl : CallF} {i} {s0 : Sl} {r0 : Env} : ev cl (.ask i) (s0 :: r0) = (match getS (s0 :: r0) i with
      | .fn => askR (cl 999 []) (s0 :: r0)
      | _ => .bad) := rfl
theorem ev_w37 {cl : CallF} {a} {cs} {s0 : Sl} {r0 : Env} : ev cl (.isObj cs a) (s0 :: r0) = ((ev cl a (s0 :: r0)).bind fun u env1 => orBad (rdU env1 u) fun x => if isClsD x then .bad else .ok (.nw (.bl (isObjOf cs x))) env1) := rfl
theorem evF_w0 {cl : CallF} {s0 : Sl} {r0 : Env} : evF cl (.nil) (s0 :: r0) = (.ok [] (s0 :: r0)) := rfl
theorem evF_w1 {cl : CallF} {e} {es} {s0 : Sl} {r0 : Env} : evF cl (.cons e es) (s0 :: r0) = ((ev cl e (s0 :: r0)).bind fun u env1 => orBad (fzU env1 u) fun p => (evF cl es p.2).bind fun ds env2 => .ok (p.1 :: ds) env2) := rfl
theorem evF_w2 {cl : CallF} {e} {es} {s0 : Sl} {r0 : Env} : evF cl (.star e es) (s0 :: r0) = ((ev cl e (s0 :: r0)).bind fun u env1 => orBad (fzU env1 u) fun p => orBad (itemsD p.1) fun xs => (evF cl es p.2).bind fun ds env2 => .ok (xs ++ ds) env2) := rfl
theorem evR_w0 {cl : CallF} {s0 : Sl} {r0 : Env} : evR cl (.nil) (s0 :: r0) = (.ok [] (s0 :: r0)) := rfl
theorem evR_w1 {cl : CallF} {e} {es} {s0 : Sl} {r0 : Env} : evR cl (.cons e es) (s0 :: r0) = ((ev cl e (s0 :: r0)).bind fun u env1 => (evR cl es env1).bind fun us env2 => .ok (pend u :: us) env2) := rfl
theorem evR_w2 {cl : CallF} {z1} {z2} {s0 : Sl} {r0 : Env} : evR cl (.star z1 z2) (s0 :: r0) = (.bad) := rfl
theorem evC_w0 {cl : CallF} {z1} {s0 : Sl} {r0 : Env} : evC cl (z1) (.nil) (s0 :: r0) = (.ok [] (s0 :: r0)) := rfl
theorem evC_w1 {cl : CallF} {e} {es} {m} {ms} {s0 : Sl} {r0 : Env} : evC cl (m :: ms) (.cons e es) (s0 :: r0) = ((ev cl e (s0 :: r0)).bind fun u env1 => match m with
      | true => match u with
        | .sl i => (evC cl ms es env1).bind fun us env2 => .ok (.sl i :: us) env2
        | _ => .bad
      | false => orBad (fzU env1 u) fun p => (evC cl ms es p.2).bind fun us env2 => .ok (.d p.1 :: us) env2) := rfl
theorem evC_w2 {cl : CallF} {e} {es} {ms} {s0 : Sl} {r0 : Env} : evC cl (ms) (.star e es) (s0 :: r0) = ((ev cl e (s0 :: r0)).bind fun u env1 => orBad (fzU env1 u) fun p => orBad (itemsD p.1) fun xs => (evC cl ms es p.2).bind fun us env2 => .ok (xs.map .d ++ us) env2) := rfl
theorem evC_w3 {cl : CallF} {z1} {z2} {s0 : Sl} {r0 : Env} : evC cl ([]) (.cons z1 z2) (s0 :: r0) = (.bad) := rfl
theorem ex_w0 {cl : CallF} {e} {i} {s0 : Sl} {r0 : Env} : ex cl (.asg i e) (s0 :: r0) = ((ev cl e (s0 :: r0)).bind fun u env1 => orBad (asgU env1 i u) fun env2 => .ok .next env2) := rfl
theorem ex_w1 {cl : CallF} {e} {i} {x} {s0 : Sl} {r0 : Env} : ex cl (.setI i x e) (s0 :: r0) = ((ev cl e (s0 :: r0)).bind fun u env1 => orBad (fzU env1 u) fun p => if !isLs (getS p.2 i) then .bad else (ev cl x p.2).bind fun w env2 =>
      orBad (rdU env2 w) fun k => match getS env2 i, k with
        | .ow (.lst xs), .int n => orBad (setD xs n p.1) fun ys => .ok .next (env2.set i (.ow (.lst ys)))
        | .io (.lst xs), .int n => orBad (setD xs n p.1) fun ys => .ok .next (env2.set i (.io (.lst ys)))
        | _, _ => .bad) := rfl
theorem ex_w2 {cl : CallF} {e} {i} {s0 : Sl} {r0 : Env} : ex cl (.app i e) (s0 :: r0) = (if !isLs (getS (s0 :: r0) i) then .bad else (ev cl e (s0 :: r0)).bind fun u env1 => orBad (fzU env1 u) fun p => match getS p.2 i with
        | .ow (.lst xs) => if xs.length < LIM then .ok .next (p.2.set i (.ow (.lst (xs ++ [p.1])))) else .bad
        | .io (.lst xs) => if xs.length < LIM then .ok .next (p.2.set i (.io (.lst (xs ++ [p.1])))) else .bad
        | _ => .bad) := rfl
theorem ex_w3 {cl : CallF} {e} {i} {o} {s0 : Sl} {r0 : Env} : ex cl (.aug i o e) (s0 :: r0) = (match getS (s0 :: r0) i with
        | .fz (.int n) => (ev cl e (s0 :: r0)).bind fun u env1 => orBad (rdU env1 u) fun y => match y with
          | .int m => match o with
            | .add => .ok .next (env1.set i (.fz (.int (n + m))))
            | .sub => .ok .next (env1.set i (.fz (.int (n - m))))
            | _ => .bad
          | _ => .bad
        | _ => .bad) := rfl
theorem ex_w4 {cl : CallF} {e} {s0 : Sl} {r0 : Env} : ex cl (.ex e) (s0 :: r0) = ((ev cl e (s0 :: r0)).bind fun _ env1 => .ok .next env1) := rfl
theorem ex_w5 {cl : CallF} {a} {b} {c} {s0 : Sl} {r0 : Env} : ex cl (.iff c a b) (s0 :: r0) = ((evT cl c (s0 :: r0)).bind fun t env1 => match t with
      | true => exs cl a env1
      | false => exs cl b env1) := rfl
theorem ex_w6 {cl : CallF} {b} {i} {n} {s0 : Sl} {r0 : Env} : ex cl (.forr i n b) (s0 :: r0) = ((ev cl n (s0 :: r0)).bind fun u env1 => orBad (rdU env1 u) fun y => match y with
      | .int m => if decide (-(2 ^ 40) ≤ m) && decide (m < 2 ^ 40) then forD (exs cl b) i ((List.range m.toNat).map fun (k : Nat) => .int k) env1 else .bad
      | _ => .bad) := rfl
theorem ex_w7 {cl : CallF} {b} {i} {l} {s0 : Sl} {r0 : Env} : ex cl (.forl i l b) (s0 :: r0) = ((ev cl l (s0 :: r0)).bind fun u env1 => orBad (fzU env1 u) fun p => match p.1 with
      | .lst xs => forD (exs cl b) i xs p.2
      | .tup xs => forD (exs cl b) i xs p.2
      | .kst xs => forD (exs cl b) i xs p.2
      | _ => .bad) := rfl
theorem ex_w8 {cl : CallF} {b} {it} {tg} {s0 : Sl} {r0 : Env} : ex cl (.fort tg it b) (s0 :: r0) = ((itD cl it (s0 :: r0)).bind fun ds env1 => forG (exs cl b) tg ds env1) := rfl
theorem ex_w9 {cl : CallF} {b} {c} {s0 : Sl} {r0 : Env} : ex cl (.whil c b) (s0 :: r0) = (whD (evT cl c) (exs cl b) FUEL (s0 :: r0)) := rfl
theorem ex_w10 {cl : CallF} {e} {s0 : Sl} {r0 : Env} : ex cl (.ret e) (s0 :: r0) = ((ev cl e (s0 :: r0)).bind fun u env1 => orBad (retU env1 u) fun r => .ok (.ret r.1) r.2) := rfl
theorem ex_w11 {cl : CallF} {s0 : Sl} {r0 : Env} : ex cl (.retN) (s0 :: r0) = (.ok (.ret (.d .non)) (s0 :: r0)) := rfl
theorem ex_w12 {cl : CallF} {s0 : Sl} {r0 : Env} : ex cl (.pass) (s0 :: r0) = (.ok .next (s0 :: r0)) := rfl
theorem ex_w13 {cl : CallF} {s0 : Sl} {r0 : Env} : ex cl (.never) (s0 :: r0) = (.bad) := rfl
theorem ex_w14 {cl : CallF} {es} {is} {s0 : Sl} {r0 : Env} : ex cl (.par is es) (s0 :: r0) = ((evF cl es (s0 :: r0)).bind fun ds env1 => orBad (storeAll is ds env1) fun env2 => .ok .next env2) := rfl
theorem ex_w15 {cl : CallF} {e} {is} {s0 : Sl} {r0 : Env} : ex cl (.unp is e) (s0 :: r0) = ((ev cl e (s0 :: r0)).bind fun u env1 => orBad (rdU env1 u) fun d => match d with
      | .tup ds => orBad (storeAll is ds env1) fun env2 => .ok .next env2
      | _ => .bad) := rfl
theorem ex_w16 {cl : CallF} {cs} {e} {i} {k} {s0 : Sl} {r0 : Env} : ex cl (.setF i cs k e) (s0 :: r0) = ((ev cl e (s0 :: r0)).bind fun u env1 => orBad (fzU env1 u) fun p => match getS p.2 i with
      | .ow (.obj c ks vs) => if (decide (ks.length < 100) && decide (vs.length = ks.length) && cs.contains c) = true then .ok .next (p.2.set i (.ow (.obj c (putD ks vs k p.1).1 (putD ks vs k p.1).2))) else .bad
      | .io (.obj c ks vs) => if (decide (ks.length < 100) && decide (vs.length = ks.length) && cs.contains c) = true then .ok .next (p.2.set i (.io (.obj c (putD ks vs k p.1).1 (putD ks vs k p.1).2))) else .bad
      | _ => .bad) := rfl
theorem ex_w17 {cl : CallF} {s0 : Sl} {r0 : Env} : ex cl (.brk) (s0 :: r0) = (.ok .brk (s0 :: r0)) := rfl
theorem ex_w18 {cl : CallF} {s0 : Sl} {r0 : Env} : ex cl (.cont) (s0 :: r0) = (.ok .cont (s0 :: r0)) := rfl
theorem ex_w19 {cl : CallF} {c} {es} {ks} {s0 : Sl} {r0 : Env} : ex cl (.raise c ks es) (s0 :: r0) = ((evF cl es (s0 :: r0)).bind fun ds env1 => if ds.length = ks.length then .exc (c, ks, ds.reverse) env1 else .bad) := rfl
theorem ex_w20 {cl : CallF} {b} {cs} {i} {j} {s0 : Sl} {r0 : Env} : ex cl (.tryC b cs i j) (s0 :: r0) = (match exs cl b (s0 :: r0) with
      | .exc x env1 => if cs.contains x.1 then .ok .next (((env1.set i .un).set j (.fz (.err x.1 x.2.1 x.2.2))).set i .un) else .bad
      | r => r) := rfl
theorem exs_w0 {cl : CallF} {s0 : Sl} {r0 : Env} : exs cl (.nil) (s0 :: r0) = (.ok .next (s0 :: r0)) := rfl
theorem exs_w1 {cl : CallF} {r} {s} {s0 : Sl} {r0 : Env} : exs cl (.cons s r) (s0 :: r0) = ((ex cl s (s0 :: r0)).bind fun fl env1 => match fl with
      | .next => exs cl r env1
      | f => .ok f env1) := rfl
theorem evT_w {cl : CallF} {e} {s0 : Sl} {r0 : Env} : evT cl e (s0 :: r0) = ((ev cl e (s0 :: r0)).bind fun u env1 => orBad (rdU env1 u) fun x => orBad (truD x) fun t => .ok t env1) := rfl
end PP
end

section
namespace PP
open PySem L2
/-! words for the interpreter's run -/
theorem getS_0 (s : Sl) (r : Env) : getS (s :: r) 0 = s := rfl
theorem getS_s (s : Sl) (r : Env) (n : Nat) : getS (s :: r) (n + 1) = getS r n := rfl
theorem set_0 (s x : Sl) (r : Env) : List.set (s :: r) 0 x = x :: r := rfl
theorem set_s (s x : Sl) (r : Env) (n : Nat) : List.set (s :: r) (n + 1) x = s :: List.set r n x := rfl
theorem bnd64_l {i j : Int} (h : -18446744073709551616 < i) (h' : i < 18446744073709551616) : (bnd64 i || bnd64 j) = true := by simp [bnd64]; omega
theorem bnd64_r {i j : Int} (h : -18446744073709551616 < j) (h' : j < 18446744073709551616) : (bnd64 i || bnd64 j) = true := by simp [bnd64]; omega
theorem mulOk_b {i j : Int} (h : (bnd64 i || bnd64 j) = true) : mulOk i j = true := by simp only [mulOk, h, Bool.true_or]
theorem mul_l {i j : Int} (h : -18446744073709551616 < i) (h' : i < 18446744073709551616) : op2 .mul (.int i) (.int j) = some (.int (i * j)) := by simp only [op2, mulOk_b (bnd64_l h h'), if_true]
theorem mul_r {i j : Int} (h : -18446744073709551616 < j) (h' : j < 18446744073709551616) : op2 .mul (.int i) (.int j) = some (.int (i * j)) := by simp only [op2, mulOk_b (bnd64_r h h'), if_true]
theorem log2_lt {i : Int} {n : Nat} (h : i.natAbs < 2 ^ (n + 1)) : i.natAbs.log2 < n + 1 := by
  by_cases hz : i.natAbs = 0
  · rw [hz]; simp
  · exact (Nat.log2_lt hz).mpr h
theorem log2_b {i : Int} (h : -57896044618658097711785492504343953926634992332820282019728792003956564819968 < i) (h' : i < 57896044618658097711785492504343953926634992332820282019728792003956564819968) : i.natAbs.log2 < 300 := by
  have : i.natAbs < 2 ^ (254 + 1) := by
    have e : (2 : Nat) ^ (254 + 1) = 57896044618658097711785492504343953926634992332820282019728792003956564819968 := by decide
    rw [e]; omega
  have := log2_lt this
  omega
/-- two factors below 2 ^ 255 -/
theorem mul_w {i j : Int} (h : -57896044618658097711785492504343953926634992332820282019728792003956564819968 < i) (h1 : i < 57896044618658097711785492504343953926634992332820282019728792003956564819968) (h2 : -57896044618658097711785492504343953926634992332820282019728792003956564819968 < j) (h3 : j < 57896044618658097711785492504343953926634992332820282019728792003956564819968) : op2 .mul (.int i) (.int j) = some (.int (i * j)) := by
  have a := log2_b h h1
  have b := log2_b h2 h3
  have : mulOk i j = true := by
    simp only [mulOk, Bool.or_eq_true, decide_eq_true_eq]
    exact .inr (by omega)
  simp only [op2, this, if_true]
theorem mul_1 (j : Int) : op2 .mul (.int 1) (.int j) = some (.int j) := by rw [mul_l (by decide) (by decide), Int.one_mul]
theorem mul_m1 (j : Int) : op2 .mul (.int (-1)) (.int j) = some (.int (-j)) := by rw [mul_l (by decide) (by decide), Int.neg_mul, Int.one_mul]
theorem shl_p {i j : Int} (h0 : 0 ≤ j) (h1 : j ≤ 1000000) (h : -57896044618658097711785492504343953926634992332820282019728792003956564819968 < i) (h' : i < 57896044618658097711785492504343953926634992332820282019728792003956564819968) : op2 .shl (.int i) (.int j) = some (.int (i * 2 ^ j.toNat)) := by
  have a := log2_b h h'
  have : shlOk i j = true := by
    simp only [shlOk, Bool.and_eq_true, decide_eq_true_eq]
    exact ⟨⟨h0, h1⟩, by omega⟩
  simp only [op2, this, if_true]
theorem mod_p {i j : Int} (h : 0 < j) : op2 .mod (.int i) (.int j) = some (.int (i % j)) := by simp only [op2, h, if_true]
theorem fdiv_w {i j : Int} (h : 0 < j) (h' : j < 57896044618658097711785492504343953926634992332820282019728792003956564819968) : op2 .fdiv (.int i) (.int j) = some (.int (i / j)) := by
  have a := log2_b (i := j) (by omega) h'
  have : divOk j = true := by simp only [divOk, h, decide_true, Bool.true_and, decide_eq_true_eq]; omega
  simp only [op2, this, if_true]
theorem fdiv_p {i j : Int} (h : 0 < j) (h' : j < 1073741824) : op2 .fdiv (.int i) (.int j) = some (.int (i / j)) := by
  have a := log2_lt (i := j) (n := 29) (by omega)
  have : divOk j = true := by simp only [divOk, h, decide_true, Bool.true_and, decide_eq_true_eq]; omega
  simp only [op2, this, if_true]
theorem pow_p {i j : Int} (h : 0 ≤ j) (h1 : j ≤ 1000000) (h' : i.natAbs < 18446744073709551616) : op2 .pow (.int i) (.int j) = some (.int (i ^ j.toNat)) := by
  have z : i.natAbs < 2 ^ 64 := h'
  simp only [op2, powOk, h, h1, z, decide_true, Bool.and_self, if_true]
theorem fin_ok (as : List Ar) (fl : Fl) (env : Env) : finR as (.ok fl env) = finO (outsOf as env) fl := rfl
theorem fin_exc (as : List Ar) (d : Exn) (env : Env) : finR as (.exc d env) = finX (outsOf as env) d := rfl
theorem finX_s (o : List D) (d : Exn) : finX (some o) d = .exc d o := rfl
theorem finO_next (o : List D) : finO (some o) .next = .ok (.d .non) o := rfl
theorem finO_d (o : List D) (x : D) : finO (some o) (.ret (.d x)) = .ok (.d x) o := rfl
theorem finO_nw (o : List D) (x : D) : finO (some o) (.ret (.nw x)) = .ok (nrm x) o := rfl
theorem rdU_d (env : Env) (x : D) : rdU env (.d x) = some x := rfl
theorem rdU_nw (env : Env) (x : D) : rdU env (.nw x) = some x := rfl
theorem rdU_sl (env : Env) (i : Nat) : rdU env (.sl i) = rdS (getS env i) := rfl
theorem rdS_fz (d : D) : rdS (.fz d) = some d := rfl
theorem rdS_ow (d : D) : rdS (.ow d) = some d := rfl
theorem rdS_io (d : D) : rdS (.io d) = some d := rfl
theorem pend_d (x : D) : pend (.d x) = .d x := rfl
theorem pend_nw (x : D) : pend (.nw x) = .d x := rfl
theorem pend_sl (i : Nat) : pend (.sl i) = .sl i := rfl
theorem fzU_d (env : Env) (x : D) : fzU env (.d x) = some (x, env) := rfl
theorem fzU_nw (env : Env) (x : D) : fzU env (.nw x) = some (x, env) := rfl
theorem fzU_sl (env : Env) (i : Nat) : fzU env (.sl i) = match getS env i with | .fz d => some (d, env) | .ow d => some (d, env.set i (.fz d)) | _ => none := rfl
theorem asgU_d (env : Env) (i : Nat) (d : D) : asgU env i (.d d) = some (env.set i (.fz d)) := rfl
theorem asgU_nw (env : Env) (i : Nat) (d : D) : asgU env i (.nw d) = some (env.set i (slOf (.nw d) d)) := rfl
theorem asgU_sl (env : Env) (i j : Nat) : asgU env i (.sl j) = (fzU env (.sl j)).map fun p => p.2.set i (.fz p.1) := rfl
theorem slOf_non (u : U) : slOf u .non = .fz .non := by cases u <;> rfl
theorem slOf_bl (u : U) (b : Bool) : slOf u (.bl b) = .fz (.bl b) := by cases u <;> rfl
theorem slOf_int (u : U) (b : Int) : slOf u (.int b) = .fz (.int b) := by cases u <;> rfl
theorem slOf_str (u : U) (b : Str) : slOf u (.str b) = .fz (.str b) := by cases u <;> rfl
theorem slOf_tup (u : U) (b : List D) : slOf u (.tup b) = .fz (.tup b) := by cases u <;> rfl
theorem slOf_lst (x : D) (b : List D) : slOf (.nw x) (.lst b) = .ow (.lst b) := rfl
theorem slOf_dK (x : D) (ks : List Key) (b : List D) : slOf (.nw x) (.dK ks b) = .ow (.dK ks b) := rfl
theorem isLs_ow (xs : List D) : isLs (.ow (.lst xs)) = true := rfl
theorem isLs_io (xs : List D) : isLs (.io (.lst xs)) = true := rfl
theorem retU_d (env : Env) (x : D) : retU env (.d x) = some (.d x, env) := rfl
theorem retU_nw (env : Env) (x : D) : retU env (.nw x) = some (.nw x, env) := rfl
theorem retU_sl (env : Env) (i : Nat) : retU env (.sl i) = match getS env i with | .ow x => some (.nw x, env.set i .un) | .fz x => some (.d x, env) | _ => none := rfl
theorem nrm_non : nrm .non = .d .non := rfl
theorem nrm_bl (b : Bool) : nrm (.bl b) = .d (.bl b) := rfl
theorem nrm_int (b : Int) : nrm (.int b) = .d (.int b) := rfl
theorem nrm_str (b : Str) : nrm (.str b) = .d (.str b) := rfl
theorem nrm_tup (b : List D) : nrm (.tup b) = .d (.tup b) := rfl
theorem nrm_lst (b : List D) : nrm (.lst b) = .nw (.lst b) := rfl
theorem nrm_dK (k : List Key) (b : List D) : nrm (.dK k b) = .nw (.dK k b) := rfl
theorem setIO_ow (x d : D) : setIO (.ow x) d = .ow d := rfl
theorem setIO_io (x d : D) : setIO (.io x) d = .io d := rfl
theorem dupF_0 : dupFree [] = true := rfl
theorem dupF_1 (i : Nat) : dupFree [i] = true := by simp [dupFree]
theorem optP_f (f : Env → R U) (env : Env) : optP false f env = .ok none env := rfl
theorem optP_t (f : Env → R U) (env : Env) : optP true f env = (f env).bind partD := rfl
theorem truD_bl (b : Bool) : truD (.bl b) = some b := rfl
theorem truD_non : truD .non = some false := rfl
theorem truD_lst (b : List D) : truD (.lst b) = some (!b.isEmpty) := rfl
theorem partD_eq (u : U) (env : Env) : partD u env = orBad (rdU env u) fun d => match d with | .int i => .ok (some i) env | _ => .bad := rfl
theorem atI_c (xs : List D) (n : Nat) (a : D) (h : xs[n]? = some a) : L2.atI xs (n : Int) = some a := by
  have h5 : n < xs.length := (List.getElem?_eq_some_iff.mp h).1
  unfold L2.atI L2.ixN
  rw [if_pos (by omega), if_pos (by omega)]
  simpa using h
theorem ix_lst_0 (a0 : D) (xs : List D) : ixD (.lst (a0 :: xs)) (.int 0) = some a0 := atI_c _ 0 _ rfl
theorem ix_lst_1 (a0 a1 : D) (xs : List D) : ixD (.lst (a0 :: a1 :: xs)) (.int 1) = some a1 := atI_c _ 1 _ rfl
theorem ix_lst_2 (a0 a1 a2 : D) (xs : List D) : ixD (.lst (a0 :: a1 :: a2 :: xs)) (.int 2) = some a2 := atI_c _ 2 _ rfl
theorem ix_lst_3 (a0 a1 a2 a3 : D) (xs : List D) : ixD (.lst (a0 :: a1 :: a2 :: a3 :: xs)) (.int 3) = some a3 := atI_c _ 3 _ rfl
theorem ix_lst_4 (a0 a1 a2 a3 a4 : D) (xs : List D) : ixD (.lst (a0 :: a1 :: a2 :: a3 :: a4 :: xs)) (.int 4) = some a4 := atI_c _ 4 _ rfl
theorem ix_lst_5 (a0 a1 a2 a3 a4 a5 : D) (xs : List D) : ixD (.lst (a0 :: a1 :: a2 :: a3 :: a4 :: a5 :: xs)) (.int 5) = some a5 := atI_c _ 5 _ rfl
theorem ix_tup_0 (a0 : D) (xs : List D) : ixD (.tup (a0 :: xs)) (.int 0) = some a0 := atI_c _ 0 _ rfl
theorem ix_tup_1 (a0 a1 : D) (xs : List D) : ixD (.tup (a0 :: a1 :: xs)) (.int 1) = some a1 := atI_c _ 1 _ rfl
theorem ix_tup_2 (a0 a1 a2 : D) (xs : List D) : ixD (.tup (a0 :: a1 :: a2 :: xs)) (.int 2) = some a2 := atI_c _ 2 _ rfl
theorem ix_tup_3 (a0 a1 a2 a3 : D) (xs : List D) : ixD (.tup (a0 :: a1 :: a2 :: a3 :: xs)) (.int 3) = some a3 := atI_c _ 3 _ rfl
theorem ix_tup_4 (a0 a1 a2 a3 a4 : D) (xs : List D) : ixD (.tup (a0 :: a1 :: a2 :: a3 :: a4 :: xs)) (.int 4) = some a4 := atI_c _ 4 _ rfl
theorem ix_tup_5 (a0 a1 a2 a3 a4 a5 : D) (xs : List D) : ixD (.tup (a0 :: a1 :: a2 :: a3 :: a4 :: a5 :: xs)) (.int 5) = some a5 := atI_c _ 5 _ rfl
theorem ix_kst_0 (a0 : D) (xs : List D) : ixD (.kst (a0 :: xs)) (.int 0) = some a0 := atI_c _ 0 _ rfl
theorem ix_kst_1 (a0 a1 : D) (xs : List D) : ixD (.kst (a0 :: a1 :: xs)) (.int 1) = some a1 := atI_c _ 1 _ rfl
theorem ix_kst_2 (a0 a1 a2 : D) (xs : List D) : ixD (.kst (a0 :: a1 :: a2 :: xs)) (.int 2) = some a2 := atI_c _ 2 _ rfl
theorem ix_kst_3 (a0 a1 a2 a3 : D) (xs : List D) : ixD (.kst (a0 :: a1 :: a2 :: a3 :: xs)) (.int 3) = some a3 := atI_c _ 3 _ rfl
theorem ix_kst_4 (a0 a1 a2 a3 a4 : D) (xs : List D) : ixD (.kst (a0 :: a1 :: a2 :: a3 :: a4 :: xs)) (.int 4) = some a4 := atI_c _ 4 _ rfl
theorem ix_kst_5 (a0 a1 a2 a3 a4 a5 : D) (xs : List D) : ixD (.kst (a0 :: a1 :: a2 :: a3 :: a4 :: a5 :: xs)) (.int 5) = some a5 := atI_c _ 5 _ rfl
theorem set_l3_1 (a b c x : D) : setD [a, b, c] 1 x = some [a, x, c] := rfl
theorem set_l3_2 (a b c x : D) : setD [a, b, c] 2 x = some [a, b, x] := rfl
theorem bi_int_i (i : Int) : biD .int [.int i] = some (.int i) := rfl
theorem bi_int_b (b : Bool) : biD .int [.bl b] = some (.int (if b then 1 else 0)) := rfl
theorem bi_abs (i : Int) : biD .abs [.int i] = some (.int (if i < 0 then -i else i)) := rfl
theorem bi_len_l (xs : List D) : biD .len [.lst xs] = some (.int xs.length) := rfl
theorem bi_len_t (xs : List D) : biD .len [.tup xs] = some (.int xs.length) := rfl
theorem bi_isInt_non : biD .isInt [.non] = some (.bl false) := rfl
theorem bi_isInt_bl (a : Bool) : biD .isInt [.bl a] = some (.bl true) := rfl
theorem bi_isInt_int (a : Int) : biD .isInt [.int a] = some (.bl true) := rfl
theorem bi_isInt_str (a : Str) : biD .isInt [.str a] = some (.bl false) := rfl
theorem bi_isInt_tup (a : List D) : biD .isInt [.tup a] = some (.bl false) := rfl
theorem bi_isInt_lst (a : List D) : biD .isInt [.lst a] = some (.bl false) := rfl
theorem bi_isInt_kst (a : List D) : biD .isInt [.kst a] = some (.bl false) := rfl
theorem bi_isInt_dK (k : List Key) (a : List D) : biD .isInt [.dK k a] = some (.bl false) := rfl
theorem bi_isBool_non : biD .isBool [.non] = some (.bl false) := rfl
theorem bi_isBool_bl (a : Bool) : biD .isBool [.bl a] = some (.bl true) := rfl
theorem bi_isBool_int (a : Int) : biD .isBool [.int a] = some (.bl false) := rfl
theorem bi_isBool_str (a : Str) : biD .isBool [.str a] = some (.bl false) := rfl
theorem bi_isBool_tup (a : List D) : biD .isBool [.tup a] = some (.bl false) := rfl
theorem bi_isBool_lst (a : List D) : biD .isBool [.lst a] = some (.bl false) := rfl
theorem bi_isBool_kst (a : List D) : biD .isBool [.kst a] = some (.bl false) := rfl
theorem bi_isBool_dK (k : List Key) (a : List D) : biD .isBool [.dK k a] = some (.bl false) := rfl
theorem bi_isTuple_non : biD .isTuple [.non] = some (.bl false) := rfl
theorem bi_isTuple_bl (a : Bool) : biD .isTuple [.bl a] = some (.bl false) := rfl
theorem bi_isTuple_int (a : Int) : biD .isTuple [.int a] = some (.bl false) := rfl
theorem bi_isTuple_str (a : Str) : biD .isTuple [.str a] = some (.bl false) := rfl
theorem bi_isTuple_tup (a : List D) : biD .isTuple [.tup a] = some (.bl true) := rfl
theorem bi_isTuple_lst (a : List D) : biD .isTuple [.lst a] = some (.bl false) := rfl
theorem bi_isTuple_kst (a : List D) : biD .isTuple [.kst a] = some (.bl false) := rfl
theorem bi_isTuple_dK (k : List Key) (a : List D) : biD .isTuple [.dK k a] = some (.bl false) := rfl
theorem bi_isList_non : biD .isList [.non] = some (.bl false) := rfl
theorem bi_isList_bl (a : Bool) : biD .isList [.bl a] = some (.bl false) := rfl
theorem bi_isList_int (a : Int) : biD .isList [.int a] = some (.bl false) := rfl
theorem bi_isList_str (a : Str) : biD .isList [.str a] = some (.bl false) := rfl
theorem bi_isList_tup (a : List D) : biD .isList [.tup a] = some (.bl false) := rfl
theorem bi_isList_lst (a : List D) : biD .isList [.lst a] = some (.bl true) := rfl
theorem bi_isList_kst (a : List D) : biD .isList [.kst a] = some (.bl true) := rfl
theorem bi_isList_dK (k : List Key) (a : List D) : biD .isList [.dK k a] = some (.bl false) := rfl
theorem bi_isStr_non : biD .isStr [.non] = some (.bl false) := rfl
theorem bi_isStr_bl (a : Bool) : biD .isStr [.bl a] = some (.bl false) := rfl
theorem bi_isStr_int (a : Int) : biD .isStr [.int a] = some (.bl false) := rfl
theorem bi_isStr_str (a : Str) : biD .isStr [.str a] = some (.bl true) := rfl
theorem bi_isStr_tup (a : List D) : biD .isStr [.tup a] = some (.bl false) := rfl
theorem bi_isStr_lst (a : List D) : biD .isStr [.lst a] = some (.bl false) := rfl
theorem bi_isStr_kst (a : List D) : biD .isStr [.kst a] = some (.bl false) := rfl
theorem bi_isStr_dK (k : List Key) (a : List D) : biD .isStr [.dK k a] = some (.bl false) := rfl
theorem le_lim {n : Nat} (h : n ≤ 100000) : (n ≤ LIM) = True := eq_true h
theorem lt_lim {n : Nat} (h : n < 100000) : (n < LIM) = True := eq_true h
theorem bi_isInt_dT (k : List (List Key)) (a : List D) : biD .isInt [.dT k a] = some (.bl false) := rfl
theorem bi_isBool_dT (k : List (List Key)) (a : List D) : biD .isBool [.dT k a] = some (.bl false) := rfl
theorem bi_isTuple_dT (k : List (List Key)) (a : List D) : biD .isTuple [.dT k a] = some (.bl false) := rfl
theorem bi_isList_dT (k : List (List Key)) (a : List D) : biD .isList [.dT k a] = some (.bl false) := rfl
theorem bi_isStr_dT (k : List (List Key)) (a : List D) : biD .isStr [.dT k a] = some (.bl false) := rfl
theorem pow_10 {j : Int} (h : 0 ≤ j) (h1 : j ≤ 1000) : op2 .pow (.int 10) (.int j) = some (.int (10 ^ j.toNat)) := pow_p h (by omega) (by decide)
theorem pw_10_18 : op2 .pow (.int 10) (.int 18) = some (.int 1000000000000000000) := rfl
theorem o_gt_i (i j : Int) : op2 .gt (.int i) (.int j) = some (.bl (decide (j < i))) := rfl
theorem o_lt_i (i j : Int) : op2 .lt (.int i) (.int j) = some (.bl (decide (i < j))) := rfl
theorem o_ge_i (i j : Int) : op2 .ge (.int i) (.int j) = some (.bl (decide (j ≤ i))) := rfl
theorem o_le_i (i j : Int) : op2 .le (.int i) (.int j) = some (.bl (decide (i ≤ j))) := rfl
theorem o_add_i (i j : Int) : op2 .add (.int i) (.int j) = some (.int (i + j)) := rfl
theorem o_sub_i (i j : Int) : op2 .sub (.int i) (.int j) = some (.int (i - j)) := rfl
theorem o_neg_i (i : Int) : op1 .neg (.int i) = some (.int (-i)) := rfl
theorem o_eq_i (i j : Int) : op2 .eq (.int i) (.int j) = some (.bl (i == j)) := rfl
theorem o_ne_i (i j : Int) : op2 .ne (.int i) (.int j) = some (.bl (!(i == j))) := rfl
theorem o_eq_s (i j : Str) : op2 .eq (.str i) (.str j) = some (.bl (decide (i = j))) := rfl
theorem o_ne_s (i j : Str) : op2 .ne (.str i) (.str j) = some (.bl (!decide (i = j))) := rfl
theorem o_eq_b (i j : Bool) : op2 .eq (.bl i) (.bl j) = some (.bl (i == j)) := rfl
theorem ints_py : ∀ cs : List Int, toPyAll (cs.map D.int) = some (cs.map PyData.int)
  | [] => rfl
  | c :: cs => by simp only [List.map_cons, toPyAll, toPy, ints_py cs]
theorem ints_lay : ∀ cs : List Int, PyData.canLayAll0 (cs.map PyData.int) = true ∧ PyData.depthAll (cs.map PyData.int) = 0
  | [] => ⟨by simp [PyData.canLayAll0], by simp [PyData.depthAll]⟩
  | c :: cs => by
    obtain ⟨h1, h2⟩ := ints_lay cs
    exact ⟨by simp [PyData.canLayAll0, PyData.canLay0, h1], by simp [PyData.depthAll, PyData.depth, h2]⟩
theorem ne_nil (cs : List Int) : op2 .ne (.lst (cs.map D.int)) (.lst []) = some (.bl (!cs.isEmpty)) := by
  obtain ⟨h1, h2⟩ := ints_lay cs
  have s1 : SeqAt.shaped (.list (cs.map PyData.int)) = true := by simp [SeqAt.shaped, PyData.canLay0, PyData.depth, h1, h2]
  have s2 : SeqAt.shaped (.list []) = true := by decide +kernel
  have e : op2 .ne (.lst (cs.map D.int)) (.lst []) = (eqP (.lst (cs.map D.int)) (.lst [])).map fun b => .bl (!b) := rfl
  rw [e]
  unfold eqP
  simp only [toPy, ints_py, Option.map_some, toPyAll, s1, s2, Bool.and_self, if_true, PyData.eqv]
  cases cs <;> simp [PyData.eqvAll]
/-! simp: objects, calls -/
theorem fldOf_o (c : Nat) (ks : List Nat) (vs : List D) (j : Nat) : fldOf (.obj c ks vs) j = fldD ks vs j := rfl
theorem fldOf_e (c : Nat) (ks : List Nat) (vs : List D) (j : Nat) : fldOf (.err c ks vs) j = fldD ks vs j := rfl
theorem fldD_c (k : Nat) (ks : List Nat) (v : D) (vs : List D) (j : Nat) : fldD (k :: ks) (v :: vs) j = if k = j then some v else fldD ks vs j := rfl
theorem putD_c (k : Nat) (ks : List Nat) (v : D) (vs : List D) (j : Nat) (x : D) : putD (k :: ks) (v :: vs) j x = if k = j then (k :: ks, x :: vs) else (k :: (putD ks vs j x).1, v :: (putD ks vs j x).2) := rfl
theorem putD_n (j : Nat) (x : D) : putD [] [] j x = ([j], [x]) := rfl
theorem isObj_o (cs : List Nat) (c : Nat) (ks : List Nat) (vs : List D) : isObjOf cs (.obj c ks vs) = cs.contains c := rfl
theorem isObj_e (cs : List Nat) (c : Nat) (ks : List Nat) (vs : List D) : isObjOf cs (.err c ks vs) = cs.contains c := rfl
theorem isObj_non (cs : List Nat) : isObjOf cs .non = false := rfl
theorem isObj_bl (cs : List Nat) (b : Bool) : isObjOf cs (.bl b) = false := rfl
theorem isObj_int (cs : List Nat) (b : Int) : isObjOf cs (.int b) = false := rfl
theorem isObj_str (cs : List Nat) (b : Str) : isObjOf cs (.str b) = false := rfl
theorem isObj_lst (cs : List Nat) (b : List D) : isObjOf cs (.lst b) = false := rfl
theorem isObj_tup (cs : List Nat) (b : List D) : isObjOf cs (.tup b) = false := rfl
theorem isObj_kst (cs : List Nat) (b : List D) : isObjOf cs (.kst b) = false := rfl
theorem isObj_dK (cs : List Nat) (k : List Key) (b : List D) : isObjOf cs (.dK k b) = false := rfl
theorem isCls_o (c : Nat) (ks : List Nat) (vs : List D) : isClsD (.obj c ks vs) = false := rfl
theorem isCls_e (c : Nat) (ks : List Nat) (vs : List D) : isClsD (.err c ks vs) = false := rfl
theorem isCls_non : isClsD .non = false := rfl
theorem isCls_bl (b : Bool) : isClsD (.bl b) = false := rfl
theorem isCls_int (b : Int) : isClsD (.int b) = false := rfl
theorem isCls_str (b : Str) : isClsD (.str b) = false := rfl
theorem isCls_lst (b : List D) : isClsD (.lst b) = false := rfl
theorem isCls_tup (b : List D) : isClsD (.tup b) = false := rfl
theorem isCls_kst (b : List D) : isClsD (.kst b) = false := rfl
theorem isCls_dK (k : List Key) (b : List D) : isClsD (.dK k b) = false := rfl
theorem runC_eq (cl : CallF) (f : Nat) (ms : List Bool) (us : List U) (env : Env) : runC cl f ms us env = orBad (argsOf env ms us) fun as =>
  if dupFree (ioSlots us) then match cl f as with
    | .ok r outs => .ok r (putIO env (ioSlots us) outs)
    | .exc x outs => .exc x (putIO env (ioSlots us) outs)
    | .bad => .bad
  else .bad := rfl
theorem makeO_eq (cl : CallF) (c : Nat) (as : List Ar) (env : Env) : makeO cl c as env = match cl (spec c 0) (.io (.obj c [] []) :: as) with
  | .ok (.d .non) [o] => .ok (.nw o) env
  | .exc x _ => .exc x env
  | _ => .bad := rfl
theorem spec_eq (c m : Nat) : spec c m = 1000 + 1000 * c + m := rfl
theorem allFz_0 : allFz [] = true := rfl
theorem allFz_c (d : D) (as : List Ar) : allFz (.fz d :: as) = allFz as := rfl
theorem recv_f (env : Env) (u : U) : recvU false env u = match fzU env u with
    | some (.obj c ks vs, env') => some (c, .d (.obj c ks vs), env')
    | _ => none := rfl
theorem recv_t (env : Env) (i : Nat) : recvU true env (.sl i) = match getS env i with
      | .ow (.obj c _ _) => some (c, .sl i, env)
      | .io (.obj c _ _) => some (c, .sl i, env)
      | _ => none := rfl
theorem ownOp_o (cl : CallF) (o : O2) (cs ts : List Nat) (c : Nat) (ks : List Nat) (vs : List D) (y : D) (env : Env) : ownOp cl o cs ts (.obj c ks vs) y env = (if !(cs.contains c && okR o ts c y) then .bad else match cl (spec c (opc o)) [.fz (.obj c ks vs), .fz y] with
    | .ok r _ => match o with
      | .ne => match r with
        | .d (.bl t) => .ok (.nw (.bl (!t))) env
        | _ => .bad
      | _ => .ok r env
    | .exc x _ => .exc x env
    | .bad => .bad) := rfl
theorem ownIn_o (cl : CallF) (neg : Bool) (cs : List Nat) (x : D) (c : Nat) (ks : List Nat) (vs : List D) (env : Env) : ownIn cl neg cs x (.obj c ks vs) env = (if !cs.contains c then .bad else match cl (spec c 17) [.fz (.obj c ks vs), .fz x] with
    | .ok (.d (.bl t)) _ => .ok (.nw (.bl (if neg then !t else t))) env
    | .exc x _ => .exc x env
    | _ => .bad) := rfl
theorem ownNe_o (cl : CallF) (cs : List Nat) (c : Nat) (ks : List Nat) (vs : List D) (y : D) (env : Env) : ownNe cl cs (.obj c ks vs) y env = (if !(cs.contains c && !oddD y) then .bad else match cl (spec c 16) [.fz (.obj c ks vs), .fz y] with
    | .ok (.d (.bl t)) _ => .ok (.nw (.bl (!t))) env
    | .exc x _ => .exc x env
    | _ => .bad) := rfl
theorem opc_add : opc .add = 1 := rfl
theorem opc_sub : opc .sub = 2 := rfl
theorem opc_mul : opc .mul = 3 := rfl
theorem opc_shl : opc .shl = 7 := rfl
theorem opc_shr : opc .shr = 8 := rfl
theorem opc_band : opc .band = 9 := rfl
theorem opc_bor : opc .bor = 10 := rfl
theorem opc_lt : opc .lt = 12 := rfl
theorem opc_le : opc .le = 13 := rfl
theorem opc_gt : opc .gt = 14 := rfl
theorem opc_ge : opc .ge = 15 := rfl
theorem opc_eq : opc .eq = 16 := rfl
theorem opc_ne : opc .ne = 16 := rfl
theorem okR_o (o : O2) (ts : List Nat) (c c' : Nat) (ks : List Nat) (vs : List D) : okR o ts c (.obj c' ks vs) = (isCmpO o || c == c') := rfl
theorem okR_int (o : O2) (ts : List Nat) (c : Nat) (i : Int) : okR o ts c (.int i) = (isCmpO o || ts.contains 2) := rfl
theorem okR_bl (o : O2) (ts : List Nat) (c : Nat) (i : Bool) : okR o ts c (.bl i) = (isCmpO o || ts.contains 1) := rfl
theorem okR_non (o : O2) (ts : List Nat) (c : Nat) : okR o ts c .non = (isCmpO o || ts.contains 0) := rfl
theorem okR_str (o : O2) (ts : List Nat) (c : Nat) (i : Str) : okR o ts c (.str i) = (isCmpO o || ts.contains 3) := rfl
theorem okR_lst (o : O2) (ts : List Nat) (c : Nat) (i : List D) : okR o ts c (.lst i) = (isCmpO o || ts.contains 4) := rfl
theorem okR_kst (o : O2) (ts : List Nat) (c : Nat) (i : List D) : okR o ts c (.kst i) = (isCmpO o || ts.contains 4) := rfl
theorem okR_tup (o : O2) (ts : List Nat) (c : Nat) (i : List D) : okR o ts c (.tup i) = (isCmpO o || ts.contains 5) := rfl
theorem cmp_lt : isCmpO .lt = true := rfl
theorem cmp_le : isCmpO .le = true := rfl
theorem cmp_gt : isCmpO .gt = true := rfl
theorem cmp_ge : isCmpO .ge = true := rfl
theorem cmp_eq : isCmpO .eq = true := rfl
theorem cmp_ne : isCmpO .ne = true := rfl
theorem cmp_add : isCmpO .add = false := rfl
theorem cmp_sub : isCmpO .sub = false := rfl
theorem cmp_band : isCmpO .band = false := rfl
theorem cmp_bor : isCmpO .bor = false := rfl
theorem cmp_shl : isCmpO .shl = false := rfl
theorem cmp_shr : isCmpO .shr = false := rfl
theorem cmp_mul : isCmpO .mul = false := rfl
theorem slOf_obj (x : D) (c : Nat) (ks : List Nat) (vs : List D) : slOf (.nw x) (.obj c ks vs) = .ow (.obj c ks vs) := rfl
theorem nrm_obj (c : Nat) (ks : List Nat) (vs : List D) : nrm (.obj c ks vs) = .nw (.obj c ks vs) := rfl
theorem slOf_err (u : U) (c : Nat) (ks : List Nat) (vs : List D) : slOf u (.err c ks vs) = .fz (.err c ks vs) := by cases u <;> rfl
theorem hear_eq (cl : CallF) (f : Nat) (o : D) (env : Env) : hearC cl f o env = match cl f [.fz o] with
  | .ok r _ => .ok r env
  | .exc x _ => .exc x env
  | .bad => .bad := rfl
theorem frz_0 (env : Env) : frzAll [] env = some env := rfl
theorem frz_c (i : Nat) (is : List Nat) (env : Env) : frzAll (i :: is) env = (fzU env (.sl i)).bind fun p => frzAll is p.2 := rfl
theorem mask_c (s : Sl) (env : Env) : maskE (s :: env) = maskS s :: maskE env := rfl
theorem mask_n : maskE [] = [] := rfl
theorem maskS_fz (d : D) : maskS (.fz d) = .fz d := rfl
theorem maskS_ow (d : D) : maskS (.ow d) = .un := rfl
theorem maskS_io (d : D) : maskS (.io d) = .un := rfl
theorem maskS_un : maskS .un = .un := rfl
theorem item_t (xs : List D) : itemsD (.tup xs) = some xs := rfl
theorem item_l (xs : List D) : itemsD (.lst xs) = some xs := rfl
theorem item_k (xs : List D) : itemsD (.kst xs) = some xs := rfl
theorem bi_max2 (i j : Int) : biD .max2 [.int i, .int j] = some (.int (max i j)) := by
  have : (if j > i then j else i) = max i j := by omega
  rw [← this]; rfl
theorem bi_min2 (i j : Int) : biD .min2 [.int i, .int j] = some (.int (min i j)) := by
  have : (if j < i then j else i) = min i j := by omega
  rw [← this]; rfl
theorem bi_bool_b (b : Bool) : biD .bool [.bl b] = some (.bl b) := rfl
theorem o_shr_i {i j : Int} (h : 0 ≤ j) : op2 .shr (.int i) (.int j) = some (.int (i / 2 ^ j.toNat)) := by simp only [op2, h, if_true]
theorem o_is_n (x : D) : op2 .is x .non = some (.bl (match x with | .non => true | _ => false)) := rfl
theorem o_isnot_n (x : D) : op2 .isnot x .non = some (.bl (match x with | .non => false | _ => true)) := rfl
theorem o_is_b (x : D) (b : Bool) : op2 .is x (.bl b) = some (.bl (match x with | .bl c => b == c | _ => false)) := rfl
theorem o_isnot_b (x : D) (b : Bool) : op2 .isnot x (.bl b) = some (.bl (match x with | .bl c => !(b == c) | _ => true)) := rfl
theorem o_add_l (xs ys : List D) : op2 .add (.lst xs) (.lst ys) = if xs.length + ys.length ≤ LIM then some (.lst (xs ++ ys)) else none := rfl
theorem o_mul_l (xs : List D) (j : Int) : op2 .mul (.lst xs) (.int j) = if decide (0 ≤ j) && decide (j ≤ 1000) && decide (xs.length * j.toNat ≤ LIM) then some (.lst (List.replicate j.toNat xs).flatten) else none := rfl
theorem set_l4_0 (a b c d x : D) : setD [a, b, c, d] 0 x = some [x, b, c, d] := rfl
theorem set_l4_1 (a b c d x : D) : setD [a, b, c, d] 1 x = some [a, x, c, d] := rfl
theorem set_l4_2 (a b c d x : D) : setD [a, b, c, d] 2 x = some [a, b, x, d] := rfl
theorem set_l4_3 (a b c d x : D) : setD [a, b, c, d] 3 x = some [a, b, c, x] := rfl
theorem ask_o (o : D) (cl : CallF) (env : Env) : askR (askCl o cl 999 []) env = outD o env := ask_out
theorem outD_t (d : D) (env : Env) : outD (.tup [.non, d]) env = .ok (.d d) env := rfl
theorem outD_e (c : Nat) (ks : List Nat) (vs : List D) (env : Env) : outD (.err c ks vs) env = .exc (c, ks, vs) env := rfl
theorem keep_d (env env' : Env) (d : D) : keepC env (.ok (.d d) env') = if noLst d then .ok (.d d) env else .bad := rfl
theorem noL_non : noLst .non = true := by rw [noLst]
theorem noL_int (i : Int) : noLst (.int i) = true := by rw [noLst]
theorem noL_bl (i : Bool) : noLst (.bl i) = true := by rw [noLst]
theorem noL_str (i : Str) : noLst (.str i) = true := by rw [noLst]
theorem noL_tup (xs : List D) : noLst (.tup xs) = noLsts xs := by rw [noLst]
theorem noL_0 : noLsts [] = true := by rw [noLsts]
theorem noL_c (x : D) (xs : List D) : noLsts (x :: xs) = (noLst x && noLsts xs) := by rw [noLsts]
theorem evJ_0 {cl : CallF} {acc : Str} {env : Env} : evJ cl .nil acc env = .ok acc env := rfl
theorem evJ_s {cl : CallF} {e : Ex} {es : Exs} {acc y : Str} {env env1 : Env} {u : U} {d : D} (h1 : ev cl e env = .ok u env1) (h2 : rdU env1 u = some d) (h3 : fmtD d = some y) (h4 : (acc ++ y).length ≤ 100000) : evJ cl (.cons e es) acc env = evJ cl es (acc ++ y) env1 := by
  have h4 : (acc ++ y).length ≤ LIM := h4
  simp only [evJ, h1, R.bind_ok, h2, orBad_some, h3, h4, if_true]
theorem nrm_mut {x : D} (h : isMutD x = true) : nrm x = .nw x := by simp only [nrm, h, if_true]
theorem fz_match (d : D) : (match Sl.fz d with | .un => (R.bad : R U) | .fz d => .ok (.d d) ([] : Env) | _ => .bad) = .ok (.d d) [] := rfl
theorem frange (m : Int) (h : -(2 ^ 40) ≤ m) (h' : m < 2 ^ 40) : (decide (-(2 ^ 40) ≤ m) && decide (m < 2 ^ 40)) = true := by simp only [h, h', decide_true, Bool.and_self]
end PP
end

section
namespace PP
open PySem L2
/-! equality of plain data -/
mutual
def wfD : D → Bool
  | .non => true | .bl _ => true | .int _ => true | .str z => PyData.strOk z
  | .lst xs => wfL xs | .tup xs => wfL xs | .kst xs => wfL xs | _ => false
def wfL : List D → Bool
  | [] => true | d :: r => wfD d && wfL r
end
mutual
def dpD : D → Nat
  | .lst xs => dpL xs + 1 | .tup xs => dpL xs + 1 | .kst xs => dpL xs + 1 | _ => 0
def dpL : List D → Nat
  | [] => 0 | d :: r => max (dpD d) (dpL r)
end
def eqvD (x y : D) : Bool := match toPy x, toPy y with
  | some p, some q => PyData.eqv p q
  | _, _ => false
def eqvL (xs ys : List D) : Bool := match toPyAll xs, toPyAll ys with
  | some p, some q => PyData.eqvAll p q
  | _, _ => false
mutual
theorem wf_py : ∀ d : D, wfD d = true → ∃ p, toPy d = some p ∧ p.canLay0 = true ∧ p.depth = dpD d
  | .non, _ => ⟨.none, rfl, by simp [PyData.canLay0], by simp [PyData.depth, dpD]⟩
  | .bl b, _ => ⟨.bool b, rfl, by simp [PyData.canLay0], by simp [PyData.depth, dpD]⟩
  | .int i, _ => ⟨.int i, rfl, by simp [PyData.canLay0], by simp [PyData.depth, dpD]⟩
  | .str z, h => ⟨.str z, rfl, by simp only [wfD] at h; simp only [PyData.canLay0, h], by simp [PyData.depth, dpD]⟩
  | .lst xs, h => by
    obtain ⟨ps, h1, h2, h3⟩ := wfs_py xs (by simpa only [wfD] using h)
    exact ⟨.list ps, by simp only [toPy, h1, Option.map_some], by simp only [PyData.canLay0, h2], by simp only [PyData.depth, dpD, h3]⟩
  | .tup xs, h => by
    obtain ⟨ps, h1, h2, h3⟩ := wfs_py xs (by simpa only [wfD] using h)
    exact ⟨.tuple ps, by simp only [toPy, h1, Option.map_some], by simp only [PyData.canLay0, h2], by simp only [PyData.depth, dpD, h3]⟩
  | .kst xs, h => by
    obtain ⟨ps, h1, h2, h3⟩ := wfs_py xs (by simpa only [wfD] using h)
    exact ⟨.list ps, by simp only [toPy, h1, Option.map_some], by simp only [PyData.canLay0, h2], by simp only [PyData.depth, dpD, h3]⟩
  | .dK _ _, h => by simp [wfD] at h
  | .dT _ _, h => by simp [wfD] at h
  | .obj _ _ _, h => by simp [wfD] at h
  | .cls _, h => by simp [wfD] at h
  | .err _ _ _, h => by simp [wfD] at h
theorem wfs_py : ∀ ds : List D, wfL ds = true → ∃ ps, toPyAll ds = some ps ∧ PyData.canLayAll0 ps = true ∧ PyData.depthAll ps = dpL ds
  | [], _ => ⟨[], rfl, by simp [PyData.canLayAll0], by simp [PyData.depthAll, dpL]⟩
  | d :: r, h => by
    simp only [wfL, Bool.and_eq_true] at h
    obtain ⟨p, h1, h2, h3⟩ := wf_py d h.1
    obtain ⟨ps, g1, g2, g3⟩ := wfs_py r h.2
    exact ⟨p :: ps, by simp only [toPyAll, h1, g1], by simp only [PyData.canLayAll0, h2, g2, Bool.and_self], by simp only [PyData.depthAll, dpL, h3, g3]⟩
end
theorem eqP_v {x y : D} (hx : wfD x = true) (hy : wfD y = true) (dx : dpD x ≤ 64) (dy : dpD y ≤ 64) : eqP x y = some (eqvD x y) := by
  obtain ⟨p, h1, h2, h3⟩ := wf_py x hx
  obtain ⟨q, g1, g2, g3⟩ := wf_py y hy
  have s1 : SeqAt.shaped p = true := by simp only [SeqAt.shaped, h2, h3, dx, decide_true, Bool.and_self]
  have s2 : SeqAt.shaped q = true := by simp only [SeqAt.shaped, g2, g3, dy, decide_true, Bool.and_self]
  simp only [eqP, eqvD, h1, g1, s1, s2, Bool.and_self, if_true]
theorem v_str (a b : Str) : eqvD (.str a) (.str b) = decide (a = b) := by
  show PyData.eqv (.str a) (.str b) = _
  simp only [PyData.eqv]
  by_cases h : a = b
  · simp [h]
  · simp [h]
theorem eqD_v {x y : D} (hx : wfD x = true) (hy : wfD y = true) (dx : dpD x ≤ 64) (dy : dpD y ≤ 64) : eqD x y = some (eqvD x y) := by
  have e := eqP_v hx hy dx dy
  cases x <;> cases y <;> first | exact e | (rw [v_str]; rfl)
theorem op_eq {x y : D} (hx : wfD x = true) (hy : wfD y = true) (dx : dpD x ≤ 64) (dy : dpD y ≤ 64) : op2 .eq x y = some (.bl (eqvD x y)) := by
  have e : op2 .eq x y = (eqD x y).map .bl := by cases x <;> rfl
  rw [e, eqD_v hx hy dx dy]
  rfl
theorem op_ne {x y : D} (hx : wfD x = true) (hy : wfD y = true) (dx : dpD x ≤ 64) (dy : dpD y ≤ 64) : op2 .ne x y = some (.bl (!eqvD x y)) := by
  have e : op2 .ne x y = (eqD x y).map fun b => .bl (!b) := by cases x <;> rfl
  rw [e, eqD_v hx hy dx dy]
  rfl
theorem v_nil : eqvL [] [] = true := by
  show PyData.eqvAll [] [] = _
  simp only [PyData.eqvAll]
theorem v_cons (x y : D) (xs ys : List D) : eqvL (x :: xs) (y :: ys) = (eqvD x y && eqvL xs ys) := by
  simp only [eqvL, eqvD, toPyAll]
  cases toPy x <;> cases toPy y <;> cases toPyAll xs <;> cases toPyAll ys <;> simp [PyData.eqvAll]
theorem v_nc (y : D) (ys : List D) : eqvL [] (y :: ys) = false := by
  simp only [eqvL, toPyAll]
  cases toPy y <;> cases toPyAll ys <;> simp [PyData.eqvAll]
theorem v_cn (y : D) (ys : List D) : eqvL (y :: ys) [] = false := by
  simp only [eqvL, toPyAll]
  cases toPy y <;> cases toPyAll ys <;> simp [PyData.eqvAll]
theorem v_tup (xs ys : List D) : eqvD (.tup xs) (.tup ys) = eqvL xs ys := by
  simp only [eqvL, eqvD, toPy]
  cases toPyAll xs <;> cases toPyAll ys <;> simp [PyData.eqv]
theorem v_lst (xs ys : List D) : eqvD (.lst xs) (.lst ys) = eqvL xs ys := by
  simp only [eqvL, eqvD, toPy]
  cases toPyAll xs <;> cases toPyAll ys <;> simp [PyData.eqv]
theorem v_kl (xs ys : List D) : eqvD (.kst xs) (.lst ys) = eqvL xs ys := by
  simp only [eqvL, eqvD, toPy]
  cases toPyAll xs <;> cases toPyAll ys <;> simp [PyData.eqv]
theorem v_lt (xs ys : List D) : eqvD (.lst xs) (.tup ys) = false := by
  simp only [eqvD, toPy]
  cases toPyAll xs <;> cases toPyAll ys <;> simp [PyData.eqv]
theorem v_tl (xs ys : List D) : eqvD (.tup xs) (.lst ys) = false := by
  simp only [eqvD, toPy]
  cases toPyAll xs <;> cases toPyAll ys <;> simp [PyData.eqv]
theorem v_int (a b : Int) : eqvD (.int a) (.int b) = (a == b) := by
  show PyData.eqv (.int a) (.int b) = _
  simp only [PyData.eqv]
theorem v_bl (a b : Bool) : eqvD (.bl a) (.bl b) = (a == b) := by
  show PyData.eqv (.bool a) (.bool b) = _
  simp only [PyData.eqv]
theorem v_nn : eqvD .non .non = true := by
  show PyData.eqv .none .none = _
  simp only [PyData.eqv]
theorem v_nt (ys : List D) : eqvD .non (.tup ys) = false := by
  simp only [eqvD, toPy]
  cases toPyAll ys <;> simp [PyData.eqv]
theorem v_tn (ys : List D) : eqvD (.tup ys) .non = false := by
  simp only [eqvD, toPy]
  cases toPyAll ys <;> simp [PyData.eqv]
theorem v_ni (i : Int) : eqvD .non (.int i) = false := by
  show PyData.eqv .none (.int i) = _
  simp only [PyData.eqv]
theorem v_in (i : Int) : eqvD (.int i) .non = false := by
  show PyData.eqv (.int i) .none = _
  simp only [PyData.eqv]
mutual
theorem v_self : ∀ d : D, wfD d = true → eqvD d d = true
  | .non, _ => v_nn
  | .bl b, _ => by rw [v_bl]; simp
  | .int i, _ => by rw [v_int]; simp
  | .str z, h => by rw [v_str]; simp
  | .lst xs, h => by rw [v_lst]; exact vs_self xs (by simpa only [wfD] using h)
  | .tup xs, h => by rw [v_tup]; exact vs_self xs (by simpa only [wfD] using h)
  | .kst xs, h => by
    have : eqvD (.kst xs) (.kst xs) = eqvL xs xs := by
      simp only [eqvL, eqvD, toPy]
      cases toPyAll xs <;> simp [PyData.eqv]
    rw [this]; exact vs_self xs (by simpa only [wfD] using h)
  | .dK _ _, h => by simp [wfD] at h
  | .dT _ _, h => by simp [wfD] at h
  | .obj _ _ _, h => by simp [wfD] at h
  | .cls _, h => by simp [wfD] at h
  | .err _ _ _, h => by simp [wfD] at h
theorem vs_self : ∀ ds : List D, wfL ds = true → eqvL ds ds = true
  | [], _ => v_nil
  | d :: r, h => by
    simp only [wfL, Bool.and_eq_true] at h
    rw [v_cons, v_self d h.1, vs_self r h.2]
    rfl
end
theorem v_ints : ∀ xs ys : List Int, eqvL (xs.map D.int) (ys.map D.int) = decide (xs = ys)
  | [], [] => by simp [v_nil]
  | [], _ :: _ => by simp [v_nc]
  | _ :: _, [] => by simp [v_cn]
  | x :: xs, y :: ys => by
    rw [List.map_cons, List.map_cons, v_cons, v_int, v_ints xs ys]
    by_cases h : x = y <;> by_cases h' : xs = ys <;> simp [h, h']
theorem wf_ints : ∀ xs : List Int, wfL (xs.map D.int) = true
  | [] => rfl
  | x :: xs => by rw [List.map_cons, wfL, wf_ints xs]; rfl
theorem dp_ints : ∀ xs : List Int, dpL (xs.map D.int) = 0
  | [] => rfl
  | x :: xs => by rw [List.map_cons, dpL, dp_ints xs]; rfl
theorem wfL_app (xs ys : List D) : wfL (xs ++ ys) = (wfL xs && wfL ys) := by
  induction xs with
  | nil => rfl
  | cons x r ih => simp only [List.cons_append, wfL, ih, Bool.and_assoc]
theorem dpL_app (xs ys : List D) : dpL (xs ++ ys) = max (dpL xs) (dpL ys) := by
  induction xs with
  | nil => simp [dpL]
  | cons x r ih => simp only [List.cons_append, dpL, ih, Nat.max_assoc]
end PP
end

section
namespace PP
open PySem L2
/-! texts of numbers -/
abbrev smI (x : Int) : Prop := -57896044618658097711785492504343953926634992332820282019728792003956564819968 < x ∧ x < 57896044618658097711785492504343953926634992332820282019728792003956564819968
theorem smI.log {x : Int} (h : smI x) : x.natAbs.log2 < 300 := log2_b h.1 h.2
theorem len_app (a b : Str) : (a ++ b).length = a.length + b.length := by
  show (a.cps ++ b.cps).size = _
  rw [Array.size_append]
  rfl
theorem len_ofS (s : String) : (Str.ofString s).length = s.length := by
  rw [Str.ofString_eq_toList]
  show ((s.toList.map Char.toNat).toArray).size = _
  rw [List.size_toArray, List.length_map, String.length_toList]
theorem len_it {i : Int} (h : smI i) : (Str.ofString (toString i)).length ≤ 301 := by
  rw [len_ofS]
  exact int_text_length_le (by decide) h.log
theorem fmt_int {i : Int} (h : smI i) : fmtD (.int i) = some (Str.ofString (toString i)) := by
  have := h.log
  simp only [fmtD]
  rw [if_pos (by omega)]
theorem fmt_str {z : Str} (h : z.length ≤ 100000) : fmtD (.str z) = some z := by
  have : z.length ≤ LIM := h
  simp only [fmtD, this, if_true]
theorem ok_ofS (s : String) : PyData.strOk (Str.ofString s) = true := by
  rw [Str.ofString_eq_toList]
  simp only [PyData.strOk, List.all_toArray, List.all_map, List.all_eq_true]
  intro c hc
  show decide (c.val.toNat < 1114112) = true
  have := c.valid
  rcases this with h | h
  · exact decide_eq_true (Nat.lt_trans (show c.val.toNat < 55296 from h) (by decide))
  · exact decide_eq_true (show c.val.toNat < 1114112 from h.2)
theorem ok_app (a b : Str) : PyData.strOk (a ++ b) = (PyData.strOk a && PyData.strOk b) := by
  show (a.cps ++ b.cps).all _ = _
  rw [Array.all_append]
  rfl
theorem ok_empty : PyData.strOk Str.empty = true := by simp [PyData.strOk, Str.empty]
theorem rp_str (z : Str) (h : ((PyData.str z).showable && !(PyData.str z).hasDict && decide ((PyData.str z).shown.length ≤ LIM) && decide ((PyData.str z).depth ≤ 64)) = true) : biD .repr [.str z] = some (.str (PyData.str z).shown) := by
  show (if _ then _ else _) = _
  rw [if_pos h]
end PP
end

section
local macro_rules | `(tactic| walk_at "pp") => `(tactic| simp -implicitDefEqProofs only [PP.ev_w0, PP.ev_w1, PP.ev_w2, PP.ev_w3, PP.ev_w4, PP.ev_w5, PP.ev_w6, PP.ev_w7, PP.ev_w8, PP.ev_w9, PP.ev_w10, PP.ev_w11, PP.ev_w12, PP.ev_w13, PP.ev_w14, PP.ev_w15, PP.ev_w16, PP.ev_w17, PP.ev_w18, PP.ev_w19, PP.ev_w20, PP.ev_w21, PP.ev_w22, PP.ev_w23, PP.ev_w24, PP.ev_w25, PP.ev_w26, PP.ev_w27, PP.ev_w28, PP.ev_w29, PP.ev_w30, PP.ev_w31, PP.ev_w32, PP.ev_w33, PP.ev_w34, PP.ev_w35, PP.ev_w36, PP.ev_w37, PP.evF_w0, PP.evF_w1, PP.evF_w2, PP.evR_w0, PP.evR_w1, PP.evR_w2, PP.evC_w0, PP.evC_w1, PP.evC_w2, PP.evC_w3, PP.ex_w0, PP.ex_w1, PP.ex_w2, PP.ex_w3, PP.ex_w4, PP.ex_w5, PP.ex_w6, PP.ex_w7, PP.ex_w8, PP.ex_w9, PP.ex_w10, PP.ex_w11, PP.ex_w12, PP.ex_w13, PP.ex_w14, PP.ex_w15, PP.ex_w16, PP.ex_w17, PP.ex_w18, PP.ex_w19, PP.ex_w20, PP.exs_w0, PP.exs_w1, PP.evT_w, PP.getS_0, PP.getS_s, PP.set_0, PP.set_s, PP.mul_1, PP.mul_m1, PP.fin_ok, PP.fin_exc, PP.finX_s, PP.finO_next, PP.finO_d, PP.finO_nw, PP.rdU_d, PP.rdU_nw, PP.rdU_sl, PP.rdS_fz, PP.rdS_ow, PP.rdS_io, PP.pend_d, PP.pend_nw, PP.pend_sl, PP.fzU_d, PP.fzU_nw, PP.fzU_sl, PP.asgU_d, PP.asgU_nw, PP.asgU_sl, PP.slOf_non, PP.slOf_bl, PP.slOf_int, PP.slOf_str, PP.slOf_tup, PP.slOf_lst, PP.slOf_dK, PP.isLs_ow, PP.isLs_io, PP.retU_d, PP.retU_nw, PP.retU_sl, PP.nrm_non, PP.nrm_bl, PP.nrm_int, PP.nrm_str, PP.nrm_tup, PP.nrm_lst, PP.nrm_dK, PP.setIO_ow, PP.setIO_io, PP.dupF_0, PP.dupF_1, PP.optP_f, PP.optP_t, PP.truD_bl, PP.truD_non, PP.truD_lst, PP.partD_eq, PP.ix_lst_0, PP.ix_lst_1, PP.ix_lst_2, PP.ix_lst_3, PP.ix_lst_4, PP.ix_lst_5, PP.ix_tup_0, PP.ix_tup_1, PP.ix_tup_2, PP.ix_tup_3, PP.ix_tup_4, PP.ix_tup_5, PP.ix_kst_0, PP.ix_kst_1, PP.ix_kst_2, PP.ix_kst_3, PP.ix_kst_4, PP.ix_kst_5, PP.set_l3_1, PP.set_l3_2, PP.bi_int_i, PP.bi_int_b, PP.bi_abs, PP.bi_len_l, PP.bi_len_t, PP.bi_isInt_non, PP.bi_isInt_bl, PP.bi_isInt_int, PP.bi_isInt_str, PP.bi_isInt_tup, PP.bi_isInt_lst, PP.bi_isInt_kst, PP.bi_isInt_dK, PP.bi_isBool_non, PP.bi_isBool_bl, PP.bi_isBool_int, PP.bi_isBool_str, PP.bi_isBool_tup, PP.bi_isBool_lst, PP.bi_isBool_kst, PP.bi_isBool_dK, PP.bi_isTuple_non, PP.bi_isTuple_bl, PP.bi_isTuple_int, PP.bi_isTuple_str, PP.bi_isTuple_tup, PP.bi_isTuple_lst, PP.bi_isTuple_kst, PP.bi_isTuple_dK, PP.bi_isList_non, PP.bi_isList_bl, PP.bi_isList_int, PP.bi_isList_str, PP.bi_isList_tup, PP.bi_isList_lst, PP.bi_isList_kst, PP.bi_isList_dK, PP.bi_isStr_non, PP.bi_isStr_bl, PP.bi_isStr_int, PP.bi_isStr_str, PP.bi_isStr_tup, PP.bi_isStr_lst, PP.bi_isStr_kst, PP.bi_isStr_dK, PP.le_lim, PP.lt_lim, PP.bi_isInt_dT, PP.bi_isBool_dT, PP.bi_isTuple_dT, PP.bi_isList_dT, PP.bi_isStr_dT, PP.pw_10_18, PP.o_gt_i, PP.o_lt_i, PP.o_ge_i, PP.o_le_i, PP.o_add_i, PP.o_sub_i, PP.o_neg_i, PP.o_eq_i, PP.o_ne_i, PP.o_eq_s, PP.o_ne_s, PP.o_eq_b, PP.ne_nil, PP.fldOf_o, PP.fldOf_e, PP.fldD_c, PP.putD_c, PP.putD_n, PP.isObj_o, PP.isObj_e, PP.isObj_non, PP.isObj_bl, PP.isObj_int, PP.isObj_str, PP.isObj_lst, PP.isObj_tup, PP.isObj_kst, PP.isObj_dK, PP.isCls_o, PP.isCls_e, PP.isCls_non, PP.isCls_bl, PP.isCls_int, PP.isCls_str, PP.isCls_lst, PP.isCls_tup, PP.isCls_kst, PP.isCls_dK, PP.runC_eq, PP.makeO_eq, PP.spec_eq, PP.allFz_0, PP.allFz_c, PP.recv_f, PP.recv_t, PP.ownOp_o, PP.ownIn_o, PP.ownNe_o, PP.opc_add, PP.opc_sub, PP.opc_mul, PP.opc_shl, PP.opc_shr, PP.opc_band, PP.opc_bor, PP.opc_lt, PP.opc_le, PP.opc_gt, PP.opc_ge, PP.opc_eq, PP.opc_ne, PP.okR_o, PP.okR_int, PP.okR_bl, PP.okR_non, PP.okR_str, PP.okR_lst, PP.okR_kst, PP.okR_tup, PP.cmp_lt, PP.cmp_le, PP.cmp_gt, PP.cmp_ge, PP.cmp_eq, PP.cmp_ne, PP.cmp_add, PP.cmp_sub, PP.cmp_band, PP.cmp_bor, PP.cmp_shl, PP.cmp_shr, PP.cmp_mul, PP.slOf_obj, PP.nrm_obj, PP.slOf_err, PP.hear_eq, PP.frz_0, PP.frz_c, PP.mask_c, PP.mask_n, PP.maskS_fz, PP.maskS_ow, PP.maskS_io, PP.maskS_un, PP.item_t, PP.item_l, PP.item_k, PP.bi_max2, PP.bi_min2, PP.bi_bool_b, PP.o_shr_i, PP.o_is_n, PP.o_isnot_n, PP.o_is_b, PP.o_isnot_b, PP.o_add_l, PP.o_mul_l, PP.set_l4_0, PP.set_l4_1, PP.set_l4_2, PP.set_l4_3, PP.ask_o, PP.outD_t, PP.outD_e, PP.keep_d, PP.noL_non, PP.noL_int, PP.noL_bl, PP.noL_str, PP.noL_tup, PP.noL_0, PP.noL_c, PP.evJ_0, PP.runF, PP.startE, PP.rdAll, PP.argsOf, PP.ioSlots, PP.putIO, PP.permL, PP.outsOf, PP.storeAll, PP.R.bind_ok, PP.R.bind_exc, PP.R.bind_bad, PP.orBad_some, PP.orBad_none, Int.reduceLE, Int.reduceLT, Int.reduceToNat, Int.reducePow, Int.reduceNeg, Int.reduceAdd, Int.reduceSub, Int.reduceMul, Int.reduceBEq, Int.cast_ofNat_Int, Int.natCast_zero, Int.natCast_one, Int.reduceBNe, Int.reduceEq, Int.reduceDiv, Int.reduceMod, Nat.reduceAdd, Nat.reduceMul, Nat.reduceSub, Nat.reducePow, Nat.reduceLeDiff, Nat.reduceLT, Nat.reduceEqDiff, Nat.reduceBEq, List.cons_append, List.nil_append, List.append_nil, Nat.zero_le, List.head?_cons, List.tail_cons, Option.map_some, Option.map_none, Option.bind_some, Option.bind_none, Bool.not_true, Bool.not_false, Bool.and_self, Bool.and_true, Bool.true_and, Bool.false_and, Bool.and_false, Bool.or_true, Bool.true_or, Bool.or_false, Bool.false_or, Bool.not_not, List.contains_cons, List.contains_nil, BEq.rfl, reduceCtorEq,
  eq_self, and_self, if_true, if_false, ite_true, ite_false, Bool.false_eq_true, reduceIte, List.length_cons, List.length_nil, List.filterMap_cons, List.filterMap_nil, List.getElem?_cons_zero, List.getElem?_cons_succ, List.map_cons, List.map_nil, List.replicate_succ, List.replicate_zero, List.flatten_cons, List.flatten_nil, List.reverse_cons, List.reverse_nil, decide_true, decide_false, Bool.not_eq_true, Bool.not_eq_false, Bool.cond_true, Bool.cond_false])
local macro_rules | `(tactic| walk_at "pq") => `(tactic| simp -implicitDefEqProofs (disch := first | assumption | (with_reducible show (_ : Bool) = _; exact id rfl) | (with_reducible show (_ : Int) < _; omega) | (with_reducible show (_ : Int) ≤ _; omega) | (with_reducible show (_ : Nat) ≤ _; omega) | (with_reducible show (_ : Nat) < _; omega) | exact id (by simp only [PP.wfD, PP.wfL, PP.dpD, PP.dpL, PP.ok_ofS, PP.ok_app, PP.ok_empty, Nat.max_self, Nat.zero_max, Nat.max_zero, Nat.reduceAdd, Nat.reduceLeDiff, Bool.and_self, PP.wf_ints, PP.dp_ints, Bool.and_true, Bool.true_and, *] ; done) | fail) only [*, PP.le_lim, PP.lt_lim, PP.o_shr_i, PP.shl_p, PP.mul_w, PP.fdiv_w, PP.mod_p, PP.pow_p, PP.nrm_mut, PP.op_eq, PP.op_ne, PP.v_str, PP.v_nil, PP.v_cons, PP.v_nc, PP.v_cn, PP.v_tup, PP.v_lst, PP.v_kl, PP.v_lt, PP.v_tl, PP.v_int, PP.v_bl, PP.v_nn, PP.v_nt, PP.v_tn, PP.v_ni, PP.v_in, PP.v_ints, PP.ev_w0, PP.ev_w1, PP.ev_w2, PP.ev_w3, PP.ev_w4, PP.ev_w5, PP.ev_w6, PP.ev_w7, PP.ev_w8, PP.ev_w9, PP.ev_w10, PP.ev_w11, PP.ev_w12, PP.ev_w13, PP.ev_w14, PP.ev_w15, PP.ev_w16, PP.ev_w17, PP.ev_w18, PP.ev_w19, PP.ev_w20, PP.ev_w21, PP.ev_w22, PP.ev_w23, PP.ev_w24, PP.ev_w25, PP.ev_w26, PP.ev_w27, PP.ev_w28, PP.ev_w29, PP.ev_w30, PP.ev_w31, PP.ev_w32, PP.ev_w33, PP.ev_w34, PP.ev_w35, PP.ev_w36, PP.ev_w37, PP.evF_w0, PP.evF_w1, PP.evF_w2, PP.evR_w0, PP.evR_w1, PP.evR_w2, PP.evC_w0, PP.evC_w1, PP.evC_w2, PP.evC_w3, PP.ex_w0, PP.ex_w1, PP.ex_w2, PP.ex_w3, PP.ex_w4, PP.ex_w5, PP.ex_w6, PP.ex_w7, PP.ex_w8, PP.ex_w9, PP.ex_w10, PP.ex_w11, PP.ex_w12, PP.ex_w13, PP.ex_w14, PP.ex_w15, PP.ex_w16, PP.ex_w17, PP.ex_w18, PP.ex_w19, PP.ex_w20, PP.exs_w0, PP.exs_w1, PP.evT_w, PP.getS_0, PP.getS_s, PP.set_0, PP.set_s, PP.mul_1, PP.mul_m1, PP.fin_ok, PP.fin_exc, PP.finX_s, PP.finO_next, PP.finO_d, PP.finO_nw, PP.rdU_d, PP.rdU_nw, PP.rdU_sl, PP.rdS_fz, PP.rdS_ow, PP.rdS_io, PP.pend_d, PP.pend_nw, PP.pend_sl, PP.fzU_d, PP.fzU_nw, PP.fzU_sl, PP.asgU_d, PP.asgU_nw, PP.asgU_sl, PP.slOf_non, PP.slOf_bl, PP.slOf_int, PP.slOf_str, PP.slOf_tup, PP.slOf_lst, PP.slOf_dK, PP.isLs_ow, PP.isLs_io, PP.retU_d, PP.retU_nw, PP.retU_sl, PP.nrm_non, PP.nrm_bl, PP.nrm_int, PP.nrm_str, PP.nrm_tup, PP.nrm_lst, PP.nrm_dK, PP.setIO_ow, PP.setIO_io, PP.dupF_0, PP.dupF_1, PP.optP_f, PP.optP_t, PP.truD_bl, PP.truD_non, PP.truD_lst, PP.partD_eq, PP.ix_lst_0, PP.ix_lst_1, PP.ix_lst_2, PP.ix_lst_3, PP.ix_lst_4, PP.ix_lst_5, PP.ix_tup_0, PP.ix_tup_1, PP.ix_tup_2, PP.ix_tup_3, PP.ix_tup_4, PP.ix_tup_5, PP.ix_kst_0, PP.ix_kst_1, PP.ix_kst_2, PP.ix_kst_3, PP.ix_kst_4, PP.ix_kst_5, PP.set_l3_1, PP.set_l3_2, PP.bi_int_i, PP.bi_int_b, PP.bi_abs, PP.bi_len_l, PP.bi_len_t, PP.bi_isInt_non, PP.bi_isInt_bl, PP.bi_isInt_int, PP.bi_isInt_str, PP.bi_isInt_tup, PP.bi_isInt_lst, PP.bi_isInt_kst, PP.bi_isInt_dK, PP.bi_isBool_non, PP.bi_isBool_bl, PP.bi_isBool_int, PP.bi_isBool_str, PP.bi_isBool_tup, PP.bi_isBool_lst, PP.bi_isBool_kst, PP.bi_isBool_dK, PP.bi_isTuple_non, PP.bi_isTuple_bl, PP.bi_isTuple_int, PP.bi_isTuple_str, PP.bi_isTuple_tup, PP.bi_isTuple_lst, PP.bi_isTuple_kst, PP.bi_isTuple_dK, PP.bi_isList_non, PP.bi_isList_bl, PP.bi_isList_int, PP.bi_isList_str, PP.bi_isList_tup, PP.bi_isList_lst, PP.bi_isList_kst, PP.bi_isList_dK, PP.bi_isStr_non, PP.bi_isStr_bl, PP.bi_isStr_int, PP.bi_isStr_str, PP.bi_isStr_tup, PP.bi_isStr_lst, PP.bi_isStr_kst, PP.bi_isStr_dK, PP.le_lim, PP.lt_lim, PP.bi_isInt_dT, PP.bi_isBool_dT, PP.bi_isTuple_dT, PP.bi_isList_dT, PP.bi_isStr_dT, PP.pw_10_18, PP.o_gt_i, PP.o_lt_i, PP.o_ge_i, PP.o_le_i, PP.o_add_i, PP.o_sub_i, PP.o_neg_i, PP.o_eq_i, PP.o_ne_i, PP.o_eq_s, PP.o_ne_s, PP.o_eq_b, PP.ne_nil, PP.fldOf_o, PP.fldOf_e, PP.fldD_c, PP.putD_c, PP.putD_n, PP.isObj_o, PP.isObj_e, PP.isObj_non, PP.isObj_bl, PP.isObj_int, PP.isObj_str, PP.isObj_lst, PP.isObj_tup, PP.isObj_kst, PP.isObj_dK, PP.isCls_o, PP.isCls_e, PP.isCls_non, PP.isCls_bl, PP.isCls_int, PP.isCls_str, PP.isCls_lst, PP.isCls_tup, PP.isCls_kst, PP.isCls_dK, PP.runC_eq, PP.makeO_eq, PP.spec_eq, PP.allFz_0, PP.allFz_c, PP.recv_f, PP.recv_t, PP.ownOp_o, PP.ownIn_o, PP.ownNe_o, PP.opc_add, PP.opc_sub, PP.opc_mul, PP.opc_shl, PP.opc_shr, PP.opc_band, PP.opc_bor, PP.opc_lt, PP.opc_le, PP.opc_gt, PP.opc_ge, PP.opc_eq, PP.opc_ne, PP.okR_o, PP.okR_int, PP.okR_bl, PP.okR_non, PP.okR_str, PP.okR_lst, PP.okR_kst, PP.okR_tup, PP.cmp_lt, PP.cmp_le, PP.cmp_gt, PP.cmp_ge, PP.cmp_eq, PP.cmp_ne, PP.cmp_add, PP.cmp_sub, PP.cmp_band, PP.cmp_bor, PP.cmp_shl, PP.cmp_shr, PP.cmp_mul, PP.slOf_obj, PP.nrm_obj, PP.slOf_err, PP.hear_eq, PP.frz_0, PP.frz_c, PP.mask_c, PP.mask_n, PP.maskS_fz, PP.maskS_ow, PP.maskS_io, PP.maskS_un, PP.item_t, PP.item_l, PP.item_k, PP.bi_max2, PP.bi_min2, PP.bi_bool_b, PP.o_shr_i, PP.o_is_n, PP.o_isnot_n, PP.o_is_b, PP.o_isnot_b, PP.o_add_l, PP.o_mul_l, PP.set_l4_0, PP.set_l4_1, PP.set_l4_2, PP.set_l4_3, PP.ask_o, PP.outD_t, PP.outD_e, PP.keep_d, PP.noL_non, PP.noL_int, PP.noL_bl, PP.noL_str, PP.noL_tup, PP.noL_0, PP.noL_c, PP.evJ_0, PP.runF, PP.startE, PP.rdAll, PP.argsOf, PP.ioSlots, PP.putIO, PP.permL, PP.outsOf, PP.storeAll, PP.R.bind_ok, PP.R.bind_exc, PP.R.bind_bad, PP.orBad_some, PP.orBad_none, Int.reduceLE, Int.reduceLT, Int.reduceToNat, Int.reducePow, Int.reduceNeg, Int.reduceAdd, Int.reduceSub, Int.reduceMul, Int.reduceBEq, Int.cast_ofNat_Int, Int.natCast_zero, Int.natCast_one, Int.reduceBNe, Int.reduceEq, Int.reduceDiv, Int.reduceMod, Nat.reduceAdd, Nat.reduceMul, Nat.reduceSub, Nat.reducePow, Nat.reduceLeDiff, Nat.reduceLT, Nat.reduceEqDiff, Nat.reduceBEq, List.cons_append, List.nil_append, List.append_nil, Nat.zero_le, List.head?_cons, List.tail_cons, Option.map_some, Option.map_none, Option.bind_some, Option.bind_none, Bool.not_true, Bool.not_false, Bool.and_self, Bool.and_true, Bool.true_and, Bool.false_and, Bool.and_false, Bool.or_true, Bool.true_or, Bool.or_false, Bool.false_or, Bool.not_not, List.contains_cons, List.contains_nil, BEq.rfl, reduceCtorEq,
  eq_self, and_self, if_true, if_false, ite_true, ite_false, Bool.false_eq_true, reduceIte, List.length_cons, List.length_nil, List.filterMap_cons, List.filterMap_nil, List.getElem?_cons_zero, List.getElem?_cons_succ, List.map_cons, List.map_nil, List.replicate_succ, List.replicate_zero, List.flatten_cons, List.flatten_nil, List.reverse_cons, List.reverse_nil, decide_true, decide_false, Bool.not_eq_true, Bool.not_eq_false, Bool.cond_true, Bool.cond_false])
local macro_rules | `(tactic| walk_at "px") => `(tactic| simp -implicitDefEqProofs (disch := first | assumption | (with_reducible show (_ : Bool) = _; exact id rfl) | (with_reducible show (_ : Int) < _; omega) | (with_reducible show (_ : Int) ≤ _; omega) | (with_reducible show (_ : Nat) ≤ _; omega) | (with_reducible show (_ : Nat) < _; omega) | fail) only [*, PP.le_lim, PP.lt_lim, PP.o_shr_i, PP.shl_p, PP.mul_w, PP.fdiv_w, PP.mod_p, PP.pow_p, PP.nrm_mut, PP.ev_w0, PP.ev_w1, PP.ev_w2, PP.ev_w3, PP.ev_w4, PP.ev_w5, PP.ev_w6, PP.ev_w7, PP.ev_w8, PP.ev_w9, PP.ev_w10, PP.ev_w11, PP.ev_w12, PP.ev_w13, PP.ev_w14, PP.ev_w15, PP.ev_w16, PP.ev_w17, PP.ev_w18, PP.ev_w19, PP.ev_w20, PP.ev_w21, PP.ev_w22, PP.ev_w23, PP.ev_w24, PP.ev_w25, PP.ev_w26, PP.ev_w27, PP.ev_w28, PP.ev_w29, PP.ev_w30, PP.ev_w31, PP.ev_w32, PP.ev_w33, PP.ev_w34, PP.ev_w35, PP.ev_w36, PP.ev_w37, PP.evF_w0, PP.evF_w1, PP.evF_w2, PP.evR_w0, PP.evR_w1, PP.evR_w2, PP.evC_w0, PP.evC_w1, PP.evC_w2, PP.evC_w3, PP.ex_w0, PP.ex_w1, PP.ex_w2, PP.ex_w3, PP.ex_w4, PP.ex_w5, PP.ex_w6, PP.ex_w7, PP.ex_w8, PP.ex_w9, PP.ex_w10, PP.ex_w11, PP.ex_w12, PP.ex_w13, PP.ex_w14, PP.ex_w15, PP.ex_w16, PP.ex_w17, PP.ex_w18, PP.ex_w19, PP.ex_w20, PP.exs_w0, PP.exs_w1, PP.evT_w, PP.getS_0, PP.getS_s, PP.set_0, PP.set_s, PP.mul_1, PP.mul_m1, PP.fin_ok, PP.fin_exc, PP.finX_s, PP.finO_next, PP.finO_d, PP.finO_nw, PP.rdU_d, PP.rdU_nw, PP.rdU_sl, PP.rdS_fz, PP.rdS_ow, PP.rdS_io, PP.pend_d, PP.pend_nw, PP.pend_sl, PP.fzU_d, PP.fzU_nw, PP.fzU_sl, PP.asgU_d, PP.asgU_nw, PP.asgU_sl, PP.slOf_non, PP.slOf_bl, PP.slOf_int, PP.slOf_str, PP.slOf_tup, PP.slOf_lst, PP.slOf_dK, PP.isLs_ow, PP.isLs_io, PP.retU_d, PP.retU_nw, PP.retU_sl, PP.nrm_non, PP.nrm_bl, PP.nrm_int, PP.nrm_str, PP.nrm_tup, PP.nrm_lst, PP.nrm_dK, PP.setIO_ow, PP.setIO_io, PP.dupF_0, PP.dupF_1, PP.optP_f, PP.optP_t, PP.truD_bl, PP.truD_non, PP.truD_lst, PP.partD_eq, PP.ix_lst_0, PP.ix_lst_1, PP.ix_lst_2, PP.ix_lst_3, PP.ix_lst_4, PP.ix_lst_5, PP.ix_tup_0, PP.ix_tup_1, PP.ix_tup_2, PP.ix_tup_3, PP.ix_tup_4, PP.ix_tup_5, PP.ix_kst_0, PP.ix_kst_1, PP.ix_kst_2, PP.ix_kst_3, PP.ix_kst_4, PP.ix_kst_5, PP.set_l3_1, PP.set_l3_2, PP.bi_int_i, PP.bi_int_b, PP.bi_abs, PP.bi_len_l, PP.bi_len_t, PP.bi_isInt_non, PP.bi_isInt_bl, PP.bi_isInt_int, PP.bi_isInt_str, PP.bi_isInt_tup, PP.bi_isInt_lst, PP.bi_isInt_kst, PP.bi_isInt_dK, PP.bi_isBool_non, PP.bi_isBool_bl, PP.bi_isBool_int, PP.bi_isBool_str, PP.bi_isBool_tup, PP.bi_isBool_lst, PP.bi_isBool_kst, PP.bi_isBool_dK, PP.bi_isTuple_non, PP.bi_isTuple_bl, PP.bi_isTuple_int, PP.bi_isTuple_str, PP.bi_isTuple_tup, PP.bi_isTuple_lst, PP.bi_isTuple_kst, PP.bi_isTuple_dK, PP.bi_isList_non, PP.bi_isList_bl, PP.bi_isList_int, PP.bi_isList_str, PP.bi_isList_tup, PP.bi_isList_lst, PP.bi_isList_kst, PP.bi_isList_dK, PP.bi_isStr_non, PP.bi_isStr_bl, PP.bi_isStr_int, PP.bi_isStr_str, PP.bi_isStr_tup, PP.bi_isStr_lst, PP.bi_isStr_kst, PP.bi_isStr_dK, PP.le_lim, PP.lt_lim, PP.bi_isInt_dT, PP.bi_isBool_dT, PP.bi_isTuple_dT, PP.bi_isList_dT, PP.bi_isStr_dT, PP.pw_10_18, PP.o_gt_i, PP.o_lt_i, PP.o_ge_i, PP.o_le_i, PP.o_add_i, PP.o_sub_i, PP.o_neg_i, PP.o_eq_i, PP.o_ne_i, PP.o_eq_s, PP.o_ne_s, PP.o_eq_b, PP.ne_nil, PP.fldOf_o, PP.fldOf_e, PP.fldD_c, PP.putD_c, PP.putD_n, PP.isObj_o, PP.isObj_e, PP.isObj_non, PP.isObj_bl, PP.isObj_int, PP.isObj_str, PP.isObj_lst, PP.isObj_tup, PP.isObj_kst, PP.isObj_dK, PP.isCls_o, PP.isCls_e, PP.isCls_non, PP.isCls_bl, PP.isCls_int, PP.isCls_str, PP.isCls_lst, PP.isCls_tup, PP.isCls_kst, PP.isCls_dK, PP.runC_eq, PP.makeO_eq, PP.spec_eq, PP.allFz_0, PP.allFz_c, PP.recv_f, PP.recv_t, PP.ownOp_o, PP.ownIn_o, PP.ownNe_o, PP.opc_add, PP.opc_sub, PP.opc_mul, PP.opc_shl, PP.opc_shr, PP.opc_band, PP.opc_bor, PP.opc_lt, PP.opc_le, PP.opc_gt, PP.opc_ge, PP.opc_eq, PP.opc_ne, PP.okR_o, PP.okR_int, PP.okR_bl, PP.okR_non, PP.okR_str, PP.okR_lst, PP.okR_kst, PP.okR_tup, PP.cmp_lt, PP.cmp_le, PP.cmp_gt, PP.cmp_ge, PP.cmp_eq, PP.cmp_ne, PP.cmp_add, PP.cmp_sub, PP.cmp_band, PP.cmp_bor, PP.cmp_shl, PP.cmp_shr, PP.cmp_mul, PP.slOf_obj, PP.nrm_obj, PP.slOf_err, PP.hear_eq, PP.frz_0, PP.frz_c, PP.mask_c, PP.mask_n, PP.maskS_fz, PP.maskS_ow, PP.maskS_io, PP.maskS_un, PP.item_t, PP.item_l, PP.item_k, PP.bi_max2, PP.bi_min2, PP.bi_bool_b, PP.o_shr_i, PP.o_is_n, PP.o_isnot_n, PP.o_is_b, PP.o_isnot_b, PP.o_add_l, PP.o_mul_l, PP.set_l4_0, PP.set_l4_1, PP.set_l4_2, PP.set_l4_3, PP.ask_o, PP.outD_t, PP.outD_e, PP.keep_d, PP.noL_non, PP.noL_int, PP.noL_bl, PP.noL_str, PP.noL_tup, PP.noL_0, PP.noL_c, PP.evJ_0, PP.runF, PP.startE, PP.rdAll, PP.argsOf, PP.ioSlots, PP.putIO, PP.permL, PP.outsOf, PP.storeAll, PP.R.bind_ok, PP.R.bind_exc, PP.R.bind_bad, PP.orBad_some, PP.orBad_none, Int.reduceLE, Int.reduceLT, Int.reduceToNat, Int.reducePow, Int.reduceNeg, Int.reduceAdd, Int.reduceSub, Int.reduceMul, Int.reduceBEq, Int.cast_ofNat_Int, Int.natCast_zero, Int.natCast_one, Int.reduceBNe, Int.reduceEq, Int.reduceDiv, Int.reduceMod, Nat.reduceAdd, Nat.reduceMul, Nat.reduceSub, Nat.reducePow, Nat.reduceLeDiff, Nat.reduceLT, Nat.reduceEqDiff, Nat.reduceBEq, List.cons_append, List.nil_append, List.append_nil, Nat.zero_le, List.head?_cons, List.tail_cons, Option.map_some, Option.map_none, Option.bind_some, Option.bind_none, Bool.not_true, Bool.not_false, Bool.and_self, Bool.and_true, Bool.true_and, Bool.false_and, Bool.and_false, Bool.or_true, Bool.true_or, Bool.or_false, Bool.false_or, Bool.not_not, List.contains_cons, List.contains_nil, BEq.rfl, reduceCtorEq,
  eq_self, and_self, if_true, if_false, ite_true, ite_false, Bool.false_eq_true, reduceIte, List.length_cons, List.length_nil, List.filterMap_cons, List.filterMap_nil, List.getElem?_cons_zero, List.getElem?_cons_succ, List.map_cons, List.map_nil, List.replicate_succ, List.replicate_zero, List.flatten_cons, List.flatten_nil, List.reverse_cons, List.reverse_nil, decide_true, decide_false, Bool.not_eq_true, Bool.not_eq_false, Bool.cond_true, Bool.cond_false])
namespace PP
open PySem L2
/-- the state of the draws -/
def PenOk (n : Nat) (p : D) : Prop := ∃ (cs : List Int) (a g : Int), p = .lst [.lst (cs.map D.int), .int a, .int g] ∧ cs.length ≤ 63 ∧ 0 ≤ a ∧ a ≤ n
theorem PenOk.mono {n m : Nat} {p : D} (h : PenOk n p) (hm : n ≤ m) : PenOk m p := by
  obtain ⟨cs, a, g, h1, h2, h3, h4⟩ := h
  exact ⟨cs, a, g, h1, h2, h3, by omega⟩
/-- the laws' draw: 0 pen 1 many 2 digit 3 at 4 cell 5 great 6 mixed -/
def drawTail (m1 c3 c4 m2 c5 c6 c7 m3 : Int) : Ss := (.cons (.iff (.and (.op2 .lt (.var 3) (.bi .len (.cons (.ix (.var 0) (.cst (.int 0))) .nil))) (.op2 .ge (.bi .abs (.cons (.var 4) .nil)) (.op2 .pow (.cst (.int 10)) (.cst (.int 18))))) (.cons (.asg 5 (.op2 .add (.op2 .mul (.cst (.int 2)) (.op2 .sub (.bi .abs (.cons (.var 4) .nil)) (.op2 .pow (.cst (.int 10)) (.cst (.int 18))))) (.bi .int (.cons (.op2 .lt (.var 4) (.cst (.int 0))) .nil)))) (.cons (.setI 0 (.cst (.int 2)) (.op2 .fdiv (.bi .int (.cons (.var 5) .nil)) (.var 1))) (.cons (.ret (.op2 .mod (.bi .int (.cons (.var 5) .nil)) (.var 1))) .nil))) .nil) (.cons (.asg 6 (.op2 .mod (.bi .int (.cons (.op2 .pow (.op2 .add (.op2 .add (.op2 .mod (.bi .int (.cons (.var 4) .nil)) (.cst (.int m1))) (.op2 .mul (.cst (.int c3)) (.var 3))) (.cst (.int c4))) (.cst (.int 5))) .nil)) (.cst (.int m2)))) (.cons (.asg 6 (.op2 .mod (.bi .int (.cons (.op2 .pow (.op2 .add (.op2 .add (.op2 .mul (.var 6) (.op2 .add (.op2 .mul (.cst (.int 2)) (.var 3)) (.cst (.int c5)))) (.op2 .mul (.op2 .mul (.cst (.int c6)) (.var 3)) (.var 3))) (.cst (.int c7))) (.cst (.int 3))) .nil)) (.cst (.int m3)))) (.cons (.ret (.op2 .mod (.bi .int (.cons (.op2 .fdiv (.var 6) (.cst (.int 32))) .nil)) (.var 1))) .nil))))
def drawFn (c1 c2 m1 c3 c4 m2 c5 c6 c7 m3 : Int) : Fn := { n := 7, body := (.cons (.iff (.op2 .gt (.ix (.var 0) (.cst (.int 2))) (.cst (.int 0))) (.cons (.asg 2 (.op2 .mod (.bi .int (.cons (.ix (.var 0) (.cst (.int 2))) .nil)) (.var 1))) (.cons (.setI 0 (.cst (.int 2)) (.op2 .fdiv (.bi .int (.cons (.ix (.var 0) (.cst (.int 2))) .nil)) (.var 1))) (.cons (.ret (.var 2)) .nil))) .nil) (.cons (.asg 3 (.ix (.var 0) (.cst (.int 1)))) (.cons (.setI 0 (.cst (.int 1)) (.op2 .add (.var 3) (.cst (.int 1)))) (.cons (.asg 4 (.op2 .add (.op2 .mul (.cst (.int c1)) (.var 3)) (.cst (.int c2)))) (.cons (.iff (.op2 .ne (.ix (.var 0) (.cst (.int 0))) (.lst .nil)) (.cons (.asg 4 (.ix (.ix (.var 0) (.cst (.int 0))) (.op2 .mod (.bi .int (.cons (.var 3) .nil)) (.bi .len (.cons (.ix (.var 0) (.cst (.int 0))) .nil))))) .nil) .nil) (drawTail m1 c3 c4 m2 c5 c6 c7 m3)))))) }
theorem mulb {x y p q : Int} (hx : 0 ≤ x) (hxp : x ≤ p) (hy : 0 ≤ y) (hyq : y ≤ q) : 0 ≤ x * y ∧ x * y ≤ p * q := ⟨Int.mul_nonneg hx hy, Int.mul_le_mul hxp hyq hy (by omega)⟩
theorem tail_ok {cl : CallF} {m1 c3 c4 m2 c5 c6 c7 m3 : Int} (h2 : 0 < m1 ∧ m1 ≤ 2147483648) (h3 : 0 ≤ c3 ∧ c3 ≤ 1000000) (h4 : 0 ≤ c4 ∧ c4 ≤ 1000000) (h5 : 0 < m2 ∧ m2 ≤ 2147483648) (h6 : 0 ≤ c5 ∧ c5 ≤ 1000000) (h7 : 0 ≤ c6 ∧ c6 ≤ 1000000)
    (h8 : 0 ≤ c7 ∧ c7 ≤ 1000000) (h9 : 0 < m3) {cs : List D} {b g m a cell : Int} {x2 x5 x6 : Sl} (hm : 0 < m) (hm2 : m < 1073741824) (ha : 0 ≤ a) (ha2 : a ≤ 1000000) :
    ∃ r g' s2 s3 s4 s5 s6, exs cl (drawTail m1 c3 c4 m2 c5 c6 c7 m3) [.io (.lst [.lst cs, .int b, .int g]), .fz (.int m), x2, .fz (.int a), .fz (.int cell), x5, x6] = .ok (.ret (.nw (.int r))) [.io (.lst [.lst cs, .int b, .int g']), .fz (.int m), s2, s3, s4, s5, s6] ∧ 0 ≤ r ∧ r < m := by
  by_cases hb : (a < (cs.length : Int)) ∧ 1000000000000000000 ≤ (if cell < 0 then -cell else cell)
  · refine ⟨?r, ?g, ?s2, ?s3, ?s4, ?s5, ?s6, ?e, ?h1, ?h2⟩
    case e =>
      simp only [drawTail]
      walk_at "pp"
      simp only [hb.1, hb.2, decide_true]
      walk_at "pp"
      try simp only [hb.2, decide_true]
      try walk_at "pp"
      simp only [mul_l (i := 2) (by decide) (by decide)]
      walk_at "pp"
      simp only [fdiv_p hm hm2]
      walk_at "pp"
      simp only [mod_p hm]
      walk_at "pp"
      rfl
    case h1 => exact Int.emod_nonneg _ (by omega)
    case h2 => exact Int.emod_lt_of_pos _ hm
  · have k1 := Int.emod_nonneg cell (show m1 ≠ 0 by omega)
    have k2 := Int.emod_lt_of_pos cell h2.1
    have k3 := mulb h3.1 h3.2 ha ha2
    have b1 : (cell % m1 + c3 * a + c4).natAbs < 18446744073709551616 := by omega
    have k4 := Int.emod_nonneg ((cell % m1 + c3 * a + c4) ^ 5) (show m2 ≠ 0 by omega)
    have k5 := Int.emod_lt_of_pos ((cell % m1 + c3 * a + c4) ^ 5) h5.1
    have k6 := mulb (y := 2 * a + c5) (q := 3000000) k4 (Int.le_of_lt k5) (by omega) (by omega)
    have k7 := mulb h7.1 h7.2 ha ha2
    have k8 := mulb k7.1 k7.2 ha ha2
    have b2 : ((cell % m1 + c3 * a + c4) ^ 5 % m2 * (2 * a + c5) + c6 * a * a + c7).natAbs < 18446744073709551616 := by
      have k6' : (cell % m1 + c3 * a + c4) ^ 5 % m2 * (2 * a + c5) ≤ 2147483648 * 3000000 := Int.le_trans k6.2 (Int.mul_le_mul_of_nonneg_right h5.2 (by decide))
      omega
    refine ⟨((cell % m1 + c3 * a + c4) ^ 5 % m2 * (2 * a + c5) + c6 * a * a + c7) ^ 3 % m3 / 32 % m, g, x2, .fz (.int a), .fz (.int cell), x5, .fz (.int (((cell % m1 + c3 * a + c4) ^ 5 % m2 * (2 * a + c5) + c6 * a * a + c7) ^ 3 % m3)), ?e, Int.emod_nonneg _ (by omega), Int.emod_lt_of_pos _ hm⟩
    case e =>
      simp only [drawTail]
      by_cases hc : a < (cs.length : Int)
      · have hd : ¬ 1000000000000000000 ≤ (if cell < 0 then -cell else cell) := fun z => hb ⟨hc, z⟩
        walk_at "pp"
        simp only [hc, decide_true]
        walk_at "pp"
        simp only [hd, decide_false]
        walk_at "pp"
        simp only [mod_p h2.1]
        walk_at "pp"
        simp only [mul_l (i := c3) (j := a) (by omega) (by omega)]
        walk_at "pp"
        simp only [pow_p (i := cell % m1 + c3 * a + c4) (j := 5) (by decide) (by decide) b1]
        walk_at "pp"
        simp only [mod_p h5.1]
        walk_at "pp"
        simp only [mul_l (i := 2) (j := a) (by decide) (by decide)]
        walk_at "pp"
        simp only [mul_l (i := (cell % m1 + c3 * a + c4) ^ 5 % m2) (j := 2 * a + c5) (by omega) (by omega)]
        walk_at "pp"
        simp only [mul_l (i := c6) (j := a) (by omega) (by omega)]
        walk_at "pp"
        simp only [mul_l (i := c6 * a) (j := a) (by omega) (by omega)]
        walk_at "pp"
        simp only [pow_p (j := 3) (by decide) (by decide) b2]
        walk_at "pp"
        simp only [mod_p h9]
        walk_at "pp"
        simp only [fdiv_p (j := 32) (by decide) (by decide)]
        walk_at "pp"
        simp only [mod_p hm]
        walk_at "pp"
      · walk_at "pp"
        simp only [hc, decide_false]
        walk_at "pp"
        simp only [mod_p h2.1]
        walk_at "pp"
        simp only [mul_l (i := c3) (j := a) (by omega) (by omega)]
        walk_at "pp"
        simp only [pow_p (i := cell % m1 + c3 * a + c4) (j := 5) (by decide) (by decide) b1]
        walk_at "pp"
        simp only [mod_p h5.1]
        walk_at "pp"
        simp only [mul_l (i := 2) (j := a) (by decide) (by decide)]
        walk_at "pp"
        simp only [mul_l (i := (cell % m1 + c3 * a + c4) ^ 5 % m2) (j := 2 * a + c5) (by omega) (by omega)]
        walk_at "pp"
        simp only [mul_l (i := c6) (j := a) (by omega) (by omega)]
        walk_at "pp"
        simp only [mul_l (i := c6 * a) (j := a) (by omega) (by omega)]
        walk_at "pp"
        simp only [pow_p (j := 3) (by decide) (by decide) b2]
        walk_at "pp"
        simp only [mod_p h9]
        walk_at "pp"
        simp only [fdiv_p (j := 32) (by decide) (by decide)]
        walk_at "pp"
        simp only [mod_p hm]
        walk_at "pp"
theorem atI_mod {xs : List D} {a : Int} (h : 0 < xs.length) : ∃ d ∈ xs, L2.atI xs (a % (xs.length : Int)) = some d := by
  have h1 := Int.emod_nonneg a (show (xs.length : Int) ≠ 0 by omega)
  have h2 := Int.emod_lt_of_pos a (show (0 : Int) < xs.length by omega)
  have h3 : (a % (xs.length : Int)).toNat < xs.length := by omega
  refine ⟨xs[(a % (xs.length : Int)).toNat], List.getElem_mem h3, ?_⟩
  unfold L2.atI L2.ixN
  rw [if_pos h1, if_pos h2]
  simp [h3]
theorem draw_ok {cl : CallF} {c1 c2 m1 c3 c4 m2 c5 c6 c7 m3 : Int} (h1 : 0 ≤ c1 ∧ c1 ≤ 1000000) (h2 : 0 < m1 ∧ m1 ≤ 2147483648) (h3 : 0 ≤ c3 ∧ c3 ≤ 1000000) (h4 : 0 ≤ c4 ∧ c4 ≤ 1000000) (h5 : 0 < m2 ∧ m2 ≤ 2147483648) (h6 : 0 ≤ c5 ∧ c5 ≤ 1000000) (h7 : 0 ≤ c6 ∧ c6 ≤ 1000000)
    (h8 : 0 ≤ c7 ∧ c7 ≤ 1000000) (h9 : 0 < m3) {n : Nat} {p : D} {m : Int} (hp : PenOk n p) (hn : n ≤ 1000000) (hm : 0 < m) (hm2 : m < 1073741824) :
    ∃ r p', runF cl (drawFn c1 c2 m1 c3 c4 m2 c5 c6 c7 m3) [.io p, .fz (.int m)] = .ok (.d (.int r)) [p'] ∧ 0 ≤ r ∧ r < m ∧ PenOk (n + 1) p' := by
  obtain ⟨cs, a, g, rfl, hcs, ha, han⟩ := hp
  by_cases hg : 0 < g
  · refine ⟨g % m, .lst [.lst (cs.map D.int), .int a, .int (g / m)], ?_, Int.emod_nonneg _ (by omega), Int.emod_lt_of_pos _ hm, cs, a, _, rfl, hcs, ha, by omega⟩
    simp only [drawFn]
    walk_at "pp"
    simp only [hg, decide_true]
    simp only [mod_p hm]
    walk_at "pp"
    simp only [fdiv_p hm hm2]
    try walk_at "pp"
  · have key : ∀ cell : Int, ∃ r p', finR [Ar.io (.lst [.lst (cs.map D.int), .int a, .int g]), Ar.fz (.int m)] (exs cl (drawTail m1 c3 c4 m2 c5 c6 c7 m3) [.io (.lst [.lst (cs.map D.int), .int (a + 1), .int g]), .fz (.int m), .un, .fz (.int a), .fz (.int cell), .un, .un]) = .ok (.d (.int r)) [p'] ∧ 0 ≤ r ∧ r < m ∧ PenOk (n + 1) p' := by
      intro cell
      obtain ⟨r, g', s2, s3, s4, s5, s6, e, h1, h2⟩ := tail_ok (cl := cl) h2 h3 h4 h5 h6 h7 h8 h9 (cs := cs.map D.int) (b := a + 1) (g := g) (cell := cell) (x2 := .un) (x5 := .un) (x6 := .un) hm hm2 ha (by omega)
      refine ⟨r, .lst [.lst (cs.map D.int), .int (a + 1), .int g'], ?_, h1, h2, cs, a + 1, g', rfl, hcs, by omega, by omega⟩
      rw [e]
      rfl
    simp only [drawFn]
    walk_at "pp"
    simp only [hg, decide_false]
    walk_at "pp"
    simp only [mul_l (i := c1) (j := a) (by omega) (by omega)]
    walk_at "pp"
    cases cs with
    | nil =>
      simp only [List.isEmpty_nil]
      walk_at "pp"
      obtain ⟨r, p', e, h⟩ := key (c1 * a + c2)
      exact ⟨r, p', e, h⟩
    | cons c cs =>
      simp only [List.isEmpty_cons]
      walk_at "pp"
      have hl : (0 : Int) < ((((c :: cs).map D.int).length : Nat) : Int) := by simp <;> omega
      obtain ⟨d, hd, e1⟩ := atI_mod (xs := (c :: cs).map D.int) (a := a) (by simp)
      obtain ⟨v, _, rfl⟩ := List.mem_map.mp hd
      rw [show (List.map D.int cs).length + 1 = ((c :: cs).map D.int).length from rfl]
      simp only [mod_p hl]
      walk_at "pp"
      rw [show ixD (.lst (.int c :: cs.map D.int)) (.int (a % (((cs.map D.int).length + 1 : Nat) : Int))) = some (.int v) from e1]
      walk_at "pp"
      exact key v
theorem cut_all {xs : List D} {n : Nat} (h : xs.length ≤ n) : cutD xs none (some (n : Int)) = xs := by
  unfold cutD
  rw [HT.sIx_nat, HT.sIx_none, List.drop_zero, Nat.sub_zero, Nat.min_eq_right h, List.take_length]
/-- the laws' pen -/
def penFn : Fn := { n := 1, body := (.cons (.ret (.lst (.cons (.bi .list (.cons (.slice (.var 0) false true (.cst .non) (.cst (.int 63))) .nil)) (.cons (.cst (.int 0)) (.cons (.cst (.int 0)) .nil))))) .nil) }
theorem pen_ok {cl : CallF} {ns : List Int} (h : ns.length ≤ 63) : runF cl penFn [.fz (.kst (ns.map D.int))] = .ok (.nw (.lst [.lst (ns.map D.int), .int 0, .int 0])) [] ∧ PenOk 0 (.lst [.lst (ns.map D.int), .int 0, .int 0]) := by
  refine ⟨?_, ns, 0, 0, rfl, h, by omega, by omega⟩
  simp only [penFn]
  walk_at "pp"
  rw [show cutD (ns.map D.int) none (some 63) = ns.map D.int from cut_all (n := 63) (by simpa using h)]
  rw [show ∀ xs, biD .list [.lst xs] = some (.lst xs) from fun _ => rfl]
  walk_at "pp"
theorem ix_get {xs : List D} {r : Int} (h2 : 0 ≤ r) (h3 : r < (xs.length : Int)) : ∃ d ∈ xs, L2.atI xs r = some d := by
  have h5 : r.toNat < xs.length := by omega
  refine ⟨xs[r.toNat], List.getElem_mem h5, ?_⟩
  unfold L2.atI L2.ixN
  rw [if_pos h2, if_pos h3]
  simp [h5]
/-- the laws' pick, by the number of the draw -/
def pickFn (f : Nat) : Fn := { n := 2, body := (.cons (.ret (.ix (.var 1) (.call f [true, false] (.cons (.var 0) (.cons (.bi .len (.cons (.var 1) .nil)) .nil))))) .nil) }
def DrawOk (cl : CallF) (f : Nat) : Prop := ∀ (n : Nat) (p : D) (m : Int), PenOk n p → n ≤ 1000000 → 0 < m → m < 1073741824 → ∃ r p', cl f [.io p, .fz (.int m)] = .ok (.d (.int r)) [p'] ∧ 0 ≤ r ∧ r < m ∧ PenOk (n + 1) p'
def PickOk (cl : CallF) (f : Nat) : Prop := ∀ (n : Nat) (p : D) (xs : List D), PenOk n p → n ≤ 1000000 → 0 < xs.length → xs.length < 1000 → ∃ d ∈ xs, ∃ p', cl f [.io p, .fz (.lst xs)] = .ok (.d d) [p'] ∧ PenOk (n + 1) p'
theorem pick_ok {cl : CallF} {f : Nat} (hd : DrawOk cl f) {n : Nat} {p : D} {xs : List D} (hp : PenOk n p) (hn : n ≤ 1000000) (h0 : 0 < xs.length) (h1 : xs.length < 1000) :
    ∃ d ∈ xs, ∃ p', runF cl (pickFn f) [.io p, .fz (.lst xs)] = .ok (.d d) [p'] ∧ PenOk (n + 1) p' := by
  obtain ⟨r, p', e1, h2, h3, h4⟩ := hd n p (xs.length : Int) hp hn (by omega) (by omega)
  obtain ⟨d, hd, e2⟩ := ix_get h2 h3
  refine ⟨d, hd, p', ?_, h4⟩
  simp only [pickFn]
  walk_at "pp"
  rw [e1]
  walk_at "pp"
  rw [show ixD (.lst xs) (.int r) = some d from e2]
  walk_at "pp"
theorem use_pick {cl : CallF} {f : Nat} (h : PickOk cl f) {n : Nat} {p : D} {xs : List D} {rc : RC} (hr : cl f [.io p, .fz (.lst xs)] = rc) (hp : PenOk n p) (hn : n ≤ 1000000) (h0 : 0 < xs.length) (h1 : xs.length < 1000) : ∃ d ∈ xs, ∃ p', rc = .ok (.d d) [p'] ∧ PenOk (n + 1) p' := by
  subst hr
  exact h n p xs hp hn h0 h1
theorem use_draw {cl : CallF} {f : Nat} (h : DrawOk cl f) {n : Nat} {p : D} {m : Int} {rc : RC} (hr : cl f [.io p, .fz (.int m)] = rc) (hp : PenOk n p) (hn : n ≤ 1000000) (h0 : 0 < m) (h1 : m < 1073741824) : ∃ r p', rc = .ok (.d (.int r)) [p'] ∧ 0 ≤ r ∧ r < m ∧ PenOk (n + 1) p' := by
  subst hr
  exact h n p m hp hn h0 h1
theorem forD_inv {body : Env → R Fl} {i : Nat} (I : Nat → Env → Prop) (N : Nat) (xs : List D) : ∀ (j : Nat) (env : Env), j + xs.length ≤ N → I j env → (∀ (j : Nat) (d : D) (env : Env), j < N → d ∈ xs → I j env → ∃ env', body (env.set i (.fz d)) = .ok .next env' ∧ I (j + 1) env') → ∃ env', forD body i xs env = .ok .next env' ∧ I (j + xs.length) env' := by
  induction xs with
  | nil => intro j env _ h0 _; exact ⟨env, rfl, h0⟩
  | cons d r ih =>
    intro j env hN h0 hs
    rw [List.length_cons] at hN
    obtain ⟨env1, e1, h1⟩ := hs j d env (by omega) List.mem_cons_self h0
    obtain ⟨env2, e2, h2⟩ := ih (j + 1) env1 (by omega) h1 fun j d' env hj hd => hs j d' env hj (List.mem_cons_of_mem _ hd)
    refine ⟨env2, ?_, ?_⟩
    · simp only [forD, e1, R.bind_ok]
      exact e2
    · rw [List.length_cons, show j + (r.length + 1) = j + 1 + r.length by omega]
      exact h2
theorem use_for {body : Env → R Fl} {i : Nat} {xs : List D} {env : Env} {q : R Fl} (hq : forD body i xs env = q) (I : Nat → Env → Prop) (h0 : I 0 env) (hs : ∀ (j : Nat) (d : D) (env : Env), j < xs.length → d ∈ xs → I j env → ∃ env', body (env.set i (.fz d)) = .ok .next env' ∧ I (j + 1) env') : ∃ env', q = .ok .next env' ∧ I xs.length env' := by
  subst hq
  have := forD_inv I xs.length xs 0 env (by omega) h0 hs
  rwa [Nat.zero_add] at this
theorem calls_eq (fs : Nat → Option Fn) (k f : Nat) {F : Fn} (h : fs f = some F) (as : List Ar) (hs : F.star = none := by rfl) (hl : F.lam = false := by rfl) : calls fs (k + 1) f as = runF (calls fs k) F as := by
  simp only [calls, h, hs, hl]
theorem calls_fn (fs : Nat → Option Fn) (k f : Nat) {F : Fn} (h : fs f = some F) (hs : F.star = none := by rfl) (hl : F.lam = false := by rfl) : calls fs (k + 1) f = runF (calls fs k) F := funext fun as => calls_eq fs k f h as hs hl
theorem bools_py : ∀ bs : List Bool, toPyAll (bs.map D.bl) = some (bs.map PyData.bool)
  | [] => rfl
  | c :: cs => by simp only [List.map_cons, toPyAll, toPy, bools_py cs]
theorem repr_b (b : Bool) : biD .repr [.bl b] = some (.str (if b then "True" else "False")) := by cases b <;> rfl
theorem repr_4 (a b c d : Bool) : ∃ s, biD .repr [.lst [.bl a, .bl b, .bl c, .bl d]] = some (.str s) := by
  cases a <;> cases b <;> cases c <;> cases d <;> exact ⟨_, rfl⟩
theorem forD_ix {body : Env → R Fl} {i : Nat} (I : Nat → Env → Prop) : ∀ (xs : List D) (j : Nat) (env : Env), I j env → (∀ (m : Nat) (d : D) (env : Env), xs[m]? = some d → I (j + m) env → ∃ env', body (env.set i (.fz d)) = .ok .next env' ∧ I (j + m + 1) env') → ∃ env', forD body i xs env = .ok .next env' ∧ I (j + xs.length) env'
  | [], j, env, h0, _ => ⟨env, rfl, h0⟩
  | d :: r, j, env, h0, hs => by
    obtain ⟨env1, e1, h1⟩ := hs 0 d env rfl h0
    obtain ⟨env2, e2, h2⟩ := forD_ix I r (j + 1) env1 h1 fun m d' env' hm hi => by
      have := hs (m + 1) d' env' hm (by rw [show j + (m + 1) = j + 1 + m by omega]; exact hi)
      rw [show j + (m + 1) + 1 = j + 1 + m + 1 by omega] at this
      exact this
    refine ⟨env2, ?_, ?_⟩
    · simp only [forD, e1, R.bind_ok]
      exact e2
    · rw [List.length_cons, show j + (r.length + 1) = j + 1 + r.length by omega]
      exact h2
theorem use_forI {body : Env → R Fl} {i : Nat} {xs : List D} {env : Env} {q : R Fl} (hq : forD body i xs env = q) (I : Nat → Env → Prop) (h0 : I 0 env) (hs : ∀ (j : Nat) (d : D) (env : Env), xs[j]? = some d → I j env → ∃ env', body (env.set i (.fz d)) = .ok .next env' ∧ I (j + 1) env') : ∃ env', q = .ok .next env' ∧ I xs.length env' := by
  subst hq
  have := forD_ix (body := body) (i := i) I xs 0 env h0 fun m d env' hm hi => by
    rw [Nat.zero_add] at hi ⊢
    exact hs m d env' hm hi
  rwa [Nat.zero_add] at this
end PP
end

section
set_option maxHeartbeats 400000
local macro_rules | `(tactic| walk_at "pp") => `(tactic| simp -implicitDefEqProofs only [PP.ev_w0, PP.ev_w1, PP.ev_w2, PP.ev_w3, PP.ev_w4, PP.ev_w5, PP.ev_w6, PP.ev_w7, PP.ev_w8, PP.ev_w9, PP.ev_w10, PP.ev_w11, PP.ev_w12, PP.ev_w13, PP.ev_w14, PP.ev_w15, PP.ev_w16, PP.ev_w17, PP.ev_w18, PP.ev_w19, PP.ev_w20, PP.ev_w21, PP.ev_w22, PP.ev_w23, PP.ev_w24, PP.ev_w25, PP.ev_w26, PP.ev_w27, PP.ev_w28, PP.ev_w29, PP.ev_w30, PP.ev_w31, PP.ev_w32, PP.ev_w33, PP.ev_w34, PP.ev_w35, PP.ev_w36, PP.ev_w37, PP.evF_w0, PP.evF_w1, PP.evF_w2, PP.evR_w0, PP.evR_w1, PP.evR_w2, PP.evC_w0, PP.evC_w1, PP.evC_w2, PP.evC_w3, PP.ex_w0, PP.ex_w1, PP.ex_w2, PP.ex_w3, PP.ex_w4, PP.ex_w5, PP.ex_w6, PP.ex_w7, PP.ex_w8, PP.ex_w9, PP.ex_w10, PP.ex_w11, PP.ex_w12, PP.ex_w13, PP.ex_w14, PP.ex_w15, PP.ex_w16, PP.ex_w17, PP.ex_w18, PP.ex_w19, PP.ex_w20, PP.exs_w0, PP.exs_w1, PP.evT_w, PP.getS_0, PP.getS_s, PP.set_0, PP.set_s, PP.mul_1, PP.mul_m1, PP.fin_ok, PP.fin_exc, PP.finX_s, PP.finO_next, PP.finO_d, PP.finO_nw, PP.rdU_d, PP.rdU_nw, PP.rdU_sl, PP.rdS_fz, PP.rdS_ow, PP.rdS_io, PP.pend_d, PP.pend_nw, PP.pend_sl, PP.fzU_d, PP.fzU_nw, PP.fzU_sl, PP.asgU_d, PP.asgU_nw, PP.asgU_sl, PP.slOf_non, PP.slOf_bl, PP.slOf_int, PP.slOf_str, PP.slOf_tup, PP.slOf_lst, PP.slOf_dK, PP.isLs_ow, PP.isLs_io, PP.retU_d, PP.retU_nw, PP.retU_sl, PP.nrm_non, PP.nrm_bl, PP.nrm_int, PP.nrm_str, PP.nrm_tup, PP.nrm_lst, PP.nrm_dK, PP.setIO_ow, PP.setIO_io, PP.dupF_0, PP.dupF_1, PP.optP_f, PP.optP_t, PP.truD_bl, PP.truD_non, PP.truD_lst, PP.partD_eq, PP.ix_lst_0, PP.ix_lst_1, PP.ix_lst_2, PP.ix_lst_3, PP.ix_lst_4, PP.ix_lst_5, PP.ix_tup_0, PP.ix_tup_1, PP.ix_tup_2, PP.ix_tup_3, PP.ix_tup_4, PP.ix_tup_5, PP.ix_kst_0, PP.ix_kst_1, PP.ix_kst_2, PP.ix_kst_3, PP.ix_kst_4, PP.ix_kst_5, PP.set_l3_1, PP.set_l3_2, PP.bi_int_i, PP.bi_int_b, PP.bi_abs, PP.bi_len_l, PP.bi_len_t, PP.bi_isInt_non, PP.bi_isInt_bl, PP.bi_isInt_int, PP.bi_isInt_str, PP.bi_isInt_tup, PP.bi_isInt_lst, PP.bi_isInt_kst, PP.bi_isInt_dK, PP.bi_isBool_non, PP.bi_isBool_bl, PP.bi_isBool_int, PP.bi_isBool_str, PP.bi_isBool_tup, PP.bi_isBool_lst, PP.bi_isBool_kst, PP.bi_isBool_dK, PP.bi_isTuple_non, PP.bi_isTuple_bl, PP.bi_isTuple_int, PP.bi_isTuple_str, PP.bi_isTuple_tup, PP.bi_isTuple_lst, PP.bi_isTuple_kst, PP.bi_isTuple_dK, PP.bi_isList_non, PP.bi_isList_bl, PP.bi_isList_int, PP.bi_isList_str, PP.bi_isList_tup, PP.bi_isList_lst, PP.bi_isList_kst, PP.bi_isList_dK, PP.bi_isStr_non, PP.bi_isStr_bl, PP.bi_isStr_int, PP.bi_isStr_str, PP.bi_isStr_tup, PP.bi_isStr_lst, PP.bi_isStr_kst, PP.bi_isStr_dK, PP.le_lim, PP.lt_lim, PP.bi_isInt_dT, PP.bi_isBool_dT, PP.bi_isTuple_dT, PP.bi_isList_dT, PP.bi_isStr_dT, PP.pw_10_18, PP.o_gt_i, PP.o_lt_i, PP.o_ge_i, PP.o_le_i, PP.o_add_i, PP.o_sub_i, PP.o_neg_i, PP.o_eq_i, PP.o_ne_i, PP.o_eq_s, PP.o_ne_s, PP.o_eq_b, PP.ne_nil, PP.fldOf_o, PP.fldOf_e, PP.fldD_c, PP.putD_c, PP.putD_n, PP.isObj_o, PP.isObj_e, PP.isObj_non, PP.isObj_bl, PP.isObj_int, PP.isObj_str, PP.isObj_lst, PP.isObj_tup, PP.isObj_kst, PP.isObj_dK, PP.isCls_o, PP.isCls_e, PP.isCls_non, PP.isCls_bl, PP.isCls_int, PP.isCls_str, PP.isCls_lst, PP.isCls_tup, PP.isCls_kst, PP.isCls_dK, PP.runC_eq, PP.makeO_eq, PP.spec_eq, PP.allFz_0, PP.allFz_c, PP.recv_f, PP.recv_t, PP.ownOp_o, PP.ownIn_o, PP.ownNe_o, PP.opc_add, PP.opc_sub, PP.opc_mul, PP.opc_shl, PP.opc_shr, PP.opc_band, PP.opc_bor, PP.opc_lt, PP.opc_le, PP.opc_gt, PP.opc_ge, PP.opc_eq, PP.opc_ne, PP.okR_o, PP.okR_int, PP.okR_bl, PP.okR_non, PP.okR_str, PP.okR_lst, PP.okR_kst, PP.okR_tup, PP.cmp_lt, PP.cmp_le, PP.cmp_gt, PP.cmp_ge, PP.cmp_eq, PP.cmp_ne, PP.cmp_add, PP.cmp_sub, PP.cmp_band, PP.cmp_bor, PP.cmp_shl, PP.cmp_shr, PP.cmp_mul, PP.slOf_obj, PP.nrm_obj, PP.slOf_err, PP.hear_eq, PP.frz_0, PP.frz_c, PP.mask_c, PP.mask_n, PP.maskS_fz, PP.maskS_ow, PP.maskS_io, PP.maskS_un, PP.item_t, PP.item_l, PP.item_k, PP.bi_max2, PP.bi_min2, PP.bi_bool_b, PP.o_shr_i, PP.o_is_n, PP.o_isnot_n, PP.o_is_b, PP.o_isnot_b, PP.o_add_l, PP.o_mul_l, PP.set_l4_0, PP.set_l4_1, PP.set_l4_2, PP.set_l4_3, PP.ask_o, PP.outD_t, PP.outD_e, PP.keep_d, PP.noL_non, PP.noL_int, PP.noL_bl, PP.noL_str, PP.noL_tup, PP.noL_0, PP.noL_c, PP.evJ_0, PP.runF, PP.startE, PP.rdAll, PP.argsOf, PP.ioSlots, PP.putIO, PP.permL, PP.outsOf, PP.storeAll, PP.R.bind_ok, PP.R.bind_exc, PP.R.bind_bad, PP.orBad_some, PP.orBad_none, Int.reduceLE, Int.reduceLT, Int.reduceToNat, Int.reducePow, Int.reduceNeg, Int.reduceAdd, Int.reduceSub, Int.reduceMul, Int.reduceBEq, Int.cast_ofNat_Int, Int.natCast_zero, Int.natCast_one, Int.reduceBNe, Int.reduceEq, Int.reduceDiv, Int.reduceMod, Nat.reduceAdd, Nat.reduceMul, Nat.reduceSub, Nat.reducePow, Nat.reduceLeDiff, Nat.reduceLT, Nat.reduceEqDiff, Nat.reduceBEq, List.cons_append, List.nil_append, List.append_nil, Nat.zero_le, List.head?_cons, List.tail_cons, Option.map_some, Option.map_none, Option.bind_some, Option.bind_none, Bool.not_true, Bool.not_false, Bool.and_self, Bool.and_true, Bool.true_and, Bool.false_and, Bool.and_false, Bool.or_true, Bool.true_or, Bool.or_false, Bool.false_or, Bool.not_not, List.contains_cons, List.contains_nil, BEq.rfl, reduceCtorEq,
  eq_self, and_self, if_true, if_false, ite_true, ite_false, Bool.false_eq_true, reduceIte, List.length_cons, List.length_nil, List.filterMap_cons, List.filterMap_nil, List.getElem?_cons_zero, List.getElem?_cons_succ, List.map_cons, List.map_nil, List.replicate_succ, List.replicate_zero, List.flatten_cons, List.flatten_nil, List.reverse_cons, List.reverse_nil, decide_true, decide_false, Bool.not_eq_true, Bool.not_eq_false, Bool.cond_true, Bool.cond_false])
local macro_rules | `(tactic| walk_at "pq") => `(tactic| simp -implicitDefEqProofs (disch := first | assumption | (with_reducible show (_ : Bool) = _; exact id rfl) | (with_reducible show (_ : Int) < _; omega) | (with_reducible show (_ : Int) ≤ _; omega) | (with_reducible show (_ : Nat) ≤ _; omega) | (with_reducible show (_ : Nat) < _; omega) | exact id (by simp only [PP.wfD, PP.wfL, PP.dpD, PP.dpL, PP.ok_ofS, PP.ok_app, PP.ok_empty, Nat.max_self, Nat.zero_max, Nat.max_zero, Nat.reduceAdd, Nat.reduceLeDiff, Bool.and_self, PP.wf_ints, PP.dp_ints, Bool.and_true, Bool.true_and, *] ; done) | fail) only [*, PP.le_lim, PP.lt_lim, PP.o_shr_i, PP.shl_p, PP.mul_w, PP.fdiv_w, PP.mod_p, PP.pow_p, PP.nrm_mut, PP.op_eq, PP.op_ne, PP.v_str, PP.v_nil, PP.v_cons, PP.v_nc, PP.v_cn, PP.v_tup, PP.v_lst, PP.v_kl, PP.v_lt, PP.v_tl, PP.v_int, PP.v_bl, PP.v_nn, PP.v_nt, PP.v_tn, PP.v_ni, PP.v_in, PP.v_ints, PP.ev_w0, PP.ev_w1, PP.ev_w2, PP.ev_w3, PP.ev_w4, PP.ev_w5, PP.ev_w6, PP.ev_w7, PP.ev_w8, PP.ev_w9, PP.ev_w10, PP.ev_w11, PP.ev_w12, PP.ev_w13, PP.ev_w14, PP.ev_w15, PP.ev_w16, PP.ev_w17, PP.ev_w18, PP.ev_w19, PP.ev_w20, PP.ev_w21, PP.ev_w22, PP.ev_w23, PP.ev_w24, PP.ev_w25, PP.ev_w26, PP.ev_w27, PP.ev_w28, PP.ev_w29, PP.ev_w30, PP.ev_w31, PP.ev_w32, PP.ev_w33, PP.ev_w34, PP.ev_w35, PP.ev_w36, PP.ev_w37, PP.evF_w0, PP.evF_w1, PP.evF_w2, PP.evR_w0, PP.evR_w1, PP.evR_w2, PP.evC_w0, PP.evC_w1, PP.evC_w2, PP.evC_w3, PP.ex_w0, PP.ex_w1, PP.ex_w2, PP.ex_w3, PP.ex_w4, PP.ex_w5, PP.ex_w6, PP.ex_w7, PP.ex_w8, PP.ex_w9, PP.ex_w10, PP.ex_w11, PP.ex_w12, PP.ex_w13, PP.ex_w14, PP.ex_w15, PP.ex_w16, PP.ex_w17, PP.ex_w18, PP.ex_w19, PP.ex_w20, PP.exs_w0, PP.exs_w1, PP.evT_w, PP.getS_0, PP.getS_s, PP.set_0, PP.set_s, PP.mul_1, PP.mul_m1, PP.fin_ok, PP.fin_exc, PP.finX_s, PP.finO_next, PP.finO_d, PP.finO_nw, PP.rdU_d, PP.rdU_nw, PP.rdU_sl, PP.rdS_fz, PP.rdS_ow, PP.rdS_io, PP.pend_d, PP.pend_nw, PP.pend_sl, PP.fzU_d, PP.fzU_nw, PP.fzU_sl, PP.asgU_d, PP.asgU_nw, PP.asgU_sl, PP.slOf_non, PP.slOf_bl, PP.slOf_int, PP.slOf_str, PP.slOf_tup, PP.slOf_lst, PP.slOf_dK, PP.isLs_ow, PP.isLs_io, PP.retU_d, PP.retU_nw, PP.retU_sl, PP.nrm_non, PP.nrm_bl, PP.nrm_int, PP.nrm_str, PP.nrm_tup, PP.nrm_lst, PP.nrm_dK, PP.setIO_ow, PP.setIO_io, PP.dupF_0, PP.dupF_1, PP.optP_f, PP.optP_t, PP.truD_bl, PP.truD_non, PP.truD_lst, PP.partD_eq, PP.ix_lst_0, PP.ix_lst_1, PP.ix_lst_2, PP.ix_lst_3, PP.ix_lst_4, PP.ix_lst_5, PP.ix_tup_0, PP.ix_tup_1, PP.ix_tup_2, PP.ix_tup_3, PP.ix_tup_4, PP.ix_tup_5, PP.ix_kst_0, PP.ix_kst_1, PP.ix_kst_2, PP.ix_kst_3, PP.ix_kst_4, PP.ix_kst_5, PP.set_l3_1, PP.set_l3_2, PP.bi_int_i, PP.bi_int_b, PP.bi_abs, PP.bi_len_l, PP.bi_len_t, PP.bi_isInt_non, PP.bi_isInt_bl, PP.bi_isInt_int, PP.bi_isInt_str, PP.bi_isInt_tup, PP.bi_isInt_lst, PP.bi_isInt_kst, PP.bi_isInt_dK, PP.bi_isBool_non, PP.bi_isBool_bl, PP.bi_isBool_int, PP.bi_isBool_str, PP.bi_isBool_tup, PP.bi_isBool_lst, PP.bi_isBool_kst, PP.bi_isBool_dK, PP.bi_isTuple_non, PP.bi_isTuple_bl, PP.bi_isTuple_int, PP.bi_isTuple_str, PP.bi_isTuple_tup, PP.bi_isTuple_lst, PP.bi_isTuple_kst, PP.bi_isTuple_dK, PP.bi_isList_non, PP.bi_isList_bl, PP.bi_isList_int, PP.bi_isList_str, PP.bi_isList_tup, PP.bi_isList_lst, PP.bi_isList_kst, PP.bi_isList_dK, PP.bi_isStr_non, PP.bi_isStr_bl, PP.bi_isStr_int, PP.bi_isStr_str, PP.bi_isStr_tup, PP.bi_isStr_lst, PP.bi_isStr_kst, PP.bi_isStr_dK, PP.le_lim, PP.lt_lim, PP.bi_isInt_dT, PP.bi_isBool_dT, PP.bi_isTuple_dT, PP.bi_isList_dT, PP.bi_isStr_dT, PP.pw_10_18, PP.o_gt_i, PP.o_lt_i, PP.o_ge_i, PP.o_le_i, PP.o_add_i, PP.o_sub_i, PP.o_neg_i, PP.o_eq_i, PP.o_ne_i, PP.o_eq_s, PP.o_ne_s, PP.o_eq_b, PP.ne_nil, PP.fldOf_o, PP.fldOf_e, PP.fldD_c, PP.putD_c, PP.putD_n, PP.isObj_o, PP.isObj_e, PP.isObj_non, PP.isObj_bl, PP.isObj_int, PP.isObj_str, PP.isObj_lst, PP.isObj_tup, PP.isObj_kst, PP.isObj_dK, PP.isCls_o, PP.isCls_e, PP.isCls_non, PP.isCls_bl, PP.isCls_int, PP.isCls_str, PP.isCls_lst, PP.isCls_tup, PP.isCls_kst, PP.isCls_dK, PP.runC_eq, PP.makeO_eq, PP.spec_eq, PP.allFz_0, PP.allFz_c, PP.recv_f, PP.recv_t, PP.ownOp_o, PP.ownIn_o, PP.ownNe_o, PP.opc_add, PP.opc_sub, PP.opc_mul, PP.opc_shl, PP.opc_shr, PP.opc_band, PP.opc_bor, PP.opc_lt, PP.opc_le, PP.opc_gt, PP.opc_ge, PP.opc_eq, PP.opc_ne, PP.okR_o, PP.okR_int, PP.okR_bl, PP.okR_non, PP.okR_str, PP.okR_lst, PP.okR_kst, PP.okR_tup, PP.cmp_lt, PP.cmp_le, PP.cmp_gt, PP.cmp_ge, PP.cmp_eq, PP.cmp_ne, PP.cmp_add, PP.cmp_sub, PP.cmp_band, PP.cmp_bor, PP.cmp_shl, PP.cmp_shr, PP.cmp_mul, PP.slOf_obj, PP.nrm_obj, PP.slOf_err, PP.hear_eq, PP.frz_0, PP.frz_c, PP.mask_c, PP.mask_n, PP.maskS_fz, PP.maskS_ow, PP.maskS_io, PP.maskS_un, PP.item_t, PP.item_l, PP.item_k, PP.bi_max2, PP.bi_min2, PP.bi_bool_b, PP.o_shr_i, PP.o_is_n, PP.o_isnot_n, PP.o_is_b, PP.o_isnot_b, PP.o_add_l, PP.o_mul_l, PP.set_l4_0, PP.set_l4_1, PP.set_l4_2, PP.set_l4_3, PP.ask_o, PP.outD_t, PP.outD_e, PP.keep_d, PP.noL_non, PP.noL_int, PP.noL_bl, PP.noL_str, PP.noL_tup, PP.noL_0, PP.noL_c, PP.evJ_0, PP.runF, PP.startE, PP.rdAll, PP.argsOf, PP.ioSlots, PP.putIO, PP.permL, PP.outsOf, PP.storeAll, PP.R.bind_ok, PP.R.bind_exc, PP.R.bind_bad, PP.orBad_some, PP.orBad_none, Int.reduceLE, Int.reduceLT, Int.reduceToNat, Int.reducePow, Int.reduceNeg, Int.reduceAdd, Int.reduceSub, Int.reduceMul, Int.reduceBEq, Int.cast_ofNat_Int, Int.natCast_zero, Int.natCast_one, Int.reduceBNe, Int.reduceEq, Int.reduceDiv, Int.reduceMod, Nat.reduceAdd, Nat.reduceMul, Nat.reduceSub, Nat.reducePow, Nat.reduceLeDiff, Nat.reduceLT, Nat.reduceEqDiff, Nat.reduceBEq, List.cons_append, List.nil_append, List.append_nil, Nat.zero_le, List.head?_cons, List.tail_cons, Option.map_some, Option.map_none, Option.bind_some, Option.bind_none, Bool.not_true, Bool.not_false, Bool.and_self, Bool.and_true, Bool.true_and, Bool.false_and, Bool.and_false, Bool.or_true, Bool.true_or, Bool.or_false, Bool.false_or, Bool.not_not, List.contains_cons, List.contains_nil, BEq.rfl, reduceCtorEq,
  eq_self, and_self, if_true, if_false, ite_true, ite_false, Bool.false_eq_true, reduceIte, List.length_cons, List.length_nil, List.filterMap_cons, List.filterMap_nil, List.getElem?_cons_zero, List.getElem?_cons_succ, List.map_cons, List.map_nil, List.replicate_succ, List.replicate_zero, List.flatten_cons, List.flatten_nil, List.reverse_cons, List.reverse_nil, decide_true, decide_false, Bool.not_eq_true, Bool.not_eq_false, Bool.cond_true, Bool.cond_false])
local macro_rules | `(tactic| walk_at "px") => `(tactic| simp -implicitDefEqProofs (disch := first | assumption | (with_reducible show (_ : Bool) = _; exact id rfl) | (with_reducible show (_ : Int) < _; omega) | (with_reducible show (_ : Int) ≤ _; omega) | (with_reducible show (_ : Nat) ≤ _; omega) | (with_reducible show (_ : Nat) < _; omega) | fail) only [*, PP.le_lim, PP.lt_lim, PP.o_shr_i, PP.shl_p, PP.mul_w, PP.fdiv_w, PP.mod_p, PP.pow_p, PP.nrm_mut, PP.ev_w0, PP.ev_w1, PP.ev_w2, PP.ev_w3, PP.ev_w4, PP.ev_w5, PP.ev_w6, PP.ev_w7, PP.ev_w8, PP.ev_w9, PP.ev_w10, PP.ev_w11, PP.ev_w12, PP.ev_w13, PP.ev_w14, PP.ev_w15, PP.ev_w16, PP.ev_w17, PP.ev_w18, PP.ev_w19, PP.ev_w20, PP.ev_w21, PP.ev_w22, PP.ev_w23, PP.ev_w24, PP.ev_w25, PP.ev_w26, PP.ev_w27, PP.ev_w28, PP.ev_w29, PP.ev_w30, PP.ev_w31, PP.ev_w32, PP.ev_w33, PP.ev_w34, PP.ev_w35, PP.ev_w36, PP.ev_w37, PP.evF_w0, PP.evF_w1, PP.evF_w2, PP.evR_w0, PP.evR_w1, PP.evR_w2, PP.evC_w0, PP.evC_w1, PP.evC_w2, PP.evC_w3, PP.ex_w0, PP.ex_w1, PP.ex_w2, PP.ex_w3, PP.ex_w4, PP.ex_w5, PP.ex_w6, PP.ex_w7, PP.ex_w8, PP.ex_w9, PP.ex_w10, PP.ex_w11, PP.ex_w12, PP.ex_w13, PP.ex_w14, PP.ex_w15, PP.ex_w16, PP.ex_w17, PP.ex_w18, PP.ex_w19, PP.ex_w20, PP.exs_w0, PP.exs_w1, PP.evT_w, PP.getS_0, PP.getS_s, PP.set_0, PP.set_s, PP.mul_1, PP.mul_m1, PP.fin_ok, PP.fin_exc, PP.finX_s, PP.finO_next, PP.finO_d, PP.finO_nw, PP.rdU_d, PP.rdU_nw, PP.rdU_sl, PP.rdS_fz, PP.rdS_ow, PP.rdS_io, PP.pend_d, PP.pend_nw, PP.pend_sl, PP.fzU_d, PP.fzU_nw, PP.fzU_sl, PP.asgU_d, PP.asgU_nw, PP.asgU_sl, PP.slOf_non, PP.slOf_bl, PP.slOf_int, PP.slOf_str, PP.slOf_tup, PP.slOf_lst, PP.slOf_dK, PP.isLs_ow, PP.isLs_io, PP.retU_d, PP.retU_nw, PP.retU_sl, PP.nrm_non, PP.nrm_bl, PP.nrm_int, PP.nrm_str, PP.nrm_tup, PP.nrm_lst, PP.nrm_dK, PP.setIO_ow, PP.setIO_io, PP.dupF_0, PP.dupF_1, PP.optP_f, PP.optP_t, PP.truD_bl, PP.truD_non, PP.truD_lst, PP.partD_eq, PP.ix_lst_0, PP.ix_lst_1, PP.ix_lst_2, PP.ix_lst_3, PP.ix_lst_4, PP.ix_lst_5, PP.ix_tup_0, PP.ix_tup_1, PP.ix_tup_2, PP.ix_tup_3, PP.ix_tup_4, PP.ix_tup_5, PP.ix_kst_0, PP.ix_kst_1, PP.ix_kst_2, PP.ix_kst_3, PP.ix_kst_4, PP.ix_kst_5, PP.set_l3_1, PP.set_l3_2, PP.bi_int_i, PP.bi_int_b, PP.bi_abs, PP.bi_len_l, PP.bi_len_t, PP.bi_isInt_non, PP.bi_isInt_bl, PP.bi_isInt_int, PP.bi_isInt_str, PP.bi_isInt_tup, PP.bi_isInt_lst, PP.bi_isInt_kst, PP.bi_isInt_dK, PP.bi_isBool_non, PP.bi_isBool_bl, PP.bi_isBool_int, PP.bi_isBool_str, PP.bi_isBool_tup, PP.bi_isBool_lst, PP.bi_isBool_kst, PP.bi_isBool_dK, PP.bi_isTuple_non, PP.bi_isTuple_bl, PP.bi_isTuple_int, PP.bi_isTuple_str, PP.bi_isTuple_tup, PP.bi_isTuple_lst, PP.bi_isTuple_kst, PP.bi_isTuple_dK, PP.bi_isList_non, PP.bi_isList_bl, PP.bi_isList_int, PP.bi_isList_str, PP.bi_isList_tup, PP.bi_isList_lst, PP.bi_isList_kst, PP.bi_isList_dK, PP.bi_isStr_non, PP.bi_isStr_bl, PP.bi_isStr_int, PP.bi_isStr_str, PP.bi_isStr_tup, PP.bi_isStr_lst, PP.bi_isStr_kst, PP.bi_isStr_dK, PP.le_lim, PP.lt_lim, PP.bi_isInt_dT, PP.bi_isBool_dT, PP.bi_isTuple_dT, PP.bi_isList_dT, PP.bi_isStr_dT, PP.pw_10_18, PP.o_gt_i, PP.o_lt_i, PP.o_ge_i, PP.o_le_i, PP.o_add_i, PP.o_sub_i, PP.o_neg_i, PP.o_eq_i, PP.o_ne_i, PP.o_eq_s, PP.o_ne_s, PP.o_eq_b, PP.ne_nil, PP.fldOf_o, PP.fldOf_e, PP.fldD_c, PP.putD_c, PP.putD_n, PP.isObj_o, PP.isObj_e, PP.isObj_non, PP.isObj_bl, PP.isObj_int, PP.isObj_str, PP.isObj_lst, PP.isObj_tup, PP.isObj_kst, PP.isObj_dK, PP.isCls_o, PP.isCls_e, PP.isCls_non, PP.isCls_bl, PP.isCls_int, PP.isCls_str, PP.isCls_lst, PP.isCls_tup, PP.isCls_kst, PP.isCls_dK, PP.runC_eq, PP.makeO_eq, PP.spec_eq, PP.allFz_0, PP.allFz_c, PP.recv_f, PP.recv_t, PP.ownOp_o, PP.ownIn_o, PP.ownNe_o, PP.opc_add, PP.opc_sub, PP.opc_mul, PP.opc_shl, PP.opc_shr, PP.opc_band, PP.opc_bor, PP.opc_lt, PP.opc_le, PP.opc_gt, PP.opc_ge, PP.opc_eq, PP.opc_ne, PP.okR_o, PP.okR_int, PP.okR_bl, PP.okR_non, PP.okR_str, PP.okR_lst, PP.okR_kst, PP.okR_tup, PP.cmp_lt, PP.cmp_le, PP.cmp_gt, PP.cmp_ge, PP.cmp_eq, PP.cmp_ne, PP.cmp_add, PP.cmp_sub, PP.cmp_band, PP.cmp_bor, PP.cmp_shl, PP.cmp_shr, PP.cmp_mul, PP.slOf_obj, PP.nrm_obj, PP.slOf_err, PP.hear_eq, PP.frz_0, PP.frz_c, PP.mask_c, PP.mask_n, PP.maskS_fz, PP.maskS_ow, PP.maskS_io, PP.maskS_un, PP.item_t, PP.item_l, PP.item_k, PP.bi_max2, PP.bi_min2, PP.bi_bool_b, PP.o_shr_i, PP.o_is_n, PP.o_isnot_n, PP.o_is_b, PP.o_isnot_b, PP.o_add_l, PP.o_mul_l, PP.set_l4_0, PP.set_l4_1, PP.set_l4_2, PP.set_l4_3, PP.ask_o, PP.outD_t, PP.outD_e, PP.keep_d, PP.noL_non, PP.noL_int, PP.noL_bl, PP.noL_str, PP.noL_tup, PP.noL_0, PP.noL_c, PP.evJ_0, PP.runF, PP.startE, PP.rdAll, PP.argsOf, PP.ioSlots, PP.putIO, PP.permL, PP.outsOf, PP.storeAll, PP.R.bind_ok, PP.R.bind_exc, PP.R.bind_bad, PP.orBad_some, PP.orBad_none, Int.reduceLE, Int.reduceLT, Int.reduceToNat, Int.reducePow, Int.reduceNeg, Int.reduceAdd, Int.reduceSub, Int.reduceMul, Int.reduceBEq, Int.cast_ofNat_Int, Int.natCast_zero, Int.natCast_one, Int.reduceBNe, Int.reduceEq, Int.reduceDiv, Int.reduceMod, Nat.reduceAdd, Nat.reduceMul, Nat.reduceSub, Nat.reducePow, Nat.reduceLeDiff, Nat.reduceLT, Nat.reduceEqDiff, Nat.reduceBEq, List.cons_append, List.nil_append, List.append_nil, Nat.zero_le, List.head?_cons, List.tail_cons, Option.map_some, Option.map_none, Option.bind_some, Option.bind_none, Bool.not_true, Bool.not_false, Bool.and_self, Bool.and_true, Bool.true_and, Bool.false_and, Bool.and_false, Bool.or_true, Bool.true_or, Bool.or_false, Bool.false_or, Bool.not_not, List.contains_cons, List.contains_nil, BEq.rfl, reduceCtorEq,
  eq_self, and_self, if_true, if_false, ite_true, ite_false, Bool.false_eq_true, reduceIte, List.length_cons, List.length_nil, List.filterMap_cons, List.filterMap_nil, List.getElem?_cons_zero, List.getElem?_cons_succ, List.map_cons, List.map_nil, List.replicate_succ, List.replicate_zero, List.flatten_cons, List.flatten_nil, List.reverse_cons, List.reverse_nil, decide_true, decide_false, Bool.not_eq_true, Bool.not_eq_false, Bool.cond_true, Bool.cond_false])
namespace PP
open PySem L2
/-! specs: checks.py -/
def isI : D → Bool | .int _ => true | _ => false
def btw (d : D) (lo hi : Int) : Bool := match d with | .int i => decide (lo ≤ i) && decide (i ≤ hi) | _ => false
def isP : D → Bool
  | .tup [a, b] => isI a && isI b
  | _ => false
/-- no class, no class in a pair -/
def okV : D → Bool
  | .cls _ => false
  | .tup [a, b] => !isClsD a && !isClsD b
  | _ => true
theorem okV.nc {d : D} (h : okV d = true) : isClsD d = false := by cases d <;> first | rfl | cases h
abbrev Gf := List Ar → RC
abbrev S_is_integer (g : Gf) : Prop := ∀ d, isClsD d = false → g [.fz d] = .ok (.d (.bl (isI d))) []
abbrev S_is_between (g : Gf) : Prop := ∀ d lo hi, isClsD d = false → g [.fz d, .fz (.int lo), .fz (.int hi)] = .ok (.d (.bl (btw d lo hi))) []
abbrev S_is_level (g : Gf) : Prop := ∀ d, isClsD d = false → g [.fz d] = .ok (.d (.bl (btw d 0 100))) []
abbrev S_is_pair (g : Gf) : Prop := ∀ d, okV d = true → g [.fz d] = .ok (.d (.bl (isP d))) []
theorem is_integer_ok {cl : CallF} : S_is_integer (runF cl F_is_integer) := by
  intro d h
  cases d with
  | cls _ => cases h
  | _ => rfl
theorem is_between_ok {cl : CallF} (h0 : S_is_integer (cl 0)) : S_is_between (runF cl F_is_between) := by
  intro d lo hi h
  simp only [F_is_between]
  walk_at "pp"
  rw [h0 d h]
  walk_at "pp"
  cases d with
  | cls _ => cases h
  | int i =>
    simp only [isI, btw]
    walk_at "pp"
    by_cases h1 : lo ≤ i
    · simp only [h1, decide_true]
      walk_at "pp"
    · simp only [h1, decide_false]
      walk_at "pp"
  | _ =>
    simp only [isI, btw]
    walk_at "pp"
theorem is_level_ok {cl : CallF} (h1 : S_is_between (cl 1)) : S_is_level (runF cl F_is_level) := by
  intro d h
  simp only [F_is_level]
  walk_at "pp"
  rw [h1 d _ _ h]
  walk_at "pp"
theorem isP_2 (a b : D) : isP (.tup [a, b]) = (isI a && isI b) := rfl
theorem is_pair_ok {cl : CallF} (h0 : S_is_integer (cl 0)) : S_is_pair (runF cl F_is_pair) := by
  intro d h
  simp only [F_is_pair]
  walk_at "pp"
  cases d with
  | cls _ => cases h
  | tup xs =>
    walk_at "pp"
    match xs, h with
    | [], _ => walk_at "pp"; rfl
    | [a], _ => walk_at "pp"; rfl
    | [a, b], h =>
      simp only [okV, Bool.and_eq_true, Bool.not_eq_true'] at h
      walk_at "pp"
      rw [h0 a h.1, isP_2]
      walk_at "pp"
      cases isI a with
      | false => walk_at "pp"
      | true =>
        walk_at "pp"
        rw [h0 b h.2]
        walk_at "pp"
    | a :: b :: c :: l, _ =>
      have z : ((((a :: b :: c :: l).length : Nat) : Int) == 2) = false := by simp <;> omega
      walk_at "pp"
      simp only [List.length_cons] at z
      simp only [List.length_cons, z]
      walk_at "pp"
      rfl
  | _ => rfl
/-- what a def may give that another one hands on as it is -/
def okRC : RC → Prop
  | .ok (.d _) [] => True
  | .ok (.nw x) [] => isMutD x = true
  | .exc _ [] => True
  | _ => False
theorem okRC.cases {r : RC} (h : okRC r) : (∃ d, r = .ok (.d d) []) ∨ (∃ d, isMutD d = true ∧ r = .ok (.nw d) []) ∨ ∃ x, r = .exc x [] := by
  match r, h with
  | .ok (.d d) [], _ => exact .inl ⟨d, rfl⟩
  | .ok (.nw d) [], h => exact .inr (.inl ⟨d, h, rfl⟩)
  | .exc x [], _ => exact .inr (.inr ⟨x, rfl⟩)
end PP
end

section
set_option maxHeartbeats 400000
local macro_rules | `(tactic| walk_at "pp") => `(tactic| simp -implicitDefEqProofs only [PP.ev_w0, PP.ev_w1, PP.ev_w2, PP.ev_w3, PP.ev_w4, PP.ev_w5, PP.ev_w6, PP.ev_w7, PP.ev_w8, PP.ev_w9, PP.ev_w10, PP.ev_w11, PP.ev_w12, PP.ev_w13, PP.ev_w14, PP.ev_w15, PP.ev_w16, PP.ev_w17, PP.ev_w18, PP.ev_w19, PP.ev_w20, PP.ev_w21, PP.ev_w22, PP.ev_w23, PP.ev_w24, PP.ev_w25, PP.ev_w26, PP.ev_w27, PP.ev_w28, PP.ev_w29, PP.ev_w30, PP.ev_w31, PP.ev_w32, PP.ev_w33, PP.ev_w34, PP.ev_w35, PP.ev_w36, PP.ev_w37, PP.evF_w0, PP.evF_w1, PP.evF_w2, PP.evR_w0, PP.evR_w1, PP.evR_w2, PP.evC_w0, PP.evC_w1, PP.evC_w2, PP.evC_w3, PP.ex_w0, PP.ex_w1, PP.ex_w2, PP.ex_w3, PP.ex_w4, PP.ex_w5, PP.ex_w6, PP.ex_w7, PP.ex_w8, PP.ex_w9, PP.ex_w10, PP.ex_w11, PP.ex_w12, PP.ex_w13, PP.ex_w14, PP.ex_w15, PP.ex_w16, PP.ex_w17, PP.ex_w18, PP.ex_w19, PP.ex_w20, PP.exs_w0, PP.exs_w1, PP.evT_w, PP.getS_0, PP.getS_s, PP.set_0, PP.set_s, PP.mul_1, PP.mul_m1, PP.fin_ok, PP.fin_exc, PP.finX_s, PP.finO_next, PP.finO_d, PP.finO_nw, PP.rdU_d, PP.rdU_nw, PP.rdU_sl, PP.rdS_fz, PP.rdS_ow, PP.rdS_io, PP.pend_d, PP.pend_nw, PP.pend_sl, PP.fzU_d, PP.fzU_nw, PP.fzU_sl, PP.asgU_d, PP.asgU_nw, PP.asgU_sl, PP.slOf_non, PP.slOf_bl, PP.slOf_int, PP.slOf_str, PP.slOf_tup, PP.slOf_lst, PP.slOf_dK, PP.isLs_ow, PP.isLs_io, PP.retU_d, PP.retU_nw, PP.retU_sl, PP.nrm_non, PP.nrm_bl, PP.nrm_int, PP.nrm_str, PP.nrm_tup, PP.nrm_lst, PP.nrm_dK, PP.setIO_ow, PP.setIO_io, PP.dupF_0, PP.dupF_1, PP.optP_f, PP.optP_t, PP.truD_bl, PP.truD_non, PP.truD_lst, PP.partD_eq, PP.ix_lst_0, PP.ix_lst_1, PP.ix_lst_2, PP.ix_lst_3, PP.ix_lst_4, PP.ix_lst_5, PP.ix_tup_0, PP.ix_tup_1, PP.ix_tup_2, PP.ix_tup_3, PP.ix_tup_4, PP.ix_tup_5, PP.ix_kst_0, PP.ix_kst_1, PP.ix_kst_2, PP.ix_kst_3, PP.ix_kst_4, PP.ix_kst_5, PP.set_l3_1, PP.set_l3_2, PP.bi_int_i, PP.bi_int_b, PP.bi_abs, PP.bi_len_l, PP.bi_len_t, PP.bi_isInt_non, PP.bi_isInt_bl, PP.bi_isInt_int, PP.bi_isInt_str, PP.bi_isInt_tup, PP.bi_isInt_lst, PP.bi_isInt_kst, PP.bi_isInt_dK, PP.bi_isBool_non, PP.bi_isBool_bl, PP.bi_isBool_int, PP.bi_isBool_str, PP.bi_isBool_tup, PP.bi_isBool_lst, PP.bi_isBool_kst, PP.bi_isBool_dK, PP.bi_isTuple_non, PP.bi_isTuple_bl, PP.bi_isTuple_int, PP.bi_isTuple_str, PP.bi_isTuple_tup, PP.bi_isTuple_lst, PP.bi_isTuple_kst, PP.bi_isTuple_dK, PP.bi_isList_non, PP.bi_isList_bl, PP.bi_isList_int, PP.bi_isList_str, PP.bi_isList_tup, PP.bi_isList_lst, PP.bi_isList_kst, PP.bi_isList_dK, PP.bi_isStr_non, PP.bi_isStr_bl, PP.bi_isStr_int, PP.bi_isStr_str, PP.bi_isStr_tup, PP.bi_isStr_lst, PP.bi_isStr_kst, PP.bi_isStr_dK, PP.le_lim, PP.lt_lim, PP.bi_isInt_dT, PP.bi_isBool_dT, PP.bi_isTuple_dT, PP.bi_isList_dT, PP.bi_isStr_dT, PP.pw_10_18, PP.o_gt_i, PP.o_lt_i, PP.o_ge_i, PP.o_le_i, PP.o_add_i, PP.o_sub_i, PP.o_neg_i, PP.o_eq_i, PP.o_ne_i, PP.o_eq_s, PP.o_ne_s, PP.o_eq_b, PP.ne_nil, PP.fldOf_o, PP.fldOf_e, PP.fldD_c, PP.putD_c, PP.putD_n, PP.isObj_o, PP.isObj_e, PP.isObj_non, PP.isObj_bl, PP.isObj_int, PP.isObj_str, PP.isObj_lst, PP.isObj_tup, PP.isObj_kst, PP.isObj_dK, PP.isCls_o, PP.isCls_e, PP.isCls_non, PP.isCls_bl, PP.isCls_int, PP.isCls_str, PP.isCls_lst, PP.isCls_tup, PP.isCls_kst, PP.isCls_dK, PP.runC_eq, PP.makeO_eq, PP.spec_eq, PP.allFz_0, PP.allFz_c, PP.recv_f, PP.recv_t, PP.ownOp_o, PP.ownIn_o, PP.ownNe_o, PP.opc_add, PP.opc_sub, PP.opc_mul, PP.opc_shl, PP.opc_shr, PP.opc_band, PP.opc_bor, PP.opc_lt, PP.opc_le, PP.opc_gt, PP.opc_ge, PP.opc_eq, PP.opc_ne, PP.okR_o, PP.okR_int, PP.okR_bl, PP.okR_non, PP.okR_str, PP.okR_lst, PP.okR_kst, PP.okR_tup, PP.cmp_lt, PP.cmp_le, PP.cmp_gt, PP.cmp_ge, PP.cmp_eq, PP.cmp_ne, PP.cmp_add, PP.cmp_sub, PP.cmp_band, PP.cmp_bor, PP.cmp_shl, PP.cmp_shr, PP.cmp_mul, PP.slOf_obj, PP.nrm_obj, PP.slOf_err, PP.hear_eq, PP.frz_0, PP.frz_c, PP.mask_c, PP.mask_n, PP.maskS_fz, PP.maskS_ow, PP.maskS_io, PP.maskS_un, PP.item_t, PP.item_l, PP.item_k, PP.bi_max2, PP.bi_min2, PP.bi_bool_b, PP.o_shr_i, PP.o_is_n, PP.o_isnot_n, PP.o_is_b, PP.o_isnot_b, PP.o_add_l, PP.o_mul_l, PP.set_l4_0, PP.set_l4_1, PP.set_l4_2, PP.set_l4_3, PP.ask_o, PP.outD_t, PP.outD_e, PP.keep_d, PP.noL_non, PP.noL_int, PP.noL_bl, PP.noL_str, PP.noL_tup, PP.noL_0, PP.noL_c, PP.evJ_0, PP.runF, PP.startE, PP.rdAll, PP.argsOf, PP.ioSlots, PP.putIO, PP.permL, PP.outsOf, PP.storeAll, PP.R.bind_ok, PP.R.bind_exc, PP.R.bind_bad, PP.orBad_some, PP.orBad_none, Int.reduceLE, Int.reduceLT, Int.reduceToNat, Int.reducePow, Int.reduceNeg, Int.reduceAdd, Int.reduceSub, Int.reduceMul, Int.reduceBEq, Int.cast_ofNat_Int, Int.natCast_zero, Int.natCast_one, Int.reduceBNe, Int.reduceEq, Int.reduceDiv, Int.reduceMod, Nat.reduceAdd, Nat.reduceMul, Nat.reduceSub, Nat.reducePow, Nat.reduceLeDiff, Nat.reduceLT, Nat.reduceEqDiff, Nat.reduceBEq, List.cons_append, List.nil_append, List.append_nil, Nat.zero_le, List.head?_cons, List.tail_cons, Option.map_some, Option.map_none, Option.bind_some, Option.bind_none, Bool.not_true, Bool.not_false, Bool.and_self, Bool.and_true, Bool.true_and, Bool.false_and, Bool.and_false, Bool.or_true, Bool.true_or, Bool.or_false, Bool.false_or, Bool.not_not, List.contains_cons, List.contains_nil, BEq.rfl, reduceCtorEq,
  eq_self, and_self, if_true, if_false, ite_true, ite_false, Bool.false_eq_true, reduceIte, List.length_cons, List.length_nil, List.filterMap_cons, List.filterMap_nil, List.getElem?_cons_zero, List.getElem?_cons_succ, List.map_cons, List.map_nil, List.replicate_succ, List.replicate_zero, List.flatten_cons, List.flatten_nil, List.reverse_cons, List.reverse_nil, decide_true, decide_false, Bool.not_eq_true, Bool.not_eq_false, Bool.cond_true, Bool.cond_false])
local macro_rules | `(tactic| walk_at "pq") => `(tactic| simp -implicitDefEqProofs (disch := first | assumption | (with_reducible show (_ : Bool) = _; exact id rfl) | (with_reducible show (_ : Int) < _; omega) | (with_reducible show (_ : Int) ≤ _; omega) | (with_reducible show (_ : Nat) ≤ _; omega) | (with_reducible show (_ : Nat) < _; omega) | exact id (by simp only [PP.wfD, PP.wfL, PP.dpD, PP.dpL, PP.ok_ofS, PP.ok_app, PP.ok_empty, Nat.max_self, Nat.zero_max, Nat.max_zero, Nat.reduceAdd, Nat.reduceLeDiff, Bool.and_self, PP.wf_ints, PP.dp_ints, Bool.and_true, Bool.true_and, *] ; done) | fail) only [*, PP.le_lim, PP.lt_lim, PP.o_shr_i, PP.shl_p, PP.mul_w, PP.fdiv_w, PP.mod_p, PP.pow_p, PP.nrm_mut, PP.op_eq, PP.op_ne, PP.v_str, PP.v_nil, PP.v_cons, PP.v_nc, PP.v_cn, PP.v_tup, PP.v_lst, PP.v_kl, PP.v_lt, PP.v_tl, PP.v_int, PP.v_bl, PP.v_nn, PP.v_nt, PP.v_tn, PP.v_ni, PP.v_in, PP.v_ints, PP.ev_w0, PP.ev_w1, PP.ev_w2, PP.ev_w3, PP.ev_w4, PP.ev_w5, PP.ev_w6, PP.ev_w7, PP.ev_w8, PP.ev_w9, PP.ev_w10, PP.ev_w11, PP.ev_w12, PP.ev_w13, PP.ev_w14, PP.ev_w15, PP.ev_w16, PP.ev_w17, PP.ev_w18, PP.ev_w19, PP.ev_w20, PP.ev_w21, PP.ev_w22, PP.ev_w23, PP.ev_w24, PP.ev_w25, PP.ev_w26, PP.ev_w27, PP.ev_w28, PP.ev_w29, PP.ev_w30, PP.ev_w31, PP.ev_w32, PP.ev_w33, PP.ev_w34, PP.ev_w35, PP.ev_w36, PP.ev_w37, PP.evF_w0, PP.evF_w1, PP.evF_w2, PP.evR_w0, PP.evR_w1, PP.evR_w2, PP.evC_w0, PP.evC_w1, PP.evC_w2, PP.evC_w3, PP.ex_w0, PP.ex_w1, PP.ex_w2, PP.ex_w3, PP.ex_w4, PP.ex_w5, PP.ex_w6, PP.ex_w7, PP.ex_w8, PP.ex_w9, PP.ex_w10, PP.ex_w11, PP.ex_w12, PP.ex_w13, PP.ex_w14, PP.ex_w15, PP.ex_w16, PP.ex_w17, PP.ex_w18, PP.ex_w19, PP.ex_w20, PP.exs_w0, PP.exs_w1, PP.evT_w, PP.getS_0, PP.getS_s, PP.set_0, PP.set_s, PP.mul_1, PP.mul_m1, PP.fin_ok, PP.fin_exc, PP.finX_s, PP.finO_next, PP.finO_d, PP.finO_nw, PP.rdU_d, PP.rdU_nw, PP.rdU_sl, PP.rdS_fz, PP.rdS_ow, PP.rdS_io, PP.pend_d, PP.pend_nw, PP.pend_sl, PP.fzU_d, PP.fzU_nw, PP.fzU_sl, PP.asgU_d, PP.asgU_nw, PP.asgU_sl, PP.slOf_non, PP.slOf_bl, PP.slOf_int, PP.slOf_str, PP.slOf_tup, PP.slOf_lst, PP.slOf_dK, PP.isLs_ow, PP.isLs_io, PP.retU_d, PP.retU_nw, PP.retU_sl, PP.nrm_non, PP.nrm_bl, PP.nrm_int, PP.nrm_str, PP.nrm_tup, PP.nrm_lst, PP.nrm_dK, PP.setIO_ow, PP.setIO_io, PP.dupF_0, PP.dupF_1, PP.optP_f, PP.optP_t, PP.truD_bl, PP.truD_non, PP.truD_lst, PP.partD_eq, PP.ix_lst_0, PP.ix_lst_1, PP.ix_lst_2, PP.ix_lst_3, PP.ix_lst_4, PP.ix_lst_5, PP.ix_tup_0, PP.ix_tup_1, PP.ix_tup_2, PP.ix_tup_3, PP.ix_tup_4, PP.ix_tup_5, PP.ix_kst_0, PP.ix_kst_1, PP.ix_kst_2, PP.ix_kst_3, PP.ix_kst_4, PP.ix_kst_5, PP.set_l3_1, PP.set_l3_2, PP.bi_int_i, PP.bi_int_b, PP.bi_abs, PP.bi_len_l, PP.bi_len_t, PP.bi_isInt_non, PP.bi_isInt_bl, PP.bi_isInt_int, PP.bi_isInt_str, PP.bi_isInt_tup, PP.bi_isInt_lst, PP.bi_isInt_kst, PP.bi_isInt_dK, PP.bi_isBool_non, PP.bi_isBool_bl, PP.bi_isBool_int, PP.bi_isBool_str, PP.bi_isBool_tup, PP.bi_isBool_lst, PP.bi_isBool_kst, PP.bi_isBool_dK, PP.bi_isTuple_non, PP.bi_isTuple_bl, PP.bi_isTuple_int, PP.bi_isTuple_str, PP.bi_isTuple_tup, PP.bi_isTuple_lst, PP.bi_isTuple_kst, PP.bi_isTuple_dK, PP.bi_isList_non, PP.bi_isList_bl, PP.bi_isList_int, PP.bi_isList_str, PP.bi_isList_tup, PP.bi_isList_lst, PP.bi_isList_kst, PP.bi_isList_dK, PP.bi_isStr_non, PP.bi_isStr_bl, PP.bi_isStr_int, PP.bi_isStr_str, PP.bi_isStr_tup, PP.bi_isStr_lst, PP.bi_isStr_kst, PP.bi_isStr_dK, PP.le_lim, PP.lt_lim, PP.bi_isInt_dT, PP.bi_isBool_dT, PP.bi_isTuple_dT, PP.bi_isList_dT, PP.bi_isStr_dT, PP.pw_10_18, PP.o_gt_i, PP.o_lt_i, PP.o_ge_i, PP.o_le_i, PP.o_add_i, PP.o_sub_i, PP.o_neg_i, PP.o_eq_i, PP.o_ne_i, PP.o_eq_s, PP.o_ne_s, PP.o_eq_b, PP.ne_nil, PP.fldOf_o, PP.fldOf_e, PP.fldD_c, PP.putD_c, PP.putD_n, PP.isObj_o, PP.isObj_e, PP.isObj_non, PP.isObj_bl, PP.isObj_int, PP.isObj_str, PP.isObj_lst, PP.isObj_tup, PP.isObj_kst, PP.isObj_dK, PP.isCls_o, PP.isCls_e, PP.isCls_non, PP.isCls_bl, PP.isCls_int, PP.isCls_str, PP.isCls_lst, PP.isCls_tup, PP.isCls_kst, PP.isCls_dK, PP.runC_eq, PP.makeO_eq, PP.spec_eq, PP.allFz_0, PP.allFz_c, PP.recv_f, PP.recv_t, PP.ownOp_o, PP.ownIn_o, PP.ownNe_o, PP.opc_add, PP.opc_sub, PP.opc_mul, PP.opc_shl, PP.opc_shr, PP.opc_band, PP.opc_bor, PP.opc_lt, PP.opc_le, PP.opc_gt, PP.opc_ge, PP.opc_eq, PP.opc_ne, PP.okR_o, PP.okR_int, PP.okR_bl, PP.okR_non, PP.okR_str, PP.okR_lst, PP.okR_kst, PP.okR_tup, PP.cmp_lt, PP.cmp_le, PP.cmp_gt, PP.cmp_ge, PP.cmp_eq, PP.cmp_ne, PP.cmp_add, PP.cmp_sub, PP.cmp_band, PP.cmp_bor, PP.cmp_shl, PP.cmp_shr, PP.cmp_mul, PP.slOf_obj, PP.nrm_obj, PP.slOf_err, PP.hear_eq, PP.frz_0, PP.frz_c, PP.mask_c, PP.mask_n, PP.maskS_fz, PP.maskS_ow, PP.maskS_io, PP.maskS_un, PP.item_t, PP.item_l, PP.item_k, PP.bi_max2, PP.bi_min2, PP.bi_bool_b, PP.o_shr_i, PP.o_is_n, PP.o_isnot_n, PP.o_is_b, PP.o_isnot_b, PP.o_add_l, PP.o_mul_l, PP.set_l4_0, PP.set_l4_1, PP.set_l4_2, PP.set_l4_3, PP.ask_o, PP.outD_t, PP.outD_e, PP.keep_d, PP.noL_non, PP.noL_int, PP.noL_bl, PP.noL_str, PP.noL_tup, PP.noL_0, PP.noL_c, PP.evJ_0, PP.runF, PP.startE, PP.rdAll, PP.argsOf, PP.ioSlots, PP.putIO, PP.permL, PP.outsOf, PP.storeAll, PP.R.bind_ok, PP.R.bind_exc, PP.R.bind_bad, PP.orBad_some, PP.orBad_none, Int.reduceLE, Int.reduceLT, Int.reduceToNat, Int.reducePow, Int.reduceNeg, Int.reduceAdd, Int.reduceSub, Int.reduceMul, Int.reduceBEq, Int.cast_ofNat_Int, Int.natCast_zero, Int.natCast_one, Int.reduceBNe, Int.reduceEq, Int.reduceDiv, Int.reduceMod, Nat.reduceAdd, Nat.reduceMul, Nat.reduceSub, Nat.reducePow, Nat.reduceLeDiff, Nat.reduceLT, Nat.reduceEqDiff, Nat.reduceBEq, List.cons_append, List.nil_append, List.append_nil, Nat.zero_le, List.head?_cons, List.tail_cons, Option.map_some, Option.map_none, Option.bind_some, Option.bind_none, Bool.not_true, Bool.not_false, Bool.and_self, Bool.and_true, Bool.true_and, Bool.false_and, Bool.and_false, Bool.or_true, Bool.true_or, Bool.or_false, Bool.false_or, Bool.not_not, List.contains_cons, List.contains_nil, BEq.rfl, reduceCtorEq,
  eq_self, and_self, if_true, if_false, ite_true, ite_false, Bool.false_eq_true, reduceIte, List.length_cons, List.length_nil, List.filterMap_cons, List.filterMap_nil, List.getElem?_cons_zero, List.getElem?_cons_succ, List.map_cons, List.map_nil, List.replicate_succ, List.replicate_zero, List.flatten_cons, List.flatten_nil, List.reverse_cons, List.reverse_nil, decide_true, decide_false, Bool.not_eq_true, Bool.not_eq_false, Bool.cond_true, Bool.cond_false])
local macro_rules | `(tactic| walk_at "px") => `(tactic| simp -implicitDefEqProofs (disch := first | assumption | (with_reducible show (_ : Bool) = _; exact id rfl) | (with_reducible show (_ : Int) < _; omega) | (with_reducible show (_ : Int) ≤ _; omega) | (with_reducible show (_ : Nat) ≤ _; omega) | (with_reducible show (_ : Nat) < _; omega) | fail) only [*, PP.le_lim, PP.lt_lim, PP.o_shr_i, PP.shl_p, PP.mul_w, PP.fdiv_w, PP.mod_p, PP.pow_p, PP.nrm_mut, PP.ev_w0, PP.ev_w1, PP.ev_w2, PP.ev_w3, PP.ev_w4, PP.ev_w5, PP.ev_w6, PP.ev_w7, PP.ev_w8, PP.ev_w9, PP.ev_w10, PP.ev_w11, PP.ev_w12, PP.ev_w13, PP.ev_w14, PP.ev_w15, PP.ev_w16, PP.ev_w17, PP.ev_w18, PP.ev_w19, PP.ev_w20, PP.ev_w21, PP.ev_w22, PP.ev_w23, PP.ev_w24, PP.ev_w25, PP.ev_w26, PP.ev_w27, PP.ev_w28, PP.ev_w29, PP.ev_w30, PP.ev_w31, PP.ev_w32, PP.ev_w33, PP.ev_w34, PP.ev_w35, PP.ev_w36, PP.ev_w37, PP.evF_w0, PP.evF_w1, PP.evF_w2, PP.evR_w0, PP.evR_w1, PP.evR_w2, PP.evC_w0, PP.evC_w1, PP.evC_w2, PP.evC_w3, PP.ex_w0, PP.ex_w1, PP.ex_w2, PP.ex_w3, PP.ex_w4, PP.ex_w5, PP.ex_w6, PP.ex_w7, PP.ex_w8, PP.ex_w9, PP.ex_w10, PP.ex_w11, PP.ex_w12, PP.ex_w13, PP.ex_w14, PP.ex_w15, PP.ex_w16, PP.ex_w17, PP.ex_w18, PP.ex_w19, PP.ex_w20, PP.exs_w0, PP.exs_w1, PP.evT_w, PP.getS_0, PP.getS_s, PP.set_0, PP.set_s, PP.mul_1, PP.mul_m1, PP.fin_ok, PP.fin_exc, PP.finX_s, PP.finO_next, PP.finO_d, PP.finO_nw, PP.rdU_d, PP.rdU_nw, PP.rdU_sl, PP.rdS_fz, PP.rdS_ow, PP.rdS_io, PP.pend_d, PP.pend_nw, PP.pend_sl, PP.fzU_d, PP.fzU_nw, PP.fzU_sl, PP.asgU_d, PP.asgU_nw, PP.asgU_sl, PP.slOf_non, PP.slOf_bl, PP.slOf_int, PP.slOf_str, PP.slOf_tup, PP.slOf_lst, PP.slOf_dK, PP.isLs_ow, PP.isLs_io, PP.retU_d, PP.retU_nw, PP.retU_sl, PP.nrm_non, PP.nrm_bl, PP.nrm_int, PP.nrm_str, PP.nrm_tup, PP.nrm_lst, PP.nrm_dK, PP.setIO_ow, PP.setIO_io, PP.dupF_0, PP.dupF_1, PP.optP_f, PP.optP_t, PP.truD_bl, PP.truD_non, PP.truD_lst, PP.partD_eq, PP.ix_lst_0, PP.ix_lst_1, PP.ix_lst_2, PP.ix_lst_3, PP.ix_lst_4, PP.ix_lst_5, PP.ix_tup_0, PP.ix_tup_1, PP.ix_tup_2, PP.ix_tup_3, PP.ix_tup_4, PP.ix_tup_5, PP.ix_kst_0, PP.ix_kst_1, PP.ix_kst_2, PP.ix_kst_3, PP.ix_kst_4, PP.ix_kst_5, PP.set_l3_1, PP.set_l3_2, PP.bi_int_i, PP.bi_int_b, PP.bi_abs, PP.bi_len_l, PP.bi_len_t, PP.bi_isInt_non, PP.bi_isInt_bl, PP.bi_isInt_int, PP.bi_isInt_str, PP.bi_isInt_tup, PP.bi_isInt_lst, PP.bi_isInt_kst, PP.bi_isInt_dK, PP.bi_isBool_non, PP.bi_isBool_bl, PP.bi_isBool_int, PP.bi_isBool_str, PP.bi_isBool_tup, PP.bi_isBool_lst, PP.bi_isBool_kst, PP.bi_isBool_dK, PP.bi_isTuple_non, PP.bi_isTuple_bl, PP.bi_isTuple_int, PP.bi_isTuple_str, PP.bi_isTuple_tup, PP.bi_isTuple_lst, PP.bi_isTuple_kst, PP.bi_isTuple_dK, PP.bi_isList_non, PP.bi_isList_bl, PP.bi_isList_int, PP.bi_isList_str, PP.bi_isList_tup, PP.bi_isList_lst, PP.bi_isList_kst, PP.bi_isList_dK, PP.bi_isStr_non, PP.bi_isStr_bl, PP.bi_isStr_int, PP.bi_isStr_str, PP.bi_isStr_tup, PP.bi_isStr_lst, PP.bi_isStr_kst, PP.bi_isStr_dK, PP.le_lim, PP.lt_lim, PP.bi_isInt_dT, PP.bi_isBool_dT, PP.bi_isTuple_dT, PP.bi_isList_dT, PP.bi_isStr_dT, PP.pw_10_18, PP.o_gt_i, PP.o_lt_i, PP.o_ge_i, PP.o_le_i, PP.o_add_i, PP.o_sub_i, PP.o_neg_i, PP.o_eq_i, PP.o_ne_i, PP.o_eq_s, PP.o_ne_s, PP.o_eq_b, PP.ne_nil, PP.fldOf_o, PP.fldOf_e, PP.fldD_c, PP.putD_c, PP.putD_n, PP.isObj_o, PP.isObj_e, PP.isObj_non, PP.isObj_bl, PP.isObj_int, PP.isObj_str, PP.isObj_lst, PP.isObj_tup, PP.isObj_kst, PP.isObj_dK, PP.isCls_o, PP.isCls_e, PP.isCls_non, PP.isCls_bl, PP.isCls_int, PP.isCls_str, PP.isCls_lst, PP.isCls_tup, PP.isCls_kst, PP.isCls_dK, PP.runC_eq, PP.makeO_eq, PP.spec_eq, PP.allFz_0, PP.allFz_c, PP.recv_f, PP.recv_t, PP.ownOp_o, PP.ownIn_o, PP.ownNe_o, PP.opc_add, PP.opc_sub, PP.opc_mul, PP.opc_shl, PP.opc_shr, PP.opc_band, PP.opc_bor, PP.opc_lt, PP.opc_le, PP.opc_gt, PP.opc_ge, PP.opc_eq, PP.opc_ne, PP.okR_o, PP.okR_int, PP.okR_bl, PP.okR_non, PP.okR_str, PP.okR_lst, PP.okR_kst, PP.okR_tup, PP.cmp_lt, PP.cmp_le, PP.cmp_gt, PP.cmp_ge, PP.cmp_eq, PP.cmp_ne, PP.cmp_add, PP.cmp_sub, PP.cmp_band, PP.cmp_bor, PP.cmp_shl, PP.cmp_shr, PP.cmp_mul, PP.slOf_obj, PP.nrm_obj, PP.slOf_err, PP.hear_eq, PP.frz_0, PP.frz_c, PP.mask_c, PP.mask_n, PP.maskS_fz, PP.maskS_ow, PP.maskS_io, PP.maskS_un, PP.item_t, PP.item_l, PP.item_k, PP.bi_max2, PP.bi_min2, PP.bi_bool_b, PP.o_shr_i, PP.o_is_n, PP.o_isnot_n, PP.o_is_b, PP.o_isnot_b, PP.o_add_l, PP.o_mul_l, PP.set_l4_0, PP.set_l4_1, PP.set_l4_2, PP.set_l4_3, PP.ask_o, PP.outD_t, PP.outD_e, PP.keep_d, PP.noL_non, PP.noL_int, PP.noL_bl, PP.noL_str, PP.noL_tup, PP.noL_0, PP.noL_c, PP.evJ_0, PP.runF, PP.startE, PP.rdAll, PP.argsOf, PP.ioSlots, PP.putIO, PP.permL, PP.outsOf, PP.storeAll, PP.R.bind_ok, PP.R.bind_exc, PP.R.bind_bad, PP.orBad_some, PP.orBad_none, Int.reduceLE, Int.reduceLT, Int.reduceToNat, Int.reducePow, Int.reduceNeg, Int.reduceAdd, Int.reduceSub, Int.reduceMul, Int.reduceBEq, Int.cast_ofNat_Int, Int.natCast_zero, Int.natCast_one, Int.reduceBNe, Int.reduceEq, Int.reduceDiv, Int.reduceMod, Nat.reduceAdd, Nat.reduceMul, Nat.reduceSub, Nat.reducePow, Nat.reduceLeDiff, Nat.reduceLT, Nat.reduceEqDiff, Nat.reduceBEq, List.cons_append, List.nil_append, List.append_nil, Nat.zero_le, List.head?_cons, List.tail_cons, Option.map_some, Option.map_none, Option.bind_some, Option.bind_none, Bool.not_true, Bool.not_false, Bool.and_self, Bool.and_true, Bool.true_and, Bool.false_and, Bool.and_false, Bool.or_true, Bool.true_or, Bool.or_false, Bool.false_or, Bool.not_not, List.contains_cons, List.contains_nil, BEq.rfl, reduceCtorEq,
  eq_self, and_self, if_true, if_false, ite_true, ite_false, Bool.false_eq_true, reduceIte, List.length_cons, List.length_nil, List.filterMap_cons, List.filterMap_nil, List.getElem?_cons_zero, List.getElem?_cons_succ, List.map_cons, List.map_nil, List.replicate_succ, List.replicate_zero, List.flatten_cons, List.flatten_nil, List.reverse_cons, List.reverse_nil, decide_true, decide_false, Bool.not_eq_true, Bool.not_eq_false, Bool.cond_true, Bool.cond_false])
namespace PP
open PySem L2
/-! specs: boxes.py -/
abbrev boxD (x y w h : Int) : D := .obj 5 [2, 3, 4, 5] [.int x, .int y, .int w, .int h]
abbrev eBox (p : Str) : Exn := (3, [1], [.str p])
abbrev isBx (d : D) : Bool := isObjOf [5] d
def boxBad (x y w h : D) : Option Str := match btw x 0 1267650600228229401496703205375 with
  | false => some "x"
  | true => match btw y 0 1267650600228229401496703205375 with
    | false => some "y"
    | true => match btw w 1 1267650600228229401496703205376 with
      | false => some "width"
      | true => match btw h 1 1267650600228229401496703205376 with
        | false => some "height"
        | true => none
/-- what Box(..) gives -/
def mkBx (x y w h : D) : RC := match boxBad x y w h with
  | some p => .exc (eBox p) []
  | none => .ok (.nw (.obj 5 [2, 3, 4, 5] [x, y, w, h])) []
theorem ok_mkBx (x y w h : D) : okRC (mkBx x y w h) := by
  unfold mkBx
  cases boxBad x y w h with
  | none => exact rfl
  | some p => exact trivial
abbrev S_need_box (g : Gf) : Prop := (∀ x y w h, g [.fz (boxD x y w h)] = .ok (.d .non) []) ∧ ∀ d, isClsD d = false → isBx d = false → g [.fz d] = .exc (eBox "other") []
theorem need_box_ok {cl : CallF} : S_need_box (runF cl F_need_box) := by
  refine ⟨fun x y w h => ?_, fun d h1 h2 => ?_⟩
  · simp only [F_need_box]
    walk_at "pp"
  · simp only [F_need_box]
    walk_at "px"
abbrev S_box_init (g : Gf) : Prop := ∀ x y w h, isClsD x = false → isClsD y = false → isClsD w = false → isClsD h = false → g [.io (.obj 5 [] []), .fz x, .fz y, .fz w, .fz h] = match boxBad x y w h with
  | some p => .exc (eBox p) [.obj 5 [] []]
  | none => .ok (.d .non) [.obj 5 [2, 3, 4, 5] [x, y, w, h]]
theorem box_init_ok {cl : CallF} (h1 : S_is_between (cl 1)) : S_box_init (runF cl F_Box__init__) := by
  intro x y w h nx ny nw nh
  simp only [F_Box__init__]
  walk_at "px"
  unfold boxBad
  cases hx : btw x 0 1267650600228229401496703205375 with
  | false => walk_at "px"
  | true =>
    walk_at "px"
    cases hy : btw y 0 1267650600228229401496703205375 with
    | false => walk_at "px"
    | true =>
      walk_at "px"
      cases hw : btw w 1 1267650600228229401496703205376 with
      | false => walk_at "px"
      | true =>
        walk_at "px"
        cases hh : btw h 1 1267650600228229401496703205376 with
        | false => walk_at "px"
        | true => walk_at "px"

theorem bx_isP (x y w h : Int) : isBx (boxD x y w h) = true := rfl
theorem mkBx_int (x y w h : Int) : mkBx (.int x) (.int y) (.int w) (.int h) = match boxBad (.int x) (.int y) (.int w) (.int h) with
  | some p => .exc (eBox p) []
  | none => .ok (.nw (boxD x y w h)) [] := rfl
/-- a def's end that hands on what Box(..) gives -/
abbrev S_moved_by (g : Gf) : Prop := (∀ b d s, okV d = true → isP d = false → g [.fz b, .fz d, .fz (.int s)] = .exc (eBox "move") []) ∧
  (∀ x y w h a b, g [.fz (boxD x y w h), .fz (.tup [.int a, .int b]), .fz (.int 1)] = mkBx (.int (x + a)) (.int (y + b)) (.int w) (.int h)) ∧
  (∀ x y w h a b, g [.fz (boxD x y w h), .fz (.tup [.int a, .int b]), .fz (.int (-1))] = mkBx (.int (x + -a)) (.int (y + -b)) (.int w) (.int h))
theorem moved_by_ok {cl : CallF} (h3 : S_is_pair (cl 3)) (hB : S_box_init (cl 6000)) : S_moved_by (runF cl F_moved_by) := by
  refine ⟨fun b d s h1 h2 => ?_, fun x y w h a b => ?_, fun x y w h a b => ?_⟩
  · simp only [F_moved_by]
    walk_at "px"
  · simp only [F_moved_by]
    walk_at "pp"
    rw [h3 _ rfl, isP_2]
    simp only [isI]
    walk_at "px"
    rw [mkBx_int]
    cases boxBad (.int (x + a)) (.int (y + b)) (.int w) (.int h) <;> walk_at "pp"
  · simp only [F_moved_by]
    walk_at "pp"
    rw [h3 _ rfl, isP_2]
    simp only [isI]
    walk_at "px"
    rw [mkBx_int]
    cases boxBad (.int (x + -a)) (.int (y + -b)) (.int w) (.int h) <;> walk_at "pp"
abbrev S_need_shift (g : Gf) : Prop := (∀ d, isClsD d = false → btw d 0 100 = true → g [.fz d] = .ok (.d .non) []) ∧ ∀ d, isClsD d = false → btw d 0 100 = false → g [.fz d] = .exc (4, [0], [d]) []
theorem need_shift_ok {cl : CallF} (h1 : S_is_between (cl 1)) : S_need_shift (runF cl F_need_shift) := by
  refine ⟨fun d h2 h3 => ?_, fun d h2 h3 => ?_⟩
  · simp only [F_need_shift]
    walk_at "px"
  · simp only [F_need_shift]
    walk_at "px"
def within (x y w h x' y' w' h' : Int) : Bool := decide (x' ≤ x) && decide (y' ≤ y) && decide (x + w ≤ x' + w') && decide (y + h ≤ y' + h')
abbrev S_is_within (g : Gf) : Prop := ∀ x y w h x' y' w' h', g [.fz (boxD x y w h), .fz (boxD x' y' w' h')] = .ok (.d (.bl (within x y w h x' y' w' h'))) []
theorem dec_nlt (a b : Int) : decide (a < b) = !decide (b ≤ a) := by
  by_cases h : b ≤ a
  · simp [h]
  · simp [h]; omega
theorem is_within_ok {cl : CallF} : S_is_within (runF cl F_is_within) := by
  intro x y w h x' y' w' h'
  simp only [F_is_within, within]
  walk_at "pp"
  simp only [dec_nlt]
  cases decide (x' ≤ x) <;> walk_at "pp"
  cases decide (y' ≤ y) <;> walk_at "pp"
  cases decide (x + w ≤ x' + w') <;> walk_at "pp"
def andBx (x y w h x' y' w' h' : Int) : RC := if max x x' < min (x + w) (x' + w') ∧ max y y' < min (y + h) (y' + h') then mkBx (.int (max x x')) (.int (max y y')) (.int (min (x + w) (x' + w') - max x x')) (.int (min (y + h) (y' + h') - max y y')) else .ok (.d .non) []
theorem ok_andBx (x y w h x' y' w' h' : Int) : okRC (andBx x y w h x' y' w' h') := by
  unfold andBx
  split
  · exact ok_mkBx _ _ _ _
  · exact trivial
abbrev S_common_box (g : Gf) : Prop := ∀ x y w h x' y' w' h', g [.fz (boxD x y w h), .fz (boxD x' y' w' h')] = andBx x y w h x' y' w' h'
theorem common_box_ok {cl : CallF} (hB : S_box_init (cl 6000)) : S_common_box (runF cl F_common_box) := by
  intro x y w h x' y' w' h'
  simp only [F_common_box, andBx]
  walk_at "px"
  by_cases h1 : max x x' < min (x + w) (x' + w')
  · by_cases h2 : max y y' < min (y + h) (y' + h')
    · rw [mkBx_int]
      walk_at "px"
      cases boxBad (.int (max x x')) (.int (max y y')) (.int (min (x + w) (x' + w') - max x x')) (.int (min (y + h) (y' + h') - max y y')) <;> walk_at "pp"
    · simp only [h1, h2, decide_true, decide_false, and_false, if_false]
      walk_at "pp"
  · simp only [h1, decide_false, false_and, if_false]
    walk_at "pp"
abbrev S_least_box (g : Gf) : Prop := ∀ x y w h x' y' w' h', g [.fz (boxD x y w h), .fz (boxD x' y' w' h')] =
  mkBx (.int (min x x')) (.int (min y y')) (.int (max (x + w) (x' + w') - min x x')) (.int (max (y + h) (y' + h') - min y y'))
theorem least_box_ok {cl : CallF} (hB : S_box_init (cl 6000)) : S_least_box (runF cl F_least_box) := by
  intro x y w h x' y' w' h'
  simp only [F_least_box]
  walk_at "px"
  rw [mkBx_int]
  cases boxBad (.int (min x x')) (.int (min y y')) (.int (max (x + w) (x' + w') - min x x')) (.int (max (y + h) (y' + h') - min y y')) <;> walk_at "pp"
abbrev S_square (g : Gf) : Prop := (∀ d, isClsD d = false → btw d 0 100 = false → g [.fz d] = .exc (2, [0], [d]) []) ∧ ∀ n : Int, 0 ≤ n → n ≤ 100 → g [.fz (.int n)] = .ok (.nw (boxD 0 0 (2 ^ n.toNat) (2 ^ n.toNat))) []
theorem pow_le_ms {n : Int} (h0 : 0 ≤ n) (h1 : n ≤ 100) : 1 ≤ (2 : Int) ^ n.toNat ∧ (2 : Int) ^ n.toNat ≤ 1267650600228229401496703205376 := by
  have e : (1267650600228229401496703205376 : Nat) = 2 ^ 100 := by decide
  have a : 1 ≤ 2 ^ n.toNat := Nat.one_le_two_pow
  have b : 2 ^ n.toNat ≤ 2 ^ 100 := Nat.pow_le_pow_right (by decide) (by omega)
  rw [← e] at b
  have c : (2 : Int) ^ n.toNat = ((2 ^ n.toNat : Nat) : Int) := by norm_cast
  omega
theorem square_ok {cl : CallF} (h2 : S_is_level (cl 2)) (hB : S_box_init (cl 6000)) : S_square (runF cl F_Box_square) := by
  refine ⟨fun d h1 h3 => ?_, fun n h0 h1 => ?_⟩
  · simp only [F_Box_square]
    walk_at "px"
  · simp only [F_Box_square]
    walk_at "pp"
    have hb : btw (.int n) 0 100 = true := by simp only [btw, h0, h1, decide_true, Bool.and_self]
    have hp := pow_le_ms h0 h1
    rw [h2 _ rfl]
    have e : boxBad (.int 0) (.int 0) (.int (2 ^ n.toNat)) (.int (2 ^ n.toNat)) = none := by
      simp only [boxBad, btw, hp.1, hp.2]
      rfl
    walk_at "px"
    simp only [Int.one_mul, e]
    walk_at "pp"
/-- an own operator with a box on the right -/
abbrev S_and (g : Gf) : Prop := (∀ b d, isClsD d = false → isBx d = false → g [.fz b, .fz d] = .exc (eBox "other") []) ∧ ∀ x y w h x' y' w' h', g [.fz (boxD x y w h), .fz (boxD x' y' w' h')] = andBx x y w h x' y' w' h'
theorem and_ok {cl : CallF} (h4 : S_need_box (cl 4)) (h8 : S_common_box (cl 8)) : S_and (runF cl F_Box__and__) := by
  refine ⟨fun b d h1 h2 => ?_, fun x y w h x' y' w' h' => ?_⟩
  · simp only [F_Box__and__]
    walk_at "pp"
    rw [h4.2 d h1 h2]
    walk_at "pp"
  · simp only [F_Box__and__]
    walk_at "pp"
    rw [h4.1]
    walk_at "pp"
    rw [h8]
    generalize hr : andBx _ _ _ _ _ _ _ _ = r
    rcases (hr ▸ ok_andBx _ _ _ _ _ _ _ _ : okRC r).cases with ⟨d, rfl⟩ | ⟨d, hm, rfl⟩ | ⟨x, rfl⟩ <;> walk_at "px"
abbrev S_or (g : Gf) : Prop := (∀ b d, isClsD d = false → isBx d = false → g [.fz b, .fz d] = .exc (eBox "other") []) ∧ ∀ x y w h x' y' w' h', g [.fz (boxD x y w h), .fz (boxD x' y' w' h')] =
  mkBx (.int (min x x')) (.int (min y y')) (.int (max (x + w) (x' + w') - min x x')) (.int (max (y + h) (y' + h') - min y y'))
theorem or_ok {cl : CallF} (h4 : S_need_box (cl 4)) (h9 : S_least_box (cl 9)) : S_or (runF cl F_Box__or__) := by
  refine ⟨fun b d h1 h2 => ?_, fun x y w h x' y' w' h' => ?_⟩
  · simp only [F_Box__or__]
    walk_at "pp"
    rw [h4.2 d h1 h2]
    walk_at "pp"
  · simp only [F_Box__or__]
    walk_at "pp"
    rw [h4.1]
    walk_at "pp"
    rw [h9]
    generalize hr : mkBx _ _ _ _ = r
    rcases (hr ▸ ok_mkBx _ _ _ _ : okRC r).cases with ⟨d, rfl⟩ | ⟨d, hm, rfl⟩ | ⟨x, rfl⟩ <;> walk_at "px"
abbrev S_add (g : Gf) : Prop := (∀ b d, okV d = true → isP d = false → g [.fz b, .fz d] = .exc (eBox "move") []) ∧
  ∀ x y w h a b, g [.fz (boxD x y w h), .fz (.tup [.int a, .int b])] = mkBx (.int (x + a)) (.int (y + b)) (.int w) (.int h)
abbrev S_sub (g : Gf) : Prop := (∀ b d, okV d = true → isP d = false → g [.fz b, .fz d] = .exc (eBox "move") []) ∧
  ∀ x y w h a b, g [.fz (boxD x y w h), .fz (.tup [.int a, .int b])] = mkBx (.int (x + -a)) (.int (y + -b)) (.int w) (.int h)
theorem add_ok {cl : CallF} (h5 : S_moved_by (cl 5)) : S_add (runF cl F_Box__add__) := by
  refine ⟨fun b d h1 h2 => ?_, fun x y w h a b => ?_⟩
  · simp only [F_Box__add__]
    walk_at "pp"
    rw [h5.1 b d 1 h1 h2]
    walk_at "pp"
  · simp only [F_Box__add__]
    walk_at "pp"
    rw [h5.2.1]
    generalize hr : mkBx _ _ _ _ = r
    rcases (hr ▸ ok_mkBx _ _ _ _ : okRC r).cases with ⟨d, rfl⟩ | ⟨d, hm, rfl⟩ | ⟨x, rfl⟩ <;> walk_at "px"
theorem sub_ok {cl : CallF} (h5 : S_moved_by (cl 5)) : S_sub (runF cl F_Box__sub__) := by
  refine ⟨fun b d h1 h2 => ?_, fun x y w h a b => ?_⟩
  · simp only [F_Box__sub__]
    walk_at "pp"
    rw [h5.1 b d (-1) h1 h2]
    walk_at "pp"
  · simp only [F_Box__sub__]
    walk_at "pp"
    rw [h5.2.2]
    generalize hr : mkBx _ _ _ _ = r
    rcases (hr ▸ ok_mkBx _ _ _ _ : okRC r).cases with ⟨d, rfl⟩ | ⟨d, hm, rfl⟩ | ⟨x, rfl⟩ <;> walk_at "px"
abbrev S_shr (g : Gf) : Prop := (∀ b d, isClsD d = false → btw d 0 100 = false → g [.fz b, .fz d] = .exc (4, [0], [d]) []) ∧
  ∀ x y w h n, 0 ≤ n → n ≤ 100 → g [.fz (boxD x y w h), .fz (.int n)] = mkBx (.int (x / 2 ^ n.toNat)) (.int (y / 2 ^ n.toNat)) (.int ((x + w - 1) / 2 ^ n.toNat - x / 2 ^ n.toNat + 1)) (.int ((y + h - 1) / 2 ^ n.toNat - y / 2 ^ n.toNat + 1))
theorem btw_n {n : Int} (h0 : 0 ≤ n) (h1 : n ≤ 100) : btw (.int n) 0 100 = true := by simp only [btw, h0, h1, decide_true, Bool.and_self]
theorem shr_ok {cl : CallF} (h6 : S_need_shift (cl 6)) (hB : S_box_init (cl 6000)) : S_shr (runF cl F_Box__rshift__) := by
  refine ⟨fun b d h1 h2 => ?_, fun x y w h n h0 h1 => ?_⟩
  · simp only [F_Box__rshift__]
    walk_at "pp"
    rw [h6.2 d h1 h2]
    walk_at "pp"
  · simp only [F_Box__rshift__]
    walk_at "pp"
    rw [h6.1 _ rfl (btw_n h0 h1)]
    walk_at "pp"
    simp only [o_shr_i h0]
    walk_at "px"
    simp only [mkBx]
    generalize boxBad _ _ _ _ = o
    cases o <;> walk_at "pp"
abbrev S_shl (g : Gf) : Prop := (∀ b d, isClsD d = false → btw d 0 100 = false → g [.fz b, .fz d] = .exc (4, [0], [d]) []) ∧
  ∀ x y w h n, 0 ≤ n → n ≤ 100 → smI x → smI y → smI w → smI h → g [.fz (boxD x y w h), .fz (.int n)] = mkBx (.int (x * 2 ^ n.toNat)) (.int (y * 2 ^ n.toNat)) (.int (w * 2 ^ n.toNat)) (.int (h * 2 ^ n.toNat))
theorem shl_ok {cl : CallF} (h6 : S_need_shift (cl 6)) (hB : S_box_init (cl 6000)) : S_shl (runF cl F_Box__lshift__) := by
  refine ⟨fun b d h1 h2 => ?_, fun x y w h n h0 h1 hx hy hw hh => ?_⟩
  · simp only [F_Box__lshift__]
    walk_at "pp"
    rw [h6.2 d h1 h2]
    walk_at "pp"
  · simp only [F_Box__lshift__]
    walk_at "pp"
    rw [h6.1 _ rfl (btw_n h0 h1)]
    walk_at "pp"
    walk_at "px"
    simp only [mkBx]
    generalize boxBad _ _ _ _ = o
    cases o <;> walk_at "pp"
/-- comparisons -/
abbrev S_cmpB (f : Int → Int → Int → Int → Int → Int → Int → Int → Bool) (g : Gf) : Prop := (∀ b d, isClsD d = false → isBx d = false → g [.fz b, .fz d] = .exc (eBox "other") []) ∧
  ∀ x y w h x' y' w' h', g [.fz (boxD x y w h), .fz (boxD x' y' w' h')] = .ok (.d (.bl (f x y w h x' y' w' h'))) []
theorem le_ok {cl : CallF} (h4 : S_need_box (cl 4)) (h7 : S_is_within (cl 7)) : S_cmpB within (runF cl F_Box__le__) := by
  refine ⟨fun b d h1 h2 => ?_, fun x y w h x' y' w' h' => ?_⟩
  · simp only [F_Box__le__]
    walk_at "pp"
    rw [h4.2 d h1 h2]
    walk_at "pp"
  · simp only [F_Box__le__]
    walk_at "pp"
    rw [h4.1]
    walk_at "pp"
    rw [h7]
    walk_at "pp"
theorem ge_ok {cl : CallF} (h4 : S_need_box (cl 4)) (h7 : S_is_within (cl 7)) : S_cmpB (fun x y w h x' y' w' h' => within x' y' w' h' x y w h) (runF cl F_Box__ge__) := by
  refine ⟨fun b d h1 h2 => ?_, fun x y w h x' y' w' h' => ?_⟩
  · simp only [F_Box__ge__]
    walk_at "pp"
    rw [h4.2 d h1 h2]
    walk_at "pp"
  · simp only [F_Box__ge__]
    walk_at "pp"
    rw [h4.1]
    walk_at "pp"
    rw [h7]
    walk_at "pp"
theorem lt_ok {cl : CallF} (h4 : S_need_box (cl 4)) (h7 : S_is_within (cl 7)) : S_cmpB (fun x y w h x' y' w' h' => within x y w h x' y' w' h' && !within x' y' w' h' x y w h) (runF cl F_Box__lt__) := by
  refine ⟨fun b d h1 h2 => ?_, fun x y w h x' y' w' h' => ?_⟩
  · simp only [F_Box__lt__]
    walk_at "pp"
    rw [h4.2 d h1 h2]
    walk_at "pp"
  · simp only [F_Box__lt__]
    walk_at "pp"
    rw [h4.1]
    walk_at "pp"
    rw [h7]
    walk_at "pp"
    cases within x y w h x' y' w' h'
    · walk_at "pp"
    · walk_at "pp"
      rw [h7]
      walk_at "pp"
theorem gt_ok {cl : CallF} (h4 : S_need_box (cl 4)) (h7 : S_is_within (cl 7)) : S_cmpB (fun x y w h x' y' w' h' => within x' y' w' h' x y w h && !within x y w h x' y' w' h') (runF cl F_Box__gt__) := by
  refine ⟨fun b d h1 h2 => ?_, fun x y w h x' y' w' h' => ?_⟩
  · simp only [F_Box__gt__]
    walk_at "pp"
    rw [h4.2 d h1 h2]
    walk_at "pp"
  · simp only [F_Box__gt__]
    walk_at "pp"
    rw [h4.1]
    walk_at "pp"
    rw [h7]
    walk_at "pp"
    cases within x' y' w' h' x y w h
    · walk_at "pp"
    · walk_at "pp"
      rw [h7]
      walk_at "pp"
/-- the text of a box -/
def txB (x y w h : Int) : Str := Str.empty ++ Str.ofString (toString x) ++ Str.ofString " " ++ Str.ofString (toString y) ++ Str.ofString " " ++ Str.ofString (toString w) ++ Str.ofString " " ++ Str.ofString (toString h)
abbrev S_str (g : Gf) : Prop := ∀ x y w h, smI x → smI y → smI w → smI h → g [.fz (boxD x y w h)] = .ok (.d (.str (txB x y w h))) []
theorem len_sp : (Str.ofString " ").length = 1 := by rw [len_ofS]; rfl
theorem str_ok {cl : CallF} : S_str (runF cl F_Box__str__) := by
  intro x y w h hx hy hw hh
  simp only [F_Box__str__, txB]
  have l1 := len_it hx
  have l2 := len_it hy
  have l3 := len_it hw
  have l4 := len_it hh
  have f1 := fmt_int hx
  have f2 := fmt_int hy
  have f3 := fmt_int hw
  have f4 := fmt_int hh
  have f5 : fmtD (.str (Str.ofString " ")) = some (Str.ofString " ") := fmt_str (by rw [len_sp]; decide)
  have e0 : Str.empty.length = 0 := rfl
  walk_at "pp"
  rw [evJ_s rfl rfl f1 (by simp only [len_app, e0]; omega), evJ_s rfl rfl f5 (by simp only [len_app, e0, len_sp]; omega), evJ_s rfl rfl f2 (by simp only [len_app, e0, len_sp]; omega), evJ_s rfl rfl f5 (by simp only [len_app, e0, len_sp]; omega),
    evJ_s rfl rfl f3 (by simp only [len_app, e0, len_sp]; omega), evJ_s rfl rfl f5 (by simp only [len_app, e0, len_sp]; omega), evJ_s rfl rfl f4 (by simp only [len_app, e0, len_sp]; omega)]
  walk_at "pp"
theorem ok_txB (x y w h : Int) : PyData.strOk (txB x y w h) = true := by
  simp only [txB, ok_app, ok_ofS, ok_empty, Bool.and_self]
end PP
end

section
set_option maxHeartbeats 4000000

namespace LW
open PySem PySem.Spec PyProof.Rows L2 PP

def top (i : Nat) : Stmt := PySem.Challenge.pw_curveboxes_k07_boxes_refused.main.body.getD i (.Pass ⟨0, 0, 0, 0⟩)
/-- is_integer(value): 0 value -/
abbrev st0 : Stmt := top 4
-- F_is_integer: 0
/-- is_between(value, least, most): 0 value 1 least 2 most -/
abbrev st1 : Stmt := top 5
-- F_is_between: 1
/-- is_level(value): 0 value -/
abbrev st2 : Stmt := top 6
-- F_is_level: 2
/-- is_pair(value): 0 value -/
abbrev st3 : Stmt := top 7
-- F_is_pair: 3
/-- BadLevel.__init__(self, value): 0 self 1 value -/
abbrev st4 : Stmt := inClass (top 13) 0
/-- BadBox.__init__(self, part): 0 self 1 part -/
abbrev st5 : Stmt := inClass (top 14) 0
/-- BadMany.__init__(self, value): 0 self 1 value -/
abbrev st6 : Stmt := inClass (top 15) 0
/-- need_box(other): 0 other -/
abbrev st7 : Stmt := top 21
-- F_need_box: 4
/-- moved_by(box, move, sign): 0 box 1 move 2 sign -/
abbrev st8 : Stmt := top 22
-- F_moved_by: 5
/-- need_shift(n): 0 n -/
abbrev st9 : Stmt := top 23
-- F_need_shift: 6
/-- is_within(one, other): 0 one 1 other -/
abbrev st10 : Stmt := top 24
-- F_is_within: 7
/-- common_box(one, other): 0 one 1 other 2 left 3 low 4 right 5 top -/
abbrev st11 : Stmt := top 25
-- F_common_box: 8
/-- least_box(one, other): 0 one 1 other 2 left 3 low 4 right 5 top -/
abbrev st12 : Stmt := top 26
-- F_least_box: 9
/-- Box.__init__(self, x, y, width, height): 0 self 1 x 2 y 3 width 4 height -/
abbrev st13 : Stmt := inClass (top 27) 0
-- F_Box__init__: 6000
/-- Box.square(level): 0 level -/
abbrev st14 : Stmt := inClass (top 27) 1
-- F_Box_square: 6050
/-- Box.__and__(self, other): 0 self 1 other -/
abbrev st15 : Stmt := inClass (top 27) 8
-- F_Box__and__: 6009
/-- Box.__or__(self, other): 0 self 1 other -/
abbrev st16 : Stmt := inClass (top 27) 9
-- F_Box__or__: 6010
/-- Box.__add__(self, move): 0 self 1 move -/
abbrev st17 : Stmt := inClass (top 27) 10
-- F_Box__add__: 6001
/-- Box.__sub__(self, move): 0 self 1 move -/
abbrev st18 : Stmt := inClass (top 27) 11
-- F_Box__sub__: 6002
/-- Box.__rshift__(self, n): 0 self 1 n 2 left 3 low 4 right 5 top -/
abbrev st19 : Stmt := inClass (top 27) 12
-- F_Box__rshift__: 6008
/-- Box.__lshift__(self, n): 0 self 1 n -/
abbrev st20 : Stmt := inClass (top 27) 13
-- F_Box__lshift__: 6007
/-- Box.__le__(self, other): 0 self 1 other -/
abbrev st21 : Stmt := inClass (top 27) 14
-- F_Box__le__: 6013
/-- Box.__lt__(self, other): 0 self 1 other -/
abbrev st22 : Stmt := inClass (top 27) 15
-- F_Box__lt__: 6012
/-- Box.__ge__(self, other): 0 self 1 other -/
abbrev st23 : Stmt := inClass (top 27) 16
-- F_Box__ge__: 6015
/-- Box.__gt__(self, other): 0 self 1 other -/
abbrev st24 : Stmt := inClass (top 27) 17
-- F_Box__gt__: 6014
/-- Box.__str__(self): 0 self -/
abbrev st25 : Stmt := inClass (top 27) 19
-- F_Box__str__: 6021
/-- _law_top():  -/
abbrev st26 : Stmt := top 30
def fn26 : Fn := { n := 0, body := (.cons (.ret (.op2 .mul (.op2 .pow (.cst (.int 2)) (.cst (.int 50))) (.op2 .pow (.cst (.int 2)) (.cst (.int 50))))) .nil) }
/-- _law_pen(_law_script): 0 _law_script -/
abbrev st27 : Stmt := top 31
def fn27 : Fn := { n := 1, body := (.cons (.ret (.lst (.cons (.bi .list (.cons (.slice (.var 0) false true (.cst .non) (.cst (.int 63))) .nil)) (.cons (.cst (.int 0)) (.cons (.cst (.int 0)) .nil))))) .nil) }
/-- _law_draw(_law_pen_here, _law_many): 0 _law_pen_here 1 _law_many 2 _law_digit 3 _law_at 4 _law_cell 5 _law_great 6 _law_mixed -/
abbrev st28 : Stmt := top 32
def fn28 : Fn := { n := 7, body := (.cons (.iff (.op2 .gt (.ix (.var 0) (.cst (.int 2))) (.cst (.int 0))) (.cons (.asg 2 (.op2 .mod (.bi .int (.cons (.ix (.var 0) (.cst (.int 2))) .nil)) (.var 1))) (.cons (.setI 0 (.cst (.int 2)) (.op2 .fdiv (.bi .int (.cons (.ix (.var 0) (.cst (.int 2))) .nil)) (.var 1))) (.cons (.ret (.var 2)) .nil))) .nil) (.cons (.asg 3 (.ix (.var 0) (.cst (.int 1)))) (.cons (.setI 0 (.cst (.int 1)) (.op2 .add (.var 3) (.cst (.int 1)))) (.cons (.asg 4 (.op2 .add (.op2 .mul (.cst (.int 42589)) (.var 3)) (.cst (.int 3767)))) (.cons (.iff (.op2 .ne (.ix (.var 0) (.cst (.int 0))) (.lst .nil)) (.cons (.asg 4 (.ix (.ix (.var 0) (.cst (.int 0))) (.op2 .mod (.bi .int (.cons (.var 3) .nil)) (.bi .len (.cons (.ix (.var 0) (.cst (.int 0))) .nil))))) .nil) .nil) (.cons (.iff (.and (.op2 .lt (.var 3) (.bi .len (.cons (.ix (.var 0) (.cst (.int 0))) .nil))) (.op2 .ge (.bi .abs (.cons (.var 4) .nil)) (.op2 .pow (.cst (.int 10)) (.cst (.int 18))))) (.cons (.asg 5 (.op2 .add (.op2 .mul (.cst (.int 2)) (.op2 .sub (.bi .abs (.cons (.var 4) .nil)) (.op2 .pow (.cst (.int 10)) (.cst (.int 18))))) (.bi .int (.cons (.op2 .lt (.var 4) (.cst (.int 0))) .nil)))) (.cons (.setI 0 (.cst (.int 2)) (.op2 .fdiv (.bi .int (.cons (.var 5) .nil)) (.var 1))) (.cons (.ret (.op2 .mod (.bi .int (.cons (.var 5) .nil)) (.var 1))) .nil))) .nil) (.cons (.asg 6 (.op2 .mod (.bi .int (.cons (.op2 .pow (.op2 .add (.op2 .add (.op2 .mod (.bi .int (.cons (.var 4) .nil)) (.cst (.int 2147483563))) (.op2 .mul (.cst (.int 49523)) (.var 3))) (.cst (.int 857))) (.cst (.int 5))) .nil)) (.cst (.int 2147483629)))) (.cons (.asg 6 (.op2 .mod (.bi .int (.cons (.op2 .pow (.op2 .add (.op2 .add (.op2 .mul (.var 6) (.op2 .add (.op2 .mul (.cst (.int 2)) (.var 3)) (.cst (.int 421)))) (.op2 .mul (.op2 .mul (.cst (.int 56087)) (.var 3)) (.var 3))) (.cst (.int 97))) (.cst (.int 3))) .nil)) (.cst (.int 2147483587)))) (.cons (.ret (.op2 .mod (.bi .int (.cons (.op2 .fdiv (.var 6) (.cst (.int 32))) .nil)) (.var 1))) .nil))))))))) }
/-- _law_pick(_law_pen_here, _law_some): 0 _law_pen_here 1 _law_some -/
abbrev st29 : Stmt := top 33
def fn29 : Fn := { n := 2, body := (.cons (.ret (.ix (.var 1) (.call 502 [true, false] (.cons (.var 0) (.cons (.bi .len (.cons (.var 1) .nil)) .nil))))) .nil) }
/-- _law_heard(_law_ask): 0 _law_ask 1 _law_caught 2 error -/
abbrev st30 : Stmt := top 34
def fn30 : Fn := { n := 3, body := (.cons (.asg 1 (.cst .non)) (.cons (.tryC (.cons (.ex (.ask 0)) .nil) [0, 1, 2, 3, 4] 2 1) (.cons (.iff (.op2 .is (.var 1) (.cst .non)) (.cons (.ret (.cst .non)) .nil) .nil) (.cons (.iff (.isObj [3] (.var 1)) (.cons (.ret (.tup (.cons (.cst (.str "box")) (.cons (.fld (.var 1) 1) .nil)))) .nil) .nil) (.cons (.iff (.isObj [4] (.var 1)) (.cons (.ret (.tup (.cons (.cst (.str "many")) (.cons (.bi .repr (.cons (.fld (.var 1) 0) .nil)) .nil)))) .nil) .nil) (.cons (.ret (.ife (.isObj [2] (.var 1)) (.tup (.cons (.cst (.str "level")) (.cons (.bi .repr (.cons (.fld (.var 1) 0) .nil)) .nil))) (.tup (.cons (.cst (.str "odd")) (.cons (.cst .non) .nil))))) .nil)))))), lam := true }
/-- _law_odd(_law_pen_here, _law_at): 0 _law_pen_here 1 _law_at 2 _law_some -/
abbrev st31 : Stmt := top 35
def fn31 : Fn := { n := 3, body := (.cons (.asg 2 (.lst (.cons (.cst .non) (.cons (.cst (.bl true)) (.cons (.cst (.bl false)) (.cons (.cst (.str "1")) (.cons (.op1 .neg (.cst (.int 1))) (.cons (.tup (.cons (.cst (.int 1)) .nil)) (.cons (.lst .nil) (.cons .dic (.cons (.op2 .pow (.cst (.int 10)) (.cst (.int 61))) (.cons (.op1 .neg (.op2 .pow (.cst (.int 10)) (.cst (.int 30)))) .nil)))))))))))) (.cons (.ret (.call 503 [true, false] (.cons (.var 0) (.cons (.op2 .add (.var 2) (.ife (.op2 .lt (.var 1) (.cst (.int 2))) (.lst (.cons (.call 500 [] .nil) .nil)) (.lst (.cons (.cst (.int 0)) (.cons (.op2 .add (.call 500 [] .nil) (.cst (.int 1))) .nil))))) .nil)))) .nil)) }
/-- _law_made_right(_law_pen_here): 0 _law_pen_here 1 _law_fine 2 _law_parts 3 _law_first 4 _law_at 5 _law_due 6 _law_heard_here -/
abbrev st32 : Stmt := top 36
def fn32 : Fn := { n := 7, body := (.cons (.asg 1 (.lst (.cons (.call 503 [true, false] (.cons (.var 0) (.cons (.lst (.cons (.cst (.int 0)) (.cons (.cst (.int 1)) (.cons (.op2 .sub (.call 500 [] .nil) (.cst (.int 1))) .nil)))) .nil))) (.cons (.call 503 [true, false] (.cons (.var 0) (.cons (.lst (.cons (.cst (.int 0)) (.cons (.cst (.int 7)) (.cons (.op2 .sub (.call 500 [] .nil) (.cst (.int 1))) .nil)))) .nil))) .nil)))) (.cons (.asg 1 (.op2 .add (.var 1) (.lst (.cons (.call 503 [true, false] (.cons (.var 0) (.cons (.lst (.cons (.cst (.int 1)) (.cons (.cst (.int 2)) (.cons (.call 500 [] .nil) .nil)))) .nil))) (.cons (.call 503 [true, false] (.cons (.var 0) (.cons (.lst (.cons (.cst (.int 1)) (.cons (.cst (.int 5)) (.cons (.call 500 [] .nil) .nil)))) .nil))) .nil))))) (.cons (.iff (.op2 .isnot (.heardK 504 [1] (.mk 5 [false, false, false, false] (.cons (.ix (.var 1) (.cst (.int 0))) (.cons (.ix (.var 1) (.cst (.int 1))) (.cons (.ix (.var 1) (.cst (.int 2))) (.cons (.ix (.var 1) (.cst (.int 3))) .nil)))) [])) (.cst .non)) (.cons (.ret (.cst (.bl false))) .nil) .nil) (.cons (.par [2, 3] (.cons (.lst (.cons (.cst (.str "x")) (.cons (.cst (.str "y")) (.cons (.cst (.str "width")) (.cons (.cst (.str "height")) .nil))))) (.cons (.cst .non) .nil))) (.cons (.forr 4 (.cst (.int 4)) (.cons (.iff (.op2 .eq (.call 502 [true, false] (.cons (.var 0) (.cons (.cst (.int 3)) .nil))) (.cst (.int 0))) (.cons (.setI 1 (.var 4) (.call 505 [true, false] (.cons (.var 0) (.cons (.var 4) .nil)))) (.cons (.asg 3 (.ife (.op2 .is (.var 3) (.cst .non)) (.ix (.var 2) (.var 4)) (.var 3))) .nil)) .nil) .nil)) (.cons (.asg 5 (.ife (.op2 .is (.var 3) (.cst .non)) (.cst .non) (.tup (.cons (.cst (.str "box")) (.cons (.var 3) .nil))))) (.cons (.asg 6 (.lst (.cons (.heardK 504 [1] (.mk 5 [false, false, false, false] (.cons (.ix (.var 1) (.cst (.int 0))) (.cons (.ix (.var 1) (.cst (.int 1))) (.cons (.ix (.var 1) (.cst (.int 2))) (.cons (.ix (.var 1) (.cst (.int 3))) .nil)))) [])) .nil))) (.cons (.app 6 (.heardK 504 [1] (.mkP 5 [3, 1, 2, 0] (.cons (.ix (.var 1) (.cst (.int 3))) (.cons (.ix (.var 1) (.cst (.int 1))) (.cons (.ix (.var 1) (.cst (.int 2))) (.cons (.ix (.var 1) (.cst (.int 0))) .nil))))))) (.cons (.ret (.op2 .eq (.var 6) (.lst (.cons (.var 5) (.cons (.var 5) .nil))))) .nil))))))))) }
/-- _law_signs_right(_law_pen_here): 0 _law_pen_here 1 _law_box 2 _law_kept 3 _law_odd_here 4 _law_heard_here 5 _law_move 6 _law_many -/
abbrev st33 : Stmt := top 37
def fn33 : Fn := { n := 7, body := (.cons (.asg 1 (.mk 5 [false, false, false, false] (.cons (.call 502 [true, false] (.cons (.var 0) (.cons (.cst (.int 9)) .nil))) (.cons (.call 502 [true, false] (.cons (.var 0) (.cons (.cst (.int 9)) .nil))) (.cons (.op2 .add (.cst (.int 1)) (.call 502 [true, false] (.cons (.var 0) (.cons (.cst (.int 9)) .nil)))) (.cons (.op2 .add (.cst (.int 1)) (.call 502 [true, false] (.cons (.var 0) (.cons (.cst (.int 9)) .nil)))) .nil)))) [])) (.cons (.unp [2, 3] (.tup (.cons (.strO [5] (.var 1)) (.cons (.call 503 [true, false] (.cons (.var 0) (.cons (.lst (.cons (.cst .non) (.cons (.cst (.int 0)) (.cons (.cst (.bl true)) (.cons (.cst (.str "0 0 1 1")) (.cons (.tup (.cons (.cst (.int 0)) (.cons (.cst (.int 0)) (.cons (.cst (.int 1)) (.cons (.cst (.int 1)) .nil))))) (.cons (.lst .nil) (.cons .dic (.cons (.tup (.cons (.cst (.int 1)) (.cons (.cst (.int 2)) .nil))) .nil))))))))) .nil))) .nil)))) (.cons (.asg 4 (.lst (.cons (.heard 504 [1, 3] (.opo .band [5] [0, 1, 2, 3, 4, 5, 6] (.var 1) (.var 3))) .nil))) (.cons (.app 4 (.heard 504 [1, 3] (.opo .bor [5] [0, 1, 2, 3, 4, 5, 6] (.var 1) (.var 3)))) (.cons (.app 4 (.heard 504 [1, 3] (.opo .le [5] [0, 1, 2, 3, 4, 5, 6] (.var 1) (.var 3)))) (.cons (.app 4 (.heard 504 [1, 3] (.opo .lt [5] [0, 1, 2, 3, 4, 5, 6] (.var 1) (.var 3)))) (.cons (.app 4 (.heard 504 [1, 3] (.opo .ge [5] [0, 1, 2, 3, 4, 5, 6] (.var 1) (.var 3)))) (.cons (.app 4 (.heard 504 [1, 3] (.opo .gt [5] [0, 1, 2, 3, 4, 5, 6] (.var 1) (.var 3)))) (.cons (.iff (.op2 .ne (.var 4) (.op2 .mul (.lst (.cons (.tup (.cons (.cst (.str "box")) (.cons (.cst (.str "other")) .nil))) .nil)) (.cst (.int 6)))) (.cons (.ret (.cst (.bl false))) .nil) .nil) (.cons (.asg 5 (.call 503 [true, false] (.cons (.var 0) (.cons (.lst (.cons (.cst .non) (.cons (.cst (.int 1)) (.cons (.cst (.bl true)) (.cons (.cst (.str "1 1")) (.cons (.lst (.cons (.cst (.int 1)) (.cons (.cst (.int 1)) .nil))) (.cons (.tup (.cons (.cst (.int 1)) .nil)) (.cons (.tup (.cons (.cst (.int 1)) (.cons (.cst (.int 1)) (.cons (.cst (.int 1)) .nil)))) (.cons (.tup (.cons (.cst (.int 1)) (.cons (.cst (.bl true)) .nil))) (.cons (.tup (.cons (.cst (.str "1")) (.cons (.cst (.int 1)) .nil))) (.cons .dic (.cons (.var 1) (.cons (.tup (.cons (.cst .non) (.cons (.cst (.int 0)) .nil))) .nil))))))))))))) .nil)))) (.cons (.asg 4 (.lst (.cons (.heard 504 [1, 5] (.opo .add [5] [0, 1, 2, 3, 4, 5, 6] (.var 1) (.var 5))) .nil))) (.cons (.app 4 (.heard 504 [1, 5] (.opo .sub [5] [0, 1, 2, 3, 4, 5, 6] (.var 1) (.var 5)))) (.cons (.iff (.op2 .ne (.var 4) (.op2 .mul (.lst (.cons (.tup (.cons (.cst (.str "box")) (.cons (.cst (.str "move")) .nil))) .nil)) (.cst (.int 2)))) (.cons (.ret (.cst (.bl false))) .nil) .nil) (.cons (.asg 6 (.call 503 [true, false] (.cons (.var 0) (.cons (.lst (.cons (.cst .non) (.cons (.op1 .neg (.cst (.int 1))) (.cons (.cst (.int 101)) (.cons (.cst (.bl true)) (.cons (.cst (.str "1")) (.cons (.tup (.cons (.cst (.int 1)) .nil)) (.cons (.lst .nil) (.cons (.op2 .pow (.cst (.int 10)) (.cst (.int 40))) .nil))))))))) .nil)))) (.cons (.asg 4 (.lst (.cons (.heard 504 [1, 6] (.opo .shl [5] [0, 1, 2, 3, 4, 5, 6] (.var 1) (.var 6))) .nil))) (.cons (.app 4 (.heard 504 [1, 6] (.opo .shr [5] [0, 1, 2, 3, 4, 5, 6] (.var 1) (.var 6)))) (.cons (.ret (.and (.op2 .eq (.var 4) (.op2 .mul (.lst (.cons (.tup (.cons (.cst (.str "many")) (.cons (.bi .repr (.cons (.var 6) .nil)) .nil))) .nil)) (.cst (.int 2)))) (.op2 .eq (.strO [5] (.var 1)) (.var 2)))) .nil))))))))))))))))) }
/-- law(_law_script): 0 _law_script 1 _law_pen_here 2 _law_turn 3 _law_odd_here 4 _law_heard_here -/
abbrev st34 : Stmt := top 38
def fn34 : Fn := { n := 5, body := (.cons (.asg 1 (.call 501 [false] (.cons (.var 0) .nil))) (.cons (.forr 2 (.cst (.int 10)) (.cons (.iff (.or (.not (.call 506 [true] (.cons (.var 1) .nil))) (.not (.call 507 [true] (.cons (.var 1) .nil)))) (.cons (.ret (.cst (.bl false))) .nil) .nil) (.cons (.asg 3 (.call 503 [true, false] (.cons (.var 1) (.cons (.lst (.cons (.cst .non) (.cons (.op1 .neg (.cst (.int 1))) (.cons (.cst (.int 101)) (.cons (.cst (.bl true)) (.cons (.cst (.str "2")) (.cons (.tup (.cons (.cst (.int 2)) .nil)) (.cons (.lst .nil) (.cons (.op2 .pow (.cst (.int 10)) (.cst (.int 40))) .nil))))))))) .nil)))) (.cons (.iff (.op2 .ne (.heard 504 [3] (.call 6050 [false] (.cons (.var 3) .nil))) (.tup (.cons (.cst (.str "level")) (.cons (.bi .repr (.cons (.var 3) .nil)) .nil)))) (.cons (.ret (.cst (.bl false))) .nil) .nil) .nil)))) (.cons (.asg 4 (.lst (.cons (.heard 504 [] (.opo .shr [5] [0, 1, 2, 3, 4, 5, 6] (.call 6050 [false] (.cons (.cst (.int 100)) .nil)) (.cst (.int 100)))) .nil))) (.cons (.app 4 (.heard 504 [] (.opo .shl [5] [0, 1, 2, 3, 4, 5, 6] (.mk 5 [false, false] (.cons (.cst (.int 1)) (.cons (.cst (.int 0)) .nil)) [(.int 1), (.int 1)]) (.cst (.int 100))))) (.cons (.app 4 (.heard 504 [] (.opo .shl [5] [0, 1, 2, 3, 4, 5, 6] (.mk 5 [false, false, false, false] (.cons (.cst (.int 0)) (.cons (.cst (.int 0)) (.cons (.cst (.int 1)) (.cons (.cst (.int 2)) .nil)))) []) (.cst (.int 100))))) (.cons (.ret (.op2 .eq (.var 4) (.lst (.cons (.cst .non) (.cons (.tup (.cons (.cst (.str "box")) (.cons (.cst (.str "x")) .nil))) (.cons (.tup (.cons (.cst (.str "box")) (.cons (.cst (.str "height")) .nil))) .nil)))))) .nil)))))) }
def fs : Nat → Option Fn
  | 0 => some F_is_integer
  | 1 => some F_is_between
  | 2 => some F_is_level
  | 3 => some F_is_pair
  | 4 => some F_need_box
  | 5 => some F_moved_by
  | 6 => some F_need_shift
  | 7 => some F_is_within
  | 8 => some F_common_box
  | 9 => some F_least_box
  | 6000 => some F_Box__init__
  | 6050 => some F_Box_square
  | 6009 => some F_Box__and__
  | 6010 => some F_Box__or__
  | 6001 => some F_Box__add__
  | 6002 => some F_Box__sub__
  | 6008 => some F_Box__rshift__
  | 6007 => some F_Box__lshift__
  | 6013 => some F_Box__le__
  | 6012 => some F_Box__lt__
  | 6015 => some F_Box__ge__
  | 6014 => some F_Box__gt__
  | 6021 => some F_Box__str__
  | 500 => some fn26
  | 501 => some fn27
  | 502 => some fn28
  | 503 => some fn29
  | 505 => some fn31
  | 506 => some fn32
  | 507 => some fn33
  | 508 => some fn34
  | 504 => some fn30
  | _ => none
-- class 0 CurveError: 
-- class 1 BadInput: 
-- class 2 BadLevel: 0 value
-- class 3 BadBox: 1 part
-- class 4 BadMany: 0 value
-- class 5 Box: 2 x, 3 y, 4 width, 5 height
def fnm : Nat → Str
  | 0 => "value"
  | 1 => "part"
  | 2 => "x"
  | 3 => "y"
  | 4 => "width"
  | 5 => "height"
  | _ => ""
def cnm (K : PySem.W.Frag) : Nat → Option Addr
  | 0 => adr K "CurveError"
  | 1 => adr K "BadInput"
  | 2 => adr K "BadLevel"
  | 3 => adr K "BadBox"
  | 4 => adr K "BadMany"
  | 5 => adr K "Box"
  | _ => none
def foL : List (Nat × Nat) := [(2, 0), (3, 1), (4, 0), (5, 2), (5, 3), (5, 4), (5, 5)]
def ecL : Nat → Bool
  | 0 => true
  | 1 => true
  | 2 => true
  | 3 => true
  | 4 => true
  | 5 => false
  | _ => false
def lamN : List Str := ["_law_made_right", "_law_signs_right", "law"]
def tb (K : PySem.W.Frag) : Tbl := ⟨K, cnm K, fnm, fun c k => foL.contains (c, k), ttOf K lamN, ecL⟩
structure Tx (K : PySem.W.Frag) (mg : Str → Option Value) (fa ca pa cc ta : Nat → Addr) (fd : Nat → FuncData) : Prop where
  mC0 : mg "CurveError" = some (.ref (ca 0))
  cn0 : cnm K 0 = some (ca 0)
  mC1 : mg "BadInput" = some (.ref (ca 1))
  cn1 : cnm K 1 = some (ca 1)
  mC2 : mg "BadLevel" = some (.ref (ca 2))
  cn2 : cnm K 2 = some (ca 2)
  mC3 : mg "BadBox" = some (.ref (ca 3))
  cn3 : cnm K 3 = some (ca 3)
  mC4 : mg "BadMany" = some (.ref (ca 4))
  cn4 : cnm K 4 = some (ca 4)
  mC5 : mg "Box" = some (.ref (ca 5))
  cn5 : cnm K 5 = some (ca 5)
  xr0 : XfC K (ca 0)
  xe0 : ExcC K (ca 0)
  na0 : ∀ f ∈ ([] : List Str), NoAttr K (ca 0) f
  xr1 : XfC K (ca 1)
  xe1 : ExcC K (ca 1)
  na1 : ∀ f ∈ ([] : List Str), NoAttr K (ca 1) f
  xr2 : XfC K (ca 2)
  xe2 : ExcC K (ca 2)
  na2 : ∀ f ∈ (["value"] : List Str), NoAttr K (ca 2) f
  ox2 : OexC K (ca 2)
  xi2 : PySem.W.findIn K (.ref (ca 2)) "__init__" = some (some (.ref (fa 4)))
  xt2 : PySem.W.typeIn K (.ref (fa 4)) = some (.type "function")
  cx2 : (tb K).cx 2 [0] = some (ca 2)
  xr3 : XfC K (ca 3)
  xe3 : ExcC K (ca 3)
  na3 : ∀ f ∈ (["part"] : List Str), NoAttr K (ca 3) f
  ox3 : OexC K (ca 3)
  xi3 : PySem.W.findIn K (.ref (ca 3)) "__init__" = some (some (.ref (fa 5)))
  xt3 : PySem.W.typeIn K (.ref (fa 5)) = some (.type "function")
  cx3 : (tb K).cx 3 [1] = some (ca 3)
  xr4 : XfC K (ca 4)
  xe4 : ExcC K (ca 4)
  na4 : ∀ f ∈ (["value"] : List Str), NoAttr K (ca 4) f
  ox4 : OexC K (ca 4)
  xi4 : PySem.W.findIn K (.ref (ca 4)) "__init__" = some (some (.ref (fa 6)))
  xt4 : PySem.W.typeIn K (.ref (fa 6)) = some (.type "function")
  cx4 : (tb K).cx 4 [0] = some (ca 4)
  cl5 : Cls K (ca 5)
  cg5 : cgB K (ca 5) = true
  na5 : ∀ f ∈ (["x", "y", "width", "height"] : List Str), NoAttr K (ca 5) f
  ck5 : (tb K).ck 5 [] = some (ca 5)
  mk5 : Mk K (ca 5) (fa 13)
  m0 : mg "is_integer" = some (.ref (fa 0))
  f0 : FunV K "is_integer" "is_integer" st0 (fa 0) (fd 0)
  b0 : Binds K (fd 0) ["value"] []
  m1 : mg "is_between" = some (.ref (fa 1))
  f1 : FunV K "is_between" "is_between" st1 (fa 1) (fd 1)
  b1 : Binds K (fd 1) ["value", "least", "most"] []
  m2 : mg "is_level" = some (.ref (fa 2))
  f2 : FunV K "is_level" "is_level" st2 (fa 2) (fd 2)
  b2 : Binds K (fd 2) ["value"] []
  m3 : mg "is_pair" = some (.ref (fa 3))
  f3 : FunV K "is_pair" "is_pair" st3 (fa 3) (fd 3)
  b3 : Binds K (fd 3) ["value"] []
  f4 : FunV K "__init__" "BadLevel.__init__" st4 (fa 4) (fd 4)
  b4 : Binds K (fd 4) ["self", "value"] []
  f5 : FunV K "__init__" "BadBox.__init__" st5 (fa 5) (fd 5)
  b5 : Binds K (fd 5) ["self", "part"] []
  f6 : FunV K "__init__" "BadMany.__init__" st6 (fa 6) (fd 6)
  b6 : Binds K (fd 6) ["self", "value"] []
  m7 : mg "need_box" = some (.ref (fa 7))
  f7 : FunV K "need_box" "need_box" st7 (fa 7) (fd 7)
  b7 : Binds K (fd 7) ["other"] []
  m8 : mg "moved_by" = some (.ref (fa 8))
  f8 : FunV K "moved_by" "moved_by" st8 (fa 8) (fd 8)
  b8 : Binds K (fd 8) ["box", "move", "sign"] []
  m9 : mg "need_shift" = some (.ref (fa 9))
  f9 : FunV K "need_shift" "need_shift" st9 (fa 9) (fd 9)
  b9 : Binds K (fd 9) ["n"] []
  m10 : mg "is_within" = some (.ref (fa 10))
  f10 : FunV K "is_within" "is_within" st10 (fa 10) (fd 10)
  b10 : Binds K (fd 10) ["one", "other"] []
  m11 : mg "common_box" = some (.ref (fa 11))
  f11 : FunV K "common_box" "common_box" st11 (fa 11) (fd 11)
  b11 : Binds K (fd 11) ["one", "other"] []
  m12 : mg "least_box" = some (.ref (fa 12))
  f12 : FunV K "least_box" "least_box" st12 (fa 12) (fd 12)
  b12 : Binds K (fd 12) ["one", "other"] []
  f13 : FunV K "__init__" "Box.__init__" st13 (fa 13) (fd 13)
  bd13_0 : ∃ dus, Vals ([.int 1, .int 1] : List V) dus ∧ Binds K (fd 13) ["self", "x", "y", "width", "height"] dus
  bd13_2 : ∃ dus, Vals ([] : List V) dus ∧ Binds K (fd 13) ["self", "x", "y", "width", "height"] dus
  ks13_height_y_width_x : KwBindsS K (fd 13) ["self", "x", "y", "width", "height"] ["height", "y", "width", "x"] [3, 1, 2, 0]
  sm14 : StMet K (ca 5) (.type "type") "square" (pa 14) (fa 14)
  f14 : FunV K "square" "Box.square" st14 (fa 14) (fd 14)
  b14 : Binds K (fd 14) ["level"] []
  me5_15 : Meth K (ca 5) "__and__" (fa 15)
  f15 : FunV K "__and__" "Box.__and__" st15 (fa 15) (fd 15)
  b15 : Binds K (fd 15) ["self", "other"] []
  me5_16 : Meth K (ca 5) "__or__" (fa 16)
  f16 : FunV K "__or__" "Box.__or__" st16 (fa 16) (fd 16)
  b16 : Binds K (fd 16) ["self", "other"] []
  me5_17 : Meth K (ca 5) "__add__" (fa 17)
  f17 : FunV K "__add__" "Box.__add__" st17 (fa 17) (fd 17)
  b17 : Binds K (fd 17) ["self", "move"] []
  me5_18 : Meth K (ca 5) "__sub__" (fa 18)
  f18 : FunV K "__sub__" "Box.__sub__" st18 (fa 18) (fd 18)
  b18 : Binds K (fd 18) ["self", "move"] []
  me5_19 : Meth K (ca 5) "__rshift__" (fa 19)
  f19 : FunV K "__rshift__" "Box.__rshift__" st19 (fa 19) (fd 19)
  b19 : Binds K (fd 19) ["self", "n"] []
  me5_20 : Meth K (ca 5) "__lshift__" (fa 20)
  f20 : FunV K "__lshift__" "Box.__lshift__" st20 (fa 20) (fd 20)
  b20 : Binds K (fd 20) ["self", "n"] []
  me5_21 : Meth K (ca 5) "__le__" (fa 21)
  f21 : FunV K "__le__" "Box.__le__" st21 (fa 21) (fd 21)
  b21 : Binds K (fd 21) ["self", "other"] []
  me5_22 : Meth K (ca 5) "__lt__" (fa 22)
  f22 : FunV K "__lt__" "Box.__lt__" st22 (fa 22) (fd 22)
  b22 : Binds K (fd 22) ["self", "other"] []
  me5_23 : Meth K (ca 5) "__ge__" (fa 23)
  f23 : FunV K "__ge__" "Box.__ge__" st23 (fa 23) (fd 23)
  b23 : Binds K (fd 23) ["self", "other"] []
  me5_24 : Meth K (ca 5) "__gt__" (fa 24)
  f24 : FunV K "__gt__" "Box.__gt__" st24 (fa 24) (fd 24)
  b24 : Binds K (fd 24) ["self", "other"] []
  me5_25 : Meth K (ca 5) "__str__" (fa 25)
  f25 : FunV K "__str__" "Box.__str__" st25 (fa 25) (fd 25)
  b25 : Binds K (fd 25) ["self"] []
  m26 : mg "_law_top" = some (.ref (fa 26))
  f26 : FunV K "_law_top" "_law_top" st26 (fa 26) (fd 26)
  b26 : Binds K (fd 26) [] []
  m27 : mg "_law_pen" = some (.ref (fa 27))
  f27 : FunV K "_law_pen" "_law_pen" st27 (fa 27) (fd 27)
  b27 : Binds K (fd 27) ["_law_script"] []
  m28 : mg "_law_draw" = some (.ref (fa 28))
  f28 : FunV K "_law_draw" "_law_draw" st28 (fa 28) (fd 28)
  b28 : Binds K (fd 28) ["_law_pen_here", "_law_many"] []
  m29 : mg "_law_pick" = some (.ref (fa 29))
  f29 : FunV K "_law_pick" "_law_pick" st29 (fa 29) (fd 29)
  b29 : Binds K (fd 29) ["_law_pen_here", "_law_some"] []
  m30 : mg "_law_heard" = some (.ref (fa 30))
  f30 : FunV K "_law_heard" "_law_heard" st30 (fa 30) (fd 30)
  h30 : Fun K "_law_heard" "_law_heard" st30 (fa 30) (fd 30)
  b30 : Binds K (fd 30) ["_law_ask"] []
  m31 : mg "_law_odd" = some (.ref (fa 31))
  f31 : FunV K "_law_odd" "_law_odd" st31 (fa 31) (fd 31)
  b31 : Binds K (fd 31) ["_law_pen_here", "_law_at"] []
  m32 : mg "_law_made_right" = some (.ref (fa 32))
  f32 : FunV K "_law_made_right" "_law_made_right" st32 (fa 32) (fd 32)
  b32 : Binds K (fd 32) ["_law_pen_here"] []
  q32 : (fd 32).code = .ref (cc 32)
  ti32 : PySem.W.tabIn K "_law_made_right" = some (cc 32, ta 32)
  tt32 : (ta 32, ("_law_made_right" : Str) ++ ".<locals>." ++ "<lambda>") ∈ ttOf K lamN
  tu32 : ∀ q ∈ ttOf K lamN, q.1 = ta 32 → q.2 = ("_law_made_right" : Str) ++ ".<locals>." ++ "<lambda>"
  m33 : mg "_law_signs_right" = some (.ref (fa 33))
  f33 : FunV K "_law_signs_right" "_law_signs_right" st33 (fa 33) (fd 33)
  b33 : Binds K (fd 33) ["_law_pen_here"] []
  q33 : (fd 33).code = .ref (cc 33)
  ti33 : PySem.W.tabIn K "_law_signs_right" = some (cc 33, ta 33)
  tt33 : (ta 33, ("_law_signs_right" : Str) ++ ".<locals>." ++ "<lambda>") ∈ ttOf K lamN
  tu33 : ∀ q ∈ ttOf K lamN, q.1 = ta 33 → q.2 = ("_law_signs_right" : Str) ++ ".<locals>." ++ "<lambda>"
  m34 : mg "law" = some (.ref (fa 34))
  f34 : FunV K "law" "law" st34 (fa 34) (fd 34)
  b34 : Binds K (fd 34) ["_law_script"] []
  q34 : (fd 34).code = .ref (cc 34)
  ti34 : PySem.W.tabIn K "law" = some (cc 34, ta 34)
  tt34 : (ta 34, ("law" : Str) ++ ".<locals>." ++ "<lambda>") ∈ ttOf K lamN
  tu34 : ∀ q ∈ ttOf K lamN, q.1 = ta 34 → q.2 = ("law" : Str) ++ ".<locals>." ++ "<lambda>"
  is2 : isoB K (ca 2) [(ca 0, false), (ca 1, false), (ca 2, true), (ca 3, false), (ca 4, false), (ca 5, false)] = true
  is3 : isoB K (ca 3) [(ca 0, false), (ca 1, false), (ca 2, false), (ca 3, true), (ca 4, false), (ca 5, false)] = true
  is4 : isoB K (ca 4) [(ca 0, false), (ca 1, false), (ca 2, false), (ca 3, false), (ca 4, true), (ca 5, false)] = true
  is5 : isoB K (ca 5) [(ca 0, false), (ca 1, false), (ca 2, false), (ca 3, false), (ca 4, false), (ca 5, true)] = true
  ib : isbB K [ca 0, ca 1, ca 2, ca 3, ca 4, ca 5] = true
  em0 : exmB K (ca 0) [ca 0, ca 1, ca 2, ca 3, ca 4] = true
  nO5 : nfB K (ca 5) [ca 0, ca 1, ca 2, ca 3, ca 4, ca 5] = true
  bc5__add__ : bcB K (ca 5) .Add = true
  bc5__and__ : bcB K (ca 5) .BitAnd = true
  bc5__lshift__ : bcB K (ca 5) .LShift = true
  bc5__or__ : bcB K (ca 5) .BitOr = true
  bc5__rshift__ : bcB K (ca 5) .RShift = true
  bc5__sub__ : bcB K (ca 5) .Sub = true
  n_abs : mg "abs" = none
  n_bool : mg "bool" = none
  n_int : mg "int" = none
  n_isinstance : mg "isinstance" = none
  n_len : mg "len" = none
  n_list : mg "list" = none
  n_max : mg "max" = none
  n_min : mg "min" = none
  n_range : mg "range" = none
  n_repr : mg "repr" = none
  n_str : mg "str" = none
  n_tuple : mg "tuple" = none
  g_MOST_LEVEL : ∃ t, mg "MOST_LEVEL" = some (.int 100 t)
  g_MOST_SHIFT : ∃ t, mg "MOST_SHIFT" = some (.int 100 t)
  g_MOST_SIDE : ∃ t, mg "MOST_SIDE" = some (.int 1267650600228229401496703205376 t)
structure Al (P : Program) (w : World) (K : PySem.W.Frag) (mg : Str → Option Value) (base : Heap) (fa cc ta : Nat → Addr) (fd : Nat → FuncData) (k : Nat) : Prop where
  o0 : FnG P w K mg base (5 * k) (fa 0) (fd 0) ["value"] (spF (tb K) (calls fs k) 0 1)
  o1 : FnG P w K mg base (5 * k) (fa 1) (fd 1) ["value", "least", "most"] (spF (tb K) (calls fs k) 1 3)
  o2 : FnG P w K mg base (5 * k) (fa 2) (fd 2) ["value"] (spF (tb K) (calls fs k) 2 1)
  o3 : FnG P w K mg base (5 * k) (fa 3) (fd 3) ["value"] (spF (tb K) (calls fs k) 3 1)
  o7 : FnG P w K mg base (5 * k) (fa 7) (fd 7) ["other"] (spF (tb K) (calls fs k) 4 1)
  o8 : FnG P w K mg base (5 * k) (fa 8) (fd 8) ["box", "move", "sign"] (spF (tb K) (calls fs k) 5 3)
  o9 : FnG P w K mg base (5 * k) (fa 9) (fd 9) ["n"] (spF (tb K) (calls fs k) 6 1)
  o10 : FnG P w K mg base (5 * k) (fa 10) (fd 10) ["one", "other"] (spF (tb K) (calls fs k) 7 2)
  o11 : FnG P w K mg base (5 * k) (fa 11) (fd 11) ["one", "other"] (spF (tb K) (calls fs k) 8 2)
  o12 : FnG P w K mg base (5 * k) (fa 12) (fd 12) ["one", "other"] (spF (tb K) (calls fs k) 9 2)
  o13 : FnG P w K mg base (5 * k) (fa 13) (fd 13) ["self", "x", "y", "width", "height"] (spF (tb K) (calls fs k) 6000 5)
  o14 : FnG P w K mg base (5 * k) (fa 14) (fd 14) ["level"] (spF (tb K) (calls fs k) 6050 1)
  o15 : FnG P w K mg base (5 * k) (fa 15) (fd 15) ["self", "other"] (spF (tb K) (calls fs k) 6009 2)
  o16 : FnG P w K mg base (5 * k) (fa 16) (fd 16) ["self", "other"] (spF (tb K) (calls fs k) 6010 2)
  o17 : FnG P w K mg base (5 * k) (fa 17) (fd 17) ["self", "move"] (spF (tb K) (calls fs k) 6001 2)
  o18 : FnG P w K mg base (5 * k) (fa 18) (fd 18) ["self", "move"] (spF (tb K) (calls fs k) 6002 2)
  o19 : FnG P w K mg base (5 * k) (fa 19) (fd 19) ["self", "n"] (spF (tb K) (calls fs k) 6008 2)
  o20 : FnG P w K mg base (5 * k) (fa 20) (fd 20) ["self", "n"] (spF (tb K) (calls fs k) 6007 2)
  o21 : FnG P w K mg base (5 * k) (fa 21) (fd 21) ["self", "other"] (spF (tb K) (calls fs k) 6013 2)
  o22 : FnG P w K mg base (5 * k) (fa 22) (fd 22) ["self", "other"] (spF (tb K) (calls fs k) 6012 2)
  o23 : FnG P w K mg base (5 * k) (fa 23) (fd 23) ["self", "other"] (spF (tb K) (calls fs k) 6015 2)
  o24 : FnG P w K mg base (5 * k) (fa 24) (fd 24) ["self", "other"] (spF (tb K) (calls fs k) 6014 2)
  o25 : FnG P w K mg base (5 * k) (fa 25) (fd 25) ["self"] (spF (tb K) (calls fs k) 6021 1)
  o26 : FnG P w K mg base (5 * k) (fa 26) (fd 26) [] (spF (tb K) (calls fs k) 500 0)
  o27 : FnG P w K mg base (5 * k) (fa 27) (fd 27) ["_law_script"] (spF (tb K) (calls fs k) 501 1)
  o28 : FnG P w K mg base (5 * k) (fa 28) (fd 28) ["_law_pen_here", "_law_many"] (spF (tb K) (calls fs k) 502 2)
  o29 : FnG P w K mg base (5 * k) (fa 29) (fd 29) ["_law_pen_here", "_law_some"] (spF (tb K) (calls fs k) 503 2)
  o31 : FnG P w K mg base (5 * k) (fa 31) (fd 31) ["_law_pen_here", "_law_at"] (spF (tb K) (calls fs k) 505 2)
  o32 : FnG P w K mg base (5 * k) (fa 32) (fd 32) ["_law_pen_here"] (spF (tb K) (calls fs k) 506 1)
  o33 : FnG P w K mg base (5 * k) (fa 33) (fd 33) ["_law_pen_here"] (spF (tb K) (calls fs k) 507 1)
  o34 : FnG P w K mg base (5 * k) (fa 34) (fd 34) ["_law_script"] (spF (tb K) (calls fs k) 508 1)
  t32 : LamX.TabB base mg (cc 32) (ta 32)
  t33 : LamX.TabB base mg (cc 33) (ta 33)
  t34 : LamX.TabB base mg (cc 34) (ta 34)
section
variable {P : Program} {w : World} {K : PySem.W.Frag} {mg : Str → Option Value} {base : Heap} {fa ca pa cc ta : Nat → Addr} {fd : Nat → FuncData} {k : Nat}
theorem cnc (T : Tx K mg fa ca pa cc ta fd) {c : Nat} {C : Addr} (h : (tb K).cn c = some C) : (c = 0 ∧ C = ca 0) ∨ (c = 1 ∧ C = ca 1) ∨ (c = 2 ∧ C = ca 2) ∨ (c = 3 ∧ C = ca 3) ∨ (c = 4 ∧ C = ca 4) ∨ (c = 5 ∧ C = ca 5) := by
  have h0 : cnm K c = some C := h
  unfold cnm at h0
  split at h0
  · exact .inl (⟨rfl, Option.some.inj (h.symm.trans T.cn0)⟩)
  · exact .inr (.inl (⟨rfl, Option.some.inj (h.symm.trans T.cn1)⟩))
  · exact .inr (.inr (.inl (⟨rfl, Option.some.inj (h.symm.trans T.cn2)⟩)))
  · exact .inr (.inr (.inr (.inl (⟨rfl, Option.some.inj (h.symm.trans T.cn3)⟩))))
  · exact .inr (.inr (.inr (.inr (.inl (⟨rfl, Option.some.inj (h.symm.trans T.cn4)⟩)))))
  · exact .inr (.inr (.inr (.inr (.inr (⟨rfl, Option.some.inj (h.symm.trans T.cn5)⟩)))))
  · cases h0
theorem fld_0 (T : Tx K mg fa ca pa cc ta fd) : FldOk K (tb K) 0 "value" where
  nm := rfl
  inj := fun c j _ _ h => by
    have h0 : fnm j = "value" := h
    unfold fnm at h0
    split at h0 <;> first | rfl | exact absurd h0 (by decide)
  ok := fun c C h hf he => by
    rcases cnc T h with ⟨rfl, rfl⟩ | ⟨rfl, rfl⟩ | ⟨rfl, rfl⟩ | ⟨rfl, rfl⟩ | ⟨rfl, rfl⟩ | ⟨rfl, rfl⟩
    · cases (show false = true from hf)
    · cases (show false = true from hf)
    · cases (show true = false from he)
    · cases (show false = true from hf)
    · cases (show true = false from he)
    · cases (show false = true from hf)
  ex := fun c C h hf he => by
    rcases cnc T h with ⟨rfl, rfl⟩ | ⟨rfl, rfl⟩ | ⟨rfl, rfl⟩ | ⟨rfl, rfl⟩ | ⟨rfl, rfl⟩ | ⟨rfl, rfl⟩
    · cases (show false = true from hf)
    · cases (show false = true from hf)
    · exact ⟨T.xr2, T.na2 _ (by decide)⟩
    · cases (show false = true from hf)
    · exact ⟨T.xr4, T.na4 _ (by decide)⟩
    · cases (show false = true from hf)
theorem fld_1 (T : Tx K mg fa ca pa cc ta fd) : FldOk K (tb K) 1 "part" where
  nm := rfl
  inj := fun c j _ _ h => by
    have h0 : fnm j = "part" := h
    unfold fnm at h0
    split at h0 <;> first | rfl | exact absurd h0 (by decide)
  ok := fun c C h hf he => by
    rcases cnc T h with ⟨rfl, rfl⟩ | ⟨rfl, rfl⟩ | ⟨rfl, rfl⟩ | ⟨rfl, rfl⟩ | ⟨rfl, rfl⟩ | ⟨rfl, rfl⟩
    · cases (show false = true from hf)
    · cases (show false = true from hf)
    · cases (show false = true from hf)
    · cases (show true = false from he)
    · cases (show false = true from hf)
    · cases (show false = true from hf)
  ex := fun c C h hf he => by
    rcases cnc T h with ⟨rfl, rfl⟩ | ⟨rfl, rfl⟩ | ⟨rfl, rfl⟩ | ⟨rfl, rfl⟩ | ⟨rfl, rfl⟩ | ⟨rfl, rfl⟩
    · cases (show false = true from hf)
    · cases (show false = true from hf)
    · cases (show false = true from hf)
    · exact ⟨T.xr3, T.na3 _ (by decide)⟩
    · cases (show false = true from hf)
    · cases (show false = true from hf)
theorem fld_2 (T : Tx K mg fa ca pa cc ta fd) : FldOk K (tb K) 2 "x" where
  nm := rfl
  inj := fun c j _ _ h => by
    have h0 : fnm j = "x" := h
    unfold fnm at h0
    split at h0 <;> first | rfl | exact absurd h0 (by decide)
  ok := fun c C h hf he => by
    rcases cnc T h with ⟨rfl, rfl⟩ | ⟨rfl, rfl⟩ | ⟨rfl, rfl⟩ | ⟨rfl, rfl⟩ | ⟨rfl, rfl⟩ | ⟨rfl, rfl⟩
    · cases (show false = true from hf)
    · cases (show false = true from hf)
    · cases (show false = true from hf)
    · cases (show false = true from hf)
    · cases (show false = true from hf)
    · exact ⟨T.cl5, T.na5 _ (by decide)⟩
  ex := fun c C h hf he => by
    rcases cnc T h with ⟨rfl, rfl⟩ | ⟨rfl, rfl⟩ | ⟨rfl, rfl⟩ | ⟨rfl, rfl⟩ | ⟨rfl, rfl⟩ | ⟨rfl, rfl⟩
    · cases (show false = true from hf)
    · cases (show false = true from hf)
    · cases (show false = true from hf)
    · cases (show false = true from hf)
    · cases (show false = true from hf)
    · cases (show false = true from he)
theorem fld_3 (T : Tx K mg fa ca pa cc ta fd) : FldOk K (tb K) 3 "y" where
  nm := rfl
  inj := fun c j _ _ h => by
    have h0 : fnm j = "y" := h
    unfold fnm at h0
    split at h0 <;> first | rfl | exact absurd h0 (by decide)
  ok := fun c C h hf he => by
    rcases cnc T h with ⟨rfl, rfl⟩ | ⟨rfl, rfl⟩ | ⟨rfl, rfl⟩ | ⟨rfl, rfl⟩ | ⟨rfl, rfl⟩ | ⟨rfl, rfl⟩
    · cases (show false = true from hf)
    · cases (show false = true from hf)
    · cases (show false = true from hf)
    · cases (show false = true from hf)
    · cases (show false = true from hf)
    · exact ⟨T.cl5, T.na5 _ (by decide)⟩
  ex := fun c C h hf he => by
    rcases cnc T h with ⟨rfl, rfl⟩ | ⟨rfl, rfl⟩ | ⟨rfl, rfl⟩ | ⟨rfl, rfl⟩ | ⟨rfl, rfl⟩ | ⟨rfl, rfl⟩
    · cases (show false = true from hf)
    · cases (show false = true from hf)
    · cases (show false = true from hf)
    · cases (show false = true from hf)
    · cases (show false = true from hf)
    · cases (show false = true from he)
theorem fld_4 (T : Tx K mg fa ca pa cc ta fd) : FldOk K (tb K) 4 "width" where
  nm := rfl
  inj := fun c j _ _ h => by
    have h0 : fnm j = "width" := h
    unfold fnm at h0
    split at h0 <;> first | rfl | exact absurd h0 (by decide)
  ok := fun c C h hf he => by
    rcases cnc T h with ⟨rfl, rfl⟩ | ⟨rfl, rfl⟩ | ⟨rfl, rfl⟩ | ⟨rfl, rfl⟩ | ⟨rfl, rfl⟩ | ⟨rfl, rfl⟩
    · cases (show false = true from hf)
    · cases (show false = true from hf)
    · cases (show false = true from hf)
    · cases (show false = true from hf)
    · cases (show false = true from hf)
    · exact ⟨T.cl5, T.na5 _ (by decide)⟩
  ex := fun c C h hf he => by
    rcases cnc T h with ⟨rfl, rfl⟩ | ⟨rfl, rfl⟩ | ⟨rfl, rfl⟩ | ⟨rfl, rfl⟩ | ⟨rfl, rfl⟩ | ⟨rfl, rfl⟩
    · cases (show false = true from hf)
    · cases (show false = true from hf)
    · cases (show false = true from hf)
    · cases (show false = true from hf)
    · cases (show false = true from hf)
    · cases (show false = true from he)
theorem fld_5 (T : Tx K mg fa ca pa cc ta fd) : FldOk K (tb K) 5 "height" where
  nm := rfl
  inj := fun c j _ _ h => by
    have h0 : fnm j = "height" := h
    unfold fnm at h0
    split at h0 <;> first | rfl | exact absurd h0 (by decide)
  ok := fun c C h hf he => by
    rcases cnc T h with ⟨rfl, rfl⟩ | ⟨rfl, rfl⟩ | ⟨rfl, rfl⟩ | ⟨rfl, rfl⟩ | ⟨rfl, rfl⟩ | ⟨rfl, rfl⟩
    · cases (show false = true from hf)
    · cases (show false = true from hf)
    · cases (show false = true from hf)
    · cases (show false = true from hf)
    · cases (show false = true from hf)
    · exact ⟨T.cl5, T.na5 _ (by decide)⟩
  ex := fun c C h hf he => by
    rcases cnc T h with ⟨rfl, rfl⟩ | ⟨rfl, rfl⟩ | ⟨rfl, rfl⟩ | ⟨rfl, rfl⟩ | ⟨rfl, rfl⟩ | ⟨rfl, rfl⟩
    · cases (show false = true from hf)
    · cases (show false = true from hf)
    · cases (show false = true from hf)
    · cases (show false = true from hf)
    · cases (show false = true from hf)
    · cases (show false = true from he)
theorem iso_2 (T : Tx K mg fa ca pa cc ta fd) {X : Cx} (e : X.K = K) : IsO X (tb K) [2] (.ref (ca 2)) := by
  subst e
  refine iso_of T.is2 fun c C h => ?_
  rcases cnc T h with ⟨rfl, rfl⟩ | ⟨rfl, rfl⟩ | ⟨rfl, rfl⟩ | ⟨rfl, rfl⟩ | ⟨rfl, rfl⟩ | ⟨rfl, rfl⟩
  · exact ⟨by simp, fun _ => T.xe0, fun z => (by cases (show true = false from z))⟩
  · exact ⟨by simp, fun _ => T.xe1, fun z => (by cases (show true = false from z))⟩
  · exact ⟨by simp, fun _ => T.xe2, fun z => (by cases (show true = false from z))⟩
  · exact ⟨by simp, fun _ => T.xe3, fun z => (by cases (show true = false from z))⟩
  · exact ⟨by simp, fun _ => T.xe4, fun z => (by cases (show true = false from z))⟩
  · exact ⟨by simp, fun z => (by cases (show false = true from z)), fun _ => ⟨T.cl5, T.cg5⟩⟩
theorem iso_3 (T : Tx K mg fa ca pa cc ta fd) {X : Cx} (e : X.K = K) : IsO X (tb K) [3] (.ref (ca 3)) := by
  subst e
  refine iso_of T.is3 fun c C h => ?_
  rcases cnc T h with ⟨rfl, rfl⟩ | ⟨rfl, rfl⟩ | ⟨rfl, rfl⟩ | ⟨rfl, rfl⟩ | ⟨rfl, rfl⟩ | ⟨rfl, rfl⟩
  · exact ⟨by simp, fun _ => T.xe0, fun z => (by cases (show true = false from z))⟩
  · exact ⟨by simp, fun _ => T.xe1, fun z => (by cases (show true = false from z))⟩
  · exact ⟨by simp, fun _ => T.xe2, fun z => (by cases (show true = false from z))⟩
  · exact ⟨by simp, fun _ => T.xe3, fun z => (by cases (show true = false from z))⟩
  · exact ⟨by simp, fun _ => T.xe4, fun z => (by cases (show true = false from z))⟩
  · exact ⟨by simp, fun z => (by cases (show false = true from z)), fun _ => ⟨T.cl5, T.cg5⟩⟩
theorem iso_4 (T : Tx K mg fa ca pa cc ta fd) {X : Cx} (e : X.K = K) : IsO X (tb K) [4] (.ref (ca 4)) := by
  subst e
  refine iso_of T.is4 fun c C h => ?_
  rcases cnc T h with ⟨rfl, rfl⟩ | ⟨rfl, rfl⟩ | ⟨rfl, rfl⟩ | ⟨rfl, rfl⟩ | ⟨rfl, rfl⟩ | ⟨rfl, rfl⟩
  · exact ⟨by simp, fun _ => T.xe0, fun z => (by cases (show true = false from z))⟩
  · exact ⟨by simp, fun _ => T.xe1, fun z => (by cases (show true = false from z))⟩
  · exact ⟨by simp, fun _ => T.xe2, fun z => (by cases (show true = false from z))⟩
  · exact ⟨by simp, fun _ => T.xe3, fun z => (by cases (show true = false from z))⟩
  · exact ⟨by simp, fun _ => T.xe4, fun z => (by cases (show true = false from z))⟩
  · exact ⟨by simp, fun z => (by cases (show false = true from z)), fun _ => ⟨T.cl5, T.cg5⟩⟩
theorem iso_5 (T : Tx K mg fa ca pa cc ta fd) {X : Cx} (e : X.K = K) : IsO X (tb K) [5] (.ref (ca 5)) := by
  subst e
  refine iso_of T.is5 fun c C h => ?_
  rcases cnc T h with ⟨rfl, rfl⟩ | ⟨rfl, rfl⟩ | ⟨rfl, rfl⟩ | ⟨rfl, rfl⟩ | ⟨rfl, rfl⟩ | ⟨rfl, rfl⟩
  · exact ⟨by simp, fun _ => T.xe0, fun z => (by cases (show true = false from z))⟩
  · exact ⟨by simp, fun _ => T.xe1, fun z => (by cases (show true = false from z))⟩
  · exact ⟨by simp, fun _ => T.xe2, fun z => (by cases (show true = false from z))⟩
  · exact ⟨by simp, fun _ => T.xe3, fun z => (by cases (show true = false from z))⟩
  · exact ⟨by simp, fun _ => T.xe4, fun z => (by cases (show true = false from z))⟩
  · exact ⟨by simp, fun z => (by cases (show false = true from z)), fun _ => ⟨T.cl5, T.cg5⟩⟩
theorem isb (T : Tx K mg fa ca pa cc ta fd) {X : Cx} (e : X.K = K) {t : String} (ht : t ∈ tys) : IsB X (tb K) (.type t) := by
  subst e
  refine isb_of T.ib ht fun c C h => ?_
  rcases cnc T h with ⟨rfl, rfl⟩ | ⟨rfl, rfl⟩ | ⟨rfl, rfl⟩ | ⟨rfl, rfl⟩ | ⟨rfl, rfl⟩ | ⟨rfl, rfl⟩
  · exact ⟨by simp, fun _ => T.xe0, fun z => (by cases (show true = false from z))⟩
  · exact ⟨by simp, fun _ => T.xe1, fun z => (by cases (show true = false from z))⟩
  · exact ⟨by simp, fun _ => T.xe2, fun z => (by cases (show true = false from z))⟩
  · exact ⟨by simp, fun _ => T.xe3, fun z => (by cases (show true = false from z))⟩
  · exact ⟨by simp, fun _ => T.xe4, fun z => (by cases (show true = false from z))⟩
  · exact ⟨by simp, fun z => (by cases (show false = true from z)), fun _ => ⟨T.cl5, T.cg5⟩⟩
theorem exm_0 (T : Tx K mg fa ca pa cc ta fd) {X : Cx} (e : X.K = K) : ∀ c ∈ ([0, 1, 2, 3, 4] : List Nat), ∀ Ca, (tb K).cn c = some Ca → PySem.W.exmOne X.K (.ref Ca) (.ref (ca 0)) = some true := by
  subst e
  intro c hc C h
  rcases cnc T h with ⟨rfl, rfl⟩ | ⟨rfl, rfl⟩ | ⟨rfl, rfl⟩ | ⟨rfl, rfl⟩ | ⟨rfl, rfl⟩ | ⟨rfl, rfl⟩
  · exact exm_of T.em0 (by simp)
  · exact exm_of T.em0 (by simp)
  · exact exm_of T.em0 (by simp)
  · exact exm_of T.em0 (by simp)
  · exact exm_of T.em0 (by simp)
  · exact absurd hc (by decide)
theorem nofl___add__ : ∀ j, fnm j ≠ "__add__" := by
  intro j
  unfold fnm
  split <;> decide
theorem nofl___and__ : ∀ j, fnm j ≠ "__and__" := by
  intro j
  unfold fnm
  split <;> decide
theorem nofl___ge__ : ∀ j, fnm j ≠ "__ge__" := by
  intro j
  unfold fnm
  split <;> decide
theorem nofl___gt__ : ∀ j, fnm j ≠ "__gt__" := by
  intro j
  unfold fnm
  split <;> decide
theorem nofl___le__ : ∀ j, fnm j ≠ "__le__" := by
  intro j
  unfold fnm
  split <;> decide
theorem nofl___lshift__ : ∀ j, fnm j ≠ "__lshift__" := by
  intro j
  unfold fnm
  split <;> decide
theorem nofl___lt__ : ∀ j, fnm j ≠ "__lt__" := by
  intro j
  unfold fnm
  split <;> decide
theorem nofl___or__ : ∀ j, fnm j ≠ "__or__" := by
  intro j
  unfold fnm
  split <;> decide
theorem nofl___rshift__ : ∀ j, fnm j ≠ "__rshift__" := by
  intro j
  unfold fnm
  split <;> decide
theorem nofl___sub__ : ∀ j, fnm j ≠ "__sub__" := by
  intro j
  unfold fnm
  split <;> decide
theorem bc___add___5_Add (T : Tx K mg fa ca pa cc ta fd) {X : Cx} (e : X.K = K) : ∀ c ∈ ([5] : List Nat), ∀ Ca, (tb K).cn c = some Ca → BinC X.K Ca .Add [0, 1, 2, 3, 4, 5, 6] := by
  subst e
  intro c hc C h
  rcases cnc T h with ⟨rfl, rfl⟩ | ⟨rfl, rfl⟩ | ⟨rfl, rfl⟩ | ⟨rfl, rfl⟩ | ⟨rfl, rfl⟩ | ⟨rfl, rfl⟩
  · exact absurd hc (by decide)
  · exact absurd hc (by decide)
  · exact absurd hc (by decide)
  · exact absurd hc (by decide)
  · exact absurd hc (by decide)
  · exact bc_of T.bc5__add__
theorem bc___and___5_BitAnd (T : Tx K mg fa ca pa cc ta fd) {X : Cx} (e : X.K = K) : ∀ c ∈ ([5] : List Nat), ∀ Ca, (tb K).cn c = some Ca → BinC X.K Ca .BitAnd [0, 1, 2, 3, 4, 5, 6] := by
  subst e
  intro c hc C h
  rcases cnc T h with ⟨rfl, rfl⟩ | ⟨rfl, rfl⟩ | ⟨rfl, rfl⟩ | ⟨rfl, rfl⟩ | ⟨rfl, rfl⟩ | ⟨rfl, rfl⟩
  · exact absurd hc (by decide)
  · exact absurd hc (by decide)
  · exact absurd hc (by decide)
  · exact absurd hc (by decide)
  · exact absurd hc (by decide)
  · exact bc_of T.bc5__and__
theorem bc___lshift___5_LShift (T : Tx K mg fa ca pa cc ta fd) {X : Cx} (e : X.K = K) : ∀ c ∈ ([5] : List Nat), ∀ Ca, (tb K).cn c = some Ca → BinC X.K Ca .LShift [0, 1, 2, 3, 4, 5, 6] := by
  subst e
  intro c hc C h
  rcases cnc T h with ⟨rfl, rfl⟩ | ⟨rfl, rfl⟩ | ⟨rfl, rfl⟩ | ⟨rfl, rfl⟩ | ⟨rfl, rfl⟩ | ⟨rfl, rfl⟩
  · exact absurd hc (by decide)
  · exact absurd hc (by decide)
  · exact absurd hc (by decide)
  · exact absurd hc (by decide)
  · exact absurd hc (by decide)
  · exact bc_of T.bc5__lshift__
theorem bc___or___5_BitOr (T : Tx K mg fa ca pa cc ta fd) {X : Cx} (e : X.K = K) : ∀ c ∈ ([5] : List Nat), ∀ Ca, (tb K).cn c = some Ca → BinC X.K Ca .BitOr [0, 1, 2, 3, 4, 5, 6] := by
  subst e
  intro c hc C h
  rcases cnc T h with ⟨rfl, rfl⟩ | ⟨rfl, rfl⟩ | ⟨rfl, rfl⟩ | ⟨rfl, rfl⟩ | ⟨rfl, rfl⟩ | ⟨rfl, rfl⟩
  · exact absurd hc (by decide)
  · exact absurd hc (by decide)
  · exact absurd hc (by decide)
  · exact absurd hc (by decide)
  · exact absurd hc (by decide)
  · exact bc_of T.bc5__or__
theorem bc___rshift___5_RShift (T : Tx K mg fa ca pa cc ta fd) {X : Cx} (e : X.K = K) : ∀ c ∈ ([5] : List Nat), ∀ Ca, (tb K).cn c = some Ca → BinC X.K Ca .RShift [0, 1, 2, 3, 4, 5, 6] := by
  subst e
  intro c hc C h
  rcases cnc T h with ⟨rfl, rfl⟩ | ⟨rfl, rfl⟩ | ⟨rfl, rfl⟩ | ⟨rfl, rfl⟩ | ⟨rfl, rfl⟩ | ⟨rfl, rfl⟩
  · exact absurd hc (by decide)
  · exact absurd hc (by decide)
  · exact absurd hc (by decide)
  · exact absurd hc (by decide)
  · exact absurd hc (by decide)
  · exact bc_of T.bc5__rshift__
theorem bc___sub___5_Sub (T : Tx K mg fa ca pa cc ta fd) {X : Cx} (e : X.K = K) : ∀ c ∈ ([5] : List Nat), ∀ Ca, (tb K).cn c = some Ca → BinC X.K Ca .Sub [0, 1, 2, 3, 4, 5, 6] := by
  subst e
  intro c hc C h
  rcases cnc T h with ⟨rfl, rfl⟩ | ⟨rfl, rfl⟩ | ⟨rfl, rfl⟩ | ⟨rfl, rfl⟩ | ⟨rfl, rfl⟩ | ⟨rfl, rfl⟩
  · exact absurd hc (by decide)
  · exact absurd hc (by decide)
  · exact absurd hc (by decide)
  · exact absurd hc (by decide)
  · exact absurd hc (by decide)
  · exact bc_of T.bc5__sub__
theorem sp_mt__str___5 (T : Tx K mg fa ca pa cc ta fd) (A : Al P w K mg base fa cc ta fd k) {X : Cx} (e1 : X.prog = P) (e2 : X.w = w) (e3 : X.K = K) (e4 : X.mg = mg) (e5 : X.base = base) (hr : Room (5 * k + 2) X.A) : SpM X (tb K) (calls fs k) 21 "__str__" [5] := by
  subst e1 e2 e3 e4 e5
  intro c hc C h
  rcases cnc T h with ⟨rfl, rfl⟩ | ⟨rfl, rfl⟩ | ⟨rfl, rfl⟩ | ⟨rfl, rfl⟩ | ⟨rfl, rfl⟩ | ⟨rfl, rfl⟩
  · exact absurd hc (by decide)
  · exact absurd hc (by decide)
  · exact absurd hc (by decide)
  · exact absurd hc (by decide)
  · exact absurd hc (by decide)
  · exact ⟨5 * k, fa 25, fd 25, _, T.me5_25, A.o25, hr, T.b25⟩
theorem nf___ge___5 (T : Tx K mg fa ca pa cc ta fd) {X : Cx} (e : X.K = K) : ∀ c ∈ ([5] : List Nat), ∀ Ca, (tb K).cn c = some Ca → NFs X.K (tb K) Ca := by
  subst e
  intro c hc C h
  rcases cnc T h with ⟨rfl, rfl⟩ | ⟨rfl, rfl⟩ | ⟨rfl, rfl⟩ | ⟨rfl, rfl⟩ | ⟨rfl, rfl⟩ | ⟨rfl, rfl⟩
  · exact absurd hc (by decide)
  · exact absurd hc (by decide)
  · exact absurd hc (by decide)
  · exact absurd hc (by decide)
  · exact absurd hc (by decide)
  · exact nf_of T.nO5 fun c' C' h' => (by rcases cnc T h' with ⟨rfl, rfl⟩ | ⟨rfl, rfl⟩ | ⟨rfl, rfl⟩ | ⟨rfl, rfl⟩ | ⟨rfl, rfl⟩ | ⟨rfl, rfl⟩ <;> simp)
theorem nf___gt___5 (T : Tx K mg fa ca pa cc ta fd) {X : Cx} (e : X.K = K) : ∀ c ∈ ([5] : List Nat), ∀ Ca, (tb K).cn c = some Ca → NFs X.K (tb K) Ca := by
  subst e
  intro c hc C h
  rcases cnc T h with ⟨rfl, rfl⟩ | ⟨rfl, rfl⟩ | ⟨rfl, rfl⟩ | ⟨rfl, rfl⟩ | ⟨rfl, rfl⟩ | ⟨rfl, rfl⟩
  · exact absurd hc (by decide)
  · exact absurd hc (by decide)
  · exact absurd hc (by decide)
  · exact absurd hc (by decide)
  · exact absurd hc (by decide)
  · exact nf_of T.nO5 fun c' C' h' => (by rcases cnc T h' with ⟨rfl, rfl⟩ | ⟨rfl, rfl⟩ | ⟨rfl, rfl⟩ | ⟨rfl, rfl⟩ | ⟨rfl, rfl⟩ | ⟨rfl, rfl⟩ <;> simp)
theorem nf___le___5 (T : Tx K mg fa ca pa cc ta fd) {X : Cx} (e : X.K = K) : ∀ c ∈ ([5] : List Nat), ∀ Ca, (tb K).cn c = some Ca → NFs X.K (tb K) Ca := by
  subst e
  intro c hc C h
  rcases cnc T h with ⟨rfl, rfl⟩ | ⟨rfl, rfl⟩ | ⟨rfl, rfl⟩ | ⟨rfl, rfl⟩ | ⟨rfl, rfl⟩ | ⟨rfl, rfl⟩
  · exact absurd hc (by decide)
  · exact absurd hc (by decide)
  · exact absurd hc (by decide)
  · exact absurd hc (by decide)
  · exact absurd hc (by decide)
  · exact nf_of T.nO5 fun c' C' h' => (by rcases cnc T h' with ⟨rfl, rfl⟩ | ⟨rfl, rfl⟩ | ⟨rfl, rfl⟩ | ⟨rfl, rfl⟩ | ⟨rfl, rfl⟩ | ⟨rfl, rfl⟩ <;> simp)
theorem nf___lt___5 (T : Tx K mg fa ca pa cc ta fd) {X : Cx} (e : X.K = K) : ∀ c ∈ ([5] : List Nat), ∀ Ca, (tb K).cn c = some Ca → NFs X.K (tb K) Ca := by
  subst e
  intro c hc C h
  rcases cnc T h with ⟨rfl, rfl⟩ | ⟨rfl, rfl⟩ | ⟨rfl, rfl⟩ | ⟨rfl, rfl⟩ | ⟨rfl, rfl⟩ | ⟨rfl, rfl⟩
  · exact absurd hc (by decide)
  · exact absurd hc (by decide)
  · exact absurd hc (by decide)
  · exact absurd hc (by decide)
  · exact absurd hc (by decide)
  · exact nf_of T.nO5 fun c' C' h' => (by rcases cnc T h' with ⟨rfl, rfl⟩ | ⟨rfl, rfl⟩ | ⟨rfl, rfl⟩ | ⟨rfl, rfl⟩ | ⟨rfl, rfl⟩ | ⟨rfl, rfl⟩ <;> simp)
theorem sp_ok2__add___5 (T : Tx K mg fa ca pa cc ta fd) (A : Al P w K mg base fa cc ta fd k) {X : Cx} (e1 : X.prog = P) (e2 : X.w = w) (e3 : X.K = K) (e4 : X.mg = mg) (e5 : X.base = base) (hr : Room (5 * k) X.A) : SpOk X (tb K) (calls fs k) 1 "__add__" [5] 2 [] := by
  subst e1 e2 e3 e4 e5
  intro c hc C h
  rcases cnc T h with ⟨rfl, rfl⟩ | ⟨rfl, rfl⟩ | ⟨rfl, rfl⟩ | ⟨rfl, rfl⟩ | ⟨rfl, rfl⟩ | ⟨rfl, rfl⟩
  · exact absurd hc (by decide)
  · exact absurd hc (by decide)
  · exact absurd hc (by decide)
  · exact absurd hc (by decide)
  · exact absurd hc (by decide)
  · exact ⟨T.cl5, fun j _ => nofl___add__ j, 5 * k, fa 17, fd 17, _, [], T.me5_17, A.o17, hr, T.b17, .nil⟩
theorem sp_ok2__and___5 (T : Tx K mg fa ca pa cc ta fd) (A : Al P w K mg base fa cc ta fd k) {X : Cx} (e1 : X.prog = P) (e2 : X.w = w) (e3 : X.K = K) (e4 : X.mg = mg) (e5 : X.base = base) (hr : Room (5 * k) X.A) : SpOk X (tb K) (calls fs k) 9 "__and__" [5] 2 [] := by
  subst e1 e2 e3 e4 e5
  intro c hc C h
  rcases cnc T h with ⟨rfl, rfl⟩ | ⟨rfl, rfl⟩ | ⟨rfl, rfl⟩ | ⟨rfl, rfl⟩ | ⟨rfl, rfl⟩ | ⟨rfl, rfl⟩
  · exact absurd hc (by decide)
  · exact absurd hc (by decide)
  · exact absurd hc (by decide)
  · exact absurd hc (by decide)
  · exact absurd hc (by decide)
  · exact ⟨T.cl5, fun j _ => nofl___and__ j, 5 * k, fa 15, fd 15, _, [], T.me5_15, A.o15, hr, T.b15, .nil⟩
theorem sp_ok2__ge___5 (T : Tx K mg fa ca pa cc ta fd) (A : Al P w K mg base fa cc ta fd k) {X : Cx} (e1 : X.prog = P) (e2 : X.w = w) (e3 : X.K = K) (e4 : X.mg = mg) (e5 : X.base = base) (hr : Room (5 * k) X.A) : SpOk X (tb K) (calls fs k) 15 "__ge__" [5] 2 [] := by
  subst e1 e2 e3 e4 e5
  intro c hc C h
  rcases cnc T h with ⟨rfl, rfl⟩ | ⟨rfl, rfl⟩ | ⟨rfl, rfl⟩ | ⟨rfl, rfl⟩ | ⟨rfl, rfl⟩ | ⟨rfl, rfl⟩
  · exact absurd hc (by decide)
  · exact absurd hc (by decide)
  · exact absurd hc (by decide)
  · exact absurd hc (by decide)
  · exact absurd hc (by decide)
  · exact ⟨T.cl5, fun j _ => nofl___ge__ j, 5 * k, fa 23, fd 23, _, [], T.me5_23, A.o23, hr, T.b23, .nil⟩
theorem sp_ok2__gt___5 (T : Tx K mg fa ca pa cc ta fd) (A : Al P w K mg base fa cc ta fd k) {X : Cx} (e1 : X.prog = P) (e2 : X.w = w) (e3 : X.K = K) (e4 : X.mg = mg) (e5 : X.base = base) (hr : Room (5 * k) X.A) : SpOk X (tb K) (calls fs k) 14 "__gt__" [5] 2 [] := by
  subst e1 e2 e3 e4 e5
  intro c hc C h
  rcases cnc T h with ⟨rfl, rfl⟩ | ⟨rfl, rfl⟩ | ⟨rfl, rfl⟩ | ⟨rfl, rfl⟩ | ⟨rfl, rfl⟩ | ⟨rfl, rfl⟩
  · exact absurd hc (by decide)
  · exact absurd hc (by decide)
  · exact absurd hc (by decide)
  · exact absurd hc (by decide)
  · exact absurd hc (by decide)
  · exact ⟨T.cl5, fun j _ => nofl___gt__ j, 5 * k, fa 24, fd 24, _, [], T.me5_24, A.o24, hr, T.b24, .nil⟩
theorem sp_ok2__le___5 (T : Tx K mg fa ca pa cc ta fd) (A : Al P w K mg base fa cc ta fd k) {X : Cx} (e1 : X.prog = P) (e2 : X.w = w) (e3 : X.K = K) (e4 : X.mg = mg) (e5 : X.base = base) (hr : Room (5 * k) X.A) : SpOk X (tb K) (calls fs k) 13 "__le__" [5] 2 [] := by
  subst e1 e2 e3 e4 e5
  intro c hc C h
  rcases cnc T h with ⟨rfl, rfl⟩ | ⟨rfl, rfl⟩ | ⟨rfl, rfl⟩ | ⟨rfl, rfl⟩ | ⟨rfl, rfl⟩ | ⟨rfl, rfl⟩
  · exact absurd hc (by decide)
  · exact absurd hc (by decide)
  · exact absurd hc (by decide)
  · exact absurd hc (by decide)
  · exact absurd hc (by decide)
  · exact ⟨T.cl5, fun j _ => nofl___le__ j, 5 * k, fa 21, fd 21, _, [], T.me5_21, A.o21, hr, T.b21, .nil⟩
theorem sp_ok2__lshift___5 (T : Tx K mg fa ca pa cc ta fd) (A : Al P w K mg base fa cc ta fd k) {X : Cx} (e1 : X.prog = P) (e2 : X.w = w) (e3 : X.K = K) (e4 : X.mg = mg) (e5 : X.base = base) (hr : Room (5 * k) X.A) : SpOk X (tb K) (calls fs k) 7 "__lshift__" [5] 2 [] := by
  subst e1 e2 e3 e4 e5
  intro c hc C h
  rcases cnc T h with ⟨rfl, rfl⟩ | ⟨rfl, rfl⟩ | ⟨rfl, rfl⟩ | ⟨rfl, rfl⟩ | ⟨rfl, rfl⟩ | ⟨rfl, rfl⟩
  · exact absurd hc (by decide)
  · exact absurd hc (by decide)
  · exact absurd hc (by decide)
  · exact absurd hc (by decide)
  · exact absurd hc (by decide)
  · exact ⟨T.cl5, fun j _ => nofl___lshift__ j, 5 * k, fa 20, fd 20, _, [], T.me5_20, A.o20, hr, T.b20, .nil⟩
theorem sp_ok2__lt___5 (T : Tx K mg fa ca pa cc ta fd) (A : Al P w K mg base fa cc ta fd k) {X : Cx} (e1 : X.prog = P) (e2 : X.w = w) (e3 : X.K = K) (e4 : X.mg = mg) (e5 : X.base = base) (hr : Room (5 * k) X.A) : SpOk X (tb K) (calls fs k) 12 "__lt__" [5] 2 [] := by
  subst e1 e2 e3 e4 e5
  intro c hc C h
  rcases cnc T h with ⟨rfl, rfl⟩ | ⟨rfl, rfl⟩ | ⟨rfl, rfl⟩ | ⟨rfl, rfl⟩ | ⟨rfl, rfl⟩ | ⟨rfl, rfl⟩
  · exact absurd hc (by decide)
  · exact absurd hc (by decide)
  · exact absurd hc (by decide)
  · exact absurd hc (by decide)
  · exact absurd hc (by decide)
  · exact ⟨T.cl5, fun j _ => nofl___lt__ j, 5 * k, fa 22, fd 22, _, [], T.me5_22, A.o22, hr, T.b22, .nil⟩
theorem sp_ok2__or___5 (T : Tx K mg fa ca pa cc ta fd) (A : Al P w K mg base fa cc ta fd k) {X : Cx} (e1 : X.prog = P) (e2 : X.w = w) (e3 : X.K = K) (e4 : X.mg = mg) (e5 : X.base = base) (hr : Room (5 * k) X.A) : SpOk X (tb K) (calls fs k) 10 "__or__" [5] 2 [] := by
  subst e1 e2 e3 e4 e5
  intro c hc C h
  rcases cnc T h with ⟨rfl, rfl⟩ | ⟨rfl, rfl⟩ | ⟨rfl, rfl⟩ | ⟨rfl, rfl⟩ | ⟨rfl, rfl⟩ | ⟨rfl, rfl⟩
  · exact absurd hc (by decide)
  · exact absurd hc (by decide)
  · exact absurd hc (by decide)
  · exact absurd hc (by decide)
  · exact absurd hc (by decide)
  · exact ⟨T.cl5, fun j _ => nofl___or__ j, 5 * k, fa 16, fd 16, _, [], T.me5_16, A.o16, hr, T.b16, .nil⟩
theorem sp_ok2__rshift___5 (T : Tx K mg fa ca pa cc ta fd) (A : Al P w K mg base fa cc ta fd k) {X : Cx} (e1 : X.prog = P) (e2 : X.w = w) (e3 : X.K = K) (e4 : X.mg = mg) (e5 : X.base = base) (hr : Room (5 * k) X.A) : SpOk X (tb K) (calls fs k) 8 "__rshift__" [5] 2 [] := by
  subst e1 e2 e3 e4 e5
  intro c hc C h
  rcases cnc T h with ⟨rfl, rfl⟩ | ⟨rfl, rfl⟩ | ⟨rfl, rfl⟩ | ⟨rfl, rfl⟩ | ⟨rfl, rfl⟩ | ⟨rfl, rfl⟩
  · exact absurd hc (by decide)
  · exact absurd hc (by decide)
  · exact absurd hc (by decide)
  · exact absurd hc (by decide)
  · exact absurd hc (by decide)
  · exact ⟨T.cl5, fun j _ => nofl___rshift__ j, 5 * k, fa 19, fd 19, _, [], T.me5_19, A.o19, hr, T.b19, .nil⟩
theorem sp_ok2__sub___5 (T : Tx K mg fa ca pa cc ta fd) (A : Al P w K mg base fa cc ta fd k) {X : Cx} (e1 : X.prog = P) (e2 : X.w = w) (e3 : X.K = K) (e4 : X.mg = mg) (e5 : X.base = base) (hr : Room (5 * k) X.A) : SpOk X (tb K) (calls fs k) 2 "__sub__" [5] 2 [] := by
  subst e1 e2 e3 e4 e5
  intro c hc C h
  rcases cnc T h with ⟨rfl, rfl⟩ | ⟨rfl, rfl⟩ | ⟨rfl, rfl⟩ | ⟨rfl, rfl⟩ | ⟨rfl, rfl⟩ | ⟨rfl, rfl⟩
  · exact absurd hc (by decide)
  · exact absurd hc (by decide)
  · exact absurd hc (by decide)
  · exact absurd hc (by decide)
  · exact absurd hc (by decide)
  · exact ⟨T.cl5, fun j _ => nofl___sub__ j, 5 * k, fa 18, fd 18, _, [], T.me5_18, A.o18, hr, T.b18, .nil⟩
theorem sc0 : FnScope ["value"] ["value"] (defScope st0) := ⟨rfl, rfl, rfl, by decide +kernel, rfl, by decide +kernel, by decide +kernel⟩
theorem sc1 : FnScope ["value", "least", "most"] ["value", "least", "most"] (defScope st1) := ⟨rfl, rfl, rfl, by decide +kernel, rfl, by decide +kernel, by decide +kernel⟩
theorem sc2 : FnScope ["value"] ["value"] (defScope st2) := ⟨rfl, rfl, rfl, by decide +kernel, rfl, by decide +kernel, by decide +kernel⟩
theorem sc3 : FnScope ["value"] ["value"] (defScope st3) := ⟨rfl, rfl, rfl, by decide +kernel, rfl, by decide +kernel, by decide +kernel⟩
theorem sc4 : FnScope ["self", "value"] ["self", "value"] (defScope st4) := ⟨rfl, rfl, rfl, by decide +kernel, rfl, by decide +kernel, by decide +kernel⟩
theorem sc5 : FnScope ["self", "part"] ["self", "part"] (defScope st5) := ⟨rfl, rfl, rfl, by decide +kernel, rfl, by decide +kernel, by decide +kernel⟩
theorem sc6 : FnScope ["self", "value"] ["self", "value"] (defScope st6) := ⟨rfl, rfl, rfl, by decide +kernel, rfl, by decide +kernel, by decide +kernel⟩
theorem sc7 : FnScope ["other"] ["other"] (defScope st7) := ⟨rfl, rfl, rfl, by decide +kernel, rfl, by decide +kernel, by decide +kernel⟩
theorem sc8 : FnScope ["box", "move", "sign"] ["box", "move", "sign"] (defScope st8) := ⟨rfl, rfl, rfl, by decide +kernel, rfl, by decide +kernel, by decide +kernel⟩
theorem sc9 : FnScope ["n"] ["n"] (defScope st9) := ⟨rfl, rfl, rfl, by decide +kernel, rfl, by decide +kernel, by decide +kernel⟩
theorem sc10 : FnScope ["one", "other"] ["one", "other"] (defScope st10) := ⟨rfl, rfl, rfl, by decide +kernel, rfl, by decide +kernel, by decide +kernel⟩
theorem sc11 : FnScope ["one", "other", "left", "low", "right", "top"] ["one", "other"] (defScope st11) := ⟨rfl, rfl, rfl, by decide +kernel, rfl, by decide +kernel, by decide +kernel⟩
theorem sc12 : FnScope ["one", "other", "left", "low", "right", "top"] ["one", "other"] (defScope st12) := ⟨rfl, rfl, rfl, by decide +kernel, rfl, by decide +kernel, by decide +kernel⟩
theorem sc13 : FnScope ["self", "x", "y", "width", "height"] ["self", "x", "y", "width", "height"] (defScope st13) := ⟨rfl, rfl, rfl, by decide +kernel, rfl, by decide +kernel, by decide +kernel⟩
theorem sc14 : FnScope ["level"] ["level"] (defScope st14) := ⟨rfl, rfl, rfl, by decide +kernel, rfl, by decide +kernel, by decide +kernel⟩
theorem sc15 : FnScope ["self", "other"] ["self", "other"] (defScope st15) := ⟨rfl, rfl, rfl, by decide +kernel, rfl, by decide +kernel, by decide +kernel⟩
theorem sc16 : FnScope ["self", "other"] ["self", "other"] (defScope st16) := ⟨rfl, rfl, rfl, by decide +kernel, rfl, by decide +kernel, by decide +kernel⟩
theorem sc17 : FnScope ["self", "move"] ["self", "move"] (defScope st17) := ⟨rfl, rfl, rfl, by decide +kernel, rfl, by decide +kernel, by decide +kernel⟩
theorem sc18 : FnScope ["self", "move"] ["self", "move"] (defScope st18) := ⟨rfl, rfl, rfl, by decide +kernel, rfl, by decide +kernel, by decide +kernel⟩
theorem sc19 : FnScope ["self", "n", "left", "low", "right", "top"] ["self", "n"] (defScope st19) := ⟨rfl, rfl, rfl, by decide +kernel, rfl, by decide +kernel, by decide +kernel⟩
theorem sc20 : FnScope ["self", "n"] ["self", "n"] (defScope st20) := ⟨rfl, rfl, rfl, by decide +kernel, rfl, by decide +kernel, by decide +kernel⟩
theorem sc21 : FnScope ["self", "other"] ["self", "other"] (defScope st21) := ⟨rfl, rfl, rfl, by decide +kernel, rfl, by decide +kernel, by decide +kernel⟩
theorem sc22 : FnScope ["self", "other"] ["self", "other"] (defScope st22) := ⟨rfl, rfl, rfl, by decide +kernel, rfl, by decide +kernel, by decide +kernel⟩
theorem sc23 : FnScope ["self", "other"] ["self", "other"] (defScope st23) := ⟨rfl, rfl, rfl, by decide +kernel, rfl, by decide +kernel, by decide +kernel⟩
theorem sc24 : FnScope ["self", "other"] ["self", "other"] (defScope st24) := ⟨rfl, rfl, rfl, by decide +kernel, rfl, by decide +kernel, by decide +kernel⟩
theorem sc25 : FnScope ["self"] ["self"] (defScope st25) := ⟨rfl, rfl, rfl, by decide +kernel, rfl, by decide +kernel, by decide +kernel⟩
theorem sc26 : FnScope [] [] (defScope st26) := ⟨rfl, rfl, rfl, by decide +kernel, rfl, by decide +kernel, by decide +kernel⟩
theorem sc27 : FnScope ["_law_script"] ["_law_script"] (defScope st27) := ⟨rfl, rfl, rfl, by decide +kernel, rfl, by decide +kernel, by decide +kernel⟩
theorem sc28 : FnScope ["_law_pen_here", "_law_many", "_law_digit", "_law_at", "_law_cell", "_law_great", "_law_mixed"] ["_law_pen_here", "_law_many"] (defScope st28) := ⟨rfl, rfl, rfl, by decide +kernel, rfl, by decide +kernel, by decide +kernel⟩
theorem sc29 : FnScope ["_law_pen_here", "_law_some"] ["_law_pen_here", "_law_some"] (defScope st29) := ⟨rfl, rfl, rfl, by decide +kernel, rfl, by decide +kernel, by decide +kernel⟩
theorem sc30 : FnScope ["_law_ask", "_law_caught", "error"] ["_law_ask"] (defScope st30) := ⟨rfl, rfl, rfl, by decide +kernel, rfl, by decide +kernel, by decide +kernel⟩
theorem sc31 : FnScope ["_law_pen_here", "_law_at", "_law_some"] ["_law_pen_here", "_law_at"] (defScope st31) := ⟨rfl, rfl, rfl, by decide +kernel, rfl, by decide +kernel, by decide +kernel⟩
theorem sc32 : FnScope ["_law_pen_here", "_law_fine", "_law_parts", "_law_first", "_law_at", "_law_due", "_law_heard_here"] ["_law_pen_here"] (defScope st32) := ⟨rfl, rfl, rfl, by decide +kernel, rfl, by decide +kernel, by decide +kernel⟩
theorem sc33 : FnScope ["_law_pen_here", "_law_box", "_law_kept", "_law_odd_here", "_law_heard_here", "_law_move", "_law_many"] ["_law_pen_here"] (defScope st33) := ⟨rfl, rfl, rfl, by decide +kernel, rfl, by decide +kernel, by decide +kernel⟩
theorem sc34 : FnScope ["_law_script", "_law_pen_here", "_law_turn", "_law_odd_here", "_law_heard_here"] ["_law_script"] (defScope st34) := ⟨rfl, rfl, rfl, by decide +kernel, rfl, by decide +kernel, by decide +kernel⟩
theorem xf2 (T : Tx K mg fa ca pa cc ta fd) : FnG P w K mg base 1 (fa 4) (fd 4) ["self", "value"] (spI (ca 2) ["value"]) := exc_fn1 (k := 0) T.f4 sc4 rfl T.ox2 (T.na2 _ (by decide)) (fun {X} hX => by
    have sc := sc4
    obtain ⟨cdv, A0, outer, s0, H0, E0, rfl⟩ := hX
    exact (pss_cons (ps_ost (pv 0) (pv 1)) pss_nil))
theorem xf3 (T : Tx K mg fa ca pa cc ta fd) : FnG P w K mg base 1 (fa 5) (fd 5) ["self", "part"] (spI (ca 3) ["part"]) := exc_fn1 (k := 0) T.f5 sc5 rfl T.ox3 (T.na3 _ (by decide)) (fun {X} hX => by
    have sc := sc5
    obtain ⟨cdv, A0, outer, s0, H0, E0, rfl⟩ := hX
    exact (pss_cons (ps_ost (pv 0) (pv 1)) pss_nil))
theorem xf4 (T : Tx K mg fa ca pa cc ta fd) : FnG P w K mg base 1 (fa 6) (fd 6) ["self", "value"] (spI (ca 4) ["value"]) := exc_fn1 (k := 0) T.f6 sc6 rfl T.ox4 (T.na4 _ (by decide)) (fun {X} hX => by
    have sc := sc6
    obtain ⟨cdv, A0, outer, s0, H0, E0, rfl⟩ := hX
    exact (pss_cons (ps_ost (pv 0) (pv 1)) pss_nil))
theorem hg30 (T : Tx K mg fa ca pa cc ta fd) (A : Al P w K mg base fa cc ta fd (k - 1)) : HearG P w K mg base ["_law_ask", "_law_caught", "error"] "_law_heard" "_law_ask" st30 (fa 30) (tb K) (calls fs (k - 1)) fn30 (5 * k + 3) := by
  intro Z CZ WZ o hK hu hu2 hgd hr tk hp hX hask
  obtain ⟨cdv, A0_, outer_, s0_, H0_, E0_, rfl, hC⟩ := hX
  obtain ⟨CT, h0_, he_, io_, fa_⟩ := CZ
  have hC : CT = tb K := hC
  subst hC
  have sc := sc30
  have hcalm : (cxOf (L2.CX P w) P w K mg base ["_law_ask", "_law_caught", "error"] "_law_heard" (defScope st30) (fa 30) cdv A0_ outer_ s0_ H0_ E0_).calm = true := rfl
  have hu65 : (cxOf (L2.CX P w) P w K mg base ["_law_ask", "_law_caught", "error"] "_law_heard" (defScope st30) (fa 30) cdv A0_ outer_ s0_ H0_ E0_).A.units + 65 < cLine := by omega
  have hr0 : Room (5 * (k - 1)) _ := hr.mono (by omega)
  have hr1 : Room (5 * (k - 1) + 1) _ := hr.mono (by omega)
  have hr2 : Room (5 * (k - 1) + 2) _ := hr.mono (by omega)
  exact (ss_cons (s_asg (ps_set (i := 1) sc.nd rfl (Or.inl rfl) (c_cst pe_non (fun H => r_non _ H))))
      (ss_cons (s_try (i := 2) (j := 1) rfl rfl rfl sc.nd rfl rfl ⟨by rfl, by decide, .inl T.mC0⟩ tk (exm_0 T rfl) (by decide) (fun W' pn xe tk hp => (ss_cons (s_ex (hask W' pn xe _ _ tk))
      ss_nil)) (fun a oe pn => pss_cons (ps_set (i := 1) sc.nd rfl (Or.inl rfl) (pv 2)) pss_nil))
      (ss_cons (s_iff (t_cmp o_is (c_var (pv 1)) (c_cst pe_non (fun H => r_non _ H)) (nomark _)) (ss_cons (s_ret (c_cst pe_non (fun H => r_non _ H)))
      ss_nil) ss_nil)
      (ss_cons (s_iff (t_tru hK (c_isO hK (iso_3 T rfl) (by rfl) T.n_isinstance (c_var (pv 1)) (pe_glob (v := .ref (ca 3)) (by rfl) T.mC3 rfl))) (ss_cons (s_ret (c_tup (f_cons (c_cst pe_str (fun H => r_str _ H _)) (f_cons (c_fld hK (c_var (pv 1)) (fld_1 T)) f_nil))))
      ss_nil) ss_nil)
      (ss_cons (s_iff (t_tru hK (c_isO hK (iso_4 T rfl) (by rfl) T.n_isinstance (c_var (pv 1)) (pe_glob (v := .ref (ca 4)) (by rfl) T.mC4 rfl))) (ss_cons (s_ret (c_tup (f_cons (c_cst pe_str (fun H => r_str _ H _)) (f_cons (c_biB (B := .repr) (b_repr hK hgd hu2) (by rfl) T.n_repr (by decide +kernel) (r_cons (c_fld hK (c_var (pv 1)) (fld_0 T)) r_nil)) f_nil))))
      ss_nil) ss_nil)
      (ss_cons (s_ret (c_ife (t_tru hK (c_isO hK (iso_2 T rfl) (by rfl) T.n_isinstance (c_var (pv 1)) (pe_glob (v := .ref (ca 2)) (by rfl) T.mC2 rfl))) (c_tup (f_cons (c_cst pe_str (fun H => r_str _ H _)) (f_cons (c_biB (B := .repr) (b_repr hK hgd hu2) (by rfl) T.n_repr (by decide +kernel) (r_cons (c_fld hK (c_var (pv 1)) (fld_0 T)) r_nil)) f_nil))) (c_tup (f_cons (c_cst pe_str (fun H => r_str _ H _)) (f_cons (c_cst pe_non (fun H => r_non _ H)) f_nil)))))
      ss_nil))))))
theorem ok0 (T : Tx K mg fa ca pa cc ta fd) (A : Al P w K mg base fa cc ta fd k) (A' : Al P w K mg base fa cc ta fd (k - 1)) : FnG P w K mg base (5 * (k + 1)) (fa 0) (fd 0) ["value"] (spF (tb K) (calls fs (k + 1)) 0 1) := def_ok (F := F_is_integer) T.f0 sc0 rfl (by decide) rfl (fun _ => rfl) (fun {X} {C} {W} hK hu hu2 hgd hr tk hp hX => by
    have sc := sc0
    obtain ⟨qu, cdv, A0_, outer_, s0_, H0_, E0_, rfl, hC, rfl, hcd⟩ := hX
    obtain ⟨CT, h0_, he_, io_, fa_⟩ := C
    have hC : CT = tb K := hC
    subst hC
    have hcalm : (cxOf (L2.CX P w) P w K mg base ["value"] "is_integer" (defScope st0) (fa 0) cdv A0_ outer_ s0_ H0_ E0_).calm = true := rfl
    have hu65 : (cxOf (L2.CX P w) P w K mg base ["value"] "is_integer" (defScope st0) (fa 0) cdv A0_ outer_ s0_ H0_ E0_).A.units + 65 < cLine := by omega
    have hr0 : Room (5 * k) _ := hr.mono (by omega)
    have hr1 : Room (5 * k + 1) _ := hr.mono (by omega)
    have hr2 : Room (5 * k + 2) _ := hr.mono (by omega)
    exact (ss_cons (s_ret (c_and hK (c_isi hK isi_int (isb T rfl (by decide)) (by rfl) T.n_isinstance (c_var (pv 0)) (pe_bltn (by rfl) T.n_int (by decide +kernel) rfl)) (c_one (c_not hK (c_isi hK isi_bool (isb T rfl (by decide)) (by rfl) T.n_isinstance (c_var (pv 0)) (pe_bltn (by rfl) T.n_bool (by decide +kernel) rfl))))))
      ss_nil)) rfl
theorem ok1 (T : Tx K mg fa ca pa cc ta fd) (A : Al P w K mg base fa cc ta fd k) (A' : Al P w K mg base fa cc ta fd (k - 1)) : FnG P w K mg base (5 * (k + 1)) (fa 1) (fd 1) ["value", "least", "most"] (spF (tb K) (calls fs (k + 1)) 1 3) := def_ok (F := F_is_between) T.f1 sc1 rfl (by decide) rfl (fun _ => rfl) (fun {X} {C} {W} hK hu hu2 hgd hr tk hp hX => by
    have sc := sc1
    obtain ⟨qu, cdv, A0_, outer_, s0_, H0_, E0_, rfl, hC, rfl, hcd⟩ := hX
    obtain ⟨CT, h0_, he_, io_, fa_⟩ := C
    have hC : CT = tb K := hC
    subst hC
    have hcalm : (cxOf (L2.CX P w) P w K mg base ["value", "least", "most"] "is_between" (defScope st1) (fa 1) cdv A0_ outer_ s0_ H0_ E0_).calm = true := rfl
    have hu65 : (cxOf (L2.CX P w) P w K mg base ["value", "least", "most"] "is_between" (defScope st1) (fa 1) cdv A0_ outer_ s0_ H0_ E0_).A.units + 65 < cLine := by omega
    have hr0 : Room (5 * k) _ := hr.mono (by omega)
    have hr1 : Room (5 * k + 1) _ := hr.mono (by omega)
    have hr2 : Room (5 * k + 2) _ := hr.mono (by omega)
    exact (ss_cons (s_ret (c_and hK (c_call A.o0 hgd hr0 tk (by rfl) T.m0 T.f0.kp T.b0 (k_cons (m := false) (c_var (pv 0)) k_nil)) (c_one (c_chain o_le o_le (c_var (pv 1)) (c_var (pv 0)) (c_var (pv 2))))))
      ss_nil)) rfl
theorem ok2 (T : Tx K mg fa ca pa cc ta fd) (A : Al P w K mg base fa cc ta fd k) (A' : Al P w K mg base fa cc ta fd (k - 1)) : FnG P w K mg base (5 * (k + 1)) (fa 2) (fd 2) ["value"] (spF (tb K) (calls fs (k + 1)) 2 1) := def_ok (F := F_is_level) T.f2 sc2 rfl (by decide) rfl (fun _ => rfl) (fun {X} {C} {W} hK hu hu2 hgd hr tk hp hX => by
    have sc := sc2
    obtain ⟨qu, cdv, A0_, outer_, s0_, H0_, E0_, rfl, hC, rfl, hcd⟩ := hX
    obtain ⟨CT, h0_, he_, io_, fa_⟩ := C
    have hC : CT = tb K := hC
    subst hC
    have hcalm : (cxOf (L2.CX P w) P w K mg base ["value"] "is_level" (defScope st2) (fa 2) cdv A0_ outer_ s0_ H0_ E0_).calm = true := rfl
    have hu65 : (cxOf (L2.CX P w) P w K mg base ["value"] "is_level" (defScope st2) (fa 2) cdv A0_ outer_ s0_ H0_ E0_).A.units + 65 < cLine := by omega
    have hr0 : Room (5 * k) _ := hr.mono (by omega)
    have hr1 : Room (5 * k + 1) _ := hr.mono (by omega)
    have hr2 : Room (5 * k + 2) _ := hr.mono (by omega)
    exact (ss_cons (s_ret (c_call A.o1 hgd hr0 tk (by rfl) T.m1 T.f1.kp T.b1 (k_cons (m := false) (c_var (pv 0)) (k_cons (m := false) (c_cst pe_int (fun H => r_int _ H _)) (k_cons (m := false) (c_cst (pe_glob (v := .int 100) (by rfl) (T.g_MOST_LEVEL).choose_spec ⟨_, rfl⟩) (fun H => r_int _ H _)) k_nil)))))
      ss_nil)) rfl
theorem ok3 (T : Tx K mg fa ca pa cc ta fd) (A : Al P w K mg base fa cc ta fd k) (A' : Al P w K mg base fa cc ta fd (k - 1)) : FnG P w K mg base (5 * (k + 1)) (fa 3) (fd 3) ["value"] (spF (tb K) (calls fs (k + 1)) 3 1) := def_ok (F := F_is_pair) T.f3 sc3 rfl (by decide) rfl (fun _ => rfl) (fun {X} {C} {W} hK hu hu2 hgd hr tk hp hX => by
    have sc := sc3
    obtain ⟨qu, cdv, A0_, outer_, s0_, H0_, E0_, rfl, hC, rfl, hcd⟩ := hX
    obtain ⟨CT, h0_, he_, io_, fa_⟩ := C
    have hC : CT = tb K := hC
    subst hC
    have hcalm : (cxOf (L2.CX P w) P w K mg base ["value"] "is_pair" (defScope st3) (fa 3) cdv A0_ outer_ s0_ H0_ E0_).calm = true := rfl
    have hu65 : (cxOf (L2.CX P w) P w K mg base ["value"] "is_pair" (defScope st3) (fa 3) cdv A0_ outer_ s0_ H0_ E0_).A.units + 65 < cLine := by omega
    have hr0 : Room (5 * k) _ := hr.mono (by omega)
    have hr1 : Room (5 * k + 1) _ := hr.mono (by omega)
    have hr2 : Room (5 * k + 2) _ := hr.mono (by omega)
    exact (ss_cons (s_ret (c_and hK (c_isi hK isi_tuple (isb T rfl (by decide)) (by rfl) T.n_isinstance (c_var (pv 0)) (pe_bltn (by rfl) T.n_tuple (by decide +kernel) rfl)) (c_and hK (c_cmp (o_eq hK hu) (c_biB (B := .len) (b_len hK) (by rfl) T.n_len (by decide +kernel) (r_cons (c_var (pv 0)) r_nil)) (c_cst pe_int (fun H => r_int _ H _)) (nomark _)) (c_and hK (c_call A.o0 hgd hr0 tk (by rfl) T.m0 T.f0.kp T.b0 (k_cons (m := false) (c_ix hK (c_var (pv 0)) (c_cst pe_int (fun H => r_int _ H _))) k_nil)) (c_one (c_call A.o0 hgd hr0 tk (by rfl) T.m0 T.f0.kp T.b0 (k_cons (m := false) (c_ix hK (c_var (pv 0)) (c_cst pe_int (fun H => r_int _ H _))) k_nil)))))))
      ss_nil)) rfl
theorem ok7 (T : Tx K mg fa ca pa cc ta fd) (A : Al P w K mg base fa cc ta fd k) (A' : Al P w K mg base fa cc ta fd (k - 1)) : FnG P w K mg base (5 * (k + 1)) (fa 7) (fd 7) ["other"] (spF (tb K) (calls fs (k + 1)) 4 1) := def_ok (F := F_need_box) T.f7 sc7 rfl (by decide) rfl (fun _ => rfl) (fun {X} {C} {W} hK hu hu2 hgd hr tk hp hX => by
    have sc := sc7
    obtain ⟨qu, cdv, A0_, outer_, s0_, H0_, E0_, rfl, hC, rfl, hcd⟩ := hX
    obtain ⟨CT, h0_, he_, io_, fa_⟩ := C
    have hC : CT = tb K := hC
    subst hC
    have hcalm : (cxOf (L2.CX P w) P w K mg base ["other"] "need_box" (defScope st7) (fa 7) cdv A0_ outer_ s0_ H0_ E0_).calm = true := rfl
    have hu65 : (cxOf (L2.CX P w) P w K mg base ["other"] "need_box" (defScope st7) (fa 7) cdv A0_ outer_ s0_ H0_ E0_).A.units + 65 < cLine := by omega
    have hr0 : Room (5 * k) _ := hr.mono (by omega)
    have hr1 : Room (5 * k + 1) _ := hr.mono (by omega)
    have hr2 : Room (5 * k + 2) _ := hr.mono (by omega)
    exact (ss_cons (s_iff (t_not (t_tru hK (c_isO hK (iso_5 T rfl) (by rfl) T.n_isinstance (c_var (pv 0)) (pe_glob (v := .ref (ca 5)) (by rfl) T.mC5 rfl)))) (ss_cons (s_raise (T.cx3) rfl hcalm tk (pmk_X T.ox3 T.xi3 T.xt3 ((xf3 T).up (by omega)) hgd hr2 T.b5 tk (by decide) (by rfl) T.mC3 (f_cons (c_cst pe_str (fun H => r_str _ H _)) f_nil)))
      ss_nil) ss_nil)
      ss_nil)) rfl
theorem ok8 (T : Tx K mg fa ca pa cc ta fd) (A : Al P w K mg base fa cc ta fd k) (A' : Al P w K mg base fa cc ta fd (k - 1)) : FnG P w K mg base (5 * (k + 1)) (fa 8) (fd 8) ["box", "move", "sign"] (spF (tb K) (calls fs (k + 1)) 5 3) := def_ok (F := F_moved_by) T.f8 sc8 rfl (by decide) rfl (fun _ => rfl) (fun {X} {C} {W} hK hu hu2 hgd hr tk hp hX => by
    have sc := sc8
    obtain ⟨qu, cdv, A0_, outer_, s0_, H0_, E0_, rfl, hC, rfl, hcd⟩ := hX
    obtain ⟨CT, h0_, he_, io_, fa_⟩ := C
    have hC : CT = tb K := hC
    subst hC
    have hcalm : (cxOf (L2.CX P w) P w K mg base ["box", "move", "sign"] "moved_by" (defScope st8) (fa 8) cdv A0_ outer_ s0_ H0_ E0_).calm = true := rfl
    have hu65 : (cxOf (L2.CX P w) P w K mg base ["box", "move", "sign"] "moved_by" (defScope st8) (fa 8) cdv A0_ outer_ s0_ H0_ E0_).A.units + 65 < cLine := by omega
    have hr0 : Room (5 * k) _ := hr.mono (by omega)
    have hr1 : Room (5 * k + 1) _ := hr.mono (by omega)
    have hr2 : Room (5 * k + 2) _ := hr.mono (by omega)
    exact (ss_cons (s_iff (t_not (t_tru hK (c_call A.o3 hgd hr0 tk (by rfl) T.m3 T.f3.kp T.b3 (k_cons (m := false) (c_var (pv 1)) k_nil)))) (ss_cons (s_raise (T.cx3) rfl hcalm tk (pmk_X T.ox3 T.xi3 T.xt3 ((xf3 T).up (by omega)) hgd hr2 T.b5 tk (by decide) (by rfl) T.mC3 (f_cons (c_cst pe_str (fun H => r_str _ H _)) f_nil)))
      ss_nil) ss_nil)
      (ss_cons (s_ret (c_mk (ds := []) T.mk5 A.o13 hgd hr1 tk (by rfl) T.mC5 T.ck5 T.bd13_2.choose_spec.2 T.bd13_2.choose_spec.1 (fun H => by simp only [RepAll, Rep]) (k_cons (m := false) (c_bin o_add (c_fld hK (c_var (pv 0)) (fld_2 T)) (c_bin o_mul (c_var (pv 2)) (c_ix hK (c_var (pv 1)) (c_cst pe_int (fun H => r_int _ H _))))) (k_cons (m := false) (c_bin o_add (c_fld hK (c_var (pv 0)) (fld_3 T)) (c_bin o_mul (c_var (pv 2)) (c_ix hK (c_var (pv 1)) (c_cst pe_int (fun H => r_int _ H _))))) (k_cons (m := false) (c_fld hK (c_var (pv 0)) (fld_4 T)) (k_cons (m := false) (c_fld hK (c_var (pv 0)) (fld_5 T)) k_nil))))))
      ss_nil))) rfl
theorem ok9 (T : Tx K mg fa ca pa cc ta fd) (A : Al P w K mg base fa cc ta fd k) (A' : Al P w K mg base fa cc ta fd (k - 1)) : FnG P w K mg base (5 * (k + 1)) (fa 9) (fd 9) ["n"] (spF (tb K) (calls fs (k + 1)) 6 1) := def_ok (F := F_need_shift) T.f9 sc9 rfl (by decide) rfl (fun _ => rfl) (fun {X} {C} {W} hK hu hu2 hgd hr tk hp hX => by
    have sc := sc9
    obtain ⟨qu, cdv, A0_, outer_, s0_, H0_, E0_, rfl, hC, rfl, hcd⟩ := hX
    obtain ⟨CT, h0_, he_, io_, fa_⟩ := C
    have hC : CT = tb K := hC
    subst hC
    have hcalm : (cxOf (L2.CX P w) P w K mg base ["n"] "need_shift" (defScope st9) (fa 9) cdv A0_ outer_ s0_ H0_ E0_).calm = true := rfl
    have hu65 : (cxOf (L2.CX P w) P w K mg base ["n"] "need_shift" (defScope st9) (fa 9) cdv A0_ outer_ s0_ H0_ E0_).A.units + 65 < cLine := by omega
    have hr0 : Room (5 * k) _ := hr.mono (by omega)
    have hr1 : Room (5 * k + 1) _ := hr.mono (by omega)
    have hr2 : Room (5 * k + 2) _ := hr.mono (by omega)
    exact (ss_cons (s_iff (t_not (t_tru hK (c_call A.o1 hgd hr0 tk (by rfl) T.m1 T.f1.kp T.b1 (k_cons (m := false) (c_var (pv 0)) (k_cons (m := false) (c_cst pe_int (fun H => r_int _ H _)) (k_cons (m := false) (c_cst (pe_glob (v := .int 100) (by rfl) (T.g_MOST_SHIFT).choose_spec ⟨_, rfl⟩) (fun H => r_int _ H _)) k_nil)))))) (ss_cons (s_raise (T.cx4) rfl hcalm tk (pmk_X T.ox4 T.xi4 T.xt4 ((xf4 T).up (by omega)) hgd hr2 T.b6 tk (by decide) (by rfl) T.mC4 (f_cons (c_var (pv 0)) f_nil)))
      ss_nil) ss_nil)
      ss_nil)) rfl
theorem ok10 (T : Tx K mg fa ca pa cc ta fd) (A : Al P w K mg base fa cc ta fd k) (A' : Al P w K mg base fa cc ta fd (k - 1)) : FnG P w K mg base (5 * (k + 1)) (fa 10) (fd 10) ["one", "other"] (spF (tb K) (calls fs (k + 1)) 7 2) := def_ok (F := F_is_within) T.f10 sc10 rfl (by decide) rfl (fun _ => rfl) (fun {X} {C} {W} hK hu hu2 hgd hr tk hp hX => by
    have sc := sc10
    obtain ⟨qu, cdv, A0_, outer_, s0_, H0_, E0_, rfl, hC, rfl, hcd⟩ := hX
    obtain ⟨CT, h0_, he_, io_, fa_⟩ := C
    have hC : CT = tb K := hC
    subst hC
    have hcalm : (cxOf (L2.CX P w) P w K mg base ["one", "other"] "is_within" (defScope st10) (fa 10) cdv A0_ outer_ s0_ H0_ E0_).calm = true := rfl
    have hu65 : (cxOf (L2.CX P w) P w K mg base ["one", "other"] "is_within" (defScope st10) (fa 10) cdv A0_ outer_ s0_ H0_ E0_).A.units + 65 < cLine := by omega
    have hr0 : Room (5 * k) _ := hr.mono (by omega)
    have hr1 : Room (5 * k + 1) _ := hr.mono (by omega)
    have hr2 : Room (5 * k + 2) _ := hr.mono (by omega)
    exact (ss_cons (s_iff (PW.pt (w_or (t_cmp o_lt (c_fld hK (c_var (pv 0)) (fld_2 T)) (c_fld hK (c_var (pv 1)) (fld_2 T)) (nomark _)) (w_or1 (t_cmp o_lt (c_fld hK (c_var (pv 0)) (fld_3 T)) (c_fld hK (c_var (pv 1)) (fld_3 T)) (nomark _))))) (ss_cons (s_ret (c_cst pe_bl (fun H => r_bl _ H _)))
      ss_nil) ss_nil)
      (ss_cons (s_ret (c_and hK (c_cmp o_le (c_bin o_add (c_fld hK (c_var (pv 0)) (fld_2 T)) (c_fld hK (c_var (pv 0)) (fld_4 T))) (c_bin o_add (c_fld hK (c_var (pv 1)) (fld_2 T)) (c_fld hK (c_var (pv 1)) (fld_4 T))) (nomark _)) (c_one (c_cmp o_le (c_bin o_add (c_fld hK (c_var (pv 0)) (fld_3 T)) (c_fld hK (c_var (pv 0)) (fld_5 T))) (c_bin o_add (c_fld hK (c_var (pv 1)) (fld_3 T)) (c_fld hK (c_var (pv 1)) (fld_5 T))) (nomark _)))))
      ss_nil))) rfl
theorem ok11 (T : Tx K mg fa ca pa cc ta fd) (A : Al P w K mg base fa cc ta fd k) (A' : Al P w K mg base fa cc ta fd (k - 1)) : FnG P w K mg base (5 * (k + 1)) (fa 11) (fd 11) ["one", "other"] (spF (tb K) (calls fs (k + 1)) 8 2) := def_ok (F := F_common_box) T.f11 sc11 rfl (by decide) rfl (fun _ => rfl) (fun {X} {C} {W} hK hu hu2 hgd hr tk hp hX => by
    have sc := sc11
    obtain ⟨qu, cdv, A0_, outer_, s0_, H0_, E0_, rfl, hC, rfl, hcd⟩ := hX
    obtain ⟨CT, h0_, he_, io_, fa_⟩ := C
    have hC : CT = tb K := hC
    subst hC
    have hcalm : (cxOf (L2.CX P w) P w K mg base ["one", "other", "left", "low", "right", "top"] "common_box" (defScope st11) (fa 11) cdv A0_ outer_ s0_ H0_ E0_).calm = true := rfl
    have hu65 : (cxOf (L2.CX P w) P w K mg base ["one", "other", "left", "low", "right", "top"] "common_box" (defScope st11) (fa 11) cdv A0_ outer_ s0_ H0_ E0_).A.units + 65 < cLine := by omega
    have hr0 : Room (5 * k) _ := hr.mono (by omega)
    have hr1 : Room (5 * k + 1) _ := hr.mono (by omega)
    have hr2 : Room (5 * k + 2) _ := hr.mono (by omega)
    exact (ss_cons (s_par2 (ps_par (i := 2) (j := 3) rfl sc.nd rfl rfl (by decide) rfl rfl (f_cons (c_biB (B := .max2) (b_max rfl) (by rfl) T.n_max (by decide +kernel) (r_cons (c_biT (B := .int) b_int (by rfl) T.n_int (by decide +kernel) (r_cons (c_fld hK (c_var (pv 0)) (fld_2 T)) r_nil)) (r_cons (c_biT (B := .int) b_int (by rfl) T.n_int (by decide +kernel) (r_cons (c_fld hK (c_var (pv 1)) (fld_2 T)) r_nil)) r_nil))) (f_cons (c_biB (B := .max2) (b_max rfl) (by rfl) T.n_max (by decide +kernel) (r_cons (c_biT (B := .int) b_int (by rfl) T.n_int (by decide +kernel) (r_cons (c_fld hK (c_var (pv 0)) (fld_3 T)) r_nil)) (r_cons (c_biT (B := .int) b_int (by rfl) T.n_int (by decide +kernel) (r_cons (c_fld hK (c_var (pv 1)) (fld_3 T)) r_nil)) r_nil))) f_nil)) (by rfl)))
      (ss_cons (s_asg (ps_set (i := 4) sc.nd rfl (Or.inl rfl) (c_biB (B := .min2) (b_min rfl) (by rfl) T.n_min (by decide +kernel) (r_cons (c_biT (B := .int) b_int (by rfl) T.n_int (by decide +kernel) (r_cons (c_bin o_add (c_fld hK (c_var (pv 0)) (fld_2 T)) (c_fld hK (c_var (pv 0)) (fld_4 T))) r_nil)) (r_cons (c_biT (B := .int) b_int (by rfl) T.n_int (by decide +kernel) (r_cons (c_bin o_add (c_fld hK (c_var (pv 1)) (fld_2 T)) (c_fld hK (c_var (pv 1)) (fld_4 T))) r_nil)) r_nil)))))
      (ss_cons (s_asg (ps_set (i := 5) sc.nd rfl (Or.inl rfl) (c_biB (B := .min2) (b_min rfl) (by rfl) T.n_min (by decide +kernel) (r_cons (c_biT (B := .int) b_int (by rfl) T.n_int (by decide +kernel) (r_cons (c_bin o_add (c_fld hK (c_var (pv 0)) (fld_3 T)) (c_fld hK (c_var (pv 0)) (fld_5 T))) r_nil)) (r_cons (c_biT (B := .int) b_int (by rfl) T.n_int (by decide +kernel) (r_cons (c_bin o_add (c_fld hK (c_var (pv 1)) (fld_3 T)) (c_fld hK (c_var (pv 1)) (fld_5 T))) r_nil)) r_nil)))))
      (ss_cons (s_ret (c_ife (PW.pt (w_and (t_cmp o_lt (c_var (pv 2)) (c_var (pv 4)) (nomark _)) (w_and1 (op := .And) (t_cmp o_lt (c_var (pv 3)) (c_var (pv 5)) (nomark _))))) (c_mk (ds := []) T.mk5 A.o13 hgd hr1 tk (by rfl) T.mC5 T.ck5 T.bd13_2.choose_spec.2 T.bd13_2.choose_spec.1 (fun H => by simp only [RepAll, Rep]) (k_cons (m := false) (c_var (pv 2)) (k_cons (m := false) (c_var (pv 3)) (k_cons (m := false) (c_bin o_sub (c_var (pv 4)) (c_var (pv 2))) (k_cons (m := false) (c_bin o_sub (c_var (pv 5)) (c_var (pv 3))) k_nil))))) (c_cst pe_non (fun H => r_non _ H))))
      ss_nil))))) rfl
theorem ok12 (T : Tx K mg fa ca pa cc ta fd) (A : Al P w K mg base fa cc ta fd k) (A' : Al P w K mg base fa cc ta fd (k - 1)) : FnG P w K mg base (5 * (k + 1)) (fa 12) (fd 12) ["one", "other"] (spF (tb K) (calls fs (k + 1)) 9 2) := def_ok (F := F_least_box) T.f12 sc12 rfl (by decide) rfl (fun _ => rfl) (fun {X} {C} {W} hK hu hu2 hgd hr tk hp hX => by
    have sc := sc12
    obtain ⟨qu, cdv, A0_, outer_, s0_, H0_, E0_, rfl, hC, rfl, hcd⟩ := hX
    obtain ⟨CT, h0_, he_, io_, fa_⟩ := C
    have hC : CT = tb K := hC
    subst hC
    have hcalm : (cxOf (L2.CX P w) P w K mg base ["one", "other", "left", "low", "right", "top"] "least_box" (defScope st12) (fa 12) cdv A0_ outer_ s0_ H0_ E0_).calm = true := rfl
    have hu65 : (cxOf (L2.CX P w) P w K mg base ["one", "other", "left", "low", "right", "top"] "least_box" (defScope st12) (fa 12) cdv A0_ outer_ s0_ H0_ E0_).A.units + 65 < cLine := by omega
    have hr0 : Room (5 * k) _ := hr.mono (by omega)
    have hr1 : Room (5 * k + 1) _ := hr.mono (by omega)
    have hr2 : Room (5 * k + 2) _ := hr.mono (by omega)
    exact (ss_cons (s_par2 (ps_par (i := 2) (j := 3) rfl sc.nd rfl rfl (by decide) rfl rfl (f_cons (c_biB (B := .min2) (b_min rfl) (by rfl) T.n_min (by decide +kernel) (r_cons (c_biT (B := .int) b_int (by rfl) T.n_int (by decide +kernel) (r_cons (c_fld hK (c_var (pv 0)) (fld_2 T)) r_nil)) (r_cons (c_biT (B := .int) b_int (by rfl) T.n_int (by decide +kernel) (r_cons (c_fld hK (c_var (pv 1)) (fld_2 T)) r_nil)) r_nil))) (f_cons (c_biB (B := .min2) (b_min rfl) (by rfl) T.n_min (by decide +kernel) (r_cons (c_biT (B := .int) b_int (by rfl) T.n_int (by decide +kernel) (r_cons (c_fld hK (c_var (pv 0)) (fld_3 T)) r_nil)) (r_cons (c_biT (B := .int) b_int (by rfl) T.n_int (by decide +kernel) (r_cons (c_fld hK (c_var (pv 1)) (fld_3 T)) r_nil)) r_nil))) f_nil)) (by rfl)))
      (ss_cons (s_asg (ps_set (i := 4) sc.nd rfl (Or.inl rfl) (c_biB (B := .max2) (b_max rfl) (by rfl) T.n_max (by decide +kernel) (r_cons (c_biT (B := .int) b_int (by rfl) T.n_int (by decide +kernel) (r_cons (c_bin o_add (c_fld hK (c_var (pv 0)) (fld_2 T)) (c_fld hK (c_var (pv 0)) (fld_4 T))) r_nil)) (r_cons (c_biT (B := .int) b_int (by rfl) T.n_int (by decide +kernel) (r_cons (c_bin o_add (c_fld hK (c_var (pv 1)) (fld_2 T)) (c_fld hK (c_var (pv 1)) (fld_4 T))) r_nil)) r_nil)))))
      (ss_cons (s_asg (ps_set (i := 5) sc.nd rfl (Or.inl rfl) (c_biB (B := .max2) (b_max rfl) (by rfl) T.n_max (by decide +kernel) (r_cons (c_biT (B := .int) b_int (by rfl) T.n_int (by decide +kernel) (r_cons (c_bin o_add (c_fld hK (c_var (pv 0)) (fld_3 T)) (c_fld hK (c_var (pv 0)) (fld_5 T))) r_nil)) (r_cons (c_biT (B := .int) b_int (by rfl) T.n_int (by decide +kernel) (r_cons (c_bin o_add (c_fld hK (c_var (pv 1)) (fld_3 T)) (c_fld hK (c_var (pv 1)) (fld_5 T))) r_nil)) r_nil)))))
      (ss_cons (s_ret (c_mk (ds := []) T.mk5 A.o13 hgd hr1 tk (by rfl) T.mC5 T.ck5 T.bd13_2.choose_spec.2 T.bd13_2.choose_spec.1 (fun H => by simp only [RepAll, Rep]) (k_cons (m := false) (c_var (pv 2)) (k_cons (m := false) (c_var (pv 3)) (k_cons (m := false) (c_bin o_sub (c_var (pv 4)) (c_var (pv 2))) (k_cons (m := false) (c_bin o_sub (c_var (pv 5)) (c_var (pv 3))) k_nil))))))
      ss_nil))))) rfl
theorem ok13 (T : Tx K mg fa ca pa cc ta fd) (A : Al P w K mg base fa cc ta fd k) (A' : Al P w K mg base fa cc ta fd (k - 1)) : FnG P w K mg base (5 * (k + 1)) (fa 13) (fd 13) ["self", "x", "y", "width", "height"] (spF (tb K) (calls fs (k + 1)) 6000 5) := def_ok (F := F_Box__init__) T.f13 sc13 rfl (by decide) rfl (fun _ => rfl) (fun {X} {C} {W} hK hu hu2 hgd hr tk hp hX => by
    have sc := sc13
    obtain ⟨qu, cdv, A0_, outer_, s0_, H0_, E0_, rfl, hC, rfl, hcd⟩ := hX
    obtain ⟨CT, h0_, he_, io_, fa_⟩ := C
    have hC : CT = tb K := hC
    subst hC
    have hcalm : (cxOf (L2.CX P w) P w K mg base ["self", "x", "y", "width", "height"] "Box.__init__" (defScope st13) (fa 13) cdv A0_ outer_ s0_ H0_ E0_).calm = true := rfl
    have hu65 : (cxOf (L2.CX P w) P w K mg base ["self", "x", "y", "width", "height"] "Box.__init__" (defScope st13) (fa 13) cdv A0_ outer_ s0_ H0_ E0_).A.units + 65 < cLine := by omega
    have hr0 : Room (5 * k) _ := hr.mono (by omega)
    have hr1 : Room (5 * k + 1) _ := hr.mono (by omega)
    have hr2 : Room (5 * k + 2) _ := hr.mono (by omega)
    exact (ss_cons (s_iff (t_not (t_tru hK (c_call A.o1 hgd hr0 tk (by rfl) T.m1 T.f1.kp T.b1 (k_cons (m := false) (c_var (pv 1)) (k_cons (m := false) (c_cst pe_int (fun H => r_int _ H _)) (k_cons (m := false) (c_bin o_sub (c_cst (pe_glob (v := .int 1267650600228229401496703205376) (by rfl) (T.g_MOST_SIDE).choose_spec ⟨_, rfl⟩) (fun H => r_int _ H _)) (c_cst pe_int (fun H => r_int _ H _))) k_nil)))))) (ss_cons (s_raise (T.cx3) rfl hcalm tk (pmk_X T.ox3 T.xi3 T.xt3 ((xf3 T).up (by omega)) hgd hr2 T.b5 tk (by decide) (by rfl) T.mC3 (f_cons (c_cst pe_str (fun H => r_str _ H _)) f_nil)))
      ss_nil) ss_nil)
      (ss_cons (s_iff (t_not (t_tru hK (c_call A.o1 hgd hr0 tk (by rfl) T.m1 T.f1.kp T.b1 (k_cons (m := false) (c_var (pv 2)) (k_cons (m := false) (c_cst pe_int (fun H => r_int _ H _)) (k_cons (m := false) (c_bin o_sub (c_cst (pe_glob (v := .int 1267650600228229401496703205376) (by rfl) (T.g_MOST_SIDE).choose_spec ⟨_, rfl⟩) (fun H => r_int _ H _)) (c_cst pe_int (fun H => r_int _ H _))) k_nil)))))) (ss_cons (s_raise (T.cx3) rfl hcalm tk (pmk_X T.ox3 T.xi3 T.xt3 ((xf3 T).up (by omega)) hgd hr2 T.b5 tk (by decide) (by rfl) T.mC3 (f_cons (c_cst pe_str (fun H => r_str _ H _)) f_nil)))
      ss_nil) ss_nil)
      (ss_cons (s_iff (t_not (t_tru hK (c_call A.o1 hgd hr0 tk (by rfl) T.m1 T.f1.kp T.b1 (k_cons (m := false) (c_var (pv 3)) (k_cons (m := false) (c_cst pe_int (fun H => r_int _ H _)) (k_cons (m := false) (c_cst (pe_glob (v := .int 1267650600228229401496703205376) (by rfl) (T.g_MOST_SIDE).choose_spec ⟨_, rfl⟩) (fun H => r_int _ H _)) k_nil)))))) (ss_cons (s_raise (T.cx3) rfl hcalm tk (pmk_X T.ox3 T.xi3 T.xt3 ((xf3 T).up (by omega)) hgd hr2 T.b5 tk (by decide) (by rfl) T.mC3 (f_cons (c_cst pe_str (fun H => r_str _ H _)) f_nil)))
      ss_nil) ss_nil)
      (ss_cons (s_iff (t_not (t_tru hK (c_call A.o1 hgd hr0 tk (by rfl) T.m1 T.f1.kp T.b1 (k_cons (m := false) (c_var (pv 4)) (k_cons (m := false) (c_cst pe_int (fun H => r_int _ H _)) (k_cons (m := false) (c_cst (pe_glob (v := .int 1267650600228229401496703205376) (by rfl) (T.g_MOST_SIDE).choose_spec ⟨_, rfl⟩) (fun H => r_int _ H _)) k_nil)))))) (ss_cons (s_raise (T.cx3) rfl hcalm tk (pmk_X T.ox3 T.xi3 T.xt3 ((xf3 T).up (by omega)) hgd hr2 T.b5 tk (by decide) (by rfl) T.mC3 (f_cons (c_cst pe_str (fun H => r_str _ H _)) f_nil)))
      ss_nil) ss_nil)
      (ss_cons (s_setF (σ := []) (cs := [5]) hK (fld_2 T) (by intro c hc; (repeat (rcases List.mem_cons.mp hc with rfl | hc; rfl)); cases hc) (ps_fld (pv 0) (c_var (pv 1)) (by rfl)))
      (ss_cons (s_setF (σ := []) (cs := [5]) hK (fld_3 T) (by intro c hc; (repeat (rcases List.mem_cons.mp hc with rfl | hc; rfl)); cases hc) (ps_fld (pv 0) (c_var (pv 2)) (by rfl)))
      (ss_cons (s_setF (σ := []) (cs := [5]) hK (fld_4 T) (by intro c hc; (repeat (rcases List.mem_cons.mp hc with rfl | hc; rfl)); cases hc) (ps_fld (pv 0) (c_var (pv 3)) (by rfl)))
      (ss_cons (s_setF (σ := []) (cs := [5]) hK (fld_5 T) (by intro c hc; (repeat (rcases List.mem_cons.mp hc with rfl | hc; rfl)); cases hc) (ps_fld (pv 0) (c_var (pv 4)) (by rfl)))
      ss_nil))))))))) rfl
theorem ok14 (T : Tx K mg fa ca pa cc ta fd) (A : Al P w K mg base fa cc ta fd k) (A' : Al P w K mg base fa cc ta fd (k - 1)) : FnG P w K mg base (5 * (k + 1)) (fa 14) (fd 14) ["level"] (spF (tb K) (calls fs (k + 1)) 6050 1) := def_ok (F := F_Box_square) T.f14 sc14 rfl (by decide) rfl (fun _ => rfl) (fun {X} {C} {W} hK hu hu2 hgd hr tk hp hX => by
    have sc := sc14
    obtain ⟨qu, cdv, A0_, outer_, s0_, H0_, E0_, rfl, hC, rfl, hcd⟩ := hX
    obtain ⟨CT, h0_, he_, io_, fa_⟩ := C
    have hC : CT = tb K := hC
    subst hC
    have hcalm : (cxOf (L2.CX P w) P w K mg base ["level"] "Box.square" (defScope st14) (fa 14) cdv A0_ outer_ s0_ H0_ E0_).calm = true := rfl
    have hu65 : (cxOf (L2.CX P w) P w K mg base ["level"] "Box.square" (defScope st14) (fa 14) cdv A0_ outer_ s0_ H0_ E0_).A.units + 65 < cLine := by omega
    have hr0 : Room (5 * k) _ := hr.mono (by omega)
    have hr1 : Room (5 * k + 1) _ := hr.mono (by omega)
    have hr2 : Room (5 * k + 2) _ := hr.mono (by omega)
    exact (ss_cons (s_iff (t_not (t_tru hK (c_call A.o2 hgd hr0 tk (by rfl) T.m2 T.f2.kp T.b2 (k_cons (m := false) (c_var (pv 0)) k_nil)))) (ss_cons (s_raise (T.cx2) rfl hcalm tk (pmk_X T.ox2 T.xi2 T.xt2 ((xf2 T).up (by omega)) hgd hr2 T.b4 tk (by decide) (by rfl) T.mC2 (f_cons (c_var (pv 0)) f_nil)))
      ss_nil) ss_nil)
      (ss_cons (s_ret (c_mk (ds := []) T.mk5 A.o13 hgd hr1 tk (by rfl) T.mC5 T.ck5 T.bd13_2.choose_spec.2 T.bd13_2.choose_spec.1 (fun H => by simp only [RepAll, Rep]) (k_cons (m := false) (c_cst pe_int (fun H => r_int _ H _)) (k_cons (m := false) (c_cst pe_int (fun H => r_int _ H _)) (k_cons (m := false) (c_bin o_shl (c_cst pe_int (fun H => r_int _ H _)) (c_var (pv 0))) (k_cons (m := false) (c_bin o_shl (c_cst pe_int (fun H => r_int _ H _)) (c_var (pv 0))) k_nil))))))
      ss_nil))) rfl
theorem ok15 (T : Tx K mg fa ca pa cc ta fd) (A : Al P w K mg base fa cc ta fd k) (A' : Al P w K mg base fa cc ta fd (k - 1)) : FnG P w K mg base (5 * (k + 1)) (fa 15) (fd 15) ["self", "other"] (spF (tb K) (calls fs (k + 1)) 6009 2) := def_ok (F := F_Box__and__) T.f15 sc15 rfl (by decide) rfl (fun _ => rfl) (fun {X} {C} {W} hK hu hu2 hgd hr tk hp hX => by
    have sc := sc15
    obtain ⟨qu, cdv, A0_, outer_, s0_, H0_, E0_, rfl, hC, rfl, hcd⟩ := hX
    obtain ⟨CT, h0_, he_, io_, fa_⟩ := C
    have hC : CT = tb K := hC
    subst hC
    have hcalm : (cxOf (L2.CX P w) P w K mg base ["self", "other"] "Box.__and__" (defScope st15) (fa 15) cdv A0_ outer_ s0_ H0_ E0_).calm = true := rfl
    have hu65 : (cxOf (L2.CX P w) P w K mg base ["self", "other"] "Box.__and__" (defScope st15) (fa 15) cdv A0_ outer_ s0_ H0_ E0_).A.units + 65 < cLine := by omega
    have hr0 : Room (5 * k) _ := hr.mono (by omega)
    have hr1 : Room (5 * k + 1) _ := hr.mono (by omega)
    have hr2 : Room (5 * k + 2) _ := hr.mono (by omega)
    exact (ss_cons (s_ex (c_call A.o7 hgd hr0 tk (by rfl) T.m7 T.f7.kp T.b7 (k_cons (m := false) (c_var (pv 1)) k_nil)))
      (ss_cons (s_ret (c_call A.o11 hgd hr0 tk (by rfl) T.m11 T.f11.kp T.b11 (k_cons (m := false) (c_var (pv 0)) (k_cons (m := false) (c_var (pv 1)) k_nil))))
      ss_nil))) rfl
theorem ok16 (T : Tx K mg fa ca pa cc ta fd) (A : Al P w K mg base fa cc ta fd k) (A' : Al P w K mg base fa cc ta fd (k - 1)) : FnG P w K mg base (5 * (k + 1)) (fa 16) (fd 16) ["self", "other"] (spF (tb K) (calls fs (k + 1)) 6010 2) := def_ok (F := F_Box__or__) T.f16 sc16 rfl (by decide) rfl (fun _ => rfl) (fun {X} {C} {W} hK hu hu2 hgd hr tk hp hX => by
    have sc := sc16
    obtain ⟨qu, cdv, A0_, outer_, s0_, H0_, E0_, rfl, hC, rfl, hcd⟩ := hX
    obtain ⟨CT, h0_, he_, io_, fa_⟩ := C
    have hC : CT = tb K := hC
    subst hC
    have hcalm : (cxOf (L2.CX P w) P w K mg base ["self", "other"] "Box.__or__" (defScope st16) (fa 16) cdv A0_ outer_ s0_ H0_ E0_).calm = true := rfl
    have hu65 : (cxOf (L2.CX P w) P w K mg base ["self", "other"] "Box.__or__" (defScope st16) (fa 16) cdv A0_ outer_ s0_ H0_ E0_).A.units + 65 < cLine := by omega
    have hr0 : Room (5 * k) _ := hr.mono (by omega)
    have hr1 : Room (5 * k + 1) _ := hr.mono (by omega)
    have hr2 : Room (5 * k + 2) _ := hr.mono (by omega)
    exact (ss_cons (s_ex (c_call A.o7 hgd hr0 tk (by rfl) T.m7 T.f7.kp T.b7 (k_cons (m := false) (c_var (pv 1)) k_nil)))
      (ss_cons (s_ret (c_call A.o12 hgd hr0 tk (by rfl) T.m12 T.f12.kp T.b12 (k_cons (m := false) (c_var (pv 0)) (k_cons (m := false) (c_var (pv 1)) k_nil))))
      ss_nil))) rfl
theorem ok17 (T : Tx K mg fa ca pa cc ta fd) (A : Al P w K mg base fa cc ta fd k) (A' : Al P w K mg base fa cc ta fd (k - 1)) : FnG P w K mg base (5 * (k + 1)) (fa 17) (fd 17) ["self", "move"] (spF (tb K) (calls fs (k + 1)) 6001 2) := def_ok (F := F_Box__add__) T.f17 sc17 rfl (by decide) rfl (fun _ => rfl) (fun {X} {C} {W} hK hu hu2 hgd hr tk hp hX => by
    have sc := sc17
    obtain ⟨qu, cdv, A0_, outer_, s0_, H0_, E0_, rfl, hC, rfl, hcd⟩ := hX
    obtain ⟨CT, h0_, he_, io_, fa_⟩ := C
    have hC : CT = tb K := hC
    subst hC
    have hcalm : (cxOf (L2.CX P w) P w K mg base ["self", "move"] "Box.__add__" (defScope st17) (fa 17) cdv A0_ outer_ s0_ H0_ E0_).calm = true := rfl
    have hu65 : (cxOf (L2.CX P w) P w K mg base ["self", "move"] "Box.__add__" (defScope st17) (fa 17) cdv A0_ outer_ s0_ H0_ E0_).A.units + 65 < cLine := by omega
    have hr0 : Room (5 * k) _ := hr.mono (by omega)
    have hr1 : Room (5 * k + 1) _ := hr.mono (by omega)
    have hr2 : Room (5 * k + 2) _ := hr.mono (by omega)
    exact (ss_cons (s_ret (c_call A.o8 hgd hr0 tk (by rfl) T.m8 T.f8.kp T.b8 (k_cons (m := false) (c_var (pv 0)) (k_cons (m := false) (c_var (pv 1)) (k_cons (m := false) (c_cst pe_int (fun H => r_int _ H _)) k_nil)))))
      ss_nil)) rfl
theorem ok18 (T : Tx K mg fa ca pa cc ta fd) (A : Al P w K mg base fa cc ta fd k) (A' : Al P w K mg base fa cc ta fd (k - 1)) : FnG P w K mg base (5 * (k + 1)) (fa 18) (fd 18) ["self", "move"] (spF (tb K) (calls fs (k + 1)) 6002 2) := def_ok (F := F_Box__sub__) T.f18 sc18 rfl (by decide) rfl (fun _ => rfl) (fun {X} {C} {W} hK hu hu2 hgd hr tk hp hX => by
    have sc := sc18
    obtain ⟨qu, cdv, A0_, outer_, s0_, H0_, E0_, rfl, hC, rfl, hcd⟩ := hX
    obtain ⟨CT, h0_, he_, io_, fa_⟩ := C
    have hC : CT = tb K := hC
    subst hC
    have hcalm : (cxOf (L2.CX P w) P w K mg base ["self", "move"] "Box.__sub__" (defScope st18) (fa 18) cdv A0_ outer_ s0_ H0_ E0_).calm = true := rfl
    have hu65 : (cxOf (L2.CX P w) P w K mg base ["self", "move"] "Box.__sub__" (defScope st18) (fa 18) cdv A0_ outer_ s0_ H0_ E0_).A.units + 65 < cLine := by omega
    have hr0 : Room (5 * k) _ := hr.mono (by omega)
    have hr1 : Room (5 * k + 1) _ := hr.mono (by omega)
    have hr2 : Room (5 * k + 2) _ := hr.mono (by omega)
    exact (ss_cons (s_ret (c_call A.o8 hgd hr0 tk (by rfl) T.m8 T.f8.kp T.b8 (k_cons (m := false) (c_var (pv 0)) (k_cons (m := false) (c_var (pv 1)) (k_cons (m := false) (c_un o_neg (c_cst pe_int (fun H => r_int _ H _))) k_nil)))))
      ss_nil)) rfl
theorem ok19 (T : Tx K mg fa ca pa cc ta fd) (A : Al P w K mg base fa cc ta fd k) (A' : Al P w K mg base fa cc ta fd (k - 1)) : FnG P w K mg base (5 * (k + 1)) (fa 19) (fd 19) ["self", "n"] (spF (tb K) (calls fs (k + 1)) 6008 2) := def_ok (F := F_Box__rshift__) T.f19 sc19 rfl (by decide) rfl (fun _ => rfl) (fun {X} {C} {W} hK hu hu2 hgd hr tk hp hX => by
    have sc := sc19
    obtain ⟨qu, cdv, A0_, outer_, s0_, H0_, E0_, rfl, hC, rfl, hcd⟩ := hX
    obtain ⟨CT, h0_, he_, io_, fa_⟩ := C
    have hC : CT = tb K := hC
    subst hC
    have hcalm : (cxOf (L2.CX P w) P w K mg base ["self", "n", "left", "low", "right", "top"] "Box.__rshift__" (defScope st19) (fa 19) cdv A0_ outer_ s0_ H0_ E0_).calm = true := rfl
    have hu65 : (cxOf (L2.CX P w) P w K mg base ["self", "n", "left", "low", "right", "top"] "Box.__rshift__" (defScope st19) (fa 19) cdv A0_ outer_ s0_ H0_ E0_).A.units + 65 < cLine := by omega
    have hr0 : Room (5 * k) _ := hr.mono (by omega)
    have hr1 : Room (5 * k + 1) _ := hr.mono (by omega)
    have hr2 : Room (5 * k + 2) _ := hr.mono (by omega)
    exact (ss_cons (s_ex (c_call A.o9 hgd hr0 tk (by rfl) T.m9 T.f9.kp T.b9 (k_cons (m := false) (c_var (pv 1)) k_nil)))
      (ss_cons (s_par2 (ps_par (i := 2) (j := 3) rfl sc.nd rfl rfl (by decide) rfl rfl (f_cons (c_bin o_shr (c_fld hK (c_var (pv 0)) (fld_2 T)) (c_var (pv 1))) (f_cons (c_bin o_shr (c_fld hK (c_var (pv 0)) (fld_3 T)) (c_var (pv 1))) f_nil)) (by rfl)))
      (ss_cons (s_par2 (ps_par (i := 4) (j := 5) rfl sc.nd rfl rfl (by decide) rfl rfl (f_cons (c_bin o_shr (c_bin o_sub (c_bin o_add (c_fld hK (c_var (pv 0)) (fld_2 T)) (c_fld hK (c_var (pv 0)) (fld_4 T))) (c_cst pe_int (fun H => r_int _ H _))) (c_var (pv 1))) (f_cons (c_bin o_shr (c_bin o_sub (c_bin o_add (c_fld hK (c_var (pv 0)) (fld_3 T)) (c_fld hK (c_var (pv 0)) (fld_5 T))) (c_cst pe_int (fun H => r_int _ H _))) (c_var (pv 1))) f_nil)) (by rfl)))
      (ss_cons (s_ret (c_mk (ds := []) T.mk5 A.o13 hgd hr1 tk (by rfl) T.mC5 T.ck5 T.bd13_2.choose_spec.2 T.bd13_2.choose_spec.1 (fun H => by simp only [RepAll, Rep]) (k_cons (m := false) (c_var (pv 2)) (k_cons (m := false) (c_var (pv 3)) (k_cons (m := false) (c_bin o_add (c_bin o_sub (c_var (pv 4)) (c_var (pv 2))) (c_cst pe_int (fun H => r_int _ H _))) (k_cons (m := false) (c_bin o_add (c_bin o_sub (c_var (pv 5)) (c_var (pv 3))) (c_cst pe_int (fun H => r_int _ H _))) k_nil))))))
      ss_nil))))) rfl
theorem ok20 (T : Tx K mg fa ca pa cc ta fd) (A : Al P w K mg base fa cc ta fd k) (A' : Al P w K mg base fa cc ta fd (k - 1)) : FnG P w K mg base (5 * (k + 1)) (fa 20) (fd 20) ["self", "n"] (spF (tb K) (calls fs (k + 1)) 6007 2) := def_ok (F := F_Box__lshift__) T.f20 sc20 rfl (by decide) rfl (fun _ => rfl) (fun {X} {C} {W} hK hu hu2 hgd hr tk hp hX => by
    have sc := sc20
    obtain ⟨qu, cdv, A0_, outer_, s0_, H0_, E0_, rfl, hC, rfl, hcd⟩ := hX
    obtain ⟨CT, h0_, he_, io_, fa_⟩ := C
    have hC : CT = tb K := hC
    subst hC
    have hcalm : (cxOf (L2.CX P w) P w K mg base ["self", "n"] "Box.__lshift__" (defScope st20) (fa 20) cdv A0_ outer_ s0_ H0_ E0_).calm = true := rfl
    have hu65 : (cxOf (L2.CX P w) P w K mg base ["self", "n"] "Box.__lshift__" (defScope st20) (fa 20) cdv A0_ outer_ s0_ H0_ E0_).A.units + 65 < cLine := by omega
    have hr0 : Room (5 * k) _ := hr.mono (by omega)
    have hr1 : Room (5 * k + 1) _ := hr.mono (by omega)
    have hr2 : Room (5 * k + 2) _ := hr.mono (by omega)
    exact (ss_cons (s_ex (c_call A.o9 hgd hr0 tk (by rfl) T.m9 T.f9.kp T.b9 (k_cons (m := false) (c_var (pv 1)) k_nil)))
      (ss_cons (s_ret (c_mk (ds := []) T.mk5 A.o13 hgd hr1 tk (by rfl) T.mC5 T.ck5 T.bd13_2.choose_spec.2 T.bd13_2.choose_spec.1 (fun H => by simp only [RepAll, Rep]) (k_cons (m := false) (c_bin o_shl (c_fld hK (c_var (pv 0)) (fld_2 T)) (c_var (pv 1))) (k_cons (m := false) (c_bin o_shl (c_fld hK (c_var (pv 0)) (fld_3 T)) (c_var (pv 1))) (k_cons (m := false) (c_bin o_shl (c_fld hK (c_var (pv 0)) (fld_4 T)) (c_var (pv 1))) (k_cons (m := false) (c_bin o_shl (c_fld hK (c_var (pv 0)) (fld_5 T)) (c_var (pv 1))) k_nil))))))
      ss_nil))) rfl
theorem ok21 (T : Tx K mg fa ca pa cc ta fd) (A : Al P w K mg base fa cc ta fd k) (A' : Al P w K mg base fa cc ta fd (k - 1)) : FnG P w K mg base (5 * (k + 1)) (fa 21) (fd 21) ["self", "other"] (spF (tb K) (calls fs (k + 1)) 6013 2) := def_ok (F := F_Box__le__) T.f21 sc21 rfl (by decide) rfl (fun _ => rfl) (fun {X} {C} {W} hK hu hu2 hgd hr tk hp hX => by
    have sc := sc21
    obtain ⟨qu, cdv, A0_, outer_, s0_, H0_, E0_, rfl, hC, rfl, hcd⟩ := hX
    obtain ⟨CT, h0_, he_, io_, fa_⟩ := C
    have hC : CT = tb K := hC
    subst hC
    have hcalm : (cxOf (L2.CX P w) P w K mg base ["self", "other"] "Box.__le__" (defScope st21) (fa 21) cdv A0_ outer_ s0_ H0_ E0_).calm = true := rfl
    have hu65 : (cxOf (L2.CX P w) P w K mg base ["self", "other"] "Box.__le__" (defScope st21) (fa 21) cdv A0_ outer_ s0_ H0_ E0_).A.units + 65 < cLine := by omega
    have hr0 : Room (5 * k) _ := hr.mono (by omega)
    have hr1 : Room (5 * k + 1) _ := hr.mono (by omega)
    have hr2 : Room (5 * k + 2) _ := hr.mono (by omega)
    exact (ss_cons (s_ex (c_call A.o7 hgd hr0 tk (by rfl) T.m7 T.f7.kp T.b7 (k_cons (m := false) (c_var (pv 1)) k_nil)))
      (ss_cons (s_ret (c_call A.o10 hgd hr0 tk (by rfl) T.m10 T.f10.kp T.b10 (k_cons (m := false) (c_var (pv 0)) (k_cons (m := false) (c_var (pv 1)) k_nil))))
      ss_nil))) rfl
theorem ok22 (T : Tx K mg fa ca pa cc ta fd) (A : Al P w K mg base fa cc ta fd k) (A' : Al P w K mg base fa cc ta fd (k - 1)) : FnG P w K mg base (5 * (k + 1)) (fa 22) (fd 22) ["self", "other"] (spF (tb K) (calls fs (k + 1)) 6012 2) := def_ok (F := F_Box__lt__) T.f22 sc22 rfl (by decide) rfl (fun _ => rfl) (fun {X} {C} {W} hK hu hu2 hgd hr tk hp hX => by
    have sc := sc22
    obtain ⟨qu, cdv, A0_, outer_, s0_, H0_, E0_, rfl, hC, rfl, hcd⟩ := hX
    obtain ⟨CT, h0_, he_, io_, fa_⟩ := C
    have hC : CT = tb K := hC
    subst hC
    have hcalm : (cxOf (L2.CX P w) P w K mg base ["self", "other"] "Box.__lt__" (defScope st22) (fa 22) cdv A0_ outer_ s0_ H0_ E0_).calm = true := rfl
    have hu65 : (cxOf (L2.CX P w) P w K mg base ["self", "other"] "Box.__lt__" (defScope st22) (fa 22) cdv A0_ outer_ s0_ H0_ E0_).A.units + 65 < cLine := by omega
    have hr0 : Room (5 * k) _ := hr.mono (by omega)
    have hr1 : Room (5 * k + 1) _ := hr.mono (by omega)
    have hr2 : Room (5 * k + 2) _ := hr.mono (by omega)
    exact (ss_cons (s_ex (c_call A.o7 hgd hr0 tk (by rfl) T.m7 T.f7.kp T.b7 (k_cons (m := false) (c_var (pv 1)) k_nil)))
      (ss_cons (s_ret (c_and hK (c_call A.o10 hgd hr0 tk (by rfl) T.m10 T.f10.kp T.b10 (k_cons (m := false) (c_var (pv 0)) (k_cons (m := false) (c_var (pv 1)) k_nil))) (c_one (c_not hK (c_call A.o10 hgd hr0 tk (by rfl) T.m10 T.f10.kp T.b10 (k_cons (m := false) (c_var (pv 1)) (k_cons (m := false) (c_var (pv 0)) k_nil)))))))
      ss_nil))) rfl
theorem ok23 (T : Tx K mg fa ca pa cc ta fd) (A : Al P w K mg base fa cc ta fd k) (A' : Al P w K mg base fa cc ta fd (k - 1)) : FnG P w K mg base (5 * (k + 1)) (fa 23) (fd 23) ["self", "other"] (spF (tb K) (calls fs (k + 1)) 6015 2) := def_ok (F := F_Box__ge__) T.f23 sc23 rfl (by decide) rfl (fun _ => rfl) (fun {X} {C} {W} hK hu hu2 hgd hr tk hp hX => by
    have sc := sc23
    obtain ⟨qu, cdv, A0_, outer_, s0_, H0_, E0_, rfl, hC, rfl, hcd⟩ := hX
    obtain ⟨CT, h0_, he_, io_, fa_⟩ := C
    have hC : CT = tb K := hC
    subst hC
    have hcalm : (cxOf (L2.CX P w) P w K mg base ["self", "other"] "Box.__ge__" (defScope st23) (fa 23) cdv A0_ outer_ s0_ H0_ E0_).calm = true := rfl
    have hu65 : (cxOf (L2.CX P w) P w K mg base ["self", "other"] "Box.__ge__" (defScope st23) (fa 23) cdv A0_ outer_ s0_ H0_ E0_).A.units + 65 < cLine := by omega
    have hr0 : Room (5 * k) _ := hr.mono (by omega)
    have hr1 : Room (5 * k + 1) _ := hr.mono (by omega)
    have hr2 : Room (5 * k + 2) _ := hr.mono (by omega)
    exact (ss_cons (s_ex (c_call A.o7 hgd hr0 tk (by rfl) T.m7 T.f7.kp T.b7 (k_cons (m := false) (c_var (pv 1)) k_nil)))
      (ss_cons (s_ret (c_call A.o10 hgd hr0 tk (by rfl) T.m10 T.f10.kp T.b10 (k_cons (m := false) (c_var (pv 1)) (k_cons (m := false) (c_var (pv 0)) k_nil))))
      ss_nil))) rfl
theorem ok24 (T : Tx K mg fa ca pa cc ta fd) (A : Al P w K mg base fa cc ta fd k) (A' : Al P w K mg base fa cc ta fd (k - 1)) : FnG P w K mg base (5 * (k + 1)) (fa 24) (fd 24) ["self", "other"] (spF (tb K) (calls fs (k + 1)) 6014 2) := def_ok (F := F_Box__gt__) T.f24 sc24 rfl (by decide) rfl (fun _ => rfl) (fun {X} {C} {W} hK hu hu2 hgd hr tk hp hX => by
    have sc := sc24
    obtain ⟨qu, cdv, A0_, outer_, s0_, H0_, E0_, rfl, hC, rfl, hcd⟩ := hX
    obtain ⟨CT, h0_, he_, io_, fa_⟩ := C
    have hC : CT = tb K := hC
    subst hC
    have hcalm : (cxOf (L2.CX P w) P w K mg base ["self", "other"] "Box.__gt__" (defScope st24) (fa 24) cdv A0_ outer_ s0_ H0_ E0_).calm = true := rfl
    have hu65 : (cxOf (L2.CX P w) P w K mg base ["self", "other"] "Box.__gt__" (defScope st24) (fa 24) cdv A0_ outer_ s0_ H0_ E0_).A.units + 65 < cLine := by omega
    have hr0 : Room (5 * k) _ := hr.mono (by omega)
    have hr1 : Room (5 * k + 1) _ := hr.mono (by omega)
    have hr2 : Room (5 * k + 2) _ := hr.mono (by omega)
    exact (ss_cons (s_ex (c_call A.o7 hgd hr0 tk (by rfl) T.m7 T.f7.kp T.b7 (k_cons (m := false) (c_var (pv 1)) k_nil)))
      (ss_cons (s_ret (c_and hK (c_call A.o10 hgd hr0 tk (by rfl) T.m10 T.f10.kp T.b10 (k_cons (m := false) (c_var (pv 1)) (k_cons (m := false) (c_var (pv 0)) k_nil))) (c_one (c_not hK (c_call A.o10 hgd hr0 tk (by rfl) T.m10 T.f10.kp T.b10 (k_cons (m := false) (c_var (pv 0)) (k_cons (m := false) (c_var (pv 1)) k_nil)))))))
      ss_nil))) rfl
theorem ok25 (T : Tx K mg fa ca pa cc ta fd) (A : Al P w K mg base fa cc ta fd k) (A' : Al P w K mg base fa cc ta fd (k - 1)) : FnG P w K mg base (5 * (k + 1)) (fa 25) (fd 25) ["self"] (spF (tb K) (calls fs (k + 1)) 6021 1) := def_ok (F := F_Box__str__) T.f25 sc25 rfl (by decide) rfl (fun _ => rfl) (fun {X} {C} {W} hK hu hu2 hgd hr tk hp hX => by
    have sc := sc25
    obtain ⟨qu, cdv, A0_, outer_, s0_, H0_, E0_, rfl, hC, rfl, hcd⟩ := hX
    obtain ⟨CT, h0_, he_, io_, fa_⟩ := C
    have hC : CT = tb K := hC
    subst hC
    have hcalm : (cxOf (L2.CX P w) P w K mg base ["self"] "Box.__str__" (defScope st25) (fa 25) cdv A0_ outer_ s0_ H0_ E0_).calm = true := rfl
    have hu65 : (cxOf (L2.CX P w) P w K mg base ["self"] "Box.__str__" (defScope st25) (fa 25) cdv A0_ outer_ s0_ H0_ E0_).A.units + 65 < cLine := by omega
    have hr0 : Room (5 * k) _ := hr.mono (by omega)
    have hr1 : Room (5 * k + 1) _ := hr.mono (by omega)
    have hr2 : Room (5 * k + 2) _ := hr.mono (by omega)
    exact (ss_cons (s_ret (c_fstr (.cons (pe_fmt (c_fld hK (c_var (pv 0)) (fld_2 T))) (.cons p_cst (.cons (pe_fmt (c_fld hK (c_var (pv 0)) (fld_3 T))) (.cons p_cst (.cons (pe_fmt (c_fld hK (c_var (pv 0)) (fld_4 T))) (.cons p_cst (.cons (pe_fmt (c_fld hK (c_var (pv 0)) (fld_5 T))) .nil)))))))))
      ss_nil)) rfl
theorem ok26 (T : Tx K mg fa ca pa cc ta fd) (A : Al P w K mg base fa cc ta fd k) (A' : Al P w K mg base fa cc ta fd (k - 1)) : FnG P w K mg base (5 * (k + 1)) (fa 26) (fd 26) [] (spF (tb K) (calls fs (k + 1)) 500 0) := def_ok (F := fn26) T.f26 sc26 rfl (by decide) rfl (fun _ => rfl) (fun {X} {C} {W} hK hu hu2 hgd hr tk hp hX => by
    have sc := sc26
    obtain ⟨qu, cdv, A0_, outer_, s0_, H0_, E0_, rfl, hC, rfl, hcd⟩ := hX
    obtain ⟨CT, h0_, he_, io_, fa_⟩ := C
    have hC : CT = tb K := hC
    subst hC
    have hcalm : (cxOf (L2.CX P w) P w K mg base [] "_law_top" (defScope st26) (fa 26) cdv A0_ outer_ s0_ H0_ E0_).calm = true := rfl
    have hu65 : (cxOf (L2.CX P w) P w K mg base [] "_law_top" (defScope st26) (fa 26) cdv A0_ outer_ s0_ H0_ E0_).A.units + 65 < cLine := by omega
    have hr0 : Room (5 * k) _ := hr.mono (by omega)
    have hr1 : Room (5 * k + 1) _ := hr.mono (by omega)
    have hr2 : Room (5 * k + 2) _ := hr.mono (by omega)
    exact (ss_cons (s_ret (c_bin o_mul (c_bin o_pow (c_cst pe_int (fun H => r_int _ H _)) (c_cst pe_int (fun H => r_int _ H _))) (c_bin o_pow (c_cst pe_int (fun H => r_int _ H _)) (c_cst pe_int (fun H => r_int _ H _)))))
      ss_nil)) rfl
theorem ok27 (T : Tx K mg fa ca pa cc ta fd) (A : Al P w K mg base fa cc ta fd k) (A' : Al P w K mg base fa cc ta fd (k - 1)) : FnG P w K mg base (5 * (k + 1)) (fa 27) (fd 27) ["_law_script"] (spF (tb K) (calls fs (k + 1)) 501 1) := def_ok (F := fn27) T.f27 sc27 rfl (by decide) rfl (fun _ => rfl) (fun {X} {C} {W} hK hu hu2 hgd hr tk hp hX => by
    have sc := sc27
    obtain ⟨qu, cdv, A0_, outer_, s0_, H0_, E0_, rfl, hC, rfl, hcd⟩ := hX
    obtain ⟨CT, h0_, he_, io_, fa_⟩ := C
    have hC : CT = tb K := hC
    subst hC
    have hcalm : (cxOf (L2.CX P w) P w K mg base ["_law_script"] "_law_pen" (defScope st27) (fa 27) cdv A0_ outer_ s0_ H0_ E0_).calm = true := rfl
    have hu65 : (cxOf (L2.CX P w) P w K mg base ["_law_script"] "_law_pen" (defScope st27) (fa 27) cdv A0_ outer_ s0_ H0_ E0_).A.units + 65 < cLine := by omega
    have hr0 : Room (5 * k) _ := hr.mono (by omega)
    have hr1 : Room (5 * k + 1) _ := hr.mono (by omega)
    have hr2 : Room (5 * k + 2) _ := hr.mono (by omega)
    exact (ss_cons (s_ret (c_lst (f_cons (c_biT (B := .list) (b_list hK) (by rfl) T.n_list (by decide +kernel) (r_cons (c_slice hK (c_var (pv 0)) so_none (so_some (c_cst pe_int (fun H => r_int _ H _)))) r_nil)) (f_cons (c_cst pe_int (fun H => r_int _ H _)) (f_cons (c_cst pe_int (fun H => r_int _ H _)) f_nil)))))
      ss_nil)) rfl
theorem ok28 (T : Tx K mg fa ca pa cc ta fd) (A : Al P w K mg base fa cc ta fd k) (A' : Al P w K mg base fa cc ta fd (k - 1)) : FnG P w K mg base (5 * (k + 1)) (fa 28) (fd 28) ["_law_pen_here", "_law_many"] (spF (tb K) (calls fs (k + 1)) 502 2) := def_ok (F := fn28) T.f28 sc28 rfl (by decide) rfl (fun _ => rfl) (fun {X} {C} {W} hK hu hu2 hgd hr tk hp hX => by
    have sc := sc28
    obtain ⟨qu, cdv, A0_, outer_, s0_, H0_, E0_, rfl, hC, rfl, hcd⟩ := hX
    obtain ⟨CT, h0_, he_, io_, fa_⟩ := C
    have hC : CT = tb K := hC
    subst hC
    have hcalm : (cxOf (L2.CX P w) P w K mg base ["_law_pen_here", "_law_many", "_law_digit", "_law_at", "_law_cell", "_law_great", "_law_mixed"] "_law_draw" (defScope st28) (fa 28) cdv A0_ outer_ s0_ H0_ E0_).calm = true := rfl
    have hu65 : (cxOf (L2.CX P w) P w K mg base ["_law_pen_here", "_law_many", "_law_digit", "_law_at", "_law_cell", "_law_great", "_law_mixed"] "_law_draw" (defScope st28) (fa 28) cdv A0_ outer_ s0_ H0_ E0_).A.units + 65 < cLine := by omega
    have hr0 : Room (5 * k) _ := hr.mono (by omega)
    have hr1 : Room (5 * k + 1) _ := hr.mono (by omega)
    have hr2 : Room (5 * k + 2) _ := hr.mono (by omega)
    exact (ss_cons (s_iff (t_cmp o_gt (c_ix hK (c_var (pv 0)) (c_cst pe_int (fun H => r_int _ H _))) (c_cst pe_int (fun H => r_int _ H _)) (nomark _)) (ss_cons (s_asg (ps_set (i := 2) sc.nd rfl (Or.inl rfl) (c_bin o_mod (c_biT (B := .int) b_int (by rfl) T.n_int (by decide +kernel) (r_cons (c_ix hK (c_var (pv 0)) (c_cst pe_int (fun H => r_int _ H _))) r_nil)) (c_var (pv 1)))))
      (ss_cons (s_setI (ps_asg (c_bin o_fdiv (c_biT (B := .int) b_int (by rfl) T.n_int (by decide +kernel) (r_cons (c_ix hK (c_var (pv 0)) (c_cst pe_int (fun H => r_int _ H _))) r_nil)) (c_var (pv 1))) (pg_sub (pv 0) (c_cst pe_int (fun H => r_int _ H _)) set_list)))
      (ss_cons (s_ret (c_var (pv 2)))
      ss_nil))) ss_nil)
      (ss_cons (s_asg (ps_set (i := 3) sc.nd rfl (Or.inl rfl) (c_ix hK (c_var (pv 0)) (c_cst pe_int (fun H => r_int _ H _)))))
      (ss_cons (s_setI (ps_asg (c_bin o_add (c_var (pv 3)) (c_cst pe_int (fun H => r_int _ H _))) (pg_sub (pv 0) (c_cst pe_int (fun H => r_int _ H _)) set_list)))
      (ss_cons (s_asg (ps_set (i := 4) sc.nd rfl (Or.inl rfl) (c_bin o_add (c_bin o_mul (c_cst pe_int (fun H => r_int _ H _)) (c_var (pv 3))) (c_cst pe_int (fun H => r_int _ H _)))))
      (ss_cons (s_iff (t_cmp (o_ne hK hu) (c_ix hK (c_var (pv 0)) (c_cst pe_int (fun H => r_int _ H _))) (c_lst f_nil) (nomark _)) (ss_cons (s_asg (ps_set (i := 4) sc.nd rfl (Or.inl rfl) (c_ix hK (c_ix hK (c_var (pv 0)) (c_cst pe_int (fun H => r_int _ H _))) (c_bin o_mod (c_biT (B := .int) b_int (by rfl) T.n_int (by decide +kernel) (r_cons (c_var (pv 3)) r_nil)) (c_biB (B := .len) (b_len hK) (by rfl) T.n_len (by decide +kernel) (r_cons (c_ix hK (c_var (pv 0)) (c_cst pe_int (fun H => r_int _ H _))) r_nil))))))
      ss_nil) ss_nil)
      (ss_cons (s_iff (PW.pt (w_and (t_cmp o_lt (c_var (pv 3)) (c_biB (B := .len) (b_len hK) (by rfl) T.n_len (by decide +kernel) (r_cons (c_ix hK (c_var (pv 0)) (c_cst pe_int (fun H => r_int _ H _))) r_nil)) (nomark _)) (w_and1 (op := .And) (t_cmp o_ge (c_biB (B := .abs) b_abs (by rfl) T.n_abs (by decide +kernel) (r_cons (c_var (pv 4)) r_nil)) (c_bin o_pow (c_cst pe_int (fun H => r_int _ H _)) (c_cst pe_int (fun H => r_int _ H _))) (nomark _))))) (ss_cons (s_asg (ps_set (i := 5) sc.nd rfl (Or.inl rfl) (c_bin o_add (c_bin o_mul (c_cst pe_int (fun H => r_int _ H _)) (c_bin o_sub (c_biB (B := .abs) b_abs (by rfl) T.n_abs (by decide +kernel) (r_cons (c_var (pv 4)) r_nil)) (c_bin o_pow (c_cst pe_int (fun H => r_int _ H _)) (c_cst pe_int (fun H => r_int _ H _))))) (c_biT (B := .int) b_int (by rfl) T.n_int (by decide +kernel) (r_cons (c_cmp o_lt (c_var (pv 4)) (c_cst pe_int (fun H => r_int _ H _)) (nomark _)) r_nil)))))
      (ss_cons (s_setI (ps_asg (c_bin o_fdiv (c_biT (B := .int) b_int (by rfl) T.n_int (by decide +kernel) (r_cons (c_var (pv 5)) r_nil)) (c_var (pv 1))) (pg_sub (pv 0) (c_cst pe_int (fun H => r_int _ H _)) set_list)))
      (ss_cons (s_ret (c_bin o_mod (c_biT (B := .int) b_int (by rfl) T.n_int (by decide +kernel) (r_cons (c_var (pv 5)) r_nil)) (c_var (pv 1))))
      ss_nil))) ss_nil)
      (ss_cons (s_asg (ps_set (i := 6) sc.nd rfl (Or.inl rfl) (c_bin o_mod (c_biT (B := .int) b_int (by rfl) T.n_int (by decide +kernel) (r_cons (c_bin o_pow (c_bin o_add (c_bin o_add (c_bin o_mod (c_biT (B := .int) b_int (by rfl) T.n_int (by decide +kernel) (r_cons (c_var (pv 4)) r_nil)) (c_cst pe_int (fun H => r_int _ H _))) (c_bin o_mul (c_cst pe_int (fun H => r_int _ H _)) (c_var (pv 3)))) (c_cst pe_int (fun H => r_int _ H _))) (c_cst pe_int (fun H => r_int _ H _))) r_nil)) (c_cst pe_int (fun H => r_int _ H _)))))
      (ss_cons (s_asg (ps_set (i := 6) sc.nd rfl (Or.inl rfl) (c_bin o_mod (c_biT (B := .int) b_int (by rfl) T.n_int (by decide +kernel) (r_cons (c_bin o_pow (c_bin o_add (c_bin o_add (c_bin o_mul (c_var (pv 6)) (c_bin o_add (c_bin o_mul (c_cst pe_int (fun H => r_int _ H _)) (c_var (pv 3))) (c_cst pe_int (fun H => r_int _ H _)))) (c_bin o_mul (c_bin o_mul (c_cst pe_int (fun H => r_int _ H _)) (c_var (pv 3))) (c_var (pv 3)))) (c_cst pe_int (fun H => r_int _ H _))) (c_cst pe_int (fun H => r_int _ H _))) r_nil)) (c_cst pe_int (fun H => r_int _ H _)))))
      (ss_cons (s_ret (c_bin o_mod (c_biT (B := .int) b_int (by rfl) T.n_int (by decide +kernel) (r_cons (c_bin o_fdiv (c_var (pv 6)) (c_cst pe_int (fun H => r_int _ H _))) r_nil)) (c_var (pv 1))))
      ss_nil)))))))))) rfl
theorem ok29 (T : Tx K mg fa ca pa cc ta fd) (A : Al P w K mg base fa cc ta fd k) (A' : Al P w K mg base fa cc ta fd (k - 1)) : FnG P w K mg base (5 * (k + 1)) (fa 29) (fd 29) ["_law_pen_here", "_law_some"] (spF (tb K) (calls fs (k + 1)) 503 2) := def_ok (F := fn29) T.f29 sc29 rfl (by decide) rfl (fun _ => rfl) (fun {X} {C} {W} hK hu hu2 hgd hr tk hp hX => by
    have sc := sc29
    obtain ⟨qu, cdv, A0_, outer_, s0_, H0_, E0_, rfl, hC, rfl, hcd⟩ := hX
    obtain ⟨CT, h0_, he_, io_, fa_⟩ := C
    have hC : CT = tb K := hC
    subst hC
    have hcalm : (cxOf (L2.CX P w) P w K mg base ["_law_pen_here", "_law_some"] "_law_pick" (defScope st29) (fa 29) cdv A0_ outer_ s0_ H0_ E0_).calm = true := rfl
    have hu65 : (cxOf (L2.CX P w) P w K mg base ["_law_pen_here", "_law_some"] "_law_pick" (defScope st29) (fa 29) cdv A0_ outer_ s0_ H0_ E0_).A.units + 65 < cLine := by omega
    have hr0 : Room (5 * k) _ := hr.mono (by omega)
    have hr1 : Room (5 * k + 1) _ := hr.mono (by omega)
    have hr2 : Room (5 * k + 2) _ := hr.mono (by omega)
    exact (ss_cons (s_ret (c_ix hK (c_var (pv 1)) (c_call A.o28 hgd hr0 tk (by rfl) T.m28 T.f28.kp T.b28 (k_cons (m := true) (c_var (pv 0)) (k_cons (m := false) (c_biB (B := .len) (b_len hK) (by rfl) T.n_len (by decide +kernel) (r_cons (c_var (pv 1)) r_nil)) k_nil)))))
      ss_nil)) rfl
theorem ok31 (T : Tx K mg fa ca pa cc ta fd) (A : Al P w K mg base fa cc ta fd k) (A' : Al P w K mg base fa cc ta fd (k - 1)) : FnG P w K mg base (5 * (k + 1)) (fa 31) (fd 31) ["_law_pen_here", "_law_at"] (spF (tb K) (calls fs (k + 1)) 505 2) := def_ok (F := fn31) T.f31 sc31 rfl (by decide) rfl (fun _ => rfl) (fun {X} {C} {W} hK hu hu2 hgd hr tk hp hX => by
    have sc := sc31
    obtain ⟨qu, cdv, A0_, outer_, s0_, H0_, E0_, rfl, hC, rfl, hcd⟩ := hX
    obtain ⟨CT, h0_, he_, io_, fa_⟩ := C
    have hC : CT = tb K := hC
    subst hC
    have hcalm : (cxOf (L2.CX P w) P w K mg base ["_law_pen_here", "_law_at", "_law_some"] "_law_odd" (defScope st31) (fa 31) cdv A0_ outer_ s0_ H0_ E0_).calm = true := rfl
    have hu65 : (cxOf (L2.CX P w) P w K mg base ["_law_pen_here", "_law_at", "_law_some"] "_law_odd" (defScope st31) (fa 31) cdv A0_ outer_ s0_ H0_ E0_).A.units + 65 < cLine := by omega
    have hr0 : Room (5 * k) _ := hr.mono (by omega)
    have hr1 : Room (5 * k + 1) _ := hr.mono (by omega)
    have hr2 : Room (5 * k + 2) _ := hr.mono (by omega)
    exact (ss_cons (s_asg (ps_set (i := 2) sc.nd rfl (Or.inl rfl) (c_lst (f_cons (c_cst pe_non (fun H => r_non _ H)) (f_cons (c_cst pe_bl (fun H => r_bl _ H _)) (f_cons (c_cst pe_bl (fun H => r_bl _ H _)) (f_cons (c_cst pe_str (fun H => r_str _ H _)) (f_cons (c_un o_neg (c_cst pe_int (fun H => r_int _ H _))) (f_cons (c_tup (f_cons (c_cst pe_int (fun H => r_int _ H _)) f_nil)) (f_cons (c_lst f_nil) (f_cons c_dic (f_cons (c_bin o_pow (c_cst pe_int (fun H => r_int _ H _)) (c_cst pe_int (fun H => r_int _ H _))) (f_cons (c_un o_neg (c_bin o_pow (c_cst pe_int (fun H => r_int _ H _)) (c_cst pe_int (fun H => r_int _ H _)))) f_nil)))))))))))))
      (ss_cons (s_ret (c_call A.o29 hgd hr0 tk (by rfl) T.m29 T.f29.kp T.b29 (k_cons (m := true) (c_var (pv 0)) (k_cons (m := false) (c_bin o_add (c_var (pv 2)) (c_ife (t_cmp o_lt (c_var (pv 1)) (c_cst pe_int (fun H => r_int _ H _)) (nomark _)) (c_lst (f_cons (c_call0 A.o26 hgd hr0 tk (by rfl) T.m26 T.f26.kp T.b26) f_nil)) (c_lst (f_cons (c_cst pe_int (fun H => r_int _ H _)) (f_cons (c_bin o_add (c_call0 A.o26 hgd hr0 tk (by rfl) T.m26 T.f26.kp T.b26) (c_cst pe_int (fun H => r_int _ H _))) f_nil))))) k_nil))))
      ss_nil))) rfl
theorem ok32 (T : Tx K mg fa ca pa cc ta fd) (A : Al P w K mg base fa cc ta fd k) (A' : Al P w K mg base fa cc ta fd (k - 1)) : FnG P w K mg base (5 * (k + 1)) (fa 32) (fd 32) ["_law_pen_here"] (spF (tb K) (calls fs (k + 1)) 506 1) := def_ok (F := fn32) T.f32 sc32 rfl (by decide) rfl (fun _ => rfl) (fun {X} {C} {W} hK hu hu2 hgd hr tk hp hX => by
    have sc := sc32
    obtain ⟨qu, cdv, A0_, outer_, s0_, H0_, E0_, rfl, hC, rfl, hcd⟩ := hX
    obtain ⟨CT, h0_, he_, io_, fa_⟩ := C
    have hC : CT = tb K := hC
    subst hC
    have hcalm : (cxOf (L2.CX P w) P w K mg base ["_law_pen_here", "_law_fine", "_law_parts", "_law_first", "_law_at", "_law_due", "_law_heard_here"] "_law_made_right" (defScope st32) (fa 32) cdv A0_ outer_ s0_ H0_ E0_).calm = true := rfl
    have hu65 : (cxOf (L2.CX P w) P w K mg base ["_law_pen_here", "_law_fine", "_law_parts", "_law_first", "_law_at", "_law_due", "_law_heard_here"] "_law_made_right" (defScope st32) (fa 32) cdv A0_ outer_ s0_ H0_ E0_).A.units + 65 < cLine := by omega
    have hr0 : Room (5 * k) _ := hr.mono (by omega)
    have hr1 : Room (5 * k + 1) _ := hr.mono (by omega)
    have hr2 : Room (5 * k + 2) _ := hr.mono (by omega)
    have hcode : cdv = .ref (cc 32) := hcd.symm.trans T.q32
    exact (ss_cons (s_asg (ps_set (i := 1) sc.nd rfl (Or.inr rfl) (c_lst (f_cons (c_call A.o29 hgd hr0 tk (by rfl) T.m29 T.f29.kp T.b29 (k_cons (m := true) (c_var (pv 0)) (k_cons (m := false) (c_lst (f_cons (c_cst pe_int (fun H => r_int _ H _)) (f_cons (c_cst pe_int (fun H => r_int _ H _)) (f_cons (c_bin o_sub (c_call0 A.o26 hgd hr0 tk (by rfl) T.m26 T.f26.kp T.b26) (c_cst pe_int (fun H => r_int _ H _))) f_nil)))) k_nil))) (f_cons (c_call A.o29 hgd hr0 tk (by rfl) T.m29 T.f29.kp T.b29 (k_cons (m := true) (c_var (pv 0)) (k_cons (m := false) (c_lst (f_cons (c_cst pe_int (fun H => r_int _ H _)) (f_cons (c_cst pe_int (fun H => r_int _ H _)) (f_cons (c_bin o_sub (c_call0 A.o26 hgd hr0 tk (by rfl) T.m26 T.f26.kp T.b26) (c_cst pe_int (fun H => r_int _ H _))) f_nil)))) k_nil))) f_nil)))))
      (ss_cons (s_asg (ps_set (i := 1) sc.nd rfl (Or.inr rfl) (c_bin o_add (c_var (pv 1)) (c_lst (f_cons (c_call A.o29 hgd hr0 tk (by rfl) T.m29 T.f29.kp T.b29 (k_cons (m := true) (c_var (pv 0)) (k_cons (m := false) (c_lst (f_cons (c_cst pe_int (fun H => r_int _ H _)) (f_cons (c_cst pe_int (fun H => r_int _ H _)) (f_cons (c_call0 A.o26 hgd hr0 tk (by rfl) T.m26 T.f26.kp T.b26) f_nil)))) k_nil))) (f_cons (c_call A.o29 hgd hr0 tk (by rfl) T.m29 T.f29.kp T.b29 (k_cons (m := true) (c_var (pv 0)) (k_cons (m := false) (c_lst (f_cons (c_cst pe_int (fun H => r_int _ H _)) (f_cons (c_cst pe_int (fun H => r_int _ H _)) (f_cons (c_call0 A.o26 hgd hr0 tk (by rfl) T.m26 T.f26.kp T.b26) f_nil)))) k_nil))) f_nil))))))
      (ss_cons (s_iff (t_cmp o_isnot (c_heardK (j := 5 * k + 2) (by rfl) T.m30 T.h30 sc30 rfl (Or.inl rfl) rfl T.b30 (fun o => hear_calls rfl rfl) (hg30 T A') A.t32 hcode T.tt32 T.tu32 hK hgd hr tk (LamX.lamS_by (by kernel_rfl)) rfl (fun _ _ _ _ _ => rfl)
        (fun {Y} {CY} {WY} hK hu hu2 hgd hr tk hp hY => by
          obtain ⟨A1_, o1_, s1_, H1_, E1_, f1_, c1_, rfl, hC⟩ := hY
          obtain ⟨CT, h0_, he_, io_, fa_⟩ := CY
          have hC : CT = tb K := hC
          subst hC
          have hr0 : Room (5 * k) _ := hr.mono (by omega)
          have hr1 : Room (5 * k + 1) _ := hr.mono (by omega)
          have hr2 : Room (5 * k + 2) _ := hr.mono (by omega)
          exact (c_mk (ds := []) T.mk5 A.o13 hgd hr1 tk (by rfl) T.mC5 T.ck5 T.bd13_2.choose_spec.2 T.bd13_2.choose_spec.1 (fun H => by simp only [RepAll, Rep]) (k_cons (m := false) (c_ix hK (c_var (pv 1)) (c_cst pe_int (fun H => r_int _ H _))) (k_cons (m := false) (c_ix hK (c_var (pv 1)) (c_cst pe_int (fun H => r_int _ H _))) (k_cons (m := false) (c_ix hK (c_var (pv 1)) (c_cst pe_int (fun H => r_int _ H _))) (k_cons (m := false) (c_ix hK (c_var (pv 1)) (c_cst pe_int (fun H => r_int _ H _))) k_nil))))))) (c_cst pe_non (fun H => r_non _ H)) (nomark _)) (ss_cons (s_ret (c_cst pe_bl (fun H => r_bl _ H _)))
      ss_nil) ss_nil)
      (ss_cons (s_par2 (ps_par (i := 2) (j := 3) rfl sc.nd rfl rfl (by decide) rfl rfl (f_cons (c_lst (f_cons (c_cst pe_str (fun H => r_str _ H _)) (f_cons (c_cst pe_str (fun H => r_str _ H _)) (f_cons (c_cst pe_str (fun H => r_str _ H _)) (f_cons (c_cst pe_str (fun H => r_str _ H _)) f_nil))))) (f_cons (c_cst pe_non (fun H => r_non _ H)) f_nil)) (by rfl)))
      (ss_cons (s_forr (ps_for hp rfl (pi_range1 (by rfl) T.n_range (pa_cons (c_cst pe_int (fun H => r_int _ H _)) pa_nil)) (pg_name (i := 4) sc.nd rfl (Or.inl rfl)) (ss_cons (s_iff (t_cmp (o_eq hK hu) (c_call A.o28 hgd hr0 tk (by rfl) T.m28 T.f28.kp T.b28 (k_cons (m := true) (c_var (pv 0)) (k_cons (m := false) (c_cst pe_int (fun H => r_int _ H _)) k_nil))) (c_cst pe_int (fun H => r_int _ H _)) (nomark _)) (ss_cons (s_setI (ps_asg (c_call A.o31 hgd hr0 tk (by rfl) T.m31 T.f31.kp T.b31 (k_cons (m := true) (c_var (pv 0)) (k_cons (m := false) (c_var (pv 4)) k_nil))) (pg_sub (pv 1) (c_var (pv 4)) set_list)))
      (ss_cons (s_asg (ps_set (i := 3) sc.nd rfl (Or.inl rfl) (c_ife (t_cmp o_is (c_var (pv 3)) (c_cst pe_non (fun H => r_non _ H)) (nomark _)) (c_ix hK (c_var (pv 2)) (c_var (pv 4))) (c_var (pv 3)))))
      ss_nil)) ss_nil)
      ss_nil)))
      (ss_cons (s_asg (ps_set (i := 5) sc.nd rfl (Or.inl rfl) (c_ife (t_cmp o_is (c_var (pv 3)) (c_cst pe_non (fun H => r_non _ H)) (nomark _)) (c_cst pe_non (fun H => r_non _ H)) (c_tup (f_cons (c_cst pe_str (fun H => r_str _ H _)) (f_cons (c_var (pv 3)) f_nil))))))
      (ss_cons (s_asg (ps_set (i := 6) sc.nd rfl (Or.inl rfl) (c_lst (f_cons (c_heardK (j := 5 * k + 2) (by rfl) T.m30 T.h30 sc30 rfl (Or.inl rfl) rfl T.b30 (fun o => hear_calls rfl rfl) (hg30 T A') A.t32 hcode T.tt32 T.tu32 hK hgd hr tk (LamX.lamS_by (by kernel_rfl)) rfl (fun _ _ _ _ _ => rfl)
        (fun {Y} {CY} {WY} hK hu hu2 hgd hr tk hp hY => by
          obtain ⟨A1_, o1_, s1_, H1_, E1_, f1_, c1_, rfl, hC⟩ := hY
          obtain ⟨CT, h0_, he_, io_, fa_⟩ := CY
          have hC : CT = tb K := hC
          subst hC
          have hr0 : Room (5 * k) _ := hr.mono (by omega)
          have hr1 : Room (5 * k + 1) _ := hr.mono (by omega)
          have hr2 : Room (5 * k + 2) _ := hr.mono (by omega)
          exact (c_mk (ds := []) T.mk5 A.o13 hgd hr1 tk (by rfl) T.mC5 T.ck5 T.bd13_2.choose_spec.2 T.bd13_2.choose_spec.1 (fun H => by simp only [RepAll, Rep]) (k_cons (m := false) (c_ix hK (c_var (pv 1)) (c_cst pe_int (fun H => r_int _ H _))) (k_cons (m := false) (c_ix hK (c_var (pv 1)) (c_cst pe_int (fun H => r_int _ H _))) (k_cons (m := false) (c_ix hK (c_var (pv 1)) (c_cst pe_int (fun H => r_int _ H _))) (k_cons (m := false) (c_ix hK (c_var (pv 1)) (c_cst pe_int (fun H => r_int _ H _))) k_nil))))))) f_nil))))
      (ss_cons (s_app (ps_expr (pe_bm PySem.F.plainAttrs_list PySem.F.slot_list_append PySem.F.type_list_append mt_append (pv 6) (pa_cons (c_heardK (j := 5 * k + 2) (by rfl) T.m30 T.h30 sc30 rfl (Or.inl rfl) rfl T.b30 (fun o => hear_calls rfl rfl) (hg30 T A') A.t32 hcode T.tt32 T.tu32 hK hgd hr tk (LamX.lamS_by (by kernel_rfl)) rfl (fun _ _ _ _ _ => rfl)
        (fun {Y} {CY} {WY} hK hu hu2 hgd hr tk hp hY => by
          obtain ⟨A1_, o1_, s1_, H1_, E1_, f1_, c1_, rfl, hC⟩ := hY
          obtain ⟨CT, h0_, he_, io_, fa_⟩ := CY
          have hC : CT = tb K := hC
          subst hC
          have hr0 : Room (5 * k) _ := hr.mono (by omega)
          have hr1 : Room (5 * k + 1) _ := hr.mono (by omega)
          have hr2 : Room (5 * k + 2) _ := hr.mono (by omega)
          exact (c_mkP T.mk5 A.o13 hgd hr1 tk (by rfl) T.mC5 T.ck5 T.ks13_height_y_width_x (k_pk (m := false) (c_ix hK (c_var (pv 1)) (c_cst pe_int (fun H => r_int _ H _))) (k_pk (m := false) (c_ix hK (c_var (pv 1)) (c_cst pe_int (fun H => r_int _ H _))) (k_pk (m := false) (c_ix hK (c_var (pv 1)) (c_cst pe_int (fun H => r_int _ H _))) (k_pk (m := false) (c_ix hK (c_var (pv 1)) (c_cst pe_int (fun H => r_int _ H _))) k_pk0))))))) pa_nil))))
      (ss_cons (s_ret (c_cmp (o_eq hK hu) (c_var (pv 6)) (c_lst (f_cons (c_var (pv 5)) (f_cons (c_var (pv 5)) f_nil))) (nomark _)))
      ss_nil)))))))))) rfl
theorem ok33 (T : Tx K mg fa ca pa cc ta fd) (A : Al P w K mg base fa cc ta fd k) (A' : Al P w K mg base fa cc ta fd (k - 1)) : FnG P w K mg base (5 * (k + 1)) (fa 33) (fd 33) ["_law_pen_here"] (spF (tb K) (calls fs (k + 1)) 507 1) := def_ok (F := fn33) T.f33 sc33 rfl (by decide) rfl (fun _ => rfl) (fun {X} {C} {W} hK hu hu2 hgd hr tk hp hX => by
    have sc := sc33
    obtain ⟨qu, cdv, A0_, outer_, s0_, H0_, E0_, rfl, hC, rfl, hcd⟩ := hX
    obtain ⟨CT, h0_, he_, io_, fa_⟩ := C
    have hC : CT = tb K := hC
    subst hC
    have hcalm : (cxOf (L2.CX P w) P w K mg base ["_law_pen_here", "_law_box", "_law_kept", "_law_odd_here", "_law_heard_here", "_law_move", "_law_many"] "_law_signs_right" (defScope st33) (fa 33) cdv A0_ outer_ s0_ H0_ E0_).calm = true := rfl
    have hu65 : (cxOf (L2.CX P w) P w K mg base ["_law_pen_here", "_law_box", "_law_kept", "_law_odd_here", "_law_heard_here", "_law_move", "_law_many"] "_law_signs_right" (defScope st33) (fa 33) cdv A0_ outer_ s0_ H0_ E0_).A.units + 65 < cLine := by omega
    have hr0 : Room (5 * k) _ := hr.mono (by omega)
    have hr1 : Room (5 * k + 1) _ := hr.mono (by omega)
    have hr2 : Room (5 * k + 2) _ := hr.mono (by omega)
    have hcode : cdv = .ref (cc 33) := hcd.symm.trans T.q33
    exact (ss_cons (s_asg (ps_set (i := 1) sc.nd rfl (Or.inr rfl) (c_mk (ds := []) T.mk5 A.o13 hgd hr1 tk (by rfl) T.mC5 T.ck5 T.bd13_2.choose_spec.2 T.bd13_2.choose_spec.1 (fun H => by simp only [RepAll, Rep]) (k_cons (m := false) (c_call A.o28 hgd hr0 tk (by rfl) T.m28 T.f28.kp T.b28 (k_cons (m := true) (c_var (pv 0)) (k_cons (m := false) (c_cst pe_int (fun H => r_int _ H _)) k_nil))) (k_cons (m := false) (c_call A.o28 hgd hr0 tk (by rfl) T.m28 T.f28.kp T.b28 (k_cons (m := true) (c_var (pv 0)) (k_cons (m := false) (c_cst pe_int (fun H => r_int _ H _)) k_nil))) (k_cons (m := false) (c_bin o_add (c_cst pe_int (fun H => r_int _ H _)) (c_call A.o28 hgd hr0 tk (by rfl) T.m28 T.f28.kp T.b28 (k_cons (m := true) (c_var (pv 0)) (k_cons (m := false) (c_cst pe_int (fun H => r_int _ H _)) k_nil)))) (k_cons (m := false) (c_bin o_add (c_cst pe_int (fun H => r_int _ H _)) (c_call A.o28 hgd hr0 tk (by rfl) T.m28 T.f28.kp T.b28 (k_cons (m := true) (c_var (pv 0)) (k_cons (m := false) (c_cst pe_int (fun H => r_int _ H _)) k_nil)))) k_nil)))))))
      (ss_cons (s_unp (is := [2, 3]) rfl hK (ps_asg (c_tup (f_cons (c_strO (sp_mt__str___5 T A rfl rfl rfl rfl rfl hr2) hgd tk (by rfl) T.n_str (c_var (pv 1))) (f_cons (c_call A.o29 hgd hr0 tk (by rfl) T.m29 T.f29.kp T.b29 (k_cons (m := true) (c_var (pv 0)) (k_cons (m := false) (c_lst (f_cons (c_cst pe_non (fun H => r_non _ H)) (f_cons (c_cst pe_int (fun H => r_int _ H _)) (f_cons (c_cst pe_bl (fun H => r_bl _ H _)) (f_cons (c_cst pe_str (fun H => r_str _ H _)) (f_cons (c_tup (f_cons (c_cst pe_int (fun H => r_int _ H _)) (f_cons (c_cst pe_int (fun H => r_int _ H _)) (f_cons (c_cst pe_int (fun H => r_int _ H _)) (f_cons (c_cst pe_int (fun H => r_int _ H _)) f_nil))))) (f_cons (c_lst f_nil) (f_cons c_dic (f_cons (c_tup (f_cons (c_cst pe_int (fun H => r_int _ H _)) (f_cons (c_cst pe_int (fun H => r_int _ H _)) f_nil))) f_nil))))))))) k_nil))) f_nil))) (pg_tup rfl (pgs_cons (pg_name (i := 2) sc.nd rfl (Or.inl rfl)) (pgs_cons (pg_name (i := 3) sc.nd rfl (Or.inr rfl)) pgs_nil)))))
      (ss_cons (s_asg (ps_set (i := 4) sc.nd rfl (Or.inl rfl) (c_lst (f_cons (c_heard (j := 5 * k + 2) (by rfl) T.m30 T.h30 sc30 rfl (Or.inl rfl) rfl T.b30 (fun o => hear_calls rfl rfl) (hg30 T A') A.t33 hcode T.tt33 T.tu33 hK hgd hr tk (LamX.lamS_by (by kernel_rfl)) rfl (fun _ _ _ _ _ => rfl)
        (fun {Y} {CY} {WY} hK hu hu2 hgd hr tk hp hY => by
          obtain ⟨A1_, o1_, s1_, H1_, E1_, f1_, c1_, rfl, hC⟩ := hY
          obtain ⟨CT, h0_, he_, io_, fa_⟩ := CY
          have hC : CT = tb K := hC
          subst hC
          have hr0 : Room (5 * k) _ := hr.mono (by omega)
          have hr1 : Room (5 * k + 1) _ := hr.mono (by omega)
          have hr2 : Room (5 * k + 2) _ := hr.mono (by omega)
          exact (c_binO hK (by rfl) (sp_ok2__and___5 T A rfl rfl rfl rfl rfl hr0) (bc___and___5_BitAnd T rfl) hgd tk o_band (c_var (pv 1)) (c_var (pv 3)) rfl))) f_nil))))
      (ss_cons (s_app (ps_expr (pe_bm PySem.F.plainAttrs_list PySem.F.slot_list_append PySem.F.type_list_append mt_append (pv 4) (pa_cons (c_heard (j := 5 * k + 2) (by rfl) T.m30 T.h30 sc30 rfl (Or.inl rfl) rfl T.b30 (fun o => hear_calls rfl rfl) (hg30 T A') A.t33 hcode T.tt33 T.tu33 hK hgd hr tk (LamX.lamS_by (by kernel_rfl)) rfl (fun _ _ _ _ _ => rfl)
        (fun {Y} {CY} {WY} hK hu hu2 hgd hr tk hp hY => by
          obtain ⟨A1_, o1_, s1_, H1_, E1_, f1_, c1_, rfl, hC⟩ := hY
          obtain ⟨CT, h0_, he_, io_, fa_⟩ := CY
          have hC : CT = tb K := hC
          subst hC
          have hr0 : Room (5 * k) _ := hr.mono (by omega)
          have hr1 : Room (5 * k + 1) _ := hr.mono (by omega)
          have hr2 : Room (5 * k + 2) _ := hr.mono (by omega)
          exact (c_binO hK (by rfl) (sp_ok2__or___5 T A rfl rfl rfl rfl rfl hr0) (bc___or___5_BitOr T rfl) hgd tk o_bor (c_var (pv 1)) (c_var (pv 3)) rfl))) pa_nil))))
      (ss_cons (s_app (ps_expr (pe_bm PySem.F.plainAttrs_list PySem.F.slot_list_append PySem.F.type_list_append mt_append (pv 4) (pa_cons (c_heard (j := 5 * k + 2) (by rfl) T.m30 T.h30 sc30 rfl (Or.inl rfl) rfl T.b30 (fun o => hear_calls rfl rfl) (hg30 T A') A.t33 hcode T.tt33 T.tu33 hK hgd hr tk (LamX.lamS_by (by kernel_rfl)) rfl (fun _ _ _ _ _ => rfl)
        (fun {Y} {CY} {WY} hK hu hu2 hgd hr tk hp hY => by
          obtain ⟨A1_, o1_, s1_, H1_, E1_, f1_, c1_, rfl, hC⟩ := hY
          obtain ⟨CT, h0_, he_, io_, fa_⟩ := CY
          have hC : CT = tb K := hC
          subst hC
          have hr0 : Room (5 * k) _ := hr.mono (by omega)
          have hr1 : Room (5 * k + 1) _ := hr.mono (by omega)
          have hr2 : Room (5 * k + 2) _ := hr.mono (by omega)
          exact (c_cmpO hK (by omega) (fun _ _ => rfl) (by rfl) (sp_ok2__le___5 T A rfl rfl rfl rfl rfl hr0) (nf___le___5 T rfl) hgd tk o_le (c_var (pv 1)) (c_var (pv 3)) (nomark _) nofun))) pa_nil))))
      (ss_cons (s_app (ps_expr (pe_bm PySem.F.plainAttrs_list PySem.F.slot_list_append PySem.F.type_list_append mt_append (pv 4) (pa_cons (c_heard (j := 5 * k + 2) (by rfl) T.m30 T.h30 sc30 rfl (Or.inl rfl) rfl T.b30 (fun o => hear_calls rfl rfl) (hg30 T A') A.t33 hcode T.tt33 T.tu33 hK hgd hr tk (LamX.lamS_by (by kernel_rfl)) rfl (fun _ _ _ _ _ => rfl)
        (fun {Y} {CY} {WY} hK hu hu2 hgd hr tk hp hY => by
          obtain ⟨A1_, o1_, s1_, H1_, E1_, f1_, c1_, rfl, hC⟩ := hY
          obtain ⟨CT, h0_, he_, io_, fa_⟩ := CY
          have hC : CT = tb K := hC
          subst hC
          have hr0 : Room (5 * k) _ := hr.mono (by omega)
          have hr1 : Room (5 * k + 1) _ := hr.mono (by omega)
          have hr2 : Room (5 * k + 2) _ := hr.mono (by omega)
          exact (c_cmpO hK (by omega) (fun _ _ => rfl) (by rfl) (sp_ok2__lt___5 T A rfl rfl rfl rfl rfl hr0) (nf___lt___5 T rfl) hgd tk o_lt (c_var (pv 1)) (c_var (pv 3)) (nomark _) nofun))) pa_nil))))
      (ss_cons (s_app (ps_expr (pe_bm PySem.F.plainAttrs_list PySem.F.slot_list_append PySem.F.type_list_append mt_append (pv 4) (pa_cons (c_heard (j := 5 * k + 2) (by rfl) T.m30 T.h30 sc30 rfl (Or.inl rfl) rfl T.b30 (fun o => hear_calls rfl rfl) (hg30 T A') A.t33 hcode T.tt33 T.tu33 hK hgd hr tk (LamX.lamS_by (by kernel_rfl)) rfl (fun _ _ _ _ _ => rfl)
        (fun {Y} {CY} {WY} hK hu hu2 hgd hr tk hp hY => by
          obtain ⟨A1_, o1_, s1_, H1_, E1_, f1_, c1_, rfl, hC⟩ := hY
          obtain ⟨CT, h0_, he_, io_, fa_⟩ := CY
          have hC : CT = tb K := hC
          subst hC
          have hr0 : Room (5 * k) _ := hr.mono (by omega)
          have hr1 : Room (5 * k + 1) _ := hr.mono (by omega)
          have hr2 : Room (5 * k + 2) _ := hr.mono (by omega)
          exact (c_cmpO hK (by omega) (fun _ _ => rfl) (by rfl) (sp_ok2__ge___5 T A rfl rfl rfl rfl rfl hr0) (nf___ge___5 T rfl) hgd tk o_ge (c_var (pv 1)) (c_var (pv 3)) (nomark _) nofun))) pa_nil))))
      (ss_cons (s_app (ps_expr (pe_bm PySem.F.plainAttrs_list PySem.F.slot_list_append PySem.F.type_list_append mt_append (pv 4) (pa_cons (c_heard (j := 5 * k + 2) (by rfl) T.m30 T.h30 sc30 rfl (Or.inl rfl) rfl T.b30 (fun o => hear_calls rfl rfl) (hg30 T A') A.t33 hcode T.tt33 T.tu33 hK hgd hr tk (LamX.lamS_by (by kernel_rfl)) rfl (fun _ _ _ _ _ => rfl)
        (fun {Y} {CY} {WY} hK hu hu2 hgd hr tk hp hY => by
          obtain ⟨A1_, o1_, s1_, H1_, E1_, f1_, c1_, rfl, hC⟩ := hY
          obtain ⟨CT, h0_, he_, io_, fa_⟩ := CY
          have hC : CT = tb K := hC
          subst hC
          have hr0 : Room (5 * k) _ := hr.mono (by omega)
          have hr1 : Room (5 * k + 1) _ := hr.mono (by omega)
          have hr2 : Room (5 * k + 2) _ := hr.mono (by omega)
          exact (c_cmpO hK (by omega) (fun _ _ => rfl) (by rfl) (sp_ok2__gt___5 T A rfl rfl rfl rfl rfl hr0) (nf___gt___5 T rfl) hgd tk o_gt (c_var (pv 1)) (c_var (pv 3)) (nomark _) nofun))) pa_nil))))
      (ss_cons (s_iff (t_cmp (o_ne hK hu) (c_var (pv 4)) (c_bin o_mul (c_lst (f_cons (c_tup (f_cons (c_cst pe_str (fun H => r_str _ H _)) (f_cons (c_cst pe_str (fun H => r_str _ H _)) f_nil))) f_nil)) (c_cst pe_int (fun H => r_int _ H _))) (nomark _)) (ss_cons (s_ret (c_cst pe_bl (fun H => r_bl _ H _)))
      ss_nil) ss_nil)
      (ss_cons (s_asg (ps_set (i := 5) sc.nd rfl (Or.inr rfl) (c_call A.o29 hgd hr0 tk (by rfl) T.m29 T.f29.kp T.b29 (k_cons (m := true) (c_var (pv 0)) (k_cons (m := false) (c_lst (f_cons (c_cst pe_non (fun H => r_non _ H)) (f_cons (c_cst pe_int (fun H => r_int _ H _)) (f_cons (c_cst pe_bl (fun H => r_bl _ H _)) (f_cons (c_cst pe_str (fun H => r_str _ H _)) (f_cons (c_lst (f_cons (c_cst pe_int (fun H => r_int _ H _)) (f_cons (c_cst pe_int (fun H => r_int _ H _)) f_nil))) (f_cons (c_tup (f_cons (c_cst pe_int (fun H => r_int _ H _)) f_nil)) (f_cons (c_tup (f_cons (c_cst pe_int (fun H => r_int _ H _)) (f_cons (c_cst pe_int (fun H => r_int _ H _)) (f_cons (c_cst pe_int (fun H => r_int _ H _)) f_nil)))) (f_cons (c_tup (f_cons (c_cst pe_int (fun H => r_int _ H _)) (f_cons (c_cst pe_bl (fun H => r_bl _ H _)) f_nil))) (f_cons (c_tup (f_cons (c_cst pe_str (fun H => r_str _ H _)) (f_cons (c_cst pe_int (fun H => r_int _ H _)) f_nil))) (f_cons c_dic (f_cons (c_var (pv 1)) (f_cons (c_tup (f_cons (c_cst pe_non (fun H => r_non _ H)) (f_cons (c_cst pe_int (fun H => r_int _ H _)) f_nil))) f_nil))))))))))))) k_nil)))))
      (ss_cons (s_asg (ps_set (i := 4) sc.nd rfl (Or.inl rfl) (c_lst (f_cons (c_heard (j := 5 * k + 2) (by rfl) T.m30 T.h30 sc30 rfl (Or.inl rfl) rfl T.b30 (fun o => hear_calls rfl rfl) (hg30 T A') A.t33 hcode T.tt33 T.tu33 hK hgd hr tk (LamX.lamS_by (by kernel_rfl)) rfl (fun _ _ _ _ _ => rfl)
        (fun {Y} {CY} {WY} hK hu hu2 hgd hr tk hp hY => by
          obtain ⟨A1_, o1_, s1_, H1_, E1_, f1_, c1_, rfl, hC⟩ := hY
          obtain ⟨CT, h0_, he_, io_, fa_⟩ := CY
          have hC : CT = tb K := hC
          subst hC
          have hr0 : Room (5 * k) _ := hr.mono (by omega)
          have hr1 : Room (5 * k + 1) _ := hr.mono (by omega)
          have hr2 : Room (5 * k + 2) _ := hr.mono (by omega)
          exact (c_binO hK (by rfl) (sp_ok2__add___5 T A rfl rfl rfl rfl rfl hr0) (bc___add___5_Add T rfl) hgd tk o_add (c_var (pv 1)) (c_var (pv 5)) rfl))) f_nil))))
      (ss_cons (s_app (ps_expr (pe_bm PySem.F.plainAttrs_list PySem.F.slot_list_append PySem.F.type_list_append mt_append (pv 4) (pa_cons (c_heard (j := 5 * k + 2) (by rfl) T.m30 T.h30 sc30 rfl (Or.inl rfl) rfl T.b30 (fun o => hear_calls rfl rfl) (hg30 T A') A.t33 hcode T.tt33 T.tu33 hK hgd hr tk (LamX.lamS_by (by kernel_rfl)) rfl (fun _ _ _ _ _ => rfl)
        (fun {Y} {CY} {WY} hK hu hu2 hgd hr tk hp hY => by
          obtain ⟨A1_, o1_, s1_, H1_, E1_, f1_, c1_, rfl, hC⟩ := hY
          obtain ⟨CT, h0_, he_, io_, fa_⟩ := CY
          have hC : CT = tb K := hC
          subst hC
          have hr0 : Room (5 * k) _ := hr.mono (by omega)
          have hr1 : Room (5 * k + 1) _ := hr.mono (by omega)
          have hr2 : Room (5 * k + 2) _ := hr.mono (by omega)
          exact (c_binO hK (by rfl) (sp_ok2__sub___5 T A rfl rfl rfl rfl rfl hr0) (bc___sub___5_Sub T rfl) hgd tk o_sub (c_var (pv 1)) (c_var (pv 5)) rfl))) pa_nil))))
      (ss_cons (s_iff (t_cmp (o_ne hK hu) (c_var (pv 4)) (c_bin o_mul (c_lst (f_cons (c_tup (f_cons (c_cst pe_str (fun H => r_str _ H _)) (f_cons (c_cst pe_str (fun H => r_str _ H _)) f_nil))) f_nil)) (c_cst pe_int (fun H => r_int _ H _))) (nomark _)) (ss_cons (s_ret (c_cst pe_bl (fun H => r_bl _ H _)))
      ss_nil) ss_nil)
      (ss_cons (s_asg (ps_set (i := 6) sc.nd rfl (Or.inr rfl) (c_call A.o29 hgd hr0 tk (by rfl) T.m29 T.f29.kp T.b29 (k_cons (m := true) (c_var (pv 0)) (k_cons (m := false) (c_lst (f_cons (c_cst pe_non (fun H => r_non _ H)) (f_cons (c_un o_neg (c_cst pe_int (fun H => r_int _ H _))) (f_cons (c_cst pe_int (fun H => r_int _ H _)) (f_cons (c_cst pe_bl (fun H => r_bl _ H _)) (f_cons (c_cst pe_str (fun H => r_str _ H _)) (f_cons (c_tup (f_cons (c_cst pe_int (fun H => r_int _ H _)) f_nil)) (f_cons (c_lst f_nil) (f_cons (c_bin o_pow (c_cst pe_int (fun H => r_int _ H _)) (c_cst pe_int (fun H => r_int _ H _))) f_nil))))))))) k_nil)))))
      (ss_cons (s_asg (ps_set (i := 4) sc.nd rfl (Or.inl rfl) (c_lst (f_cons (c_heard (j := 5 * k + 2) (by rfl) T.m30 T.h30 sc30 rfl (Or.inl rfl) rfl T.b30 (fun o => hear_calls rfl rfl) (hg30 T A') A.t33 hcode T.tt33 T.tu33 hK hgd hr tk (LamX.lamS_by (by kernel_rfl)) rfl (fun _ _ _ _ _ => rfl)
        (fun {Y} {CY} {WY} hK hu hu2 hgd hr tk hp hY => by
          obtain ⟨A1_, o1_, s1_, H1_, E1_, f1_, c1_, rfl, hC⟩ := hY
          obtain ⟨CT, h0_, he_, io_, fa_⟩ := CY
          have hC : CT = tb K := hC
          subst hC
          have hr0 : Room (5 * k) _ := hr.mono (by omega)
          have hr1 : Room (5 * k + 1) _ := hr.mono (by omega)
          have hr2 : Room (5 * k + 2) _ := hr.mono (by omega)
          exact (c_binO hK (by rfl) (sp_ok2__lshift___5 T A rfl rfl rfl rfl rfl hr0) (bc___lshift___5_LShift T rfl) hgd tk o_shl (c_var (pv 1)) (c_var (pv 6)) rfl))) f_nil))))
      (ss_cons (s_app (ps_expr (pe_bm PySem.F.plainAttrs_list PySem.F.slot_list_append PySem.F.type_list_append mt_append (pv 4) (pa_cons (c_heard (j := 5 * k + 2) (by rfl) T.m30 T.h30 sc30 rfl (Or.inl rfl) rfl T.b30 (fun o => hear_calls rfl rfl) (hg30 T A') A.t33 hcode T.tt33 T.tu33 hK hgd hr tk (LamX.lamS_by (by kernel_rfl)) rfl (fun _ _ _ _ _ => rfl)
        (fun {Y} {CY} {WY} hK hu hu2 hgd hr tk hp hY => by
          obtain ⟨A1_, o1_, s1_, H1_, E1_, f1_, c1_, rfl, hC⟩ := hY
          obtain ⟨CT, h0_, he_, io_, fa_⟩ := CY
          have hC : CT = tb K := hC
          subst hC
          have hr0 : Room (5 * k) _ := hr.mono (by omega)
          have hr1 : Room (5 * k + 1) _ := hr.mono (by omega)
          have hr2 : Room (5 * k + 2) _ := hr.mono (by omega)
          exact (c_binO hK (by rfl) (sp_ok2__rshift___5 T A rfl rfl rfl rfl rfl hr0) (bc___rshift___5_RShift T rfl) hgd tk o_shr (c_var (pv 1)) (c_var (pv 6)) rfl))) pa_nil))))
      (ss_cons (s_ret (c_and hK (c_cmp (o_eq hK hu) (c_var (pv 4)) (c_bin o_mul (c_lst (f_cons (c_tup (f_cons (c_cst pe_str (fun H => r_str _ H _)) (f_cons (c_biB (B := .repr) (b_repr hK hgd hu2) (by rfl) T.n_repr (by decide +kernel) (r_cons (c_var (pv 6)) r_nil)) f_nil))) f_nil)) (c_cst pe_int (fun H => r_int _ H _))) (nomark _)) (c_one (c_cmp (o_eq hK hu) (c_strO (sp_mt__str___5 T A rfl rfl rfl rfl rfl hr2) hgd tk (by rfl) T.n_str (c_var (pv 1))) (c_var (pv 2)) (nomark _)))))
      ss_nil)))))))))))))))))) rfl
theorem ok34 (T : Tx K mg fa ca pa cc ta fd) (A : Al P w K mg base fa cc ta fd k) (A' : Al P w K mg base fa cc ta fd (k - 1)) : FnG P w K mg base (5 * (k + 1)) (fa 34) (fd 34) ["_law_script"] (spF (tb K) (calls fs (k + 1)) 508 1) := def_ok (F := fn34) T.f34 sc34 rfl (by decide) rfl (fun _ => rfl) (fun {X} {C} {W} hK hu hu2 hgd hr tk hp hX => by
    have sc := sc34
    obtain ⟨qu, cdv, A0_, outer_, s0_, H0_, E0_, rfl, hC, rfl, hcd⟩ := hX
    obtain ⟨CT, h0_, he_, io_, fa_⟩ := C
    have hC : CT = tb K := hC
    subst hC
    have hcalm : (cxOf (L2.CX P w) P w K mg base ["_law_script", "_law_pen_here", "_law_turn", "_law_odd_here", "_law_heard_here"] "law" (defScope st34) (fa 34) cdv A0_ outer_ s0_ H0_ E0_).calm = true := rfl
    have hu65 : (cxOf (L2.CX P w) P w K mg base ["_law_script", "_law_pen_here", "_law_turn", "_law_odd_here", "_law_heard_here"] "law" (defScope st34) (fa 34) cdv A0_ outer_ s0_ H0_ E0_).A.units + 65 < cLine := by omega
    have hr0 : Room (5 * k) _ := hr.mono (by omega)
    have hr1 : Room (5 * k + 1) _ := hr.mono (by omega)
    have hr2 : Room (5 * k + 2) _ := hr.mono (by omega)
    have hcode : cdv = .ref (cc 34) := hcd.symm.trans T.q34
    exact (ss_cons (s_asg (ps_set (i := 1) sc.nd rfl (Or.inl rfl) (c_call A.o27 hgd hr0 tk (by rfl) T.m27 T.f27.kp T.b27 (k_cons (m := false) (c_var (pv 0)) k_nil))))
      (ss_cons (s_forr (ps_for hp rfl (pi_range1 (by rfl) T.n_range (pa_cons (c_cst pe_int (fun H => r_int _ H _)) pa_nil)) (pg_name (i := 2) sc.nd rfl (Or.inl rfl)) (ss_cons (s_iff (PW.pt (w_or (t_not (t_tru hK (c_call A.o32 hgd hr0 tk (by rfl) T.m32 T.f32.kp T.b32 (k_cons (m := true) (c_var (pv 1)) k_nil)))) (w_or1 (t_not (t_tru hK (c_call A.o33 hgd hr0 tk (by rfl) T.m33 T.f33.kp T.b33 (k_cons (m := true) (c_var (pv 1)) k_nil))))))) (ss_cons (s_ret (c_cst pe_bl (fun H => r_bl _ H _)))
      ss_nil) ss_nil)
      (ss_cons (s_asg (ps_set (i := 3) sc.nd rfl (Or.inr rfl) (c_call A.o29 hgd hr0 tk (by rfl) T.m29 T.f29.kp T.b29 (k_cons (m := true) (c_var (pv 1)) (k_cons (m := false) (c_lst (f_cons (c_cst pe_non (fun H => r_non _ H)) (f_cons (c_un o_neg (c_cst pe_int (fun H => r_int _ H _))) (f_cons (c_cst pe_int (fun H => r_int _ H _)) (f_cons (c_cst pe_bl (fun H => r_bl _ H _)) (f_cons (c_cst pe_str (fun H => r_str _ H _)) (f_cons (c_tup (f_cons (c_cst pe_int (fun H => r_int _ H _)) f_nil)) (f_cons (c_lst f_nil) (f_cons (c_bin o_pow (c_cst pe_int (fun H => r_int _ H _)) (c_cst pe_int (fun H => r_int _ H _))) f_nil))))))))) k_nil)))))
      (ss_cons (s_iff (t_cmp (o_ne hK hu) (c_heard (j := 5 * k + 2) (by rfl) T.m30 T.h30 sc30 rfl (Or.inl rfl) rfl T.b30 (fun o => hear_calls rfl rfl) (hg30 T A') A.t34 hcode T.tt34 T.tu34 hK hgd hr tk (LamX.lamS_by (by kernel_rfl)) rfl (fun _ _ _ _ _ => rfl)
        (fun {Y} {CY} {WY} hK hu hu2 hgd hr tk hp hY => by
          obtain ⟨A1_, o1_, s1_, H1_, E1_, f1_, c1_, rfl, hC⟩ := hY
          obtain ⟨CT, h0_, he_, io_, fa_⟩ := CY
          have hC : CT = tb K := hC
          subst hC
          have hr0 : Room (5 * k) _ := hr.mono (by omega)
          have hr1 : Room (5 * k + 1) _ := hr.mono (by omega)
          have hr2 : Room (5 * k + 2) _ := hr.mono (by omega)
          exact (c_callS A.o14 hgd hr0 tk (by rfl) T.mC5 T.sm14 T.b14 (k_cons (m := false) (c_var (pv 3)) k_nil)))) (c_tup (f_cons (c_cst pe_str (fun H => r_str _ H _)) (f_cons (c_biB (B := .repr) (b_repr hK hgd hu2) (by rfl) T.n_repr (by decide +kernel) (r_cons (c_var (pv 3)) r_nil)) f_nil))) (nomark _)) (ss_cons (s_ret (c_cst pe_bl (fun H => r_bl _ H _)))
      ss_nil) ss_nil)
      ss_nil)))))
      (ss_cons (s_asg (ps_set (i := 4) sc.nd rfl (Or.inl rfl) (c_lst (f_cons (c_heard (j := 5 * k + 2) (by rfl) T.m30 T.h30 sc30 rfl (Or.inl rfl) rfl T.b30 (fun o => hear_calls rfl rfl) (hg30 T A') A.t34 hcode T.tt34 T.tu34 hK hgd hr tk (LamX.lamS_by (by kernel_rfl)) rfl (fun _ _ _ _ _ => rfl)
        (fun {Y} {CY} {WY} hK hu hu2 hgd hr tk hp hY => by
          obtain ⟨A1_, o1_, s1_, H1_, E1_, f1_, c1_, rfl, hC⟩ := hY
          obtain ⟨CT, h0_, he_, io_, fa_⟩ := CY
          have hC : CT = tb K := hC
          subst hC
          have hr0 : Room (5 * k) _ := hr.mono (by omega)
          have hr1 : Room (5 * k + 1) _ := hr.mono (by omega)
          have hr2 : Room (5 * k + 2) _ := hr.mono (by omega)
          exact (c_binO hK (by rfl) (sp_ok2__rshift___5 T A rfl rfl rfl rfl rfl hr0) (bc___rshift___5_RShift T rfl) hgd tk o_shr (c_callS A.o14 hgd hr0 tk (by rfl) T.mC5 T.sm14 T.b14 (k_cons (m := false) (c_cst pe_int (fun H => r_int _ H _)) k_nil)) (c_cst pe_int (fun H => r_int _ H _)) rfl))) f_nil))))
      (ss_cons (s_app (ps_expr (pe_bm PySem.F.plainAttrs_list PySem.F.slot_list_append PySem.F.type_list_append mt_append (pv 4) (pa_cons (c_heard (j := 5 * k + 2) (by rfl) T.m30 T.h30 sc30 rfl (Or.inl rfl) rfl T.b30 (fun o => hear_calls rfl rfl) (hg30 T A') A.t34 hcode T.tt34 T.tu34 hK hgd hr tk (LamX.lamS_by (by kernel_rfl)) rfl (fun _ _ _ _ _ => rfl)
        (fun {Y} {CY} {WY} hK hu hu2 hgd hr tk hp hY => by
          obtain ⟨A1_, o1_, s1_, H1_, E1_, f1_, c1_, rfl, hC⟩ := hY
          obtain ⟨CT, h0_, he_, io_, fa_⟩ := CY
          have hC : CT = tb K := hC
          subst hC
          have hr0 : Room (5 * k) _ := hr.mono (by omega)
          have hr1 : Room (5 * k + 1) _ := hr.mono (by omega)
          have hr2 : Room (5 * k + 2) _ := hr.mono (by omega)
          exact (c_binO hK (by rfl) (sp_ok2__lshift___5 T A rfl rfl rfl rfl rfl hr0) (bc___lshift___5_LShift T rfl) hgd tk o_shl (c_mk (ds := [(.int 1), (.int 1)]) T.mk5 A.o13 hgd hr1 tk (by rfl) T.mC5 T.ck5 T.bd13_0.choose_spec.2 T.bd13_0.choose_spec.1 (fun H => by simp only [RepAll, Rep]; exact ⟨_, _, rfl, rfl, _, _, rfl, rfl, rfl⟩) (k_cons (m := false) (c_cst pe_int (fun H => r_int _ H _)) (k_cons (m := false) (c_cst pe_int (fun H => r_int _ H _)) k_nil))) (c_cst pe_int (fun H => r_int _ H _)) rfl))) pa_nil))))
      (ss_cons (s_app (ps_expr (pe_bm PySem.F.plainAttrs_list PySem.F.slot_list_append PySem.F.type_list_append mt_append (pv 4) (pa_cons (c_heard (j := 5 * k + 2) (by rfl) T.m30 T.h30 sc30 rfl (Or.inl rfl) rfl T.b30 (fun o => hear_calls rfl rfl) (hg30 T A') A.t34 hcode T.tt34 T.tu34 hK hgd hr tk (LamX.lamS_by (by kernel_rfl)) rfl (fun _ _ _ _ _ => rfl)
        (fun {Y} {CY} {WY} hK hu hu2 hgd hr tk hp hY => by
          obtain ⟨A1_, o1_, s1_, H1_, E1_, f1_, c1_, rfl, hC⟩ := hY
          obtain ⟨CT, h0_, he_, io_, fa_⟩ := CY
          have hC : CT = tb K := hC
          subst hC
          have hr0 : Room (5 * k) _ := hr.mono (by omega)
          have hr1 : Room (5 * k + 1) _ := hr.mono (by omega)
          have hr2 : Room (5 * k + 2) _ := hr.mono (by omega)
          exact (c_binO hK (by rfl) (sp_ok2__lshift___5 T A rfl rfl rfl rfl rfl hr0) (bc___lshift___5_LShift T rfl) hgd tk o_shl (c_mk (ds := []) T.mk5 A.o13 hgd hr1 tk (by rfl) T.mC5 T.ck5 T.bd13_2.choose_spec.2 T.bd13_2.choose_spec.1 (fun H => by simp only [RepAll, Rep]) (k_cons (m := false) (c_cst pe_int (fun H => r_int _ H _)) (k_cons (m := false) (c_cst pe_int (fun H => r_int _ H _)) (k_cons (m := false) (c_cst pe_int (fun H => r_int _ H _)) (k_cons (m := false) (c_cst pe_int (fun H => r_int _ H _)) k_nil))))) (c_cst pe_int (fun H => r_int _ H _)) rfl))) pa_nil))))
      (ss_cons (s_ret (c_cmp (o_eq hK hu) (c_var (pv 4)) (c_lst (f_cons (c_cst pe_non (fun H => r_non _ H)) (f_cons (c_tup (f_cons (c_cst pe_str (fun H => r_str _ H _)) (f_cons (c_cst pe_str (fun H => r_str _ H _)) f_nil))) (f_cons (c_tup (f_cons (c_cst pe_str (fun H => r_str _ H _)) (f_cons (c_cst pe_str (fun H => r_str _ H _)) f_nil))) f_nil)))) (nomark _)))
      ss_nil))))))) rfl
theorem step (T : Tx K mg fa ca pa cc ta fd) (A : Al P w K mg base fa cc ta fd k) (A' : Al P w K mg base fa cc ta fd (k - 1)) : Al P w K mg base fa cc ta fd (k + 1) := ⟨ok0 T A A', ok1 T A A', ok2 T A A', ok3 T A A', ok7 T A A', ok8 T A A', ok9 T A A', ok10 T A A', ok11 T A A', ok12 T A A', ok13 T A A', ok14 T A A', ok15 T A A', ok16 T A A', ok17 T A A', ok18 T A A', ok19 T A A', ok20 T A A', ok21 T A A', ok22 T A A', ok23 T A A', ok24 T A A', ok25 T A A', ok26 T A A', ok27 T A A', ok28 T A A', ok29 T A A', ok31 T A A', ok32 T A A', ok33 T A A', ok34 T A A', A.t32, A.t33, A.t34⟩
theorem al (T : Tx K mg fa ca pa cc ta fd) (h32 : LamX.TabB base mg (cc 32) (ta 32)) (h33 : LamX.TabB base mg (cc 33) (ta 33)) (h34 : LamX.TabB base mg (cc 34) (ta 34)) : ∀ k, Al P w K mg base fa cc ta fd k ∧ Al P w K mg base fa cc ta fd (k - 1)
  | 0 => ⟨⟨fn_zero rfl, fn_zero rfl, fn_zero rfl, fn_zero rfl, fn_zero rfl, fn_zero rfl, fn_zero rfl, fn_zero rfl, fn_zero rfl, fn_zero rfl, fn_zero rfl, fn_zero rfl, fn_zero rfl, fn_zero rfl, fn_zero rfl, fn_zero rfl, fn_zero rfl, fn_zero rfl, fn_zero rfl, fn_zero rfl, fn_zero rfl, fn_zero rfl, fn_zero rfl, fn_zero rfl, fn_zero rfl, fn_zero rfl, fn_zero rfl, fn_zero rfl, fn_zero rfl, fn_zero rfl, fn_zero rfl, h32, h33, h34⟩, ⟨fn_zero rfl, fn_zero rfl, fn_zero rfl, fn_zero rfl, fn_zero rfl, fn_zero rfl, fn_zero rfl, fn_zero rfl, fn_zero rfl, fn_zero rfl, fn_zero rfl, fn_zero rfl, fn_zero rfl, fn_zero rfl, fn_zero rfl, fn_zero rfl, fn_zero rfl, fn_zero rfl, fn_zero rfl, fn_zero rfl, fn_zero rfl, fn_zero rfl, fn_zero rfl, fn_zero rfl, fn_zero rfl, fn_zero rfl, fn_zero rfl, fn_zero rfl, fn_zero rfl, fn_zero rfl, fn_zero rfl, h32, h33, h34⟩⟩
  | k + 1 => ⟨step T (al T h32 h33 h34 k).1 (al T h32 h33 h34 k).2, (al T h32 h33 h34 k).1⟩
end
theorem all_mk {P : Program} {w : World} {K : PySem.W.Frag} {h : Heap} {mg : Str → Option Value} {fl : Addr} (X : K.In h) (G : h.Ns mainGlobals mg) (hfl : mg "law" = some (.ref fl)) {C0 C1 C2 C3 C4 C5 f0 f1 f2 f3 f4 f5 f6 f7 f8 f9 f10 f11 f12 f13 T13 f14 p14 f15 f16 f17 f18 f19 f20 f21 f22 f23 f24 f25 f26 f27 f28 f29 f30 f31 f32 cc32 ta32 f33 cc33 ta33 f34 cc34 ta34 : Addr}
    {nm2 q2 : Str} {N2 : Addr} {bs2 bm2 : List Value} {sn2 : List Str} {sub2 : List Value} {ab2 : Bool} {col2 : Option Bool} {dd2 : Option Addr} {k02 k12 k22 k32 k52 : Option Value}
    {nm3 q3 : Str} {N3 : Addr} {bs3 bm3 : List Value} {sn3 : List Str} {sub3 : List Value} {ab3 : Bool} {col3 : Option Bool} {dd3 : Option Addr} {k03 k13 k23 k33 k53 : Option Value}
    {nm4 q4 : Str} {N4 : Addr} {bs4 bm4 : List Value} {sn4 : List Str} {sub4 : List Value} {ab4 : Bool} {col4 : Option Bool} {dd4 : Option Addr} {k04 k14 k24 k34 k54 : Option Value}
    {od0 an0 : Option Addr} {sl0 : Array (Option Value)} {oc0 kV0 dc0 pm0 ct0 : Value} {cd0 : Value}
    {od1 an1 : Option Addr} {sl1 : Array (Option Value)} {oc1 kV1 dc1 pm1 ct1 : Value} {cd1 : Value}
    {od2 an2 : Option Addr} {sl2 : Array (Option Value)} {oc2 kV2 dc2 pm2 ct2 : Value} {cd2 : Value}
    {od3 an3 : Option Addr} {sl3 : Array (Option Value)} {oc3 kV3 dc3 pm3 ct3 : Value} {cd3 : Value}
    {od4 an4 : Option Addr} {sl4 : Array (Option Value)} {oc4 kV4 dc4 pm4 ct4 : Value} {cd4 : Value}
    {od5 an5 : Option Addr} {sl5 : Array (Option Value)} {oc5 kV5 dc5 pm5 ct5 : Value} {cd5 : Value}
    {od6 an6 : Option Addr} {sl6 : Array (Option Value)} {oc6 kV6 dc6 pm6 ct6 : Value} {cd6 : Value}
    {od7 an7 : Option Addr} {sl7 : Array (Option Value)} {oc7 kV7 dc7 pm7 ct7 : Value} {cd7 : Value}
    {od8 an8 : Option Addr} {sl8 : Array (Option Value)} {oc8 kV8 dc8 pm8 ct8 : Value} {cd8 : Value}
    {od9 an9 : Option Addr} {sl9 : Array (Option Value)} {oc9 kV9 dc9 pm9 ct9 : Value} {cd9 : Value}
    {od10 an10 : Option Addr} {sl10 : Array (Option Value)} {oc10 kV10 dc10 pm10 ct10 : Value} {cd10 : Value}
    {od11 an11 : Option Addr} {sl11 : Array (Option Value)} {oc11 kV11 dc11 pm11 ct11 : Value} {cd11 : Value}
    {od12 an12 : Option Addr} {sl12 : Array (Option Value)} {oc12 kV12 dc12 pm12 ct12 : Value} {cd12 : Value}
    {od13 an13 : Option Addr} {sl13 : Array (Option Value)} {oc13 kV13 dc13 pm13 ct13 : Value} {cd13 : Value}
    {tD13_0 tD13_1 : Tok} {oD13 : Value} {dD13 : Option Addr} {nD13 : Nat} {sD13 : Array (Option Value)}
    {rs14 : List Value}
    {od14 an14 : Option Addr} {sl14 : Array (Option Value)} {oc14 kV14 dc14 pm14 ct14 : Value} {cd14 : Value}
    {od15 an15 : Option Addr} {sl15 : Array (Option Value)} {oc15 kV15 dc15 pm15 ct15 : Value} {cd15 : Value}
    {od16 an16 : Option Addr} {sl16 : Array (Option Value)} {oc16 kV16 dc16 pm16 ct16 : Value} {cd16 : Value}
    {od17 an17 : Option Addr} {sl17 : Array (Option Value)} {oc17 kV17 dc17 pm17 ct17 : Value} {cd17 : Value}
    {od18 an18 : Option Addr} {sl18 : Array (Option Value)} {oc18 kV18 dc18 pm18 ct18 : Value} {cd18 : Value}
    {od19 an19 : Option Addr} {sl19 : Array (Option Value)} {oc19 kV19 dc19 pm19 ct19 : Value} {cd19 : Value}
    {od20 an20 : Option Addr} {sl20 : Array (Option Value)} {oc20 kV20 dc20 pm20 ct20 : Value} {cd20 : Value}
    {od21 an21 : Option Addr} {sl21 : Array (Option Value)} {oc21 kV21 dc21 pm21 ct21 : Value} {cd21 : Value}
    {od22 an22 : Option Addr} {sl22 : Array (Option Value)} {oc22 kV22 dc22 pm22 ct22 : Value} {cd22 : Value}
    {od23 an23 : Option Addr} {sl23 : Array (Option Value)} {oc23 kV23 dc23 pm23 ct23 : Value} {cd23 : Value}
    {od24 an24 : Option Addr} {sl24 : Array (Option Value)} {oc24 kV24 dc24 pm24 ct24 : Value} {cd24 : Value}
    {od25 an25 : Option Addr} {sl25 : Array (Option Value)} {oc25 kV25 dc25 pm25 ct25 : Value} {cd25 : Value}
    {od26 an26 : Option Addr} {sl26 : Array (Option Value)} {oc26 kV26 dc26 pm26 ct26 : Value} {cd26 : Value}
    {od27 an27 : Option Addr} {sl27 : Array (Option Value)} {oc27 kV27 dc27 pm27 ct27 : Value} {cd27 : Value}
    {od28 an28 : Option Addr} {sl28 : Array (Option Value)} {oc28 kV28 dc28 pm28 ct28 : Value} {cd28 : Value}
    {od29 an29 : Option Addr} {sl29 : Array (Option Value)} {oc29 kV29 dc29 pm29 ct29 : Value} {cd29 : Value}
    {od30 an30 : Option Addr} {sl30 : Array (Option Value)} {oc30 kV30 dc30 pm30 ct30 : Value} {cd30 : Value}
    {od31 an31 : Option Addr} {sl31 : Array (Option Value)} {oc31 kV31 dc31 pm31 ct31 : Value} {cd31 : Value}
    {od32 an32 : Option Addr} {sl32 : Array (Option Value)} {oc32 kV32 dc32 pm32 ct32 : Value}
    {oX32 : Value} {dX32 : Option Addr} {vX32 : Array Value} {sX32 : Array (Option Value)}
    {od33 an33 : Option Addr} {sl33 : Array (Option Value)} {oc33 kV33 dc33 pm33 ct33 : Value}
    {oX33 : Value} {dX33 : Option Addr} {vX33 : Array Value} {sX33 : Array (Option Value)}
    {od34 an34 : Option Addr} {sl34 : Array (Option Value)} {oc34 kV34 dc34 pm34 ct34 : Value}
    {oX34 : Value} {dX34 : Option Addr} {vX34 : Array Value} {sX34 : Array (Option Value)}
    {t_MOST_LEVEL : Tok}
    {t_MOST_SHIFT : Tok}
    {t_MOST_SIDE : Tok}
    (aC0 : PySem.W.nsIn K mainGlobals "CurveError" = some (some (.ref C0)))
    (aC1 : PySem.W.nsIn K mainGlobals "BadInput" = some (some (.ref C1)))
    (aC2 : PySem.W.nsIn K mainGlobals "BadLevel" = some (some (.ref C2)))
    (aC3 : PySem.W.nsIn K mainGlobals "BadBox" = some (some (.ref C3)))
    (aC4 : PySem.W.nsIn K mainGlobals "BadMany" = some (some (.ref C4)))
    (aC5 : PySem.W.nsIn K mainGlobals "Box" = some (some (.ref C5)))
    (xc0 : xcB K C0 = true)
    (na0 : naB K C0 [] = true)
    (xc1 : xcB K C1 = true)
    (na1 : naB K C1 [] = true)
    (xc2 : xcB K C2 = true)
    (na2 : naB K C2 ["value"] = true)
    (xL2 : K.lookup C2 = some (excClassObj nm2 q2 C2 N2 bs2 bm2 true sn2 sub2 ab2 col2 dd2 k02 k12 k22 k32 k52 "ValueError.__new__"))
    (xR2 : PySem.HandSPX.refsVE bm2 = true)
    (xS2 : (decide (PySem.W.findIn K (.ref C2) "__setattr__" = some (some (.builtin "object.__setattr__"))) && (decide (PySem.W.subIn K (.ref C2) (.type "BaseException") = some true) && (decide (PySem.W.typeIn K (.ref C2) = some (.type "type")) && PySem.W.keepIn K (.ref C2)))) = true)
    (xi2 : PySem.W.findIn K (.ref C2) "__init__" = some (some (.ref f4)))
    (xt2 : PySem.W.typeIn K (.ref f4) = some (.type "function"))
    (xc3 : xcB K C3 = true)
    (na3 : naB K C3 ["part"] = true)
    (xL3 : K.lookup C3 = some (excClassObj nm3 q3 C3 N3 bs3 bm3 true sn3 sub3 ab3 col3 dd3 k03 k13 k23 k33 k53 "ValueError.__new__"))
    (xR3 : PySem.HandSPX.refsVE bm3 = true)
    (xS3 : (decide (PySem.W.findIn K (.ref C3) "__setattr__" = some (some (.builtin "object.__setattr__"))) && (decide (PySem.W.subIn K (.ref C3) (.type "BaseException") = some true) && (decide (PySem.W.typeIn K (.ref C3) = some (.type "type")) && PySem.W.keepIn K (.ref C3)))) = true)
    (xi3 : PySem.W.findIn K (.ref C3) "__init__" = some (some (.ref f5)))
    (xt3 : PySem.W.typeIn K (.ref f5) = some (.type "function"))
    (xc4 : xcB K C4 = true)
    (na4 : naB K C4 ["value"] = true)
    (xL4 : K.lookup C4 = some (excClassObj nm4 q4 C4 N4 bs4 bm4 true sn4 sub4 ab4 col4 dd4 k04 k14 k24 k34 k54 "ValueError.__new__"))
    (xR4 : PySem.HandSPX.refsVE bm4 = true)
    (xS4 : (decide (PySem.W.findIn K (.ref C4) "__setattr__" = some (some (.builtin "object.__setattr__"))) && (decide (PySem.W.subIn K (.ref C4) (.type "BaseException") = some true) && (decide (PySem.W.typeIn K (.ref C4) = some (.type "type")) && PySem.W.keepIn K (.ref C4)))) = true)
    (xi4 : PySem.W.findIn K (.ref C4) "__init__" = some (some (.ref f6)))
    (xt4 : PySem.W.typeIn K (.ref f6) = some (.type "function"))
    (cl5 : clsB K C5 = true)
    (cg5 : cgB K C5 = true)
    (na5 : naB K C5 ["x", "y", "width", "height"] = true)
    (ni5 : PySem.W.findIn K (.ref C5) "__init__" = some (some (.ref f13)))
    (nk5 : PySem.W.makesIn K C5 = true)
    (nf5 : PySem.W.isFn K (.ref f13) = true)
    (np5 : PySem.W.keepIn K (.ref C5) = true)
    (a0 : PySem.W.nsIn K mainGlobals "is_integer" = some (some (.ref f0)))
    (l0 : K.lookup f0 = some ⟨oc0, od0, .func (PySem.W.fnOf "is_integer" "is_integer" (defArgs st0) (defBody st0) (defScope st0) .none kV0 dc0 pm0 an0 cd0 ct0), sl0⟩)
    (c0 : PySem.W.codeIn K cd0 "is_integer" = true)
    (k0 : PySem.W.keepIn K (.ref f0) = true)
    (a1 : PySem.W.nsIn K mainGlobals "is_between" = some (some (.ref f1)))
    (l1 : K.lookup f1 = some ⟨oc1, od1, .func (PySem.W.fnOf "is_between" "is_between" (defArgs st1) (defBody st1) (defScope st1) .none kV1 dc1 pm1 an1 cd1 ct1), sl1⟩)
    (c1 : PySem.W.codeIn K cd1 "is_between" = true)
    (k1 : PySem.W.keepIn K (.ref f1) = true)
    (a2 : PySem.W.nsIn K mainGlobals "is_level" = some (some (.ref f2)))
    (l2 : K.lookup f2 = some ⟨oc2, od2, .func (PySem.W.fnOf "is_level" "is_level" (defArgs st2) (defBody st2) (defScope st2) .none kV2 dc2 pm2 an2 cd2 ct2), sl2⟩)
    (c2 : PySem.W.codeIn K cd2 "is_level" = true)
    (k2 : PySem.W.keepIn K (.ref f2) = true)
    (a3 : PySem.W.nsIn K mainGlobals "is_pair" = some (some (.ref f3)))
    (l3 : K.lookup f3 = some ⟨oc3, od3, .func (PySem.W.fnOf "is_pair" "is_pair" (defArgs st3) (defBody st3) (defScope st3) .none kV3 dc3 pm3 an3 cd3 ct3), sl3⟩)
    (c3 : PySem.W.codeIn K cd3 "is_pair" = true)
    (k3 : PySem.W.keepIn K (.ref f3) = true)
    (l4 : K.lookup f4 = some ⟨oc4, od4, .func (PySem.W.fnOf "__init__" "BadLevel.__init__" (defArgs st4) (defBody st4) (defScope st4) .none kV4 dc4 pm4 an4 cd4 ct4), sl4⟩)
    (c4 : PySem.W.codeIn K cd4 "BadLevel.__init__" = true)
    (k4 : PySem.W.keepIn K (.ref f4) = true)
    (l5 : K.lookup f5 = some ⟨oc5, od5, .func (PySem.W.fnOf "__init__" "BadBox.__init__" (defArgs st5) (defBody st5) (defScope st5) .none kV5 dc5 pm5 an5 cd5 ct5), sl5⟩)
    (c5 : PySem.W.codeIn K cd5 "BadBox.__init__" = true)
    (k5 : PySem.W.keepIn K (.ref f5) = true)
    (l6 : K.lookup f6 = some ⟨oc6, od6, .func (PySem.W.fnOf "__init__" "BadMany.__init__" (defArgs st6) (defBody st6) (defScope st6) .none kV6 dc6 pm6 an6 cd6 ct6), sl6⟩)
    (c6 : PySem.W.codeIn K cd6 "BadMany.__init__" = true)
    (k6 : PySem.W.keepIn K (.ref f6) = true)
    (a7 : PySem.W.nsIn K mainGlobals "need_box" = some (some (.ref f7)))
    (l7 : K.lookup f7 = some ⟨oc7, od7, .func (PySem.W.fnOf "need_box" "need_box" (defArgs st7) (defBody st7) (defScope st7) .none kV7 dc7 pm7 an7 cd7 ct7), sl7⟩)
    (c7 : PySem.W.codeIn K cd7 "need_box" = true)
    (k7 : PySem.W.keepIn K (.ref f7) = true)
    (a8 : PySem.W.nsIn K mainGlobals "moved_by" = some (some (.ref f8)))
    (l8 : K.lookup f8 = some ⟨oc8, od8, .func (PySem.W.fnOf "moved_by" "moved_by" (defArgs st8) (defBody st8) (defScope st8) .none kV8 dc8 pm8 an8 cd8 ct8), sl8⟩)
    (c8 : PySem.W.codeIn K cd8 "moved_by" = true)
    (k8 : PySem.W.keepIn K (.ref f8) = true)
    (a9 : PySem.W.nsIn K mainGlobals "need_shift" = some (some (.ref f9)))
    (l9 : K.lookup f9 = some ⟨oc9, od9, .func (PySem.W.fnOf "need_shift" "need_shift" (defArgs st9) (defBody st9) (defScope st9) .none kV9 dc9 pm9 an9 cd9 ct9), sl9⟩)
    (c9 : PySem.W.codeIn K cd9 "need_shift" = true)
    (k9 : PySem.W.keepIn K (.ref f9) = true)
    (a10 : PySem.W.nsIn K mainGlobals "is_within" = some (some (.ref f10)))
    (l10 : K.lookup f10 = some ⟨oc10, od10, .func (PySem.W.fnOf "is_within" "is_within" (defArgs st10) (defBody st10) (defScope st10) .none kV10 dc10 pm10 an10 cd10 ct10), sl10⟩)
    (c10 : PySem.W.codeIn K cd10 "is_within" = true)
    (k10 : PySem.W.keepIn K (.ref f10) = true)
    (a11 : PySem.W.nsIn K mainGlobals "common_box" = some (some (.ref f11)))
    (l11 : K.lookup f11 = some ⟨oc11, od11, .func (PySem.W.fnOf "common_box" "common_box" (defArgs st11) (defBody st11) (defScope st11) .none kV11 dc11 pm11 an11 cd11 ct11), sl11⟩)
    (c11 : PySem.W.codeIn K cd11 "common_box" = true)
    (k11 : PySem.W.keepIn K (.ref f11) = true)
    (a12 : PySem.W.nsIn K mainGlobals "least_box" = some (some (.ref f12)))
    (l12 : K.lookup f12 = some ⟨oc12, od12, .func (PySem.W.fnOf "least_box" "least_box" (defArgs st12) (defBody st12) (defScope st12) .none kV12 dc12 pm12 an12 cd12 ct12), sl12⟩)
    (c12 : PySem.W.codeIn K cd12 "least_box" = true)
    (k12 : PySem.W.keepIn K (.ref f12) = true)
    (l13 : K.lookup f13 = some ⟨oc13, od13, .func (PySem.W.fnOf "__init__" "Box.__init__" (defArgs st13) (defBody st13) (defScope st13) (.ref T13) kV13 dc13 pm13 an13 cd13 ct13), sl13⟩)
    (c13 : PySem.W.codeIn K cd13 "Box.__init__" = true)
    (k13 : PySem.W.keepIn K (.ref f13) = true)
    (dD13 : K.lookup T13 = some ⟨oD13, dD13, .seq #[.int 1 tD13_0, .int 1 tD13_1] nD13, sD13⟩)
    (sa14 : PySem.W.findCls K (.ref C5) (.type "type") "square" = some (.get (.builtin "staticmethod.__get__") (.ref p14) .none (.ref C5)))
    (sr14 : PySem.W.recIn K p14 "staticmethod" = some (.ref f14 :: rs14))
    (sd14 : PySem.W.readsIn K C5 (.type "type") = true)
    (sg14 : PySem.W.specialIn K (.ref C5) "__getattribute__" = some (some (.builtin "type.__getattribute__")))
    (l14 : K.lookup f14 = some ⟨oc14, od14, .func (PySem.W.fnOf "square" "Box.square" (defArgs st14) (defBody st14) (defScope st14) .none kV14 dc14 pm14 an14 cd14 ct14), sl14⟩)
    (c14 : PySem.W.codeIn K cd14 "Box.square" = true)
    (k14 : PySem.W.keepIn K (.ref f14) = true)
    (ma5_15 : PySem.W.findIn K (.ref C5) "__and__" = some (some (.ref f15)))
    (mb15 : PySem.W.isFn K (.ref f15) = true)
    (l15 : K.lookup f15 = some ⟨oc15, od15, .func (PySem.W.fnOf "__and__" "Box.__and__" (defArgs st15) (defBody st15) (defScope st15) .none kV15 dc15 pm15 an15 cd15 ct15), sl15⟩)
    (c15 : PySem.W.codeIn K cd15 "Box.__and__" = true)
    (k15 : PySem.W.keepIn K (.ref f15) = true)
    (ma5_16 : PySem.W.findIn K (.ref C5) "__or__" = some (some (.ref f16)))
    (mb16 : PySem.W.isFn K (.ref f16) = true)
    (l16 : K.lookup f16 = some ⟨oc16, od16, .func (PySem.W.fnOf "__or__" "Box.__or__" (defArgs st16) (defBody st16) (defScope st16) .none kV16 dc16 pm16 an16 cd16 ct16), sl16⟩)
    (c16 : PySem.W.codeIn K cd16 "Box.__or__" = true)
    (k16 : PySem.W.keepIn K (.ref f16) = true)
    (ma5_17 : PySem.W.findIn K (.ref C5) "__add__" = some (some (.ref f17)))
    (mb17 : PySem.W.isFn K (.ref f17) = true)
    (l17 : K.lookup f17 = some ⟨oc17, od17, .func (PySem.W.fnOf "__add__" "Box.__add__" (defArgs st17) (defBody st17) (defScope st17) .none kV17 dc17 pm17 an17 cd17 ct17), sl17⟩)
    (c17 : PySem.W.codeIn K cd17 "Box.__add__" = true)
    (k17 : PySem.W.keepIn K (.ref f17) = true)
    (ma5_18 : PySem.W.findIn K (.ref C5) "__sub__" = some (some (.ref f18)))
    (mb18 : PySem.W.isFn K (.ref f18) = true)
    (l18 : K.lookup f18 = some ⟨oc18, od18, .func (PySem.W.fnOf "__sub__" "Box.__sub__" (defArgs st18) (defBody st18) (defScope st18) .none kV18 dc18 pm18 an18 cd18 ct18), sl18⟩)
    (c18 : PySem.W.codeIn K cd18 "Box.__sub__" = true)
    (k18 : PySem.W.keepIn K (.ref f18) = true)
    (ma5_19 : PySem.W.findIn K (.ref C5) "__rshift__" = some (some (.ref f19)))
    (mb19 : PySem.W.isFn K (.ref f19) = true)
    (l19 : K.lookup f19 = some ⟨oc19, od19, .func (PySem.W.fnOf "__rshift__" "Box.__rshift__" (defArgs st19) (defBody st19) (defScope st19) .none kV19 dc19 pm19 an19 cd19 ct19), sl19⟩)
    (c19 : PySem.W.codeIn K cd19 "Box.__rshift__" = true)
    (k19 : PySem.W.keepIn K (.ref f19) = true)
    (ma5_20 : PySem.W.findIn K (.ref C5) "__lshift__" = some (some (.ref f20)))
    (mb20 : PySem.W.isFn K (.ref f20) = true)
    (l20 : K.lookup f20 = some ⟨oc20, od20, .func (PySem.W.fnOf "__lshift__" "Box.__lshift__" (defArgs st20) (defBody st20) (defScope st20) .none kV20 dc20 pm20 an20 cd20 ct20), sl20⟩)
    (c20 : PySem.W.codeIn K cd20 "Box.__lshift__" = true)
    (k20 : PySem.W.keepIn K (.ref f20) = true)
    (ma5_21 : PySem.W.findIn K (.ref C5) "__le__" = some (some (.ref f21)))
    (mb21 : PySem.W.isFn K (.ref f21) = true)
    (l21 : K.lookup f21 = some ⟨oc21, od21, .func (PySem.W.fnOf "__le__" "Box.__le__" (defArgs st21) (defBody st21) (defScope st21) .none kV21 dc21 pm21 an21 cd21 ct21), sl21⟩)
    (c21 : PySem.W.codeIn K cd21 "Box.__le__" = true)
    (k21 : PySem.W.keepIn K (.ref f21) = true)
    (ma5_22 : PySem.W.findIn K (.ref C5) "__lt__" = some (some (.ref f22)))
    (mb22 : PySem.W.isFn K (.ref f22) = true)
    (l22 : K.lookup f22 = some ⟨oc22, od22, .func (PySem.W.fnOf "__lt__" "Box.__lt__" (defArgs st22) (defBody st22) (defScope st22) .none kV22 dc22 pm22 an22 cd22 ct22), sl22⟩)
    (c22 : PySem.W.codeIn K cd22 "Box.__lt__" = true)
    (k22 : PySem.W.keepIn K (.ref f22) = true)
    (ma5_23 : PySem.W.findIn K (.ref C5) "__ge__" = some (some (.ref f23)))
    (mb23 : PySem.W.isFn K (.ref f23) = true)
    (l23 : K.lookup f23 = some ⟨oc23, od23, .func (PySem.W.fnOf "__ge__" "Box.__ge__" (defArgs st23) (defBody st23) (defScope st23) .none kV23 dc23 pm23 an23 cd23 ct23), sl23⟩)
    (c23 : PySem.W.codeIn K cd23 "Box.__ge__" = true)
    (k23 : PySem.W.keepIn K (.ref f23) = true)
    (ma5_24 : PySem.W.findIn K (.ref C5) "__gt__" = some (some (.ref f24)))
    (mb24 : PySem.W.isFn K (.ref f24) = true)
    (l24 : K.lookup f24 = some ⟨oc24, od24, .func (PySem.W.fnOf "__gt__" "Box.__gt__" (defArgs st24) (defBody st24) (defScope st24) .none kV24 dc24 pm24 an24 cd24 ct24), sl24⟩)
    (c24 : PySem.W.codeIn K cd24 "Box.__gt__" = true)
    (k24 : PySem.W.keepIn K (.ref f24) = true)
    (ma5_25 : PySem.W.findIn K (.ref C5) "__str__" = some (some (.ref f25)))
    (mb25 : PySem.W.isFn K (.ref f25) = true)
    (l25 : K.lookup f25 = some ⟨oc25, od25, .func (PySem.W.fnOf "__str__" "Box.__str__" (defArgs st25) (defBody st25) (defScope st25) .none kV25 dc25 pm25 an25 cd25 ct25), sl25⟩)
    (c25 : PySem.W.codeIn K cd25 "Box.__str__" = true)
    (k25 : PySem.W.keepIn K (.ref f25) = true)
    (a26 : PySem.W.nsIn K mainGlobals "_law_top" = some (some (.ref f26)))
    (l26 : K.lookup f26 = some ⟨oc26, od26, .func (PySem.W.fnOf "_law_top" "_law_top" (defArgs st26) (defBody st26) (defScope st26) .none kV26 dc26 pm26 an26 cd26 ct26), sl26⟩)
    (c26 : PySem.W.codeIn K cd26 "_law_top" = true)
    (k26 : PySem.W.keepIn K (.ref f26) = true)
    (a27 : PySem.W.nsIn K mainGlobals "_law_pen" = some (some (.ref f27)))
    (l27 : K.lookup f27 = some ⟨oc27, od27, .func (PySem.W.fnOf "_law_pen" "_law_pen" (defArgs st27) (defBody st27) (defScope st27) .none kV27 dc27 pm27 an27 cd27 ct27), sl27⟩)
    (c27 : PySem.W.codeIn K cd27 "_law_pen" = true)
    (k27 : PySem.W.keepIn K (.ref f27) = true)
    (a28 : PySem.W.nsIn K mainGlobals "_law_draw" = some (some (.ref f28)))
    (l28 : K.lookup f28 = some ⟨oc28, od28, .func (PySem.W.fnOf "_law_draw" "_law_draw" (defArgs st28) (defBody st28) (defScope st28) .none kV28 dc28 pm28 an28 cd28 ct28), sl28⟩)
    (c28 : PySem.W.codeIn K cd28 "_law_draw" = true)
    (k28 : PySem.W.keepIn K (.ref f28) = true)
    (a29 : PySem.W.nsIn K mainGlobals "_law_pick" = some (some (.ref f29)))
    (l29 : K.lookup f29 = some ⟨oc29, od29, .func (PySem.W.fnOf "_law_pick" "_law_pick" (defArgs st29) (defBody st29) (defScope st29) .none kV29 dc29 pm29 an29 cd29 ct29), sl29⟩)
    (c29 : PySem.W.codeIn K cd29 "_law_pick" = true)
    (k29 : PySem.W.keepIn K (.ref f29) = true)
    (a30 : PySem.W.nsIn K mainGlobals "_law_heard" = some (some (.ref f30)))
    (l30 : K.lookup f30 = some ⟨oc30, od30, .func (PySem.W.fnOf "_law_heard" "_law_heard" (defArgs st30) (defBody st30) (defScope st30) .none kV30 dc30 pm30 an30 cd30 ct30), sl30⟩)
    (c30 : PySem.W.codeIn K cd30 "_law_heard" = true)
    (k30 : PySem.W.keepIn K (.ref f30) = true)
    (a31 : PySem.W.nsIn K mainGlobals "_law_odd" = some (some (.ref f31)))
    (l31 : K.lookup f31 = some ⟨oc31, od31, .func (PySem.W.fnOf "_law_odd" "_law_odd" (defArgs st31) (defBody st31) (defScope st31) .none kV31 dc31 pm31 an31 cd31 ct31), sl31⟩)
    (c31 : PySem.W.codeIn K cd31 "_law_odd" = true)
    (k31 : PySem.W.keepIn K (.ref f31) = true)
    (a32 : PySem.W.nsIn K mainGlobals "_law_made_right" = some (some (.ref f32)))
    (l32 : K.lookup f32 = some ⟨oc32, od32, .func (PySem.W.fnOf "_law_made_right" "_law_made_right" (defArgs st32) (defBody st32) (defScope st32) .none kV32 dc32 pm32 an32 (.ref cc32) ct32), sl32⟩)
    (c32 : PySem.W.codeIn K (.ref cc32) "_law_made_right" = true)
    (k32 : PySem.W.keepIn K (.ref f32) = true)
    (lc32 : K.lookup cc32 = some ⟨oX32, dX32, .fields vX32, sX32⟩)
    (lp32 : (vX32[11]? : Option Value) = some (.ref ta32))
    (lt32 : PySem.W.tabIn K "_law_made_right" = some (cc32, ta32))
    (lu32 : ttB K lamN ta32 (("_law_made_right" : Str) ++ ".<locals>." ++ "<lambda>") = true)
    (a33 : PySem.W.nsIn K mainGlobals "_law_signs_right" = some (some (.ref f33)))
    (l33 : K.lookup f33 = some ⟨oc33, od33, .func (PySem.W.fnOf "_law_signs_right" "_law_signs_right" (defArgs st33) (defBody st33) (defScope st33) .none kV33 dc33 pm33 an33 (.ref cc33) ct33), sl33⟩)
    (c33 : PySem.W.codeIn K (.ref cc33) "_law_signs_right" = true)
    (k33 : PySem.W.keepIn K (.ref f33) = true)
    (lc33 : K.lookup cc33 = some ⟨oX33, dX33, .fields vX33, sX33⟩)
    (lp33 : (vX33[11]? : Option Value) = some (.ref ta33))
    (lt33 : PySem.W.tabIn K "_law_signs_right" = some (cc33, ta33))
    (lu33 : ttB K lamN ta33 (("_law_signs_right" : Str) ++ ".<locals>." ++ "<lambda>") = true)
    (a34 : PySem.W.nsIn K mainGlobals "law" = some (some (.ref f34)))
    (l34 : K.lookup f34 = some ⟨oc34, od34, .func (PySem.W.fnOf "law" "law" (defArgs st34) (defBody st34) (defScope st34) .none kV34 dc34 pm34 an34 (.ref cc34) ct34), sl34⟩)
    (c34 : PySem.W.codeIn K (.ref cc34) "law" = true)
    (k34 : PySem.W.keepIn K (.ref f34) = true)
    (lc34 : K.lookup cc34 = some ⟨oX34, dX34, .fields vX34, sX34⟩)
    (lp34 : (vX34[11]? : Option Value) = some (.ref ta34))
    (lt34 : PySem.W.tabIn K "law" = some (cc34, ta34))
    (lu34 : ttB K lamN ta34 (("law" : Str) ++ ".<locals>." ++ "<lambda>") = true)
    (is2 : isoB K C2 [(C0, false), (C1, false), (C2, true), (C3, false), (C4, false), (C5, false)] = true)
    (is3 : isoB K C3 [(C0, false), (C1, false), (C2, false), (C3, true), (C4, false), (C5, false)] = true)
    (is4 : isoB K C4 [(C0, false), (C1, false), (C2, false), (C3, false), (C4, true), (C5, false)] = true)
    (is5 : isoB K C5 [(C0, false), (C1, false), (C2, false), (C3, false), (C4, false), (C5, true)] = true)
    (ib : isbB K [C0, C1, C2, C3, C4, C5] = true)
    (em0 : exmB K C0 [C0, C1, C2, C3, C4] = true)
    (nO5 : nfB K C5 [C0, C1, C2, C3, C4, C5] = true)
    (bc5__add__ : bcB K C5 .Add = true)
    (bc5__and__ : bcB K C5 .BitAnd = true)
    (bc5__lshift__ : bcB K C5 .LShift = true)
    (bc5__or__ : bcB K C5 .BitOr = true)
    (bc5__rshift__ : bcB K C5 .RShift = true)
    (bc5__sub__ : bcB K C5 .Sub = true)
    (z_abs : PySem.W.nsIn K mainGlobals "abs" = some none)
    (z_bool : PySem.W.nsIn K mainGlobals "bool" = some none)
    (z_int : PySem.W.nsIn K mainGlobals "int" = some none)
    (z_isinstance : PySem.W.nsIn K mainGlobals "isinstance" = some none)
    (z_len : PySem.W.nsIn K mainGlobals "len" = some none)
    (z_list : PySem.W.nsIn K mainGlobals "list" = some none)
    (z_max : PySem.W.nsIn K mainGlobals "max" = some none)
    (z_min : PySem.W.nsIn K mainGlobals "min" = some none)
    (z_range : PySem.W.nsIn K mainGlobals "range" = some none)
    (z_repr : PySem.W.nsIn K mainGlobals "repr" = some none)
    (z_str : PySem.W.nsIn K mainGlobals "str" = some none)
    (z_tuple : PySem.W.nsIn K mainGlobals "tuple" = some none)
    (y_MOST_LEVEL : PySem.W.nsIn K mainGlobals "MOST_LEVEL" = some (some (.int 100 t_MOST_LEVEL)))
    (y_MOST_SHIFT : PySem.W.nsIn K mainGlobals "MOST_SHIFT" = some (some (.int 100 t_MOST_SHIFT)))
    (y_MOST_SIDE : PySem.W.nsIn K mainGlobals "MOST_SIDE" = some (some (.int 1267650600228229401496703205376 t_MOST_SIDE)))
    : ∃ fd : FuncData, (∀ (s : Shared) (u : Value), BindsTo s fd ⟨[u], []⟩ [("_law_script", u)]) ∧ ∀ base : Heap, K.In base → base.Ns mainGlobals mg → (∀ x ∈ lamN, ∀ c P, PySem.W.tabIn K x = some (c, P) → LamX.TabB base mg c P) → FnG P w K mg base 60 fl fd ["_law_script"] (spF (tb K) (calls fs 12) 508 1) := by
  have e := hfl.symm.trans (PySem.W.mg_of X G a34)
  cases e
  have F0 := fun_mk (st := st0) l0 c0 k0
  have B0 := F0.binds (ps := ["value"]) fun _ _ _ _ _ _ us hl => match us, hl with | [_], _ => rfl
  have F1 := fun_mk (st := st1) l1 c1 k1
  have B1 := F1.binds (ps := ["value", "least", "most"]) fun _ _ _ _ _ _ us hl => match us, hl with | [_, _, _], _ => rfl
  have F2 := fun_mk (st := st2) l2 c2 k2
  have B2 := F2.binds (ps := ["value"]) fun _ _ _ _ _ _ us hl => match us, hl with | [_], _ => rfl
  have F3 := fun_mk (st := st3) l3 c3 k3
  have B3 := F3.binds (ps := ["value"]) fun _ _ _ _ _ _ us hl => match us, hl with | [_], _ => rfl
  have F4 := fun_mk (st := st4) l4 c4 k4
  have B4 := F4.binds (ps := ["self", "value"]) fun _ _ _ _ _ _ us hl => match us, hl with | [_, _], _ => rfl
  have F5 := fun_mk (st := st5) l5 c5 k5
  have B5 := F5.binds (ps := ["self", "part"]) fun _ _ _ _ _ _ us hl => match us, hl with | [_, _], _ => rfl
  have F6 := fun_mk (st := st6) l6 c6 k6
  have B6 := F6.binds (ps := ["self", "value"]) fun _ _ _ _ _ _ us hl => match us, hl with | [_, _], _ => rfl
  have F7 := fun_mk (st := st7) l7 c7 k7
  have B7 := F7.binds (ps := ["other"]) fun _ _ _ _ _ _ us hl => match us, hl with | [_], _ => rfl
  have F8 := fun_mk (st := st8) l8 c8 k8
  have B8 := F8.binds (ps := ["box", "move", "sign"]) fun _ _ _ _ _ _ us hl => match us, hl with | [_, _, _], _ => rfl
  have F9 := fun_mk (st := st9) l9 c9 k9
  have B9 := F9.binds (ps := ["n"]) fun _ _ _ _ _ _ us hl => match us, hl with | [_], _ => rfl
  have F10 := fun_mk (st := st10) l10 c10 k10
  have B10 := F10.binds (ps := ["one", "other"]) fun _ _ _ _ _ _ us hl => match us, hl with | [_, _], _ => rfl
  have F11 := fun_mk (st := st11) l11 c11 k11
  have B11 := F11.binds (ps := ["one", "other"]) fun _ _ _ _ _ _ us hl => match us, hl with | [_, _], _ => rfl
  have F12 := fun_mk (st := st12) l12 c12 k12
  have B12 := F12.binds (ps := ["one", "other"]) fun _ _ _ _ _ _ us hl => match us, hl with | [_, _], _ => rfl
  have FD13 : FunD K "__init__" "Box.__init__" (defArgs st13) (defBody st13) (defScope st13) [.int 1, .int 1] [] f13 (PySem.W.fnOf "__init__" "Box.__init__" (defArgs st13) (defBody st13) (defScope st13) (.ref T13) kV13 dc13 pm13 an13 cd13 ct13) := ⟨⟨_, _, _, _, _, _, _, _, _, _, rfl, l13, c13, .inr ⟨by simp, T13, _, _, _, rfl, dD13, rfl, (.cons ⟨tD13_0, rfl⟩ (.cons ⟨tD13_1, rfl⟩ .nil))⟩, .inl rfl⟩, k13⟩
  have F14 := fun_mk (st := st14) l14 c14 k14
  have B14 := F14.binds (ps := ["level"]) fun _ _ _ _ _ _ us hl => match us, hl with | [_], _ => rfl
  have F15 := fun_mk (st := st15) l15 c15 k15
  have B15 := F15.binds (ps := ["self", "other"]) fun _ _ _ _ _ _ us hl => match us, hl with | [_, _], _ => rfl
  have F16 := fun_mk (st := st16) l16 c16 k16
  have B16 := F16.binds (ps := ["self", "other"]) fun _ _ _ _ _ _ us hl => match us, hl with | [_, _], _ => rfl
  have F17 := fun_mk (st := st17) l17 c17 k17
  have B17 := F17.binds (ps := ["self", "move"]) fun _ _ _ _ _ _ us hl => match us, hl with | [_, _], _ => rfl
  have F18 := fun_mk (st := st18) l18 c18 k18
  have B18 := F18.binds (ps := ["self", "move"]) fun _ _ _ _ _ _ us hl => match us, hl with | [_, _], _ => rfl
  have F19 := fun_mk (st := st19) l19 c19 k19
  have B19 := F19.binds (ps := ["self", "n"]) fun _ _ _ _ _ _ us hl => match us, hl with | [_, _], _ => rfl
  have F20 := fun_mk (st := st20) l20 c20 k20
  have B20 := F20.binds (ps := ["self", "n"]) fun _ _ _ _ _ _ us hl => match us, hl with | [_, _], _ => rfl
  have F21 := fun_mk (st := st21) l21 c21 k21
  have B21 := F21.binds (ps := ["self", "other"]) fun _ _ _ _ _ _ us hl => match us, hl with | [_, _], _ => rfl
  have F22 := fun_mk (st := st22) l22 c22 k22
  have B22 := F22.binds (ps := ["self", "other"]) fun _ _ _ _ _ _ us hl => match us, hl with | [_, _], _ => rfl
  have F23 := fun_mk (st := st23) l23 c23 k23
  have B23 := F23.binds (ps := ["self", "other"]) fun _ _ _ _ _ _ us hl => match us, hl with | [_, _], _ => rfl
  have F24 := fun_mk (st := st24) l24 c24 k24
  have B24 := F24.binds (ps := ["self", "other"]) fun _ _ _ _ _ _ us hl => match us, hl with | [_, _], _ => rfl
  have F25 := fun_mk (st := st25) l25 c25 k25
  have B25 := F25.binds (ps := ["self"]) fun _ _ _ _ _ _ us hl => match us, hl with | [_], _ => rfl
  have F26 := fun_mk (st := st26) l26 c26 k26
  have B26 := F26.binds (ps := []) fun _ _ _ _ _ _ us hl => match us, hl with | [], _ => rfl
  have F27 := fun_mk (st := st27) l27 c27 k27
  have B27 := F27.binds (ps := ["_law_script"]) fun _ _ _ _ _ _ us hl => match us, hl with | [_], _ => rfl
  have F28 := fun_mk (st := st28) l28 c28 k28
  have B28 := F28.binds (ps := ["_law_pen_here", "_law_many"]) fun _ _ _ _ _ _ us hl => match us, hl with | [_, _], _ => rfl
  have F29 := fun_mk (st := st29) l29 c29 k29
  have B29 := F29.binds (ps := ["_law_pen_here", "_law_some"]) fun _ _ _ _ _ _ us hl => match us, hl with | [_, _], _ => rfl
  have F30 := fun_mk (st := st30) l30 c30 k30
  have B30 := F30.binds (ps := ["_law_ask"]) fun _ _ _ _ _ _ us hl => match us, hl with | [_], _ => rfl
  have F31 := fun_mk (st := st31) l31 c31 k31
  have B31 := F31.binds (ps := ["_law_pen_here", "_law_at"]) fun _ _ _ _ _ _ us hl => match us, hl with | [_, _], _ => rfl
  have F32 := fun_mk (st := st32) l32 c32 k32
  have B32 := F32.binds (ps := ["_law_pen_here"]) fun _ _ _ _ _ _ us hl => match us, hl with | [_], _ => rfl
  have F33 := fun_mk (st := st33) l33 c33 k33
  have B33 := F33.binds (ps := ["_law_pen_here"]) fun _ _ _ _ _ _ us hl => match us, hl with | [_], _ => rfl
  have F34 := fun_mk (st := st34) l34 c34 k34
  have B34 := F34.binds (ps := ["_law_script"]) fun _ _ _ _ _ _ us hl => match us, hl with | [_], _ => rfl
  have T : Tx K mg (fun i => match i with | 0 => f0 | 1 => f1 | 2 => f2 | 3 => f3 | 4 => f4 | 5 => f5 | 6 => f6 | 7 => f7 | 8 => f8 | 9 => f9 | 10 => f10 | 11 => f11 | 12 => f12 | 13 => f13 | 14 => f14 | 15 => f15 | 16 => f16 | 17 => f17 | 18 => f18 | 19 => f19 | 20 => f20 | 21 => f21 | 22 => f22 | 23 => f23 | 24 => f24 | 25 => f25 | 26 => f26 | 27 => f27 | 28 => f28 | 29 => f29 | 30 => f30 | 31 => f31 | 32 => f32 | 33 => f33 | 34 => fl | _ => 0) (fun i => match i with | 0 => C0 | 1 => C1 | 2 => C2 | 3 => C3 | 4 => C4 | 5 => C5 | _ => 0) (fun i => match i with | 14 => p14 | _ => 0) (fun i => match i with | 32 => cc32 | 33 => cc33 | 34 => cc34 | _ => 0) (fun i => match i with | 32 => ta32 | 33 => ta33 | 34 => ta34 | _ => 0) (fun i => match i with | 0 => PySem.W.fnOf "is_integer" "is_integer" (defArgs st0) (defBody st0) (defScope st0) .none kV0 dc0 pm0 an0 cd0 ct0 | 1 => PySem.W.fnOf "is_between" "is_between" (defArgs st1) (defBody st1) (defScope st1) .none kV1 dc1 pm1 an1 cd1 ct1 | 2 => PySem.W.fnOf "is_level" "is_level" (defArgs st2) (defBody st2) (defScope st2) .none kV2 dc2 pm2 an2 cd2 ct2 | 3 => PySem.W.fnOf "is_pair" "is_pair" (defArgs st3) (defBody st3) (defScope st3) .none kV3 dc3 pm3 an3 cd3 ct3 | 4 => PySem.W.fnOf "__init__" "BadLevel.__init__" (defArgs st4) (defBody st4) (defScope st4) .none kV4 dc4 pm4 an4 cd4 ct4 | 5 => PySem.W.fnOf "__init__" "BadBox.__init__" (defArgs st5) (defBody st5) (defScope st5) .none kV5 dc5 pm5 an5 cd5 ct5 | 6 => PySem.W.fnOf "__init__" "BadMany.__init__" (defArgs st6) (defBody st6) (defScope st6) .none kV6 dc6 pm6 an6 cd6 ct6 | 7 => PySem.W.fnOf "need_box" "need_box" (defArgs st7) (defBody st7) (defScope st7) .none kV7 dc7 pm7 an7 cd7 ct7 | 8 => PySem.W.fnOf "moved_by" "moved_by" (defArgs st8) (defBody st8) (defScope st8) .none kV8 dc8 pm8 an8 cd8 ct8 | 9 => PySem.W.fnOf "need_shift" "need_shift" (defArgs st9) (defBody st9) (defScope st9) .none kV9 dc9 pm9 an9 cd9 ct9 | 10 => PySem.W.fnOf "is_within" "is_within" (defArgs st10) (defBody st10) (defScope st10) .none kV10 dc10 pm10 an10 cd10 ct10 | 11 => PySem.W.fnOf "common_box" "common_box" (defArgs st11) (defBody st11) (defScope st11) .none kV11 dc11 pm11 an11 cd11 ct11 | 12 => PySem.W.fnOf "least_box" "least_box" (defArgs st12) (defBody st12) (defScope st12) .none kV12 dc12 pm12 an12 cd12 ct12 | 13 => PySem.W.fnOf "__init__" "Box.__init__" (defArgs st13) (defBody st13) (defScope st13) (.ref T13) kV13 dc13 pm13 an13 cd13 ct13 | 14 => PySem.W.fnOf "square" "Box.square" (defArgs st14) (defBody st14) (defScope st14) .none kV14 dc14 pm14 an14 cd14 ct14 | 15 => PySem.W.fnOf "__and__" "Box.__and__" (defArgs st15) (defBody st15) (defScope st15) .none kV15 dc15 pm15 an15 cd15 ct15 | 16 => PySem.W.fnOf "__or__" "Box.__or__" (defArgs st16) (defBody st16) (defScope st16) .none kV16 dc16 pm16 an16 cd16 ct16 | 17 => PySem.W.fnOf "__add__" "Box.__add__" (defArgs st17) (defBody st17) (defScope st17) .none kV17 dc17 pm17 an17 cd17 ct17 | 18 => PySem.W.fnOf "__sub__" "Box.__sub__" (defArgs st18) (defBody st18) (defScope st18) .none kV18 dc18 pm18 an18 cd18 ct18 | 19 => PySem.W.fnOf "__rshift__" "Box.__rshift__" (defArgs st19) (defBody st19) (defScope st19) .none kV19 dc19 pm19 an19 cd19 ct19 | 20 => PySem.W.fnOf "__lshift__" "Box.__lshift__" (defArgs st20) (defBody st20) (defScope st20) .none kV20 dc20 pm20 an20 cd20 ct20 | 21 => PySem.W.fnOf "__le__" "Box.__le__" (defArgs st21) (defBody st21) (defScope st21) .none kV21 dc21 pm21 an21 cd21 ct21 | 22 => PySem.W.fnOf "__lt__" "Box.__lt__" (defArgs st22) (defBody st22) (defScope st22) .none kV22 dc22 pm22 an22 cd22 ct22 | 23 => PySem.W.fnOf "__ge__" "Box.__ge__" (defArgs st23) (defBody st23) (defScope st23) .none kV23 dc23 pm23 an23 cd23 ct23 | 24 => PySem.W.fnOf "__gt__" "Box.__gt__" (defArgs st24) (defBody st24) (defScope st24) .none kV24 dc24 pm24 an24 cd24 ct24 | 25 => PySem.W.fnOf "__str__" "Box.__str__" (defArgs st25) (defBody st25) (defScope st25) .none kV25 dc25 pm25 an25 cd25 ct25 | 26 => PySem.W.fnOf "_law_top" "_law_top" (defArgs st26) (defBody st26) (defScope st26) .none kV26 dc26 pm26 an26 cd26 ct26 | 27 => PySem.W.fnOf "_law_pen" "_law_pen" (defArgs st27) (defBody st27) (defScope st27) .none kV27 dc27 pm27 an27 cd27 ct27 | 28 => PySem.W.fnOf "_law_draw" "_law_draw" (defArgs st28) (defBody st28) (defScope st28) .none kV28 dc28 pm28 an28 cd28 ct28 | 29 => PySem.W.fnOf "_law_pick" "_law_pick" (defArgs st29) (defBody st29) (defScope st29) .none kV29 dc29 pm29 an29 cd29 ct29 | 30 => PySem.W.fnOf "_law_heard" "_law_heard" (defArgs st30) (defBody st30) (defScope st30) .none kV30 dc30 pm30 an30 cd30 ct30 | 31 => PySem.W.fnOf "_law_odd" "_law_odd" (defArgs st31) (defBody st31) (defScope st31) .none kV31 dc31 pm31 an31 cd31 ct31 | 32 => PySem.W.fnOf "_law_made_right" "_law_made_right" (defArgs st32) (defBody st32) (defScope st32) .none kV32 dc32 pm32 an32 (.ref cc32) ct32 | 33 => PySem.W.fnOf "_law_signs_right" "_law_signs_right" (defArgs st33) (defBody st33) (defScope st33) .none kV33 dc33 pm33 an33 (.ref cc33) ct33 | 34 => PySem.W.fnOf "law" "law" (defArgs st34) (defBody st34) (defScope st34) .none kV34 dc34 pm34 an34 (.ref cc34) ct34 | _ => PySem.W.fnOf "" "" (defArgs st0) [] (defScope st0) .none .none .none .none .none .none .none) := {
    mC0 := PySem.W.mg_of X G aC0
    cn0 := adr_of aC0
    mC1 := PySem.W.mg_of X G aC1
    cn1 := adr_of aC1
    mC2 := PySem.W.mg_of X G aC2
    cn2 := adr_of aC2
    mC3 := PySem.W.mg_of X G aC3
    cn3 := adr_of aC3
    mC4 := PySem.W.mg_of X G aC4
    cn4 := adr_of aC4
    mC5 := PySem.W.mg_of X G aC5
    cn5 := adr_of aC5
    xr0 := xf_of xc0
    xe0 := xc_of xc0
    na0 := na_of na0
    xr1 := xf_of xc1
    xe1 := xc_of xc1
    na1 := na_of na1
    xr2 := xf_of xc2
    xe2 := xc_of xc2
    na2 := na_of na2
    ox2 := oex_of xL2 xR2 xS2
    xi2 := xi2
    xt2 := xt2
    cx2 := adr_of aC2
    xr3 := xf_of xc3
    xe3 := xc_of xc3
    na3 := na_of na3
    ox3 := oex_of xL3 xR3 xS3
    xi3 := xi3
    xt3 := xt3
    cx3 := adr_of aC3
    xr4 := xf_of xc4
    xe4 := xc_of xc4
    na4 := na_of na4
    ox4 := oex_of xL4 xR4 xS4
    xi4 := xi4
    xt4 := xt4
    cx4 := adr_of aC4
    cl5 := cls_of cl5
    cg5 := cg5
    na5 := na_of na5
    ck5 := adr_of aC5
    mk5 := ⟨nk5, ni5, nf5, np5⟩
    m0 := PySem.W.mg_of X G a0
    f0 := funV F0
    b0 := B0
    m1 := PySem.W.mg_of X G a1
    f1 := funV F1
    b1 := B1
    m2 := PySem.W.mg_of X G a2
    f2 := funV F2
    b2 := B2
    m3 := PySem.W.mg_of X G a3
    f3 := funV F3
    b3 := B3
    f4 := funV F4
    b4 := B4
    f5 := funV F5
    b5 := B5
    f6 := funV F6
    b6 := B6
    m7 := PySem.W.mg_of X G a7
    f7 := funV F7
    b7 := B7
    m8 := PySem.W.mg_of X G a8
    f8 := funV F8
    b8 := B8
    m9 := PySem.W.mg_of X G a9
    f9 := funV F9
    b9 := B9
    m10 := PySem.W.mg_of X G a10
    f10 := funV F10
    b10 := B10
    m11 := PySem.W.mg_of X G a11
    f11 := funV F11
    b11 := B11
    m12 := PySem.W.mg_of X G a12
    f12 := funV F12
    b12 := B12
    f13 := funD_V FD13
    bd13_0 := binds_of FD13 3 0 (by simp) (by rfl) (fun _ _ _ _ _ _ _ us its hu hi => match us, its, hu, hi with | [_, _, _], [_, _], _, _ => ⟨_, rfl, rfl⟩)
    bd13_2 := binds_of FD13 5 2 (by simp) (by rfl) (fun _ _ _ _ _ _ _ us its hu hi => match us, its, hu, hi with | [_, _, _, _, _], [_, _], _, _ => ⟨_, rfl, rfl⟩)
    ks13_height_y_width_x := kbinds_of FD13 (by simp) (fun _ _ _ _ _ _ _ u its ws hi hw => match its, ws, hi, hw with | [_, _], [_, _, _, _], _, _ => ⟨_, rfl, rfl⟩)
    sm14 := ⟨⟨sd14, sg14⟩, sa14, ⟨_, sr14⟩, k14⟩
    f14 := funV F14
    b14 := B14
    me5_15 := ⟨ma5_15, mb15, k15⟩
    f15 := funV F15
    b15 := B15
    me5_16 := ⟨ma5_16, mb16, k16⟩
    f16 := funV F16
    b16 := B16
    me5_17 := ⟨ma5_17, mb17, k17⟩
    f17 := funV F17
    b17 := B17
    me5_18 := ⟨ma5_18, mb18, k18⟩
    f18 := funV F18
    b18 := B18
    me5_19 := ⟨ma5_19, mb19, k19⟩
    f19 := funV F19
    b19 := B19
    me5_20 := ⟨ma5_20, mb20, k20⟩
    f20 := funV F20
    b20 := B20
    me5_21 := ⟨ma5_21, mb21, k21⟩
    f21 := funV F21
    b21 := B21
    me5_22 := ⟨ma5_22, mb22, k22⟩
    f22 := funV F22
    b22 := B22
    me5_23 := ⟨ma5_23, mb23, k23⟩
    f23 := funV F23
    b23 := B23
    me5_24 := ⟨ma5_24, mb24, k24⟩
    f24 := funV F24
    b24 := B24
    me5_25 := ⟨ma5_25, mb25, k25⟩
    f25 := funV F25
    b25 := B25
    m26 := PySem.W.mg_of X G a26
    f26 := funV F26
    b26 := B26
    m27 := PySem.W.mg_of X G a27
    f27 := funV F27
    b27 := B27
    m28 := PySem.W.mg_of X G a28
    f28 := funV F28
    b28 := B28
    m29 := PySem.W.mg_of X G a29
    f29 := funV F29
    b29 := B29
    m30 := PySem.W.mg_of X G a30
    f30 := funV F30
    h30 := F30
    b30 := B30
    m31 := PySem.W.mg_of X G a31
    f31 := funV F31
    b31 := B31
    m32 := PySem.W.mg_of X G a32
    f32 := funV F32
    b32 := B32
    q32 := rfl
    ti32 := lt32
    tt32 := tt_mem lt32 (by decide)
    tu32 := tt_un lu32
    m33 := PySem.W.mg_of X G a33
    f33 := funV F33
    b33 := B33
    q33 := rfl
    ti33 := lt33
    tt33 := tt_mem lt33 (by decide)
    tu33 := tt_un lu33
    m34 := PySem.W.mg_of X G a34
    f34 := funV F34
    b34 := B34
    q34 := rfl
    ti34 := lt34
    tt34 := tt_mem lt34 (by decide)
    tu34 := tt_un lu34
    is2 := is2
    is3 := is3
    is4 := is4
    is5 := is5
    ib := ib
    em0 := em0
    nO5 := nO5
    bc5__add__ := bc5__add__
    bc5__and__ := bc5__and__
    bc5__lshift__ := bc5__lshift__
    bc5__or__ := bc5__or__
    bc5__rshift__ := bc5__rshift__
    bc5__sub__ := bc5__sub__
    n_abs := PySem.W.mg_none_of X G z_abs
    n_bool := PySem.W.mg_none_of X G z_bool
    n_int := PySem.W.mg_none_of X G z_int
    n_isinstance := PySem.W.mg_none_of X G z_isinstance
    n_len := PySem.W.mg_none_of X G z_len
    n_list := PySem.W.mg_none_of X G z_list
    n_max := PySem.W.mg_none_of X G z_max
    n_min := PySem.W.mg_none_of X G z_min
    n_range := PySem.W.mg_none_of X G z_range
    n_repr := PySem.W.mg_none_of X G z_repr
    n_str := PySem.W.mg_none_of X G z_str
    n_tuple := PySem.W.mg_none_of X G z_tuple
    g_MOST_LEVEL := ⟨_, PySem.W.mg_of X G y_MOST_LEVEL⟩
    g_MOST_SHIFT := ⟨_, PySem.W.mg_of X G y_MOST_SHIFT⟩
    g_MOST_SIDE := ⟨_, PySem.W.mg_of X G y_MOST_SIDE⟩
  }
  exact ⟨_, fun s u => .of_eq rfl, fun base _ _ hT => (al (base := base) T (hT _ (by decide) _ _ lt32) (hT _ (by decide) _ _ lt33) (hT _ (by decide) _ _ lt34) 12).1.o34⟩
end LW
end

section
namespace LW
open PP PySem L2
theorem k_is_integer {k : Nat} : S_is_integer (calls fs (k + 1) 0) := by
  rw [calls_fn fs (k + 0) 0 (F := F_is_integer) rfl]
  exact is_integer_ok 
theorem k_is_between {k : Nat} : S_is_between (calls fs (k + 2) 1) := by
  rw [calls_fn fs (k + 1) 1 (F := F_is_between) rfl]
  exact is_between_ok k_is_integer
theorem k_is_level {k : Nat} : S_is_level (calls fs (k + 3) 2) := by
  rw [calls_fn fs (k + 2) 2 (F := F_is_level) rfl]
  exact is_level_ok k_is_between
theorem k_is_pair {k : Nat} : S_is_pair (calls fs (k + 2) 3) := by
  rw [calls_fn fs (k + 1) 3 (F := F_is_pair) rfl]
  exact is_pair_ok k_is_integer
theorem k_need_box {k : Nat} : S_need_box (calls fs (k + 1) 4) := by
  rw [calls_fn fs (k + 0) 4 (F := F_need_box) rfl]
  exact need_box_ok 
theorem k_Box__init__ {k : Nat} : S_box_init (calls fs (k + 3) 6000) := by
  rw [calls_fn fs (k + 2) 6000 (F := F_Box__init__) rfl]
  exact box_init_ok k_is_between
theorem k_moved_by {k : Nat} : S_moved_by (calls fs (k + 4) 5) := by
  rw [calls_fn fs (k + 3) 5 (F := F_moved_by) rfl]
  exact moved_by_ok k_is_pair k_Box__init__
theorem k_need_shift {k : Nat} : S_need_shift (calls fs (k + 3) 6) := by
  rw [calls_fn fs (k + 2) 6 (F := F_need_shift) rfl]
  exact need_shift_ok k_is_between
theorem k_is_within {k : Nat} : S_is_within (calls fs (k + 1) 7) := by
  rw [calls_fn fs (k + 0) 7 (F := F_is_within) rfl]
  exact is_within_ok 
theorem k_common_box {k : Nat} : S_common_box (calls fs (k + 4) 8) := by
  rw [calls_fn fs (k + 3) 8 (F := F_common_box) rfl]
  exact common_box_ok k_Box__init__
theorem k_least_box {k : Nat} : S_least_box (calls fs (k + 4) 9) := by
  rw [calls_fn fs (k + 3) 9 (F := F_least_box) rfl]
  exact least_box_ok k_Box__init__
theorem k_Box_square {k : Nat} : S_square (calls fs (k + 4) 6050) := by
  rw [calls_fn fs (k + 3) 6050 (F := F_Box_square) rfl]
  exact square_ok k_is_level k_Box__init__
theorem k_Box__and__ {k : Nat} : S_and (calls fs (k + 5) 6009) := by
  rw [calls_fn fs (k + 4) 6009 (F := F_Box__and__) rfl]
  exact and_ok k_need_box k_common_box
theorem k_Box__or__ {k : Nat} : S_or (calls fs (k + 5) 6010) := by
  rw [calls_fn fs (k + 4) 6010 (F := F_Box__or__) rfl]
  exact or_ok k_need_box k_least_box
theorem k_Box__add__ {k : Nat} : S_add (calls fs (k + 5) 6001) := by
  rw [calls_fn fs (k + 4) 6001 (F := F_Box__add__) rfl]
  exact add_ok k_moved_by
theorem k_Box__sub__ {k : Nat} : S_sub (calls fs (k + 5) 6002) := by
  rw [calls_fn fs (k + 4) 6002 (F := F_Box__sub__) rfl]
  exact sub_ok k_moved_by
theorem k_Box__rshift__ {k : Nat} : S_shr (calls fs (k + 4) 6008) := by
  rw [calls_fn fs (k + 3) 6008 (F := F_Box__rshift__) rfl]
  exact shr_ok k_need_shift k_Box__init__
theorem k_Box__lshift__ {k : Nat} : S_shl (calls fs (k + 4) 6007) := by
  rw [calls_fn fs (k + 3) 6007 (F := F_Box__lshift__) rfl]
  exact shl_ok k_need_shift k_Box__init__
theorem k_Box__le__ {k : Nat} : S_cmpB within (calls fs (k + 2) 6013) := by
  rw [calls_fn fs (k + 1) 6013 (F := F_Box__le__) rfl]
  exact le_ok k_need_box k_is_within
theorem k_Box__lt__ {k : Nat} : S_cmpB (fun x y w h x' y' w' h' => within x y w h x' y' w' h' && !within x' y' w' h' x y w h) (calls fs (k + 2) 6012) := by
  rw [calls_fn fs (k + 1) 6012 (F := F_Box__lt__) rfl]
  exact lt_ok k_need_box k_is_within
theorem k_Box__ge__ {k : Nat} : S_cmpB (fun x y w h x' y' w' h' => within x' y' w' h' x y w h) (calls fs (k + 2) 6015) := by
  rw [calls_fn fs (k + 1) 6015 (F := F_Box__ge__) rfl]
  exact ge_ok k_need_box k_is_within
theorem k_Box__gt__ {k : Nat} : S_cmpB (fun x y w h x' y' w' h' => within x' y' w' h' x y w h && !within x y w h x' y' w' h') (calls fs (k + 2) 6014) := by
  rw [calls_fn fs (k + 1) 6014 (F := F_Box__gt__) rfl]
  exact gt_ok k_need_box k_is_within
theorem k_Box__str__ {k : Nat} : S_str (calls fs (k + 1) 6021) := by
  rw [calls_fn fs (k + 0) 6021 (F := F_Box__str__) rfl]
  exact str_ok 
theorem k_pen {k : Nat} (ns : List Int) (h : ns.length ≤ 63) : calls fs (k + 1) 501 [.fz (.kst (ns.map D.int))] = .ok (.nw (.lst [.lst (ns.map D.int), .int 0, .int 0])) [] := (calls_eq fs k 501 (F := penFn) rfl _).trans (pen_ok h).1
theorem k_draw {k : Nat} : DrawOk (calls fs (k + 1)) 502 := by
  intro n p m hp hn hm hm2
  rw [calls_eq fs k 502 (F := drawFn 42589 3767 2147483563 49523 857 2147483629 421 56087 97 2147483587) rfl]
  exact draw_ok (by decide) (by decide) (by decide) (by decide) (by decide) (by decide) (by decide) (by decide) (by decide) hp hn hm hm2
theorem k_pick {k : Nat} : PickOk (calls fs (k + 2)) 503 := by
  intro n p xs hp hn h0 h1
  rw [calls_eq fs (k + 1) 503 (F := pickFn 502) rfl]
  exact pick_ok k_draw hp hn h0 h1
end LW
end

section
set_option maxHeartbeats 1000000
local macro_rules | `(tactic| walk_at "pp") => `(tactic| simp -implicitDefEqProofs only [PP.ev_w0, PP.ev_w1, PP.ev_w2, PP.ev_w3, PP.ev_w4, PP.ev_w5, PP.ev_w6, PP.ev_w7, PP.ev_w8, PP.ev_w9, PP.ev_w10, PP.ev_w11, PP.ev_w12, PP.ev_w13, PP.ev_w14, PP.ev_w15, PP.ev_w16, PP.ev_w17, PP.ev_w18, PP.ev_w19, PP.ev_w20, PP.ev_w21, PP.ev_w22, PP.ev_w23, PP.ev_w24, PP.ev_w25, PP.ev_w26, PP.ev_w27, PP.ev_w28, PP.ev_w29, PP.ev_w30, PP.ev_w31, PP.ev_w32, PP.ev_w33, PP.ev_w34, PP.ev_w35, PP.ev_w36, PP.ev_w37, PP.evF_w0, PP.evF_w1, PP.evF_w2, PP.evR_w0, PP.evR_w1, PP.evR_w2, PP.evC_w0, PP.evC_w1, PP.evC_w2, PP.evC_w3, PP.ex_w0, PP.ex_w1, PP.ex_w2, PP.ex_w3, PP.ex_w4, PP.ex_w5, PP.ex_w6, PP.ex_w7, PP.ex_w8, PP.ex_w9, PP.ex_w10, PP.ex_w11, PP.ex_w12, PP.ex_w13, PP.ex_w14, PP.ex_w15, PP.ex_w16, PP.ex_w17, PP.ex_w18, PP.ex_w19, PP.ex_w20, PP.exs_w0, PP.exs_w1, PP.evT_w, PP.getS_0, PP.getS_s, PP.set_0, PP.set_s, PP.mul_1, PP.mul_m1, PP.fin_ok, PP.fin_exc, PP.finX_s, PP.finO_next, PP.finO_d, PP.finO_nw, PP.rdU_d, PP.rdU_nw, PP.rdU_sl, PP.rdS_fz, PP.rdS_ow, PP.rdS_io, PP.pend_d, PP.pend_nw, PP.pend_sl, PP.fzU_d, PP.fzU_nw, PP.fzU_sl, PP.asgU_d, PP.asgU_nw, PP.asgU_sl, PP.slOf_non, PP.slOf_bl, PP.slOf_int, PP.slOf_str, PP.slOf_tup, PP.slOf_lst, PP.slOf_dK, PP.isLs_ow, PP.isLs_io, PP.retU_d, PP.retU_nw, PP.retU_sl, PP.nrm_non, PP.nrm_bl, PP.nrm_int, PP.nrm_str, PP.nrm_tup, PP.nrm_lst, PP.nrm_dK, PP.setIO_ow, PP.setIO_io, PP.dupF_0, PP.dupF_1, PP.optP_f, PP.optP_t, PP.truD_bl, PP.truD_non, PP.truD_lst, PP.partD_eq, PP.ix_lst_0, PP.ix_lst_1, PP.ix_lst_2, PP.ix_lst_3, PP.ix_lst_4, PP.ix_lst_5, PP.ix_tup_0, PP.ix_tup_1, PP.ix_tup_2, PP.ix_tup_3, PP.ix_tup_4, PP.ix_tup_5, PP.ix_kst_0, PP.ix_kst_1, PP.ix_kst_2, PP.ix_kst_3, PP.ix_kst_4, PP.ix_kst_5, PP.set_l3_1, PP.set_l3_2, PP.bi_int_i, PP.bi_int_b, PP.bi_abs, PP.bi_len_l, PP.bi_len_t, PP.bi_isInt_non, PP.bi_isInt_bl, PP.bi_isInt_int, PP.bi_isInt_str, PP.bi_isInt_tup, PP.bi_isInt_lst, PP.bi_isInt_kst, PP.bi_isInt_dK, PP.bi_isBool_non, PP.bi_isBool_bl, PP.bi_isBool_int, PP.bi_isBool_str, PP.bi_isBool_tup, PP.bi_isBool_lst, PP.bi_isBool_kst, PP.bi_isBool_dK, PP.bi_isTuple_non, PP.bi_isTuple_bl, PP.bi_isTuple_int, PP.bi_isTuple_str, PP.bi_isTuple_tup, PP.bi_isTuple_lst, PP.bi_isTuple_kst, PP.bi_isTuple_dK, PP.bi_isList_non, PP.bi_isList_bl, PP.bi_isList_int, PP.bi_isList_str, PP.bi_isList_tup, PP.bi_isList_lst, PP.bi_isList_kst, PP.bi_isList_dK, PP.bi_isStr_non, PP.bi_isStr_bl, PP.bi_isStr_int, PP.bi_isStr_str, PP.bi_isStr_tup, PP.bi_isStr_lst, PP.bi_isStr_kst, PP.bi_isStr_dK, PP.le_lim, PP.lt_lim, PP.bi_isInt_dT, PP.bi_isBool_dT, PP.bi_isTuple_dT, PP.bi_isList_dT, PP.bi_isStr_dT, PP.pw_10_18, PP.o_gt_i, PP.o_lt_i, PP.o_ge_i, PP.o_le_i, PP.o_add_i, PP.o_sub_i, PP.o_neg_i, PP.o_eq_i, PP.o_ne_i, PP.o_eq_s, PP.o_ne_s, PP.o_eq_b, PP.ne_nil, PP.fldOf_o, PP.fldOf_e, PP.fldD_c, PP.putD_c, PP.putD_n, PP.isObj_o, PP.isObj_e, PP.isObj_non, PP.isObj_bl, PP.isObj_int, PP.isObj_str, PP.isObj_lst, PP.isObj_tup, PP.isObj_kst, PP.isObj_dK, PP.isCls_o, PP.isCls_e, PP.isCls_non, PP.isCls_bl, PP.isCls_int, PP.isCls_str, PP.isCls_lst, PP.isCls_tup, PP.isCls_kst, PP.isCls_dK, PP.runC_eq, PP.makeO_eq, PP.spec_eq, PP.allFz_0, PP.allFz_c, PP.recv_f, PP.recv_t, PP.ownOp_o, PP.ownIn_o, PP.ownNe_o, PP.opc_add, PP.opc_sub, PP.opc_mul, PP.opc_shl, PP.opc_shr, PP.opc_band, PP.opc_bor, PP.opc_lt, PP.opc_le, PP.opc_gt, PP.opc_ge, PP.opc_eq, PP.opc_ne, PP.okR_o, PP.okR_int, PP.okR_bl, PP.okR_non, PP.okR_str, PP.okR_lst, PP.okR_kst, PP.okR_tup, PP.cmp_lt, PP.cmp_le, PP.cmp_gt, PP.cmp_ge, PP.cmp_eq, PP.cmp_ne, PP.cmp_add, PP.cmp_sub, PP.cmp_band, PP.cmp_bor, PP.cmp_shl, PP.cmp_shr, PP.cmp_mul, PP.slOf_obj, PP.nrm_obj, PP.slOf_err, PP.hear_eq, PP.frz_0, PP.frz_c, PP.mask_c, PP.mask_n, PP.maskS_fz, PP.maskS_ow, PP.maskS_io, PP.maskS_un, PP.item_t, PP.item_l, PP.item_k, PP.bi_max2, PP.bi_min2, PP.bi_bool_b, PP.o_shr_i, PP.o_is_n, PP.o_isnot_n, PP.o_is_b, PP.o_isnot_b, PP.o_add_l, PP.o_mul_l, PP.set_l4_0, PP.set_l4_1, PP.set_l4_2, PP.set_l4_3, PP.ask_o, PP.outD_t, PP.outD_e, PP.keep_d, PP.noL_non, PP.noL_int, PP.noL_bl, PP.noL_str, PP.noL_tup, PP.noL_0, PP.noL_c, PP.evJ_0, PP.runF, PP.startE, PP.rdAll, PP.argsOf, PP.ioSlots, PP.putIO, PP.permL, PP.outsOf, PP.storeAll, PP.R.bind_ok, PP.R.bind_exc, PP.R.bind_bad, PP.orBad_some, PP.orBad_none, Int.reduceLE, Int.reduceLT, Int.reduceToNat, Int.reducePow, Int.reduceNeg, Int.reduceAdd, Int.reduceSub, Int.reduceMul, Int.reduceBEq, Int.cast_ofNat_Int, Int.natCast_zero, Int.natCast_one, Int.reduceBNe, Int.reduceEq, Int.reduceDiv, Int.reduceMod, Nat.reduceAdd, Nat.reduceMul, Nat.reduceSub, Nat.reducePow, Nat.reduceLeDiff, Nat.reduceLT, Nat.reduceEqDiff, Nat.reduceBEq, List.cons_append, List.nil_append, List.append_nil, Nat.zero_le, List.head?_cons, List.tail_cons, Option.map_some, Option.map_none, Option.bind_some, Option.bind_none, Bool.not_true, Bool.not_false, Bool.and_self, Bool.and_true, Bool.true_and, Bool.false_and, Bool.and_false, Bool.or_true, Bool.true_or, Bool.or_false, Bool.false_or, Bool.not_not, List.contains_cons, List.contains_nil, BEq.rfl, reduceCtorEq,
  eq_self, and_self, if_true, if_false, ite_true, ite_false, Bool.false_eq_true, reduceIte, List.length_cons, List.length_nil, List.filterMap_cons, List.filterMap_nil, List.getElem?_cons_zero, List.getElem?_cons_succ, List.map_cons, List.map_nil, List.replicate_succ, List.replicate_zero, List.flatten_cons, List.flatten_nil, List.reverse_cons, List.reverse_nil, decide_true, decide_false, Bool.not_eq_true, Bool.not_eq_false, Bool.cond_true, Bool.cond_false])
local macro_rules | `(tactic| walk_at "pq") => `(tactic| simp -implicitDefEqProofs (disch := first | assumption | (with_reducible show (_ : Bool) = _; exact id rfl) | (with_reducible show (_ : Int) < _; omega) | (with_reducible show (_ : Int) ≤ _; omega) | (with_reducible show (_ : Nat) ≤ _; omega) | (with_reducible show (_ : Nat) < _; omega) | exact id (by simp only [PP.wfD, PP.wfL, PP.dpD, PP.dpL, PP.ok_ofS, PP.ok_app, PP.ok_empty, Nat.max_self, Nat.zero_max, Nat.max_zero, Nat.reduceAdd, Nat.reduceLeDiff, Bool.and_self, PP.wf_ints, PP.dp_ints, Bool.and_true, Bool.true_and, *] ; done) | fail) only [*, PP.le_lim, PP.lt_lim, PP.o_shr_i, PP.shl_p, PP.mul_w, PP.fdiv_w, PP.mod_p, PP.pow_p, PP.nrm_mut, PP.op_eq, PP.op_ne, PP.v_str, PP.v_nil, PP.v_cons, PP.v_nc, PP.v_cn, PP.v_tup, PP.v_lst, PP.v_kl, PP.v_lt, PP.v_tl, PP.v_int, PP.v_bl, PP.v_nn, PP.v_nt, PP.v_tn, PP.v_ni, PP.v_in, PP.v_ints, PP.ev_w0, PP.ev_w1, PP.ev_w2, PP.ev_w3, PP.ev_w4, PP.ev_w5, PP.ev_w6, PP.ev_w7, PP.ev_w8, PP.ev_w9, PP.ev_w10, PP.ev_w11, PP.ev_w12, PP.ev_w13, PP.ev_w14, PP.ev_w15, PP.ev_w16, PP.ev_w17, PP.ev_w18, PP.ev_w19, PP.ev_w20, PP.ev_w21, PP.ev_w22, PP.ev_w23, PP.ev_w24, PP.ev_w25, PP.ev_w26, PP.ev_w27, PP.ev_w28, PP.ev_w29, PP.ev_w30, PP.ev_w31, PP.ev_w32, PP.ev_w33, PP.ev_w34, PP.ev_w35, PP.ev_w36, PP.ev_w37, PP.evF_w0, PP.evF_w1, PP.evF_w2, PP.evR_w0, PP.evR_w1, PP.evR_w2, PP.evC_w0, PP.evC_w1, PP.evC_w2, PP.evC_w3, PP.ex_w0, PP.ex_w1, PP.ex_w2, PP.ex_w3, PP.ex_w4, PP.ex_w5, PP.ex_w6, PP.ex_w7, PP.ex_w8, PP.ex_w9, PP.ex_w10, PP.ex_w11, PP.ex_w12, PP.ex_w13, PP.ex_w14, PP.ex_w15, PP.ex_w16, PP.ex_w17, PP.ex_w18, PP.ex_w19, PP.ex_w20, PP.exs_w0, PP.exs_w1, PP.evT_w, PP.getS_0, PP.getS_s, PP.set_0, PP.set_s, PP.mul_1, PP.mul_m1, PP.fin_ok, PP.fin_exc, PP.finX_s, PP.finO_next, PP.finO_d, PP.finO_nw, PP.rdU_d, PP.rdU_nw, PP.rdU_sl, PP.rdS_fz, PP.rdS_ow, PP.rdS_io, PP.pend_d, PP.pend_nw, PP.pend_sl, PP.fzU_d, PP.fzU_nw, PP.fzU_sl, PP.asgU_d, PP.asgU_nw, PP.asgU_sl, PP.slOf_non, PP.slOf_bl, PP.slOf_int, PP.slOf_str, PP.slOf_tup, PP.slOf_lst, PP.slOf_dK, PP.isLs_ow, PP.isLs_io, PP.retU_d, PP.retU_nw, PP.retU_sl, PP.nrm_non, PP.nrm_bl, PP.nrm_int, PP.nrm_str, PP.nrm_tup, PP.nrm_lst, PP.nrm_dK, PP.setIO_ow, PP.setIO_io, PP.dupF_0, PP.dupF_1, PP.optP_f, PP.optP_t, PP.truD_bl, PP.truD_non, PP.truD_lst, PP.partD_eq, PP.ix_lst_0, PP.ix_lst_1, PP.ix_lst_2, PP.ix_lst_3, PP.ix_lst_4, PP.ix_lst_5, PP.ix_tup_0, PP.ix_tup_1, PP.ix_tup_2, PP.ix_tup_3, PP.ix_tup_4, PP.ix_tup_5, PP.ix_kst_0, PP.ix_kst_1, PP.ix_kst_2, PP.ix_kst_3, PP.ix_kst_4, PP.ix_kst_5, PP.set_l3_1, PP.set_l3_2, PP.bi_int_i, PP.bi_int_b, PP.bi_abs, PP.bi_len_l, PP.bi_len_t, PP.bi_isInt_non, PP.bi_isInt_bl, PP.bi_isInt_int, PP.bi_isInt_str, PP.bi_isInt_tup, PP.bi_isInt_lst, PP.bi_isInt_kst, PP.bi_isInt_dK, PP.bi_isBool_non, PP.bi_isBool_bl, PP.bi_isBool_int, PP.bi_isBool_str, PP.bi_isBool_tup, PP.bi_isBool_lst, PP.bi_isBool_kst, PP.bi_isBool_dK, PP.bi_isTuple_non, PP.bi_isTuple_bl, PP.bi_isTuple_int, PP.bi_isTuple_str, PP.bi_isTuple_tup, PP.bi_isTuple_lst, PP.bi_isTuple_kst, PP.bi_isTuple_dK, PP.bi_isList_non, PP.bi_isList_bl, PP.bi_isList_int, PP.bi_isList_str, PP.bi_isList_tup, PP.bi_isList_lst, PP.bi_isList_kst, PP.bi_isList_dK, PP.bi_isStr_non, PP.bi_isStr_bl, PP.bi_isStr_int, PP.bi_isStr_str, PP.bi_isStr_tup, PP.bi_isStr_lst, PP.bi_isStr_kst, PP.bi_isStr_dK, PP.le_lim, PP.lt_lim, PP.bi_isInt_dT, PP.bi_isBool_dT, PP.bi_isTuple_dT, PP.bi_isList_dT, PP.bi_isStr_dT, PP.pw_10_18, PP.o_gt_i, PP.o_lt_i, PP.o_ge_i, PP.o_le_i, PP.o_add_i, PP.o_sub_i, PP.o_neg_i, PP.o_eq_i, PP.o_ne_i, PP.o_eq_s, PP.o_ne_s, PP.o_eq_b, PP.ne_nil, PP.fldOf_o, PP.fldOf_e, PP.fldD_c, PP.putD_c, PP.putD_n, PP.isObj_o, PP.isObj_e, PP.isObj_non, PP.isObj_bl, PP.isObj_int, PP.isObj_str, PP.isObj_lst, PP.isObj_tup, PP.isObj_kst, PP.isObj_dK, PP.isCls_o, PP.isCls_e, PP.isCls_non, PP.isCls_bl, PP.isCls_int, PP.isCls_str, PP.isCls_lst, PP.isCls_tup, PP.isCls_kst, PP.isCls_dK, PP.runC_eq, PP.makeO_eq, PP.spec_eq, PP.allFz_0, PP.allFz_c, PP.recv_f, PP.recv_t, PP.ownOp_o, PP.ownIn_o, PP.ownNe_o, PP.opc_add, PP.opc_sub, PP.opc_mul, PP.opc_shl, PP.opc_shr, PP.opc_band, PP.opc_bor, PP.opc_lt, PP.opc_le, PP.opc_gt, PP.opc_ge, PP.opc_eq, PP.opc_ne, PP.okR_o, PP.okR_int, PP.okR_bl, PP.okR_non, PP.okR_str, PP.okR_lst, PP.okR_kst, PP.okR_tup, PP.cmp_lt, PP.cmp_le, PP.cmp_gt, PP.cmp_ge, PP.cmp_eq, PP.cmp_ne, PP.cmp_add, PP.cmp_sub, PP.cmp_band, PP.cmp_bor, PP.cmp_shl, PP.cmp_shr, PP.cmp_mul, PP.slOf_obj, PP.nrm_obj, PP.slOf_err, PP.hear_eq, PP.frz_0, PP.frz_c, PP.mask_c, PP.mask_n, PP.maskS_fz, PP.maskS_ow, PP.maskS_io, PP.maskS_un, PP.item_t, PP.item_l, PP.item_k, PP.bi_max2, PP.bi_min2, PP.bi_bool_b, PP.o_shr_i, PP.o_is_n, PP.o_isnot_n, PP.o_is_b, PP.o_isnot_b, PP.o_add_l, PP.o_mul_l, PP.set_l4_0, PP.set_l4_1, PP.set_l4_2, PP.set_l4_3, PP.ask_o, PP.outD_t, PP.outD_e, PP.keep_d, PP.noL_non, PP.noL_int, PP.noL_bl, PP.noL_str, PP.noL_tup, PP.noL_0, PP.noL_c, PP.evJ_0, PP.runF, PP.startE, PP.rdAll, PP.argsOf, PP.ioSlots, PP.putIO, PP.permL, PP.outsOf, PP.storeAll, PP.R.bind_ok, PP.R.bind_exc, PP.R.bind_bad, PP.orBad_some, PP.orBad_none, Int.reduceLE, Int.reduceLT, Int.reduceToNat, Int.reducePow, Int.reduceNeg, Int.reduceAdd, Int.reduceSub, Int.reduceMul, Int.reduceBEq, Int.cast_ofNat_Int, Int.natCast_zero, Int.natCast_one, Int.reduceBNe, Int.reduceEq, Int.reduceDiv, Int.reduceMod, Nat.reduceAdd, Nat.reduceMul, Nat.reduceSub, Nat.reducePow, Nat.reduceLeDiff, Nat.reduceLT, Nat.reduceEqDiff, Nat.reduceBEq, List.cons_append, List.nil_append, List.append_nil, Nat.zero_le, List.head?_cons, List.tail_cons, Option.map_some, Option.map_none, Option.bind_some, Option.bind_none, Bool.not_true, Bool.not_false, Bool.and_self, Bool.and_true, Bool.true_and, Bool.false_and, Bool.and_false, Bool.or_true, Bool.true_or, Bool.or_false, Bool.false_or, Bool.not_not, List.contains_cons, List.contains_nil, BEq.rfl, reduceCtorEq,
  eq_self, and_self, if_true, if_false, ite_true, ite_false, Bool.false_eq_true, reduceIte, List.length_cons, List.length_nil, List.filterMap_cons, List.filterMap_nil, List.getElem?_cons_zero, List.getElem?_cons_succ, List.map_cons, List.map_nil, List.replicate_succ, List.replicate_zero, List.flatten_cons, List.flatten_nil, List.reverse_cons, List.reverse_nil, decide_true, decide_false, Bool.not_eq_true, Bool.not_eq_false, Bool.cond_true, Bool.cond_false])
local macro_rules | `(tactic| walk_at "px") => `(tactic| simp -implicitDefEqProofs (disch := first | assumption | (with_reducible show (_ : Bool) = _; exact id rfl) | (with_reducible show (_ : Int) < _; omega) | (with_reducible show (_ : Int) ≤ _; omega) | (with_reducible show (_ : Nat) ≤ _; omega) | (with_reducible show (_ : Nat) < _; omega) | fail) only [*, PP.le_lim, PP.lt_lim, PP.o_shr_i, PP.shl_p, PP.mul_w, PP.fdiv_w, PP.mod_p, PP.pow_p, PP.nrm_mut, PP.ev_w0, PP.ev_w1, PP.ev_w2, PP.ev_w3, PP.ev_w4, PP.ev_w5, PP.ev_w6, PP.ev_w7, PP.ev_w8, PP.ev_w9, PP.ev_w10, PP.ev_w11, PP.ev_w12, PP.ev_w13, PP.ev_w14, PP.ev_w15, PP.ev_w16, PP.ev_w17, PP.ev_w18, PP.ev_w19, PP.ev_w20, PP.ev_w21, PP.ev_w22, PP.ev_w23, PP.ev_w24, PP.ev_w25, PP.ev_w26, PP.ev_w27, PP.ev_w28, PP.ev_w29, PP.ev_w30, PP.ev_w31, PP.ev_w32, PP.ev_w33, PP.ev_w34, PP.ev_w35, PP.ev_w36, PP.ev_w37, PP.evF_w0, PP.evF_w1, PP.evF_w2, PP.evR_w0, PP.evR_w1, PP.evR_w2, PP.evC_w0, PP.evC_w1, PP.evC_w2, PP.evC_w3, PP.ex_w0, PP.ex_w1, PP.ex_w2, PP.ex_w3, PP.ex_w4, PP.ex_w5, PP.ex_w6, PP.ex_w7, PP.ex_w8, PP.ex_w9, PP.ex_w10, PP.ex_w11, PP.ex_w12, PP.ex_w13, PP.ex_w14, PP.ex_w15, PP.ex_w16, PP.ex_w17, PP.ex_w18, PP.ex_w19, PP.ex_w20, PP.exs_w0, PP.exs_w1, PP.evT_w, PP.getS_0, PP.getS_s, PP.set_0, PP.set_s, PP.mul_1, PP.mul_m1, PP.fin_ok, PP.fin_exc, PP.finX_s, PP.finO_next, PP.finO_d, PP.finO_nw, PP.rdU_d, PP.rdU_nw, PP.rdU_sl, PP.rdS_fz, PP.rdS_ow, PP.rdS_io, PP.pend_d, PP.pend_nw, PP.pend_sl, PP.fzU_d, PP.fzU_nw, PP.fzU_sl, PP.asgU_d, PP.asgU_nw, PP.asgU_sl, PP.slOf_non, PP.slOf_bl, PP.slOf_int, PP.slOf_str, PP.slOf_tup, PP.slOf_lst, PP.slOf_dK, PP.isLs_ow, PP.isLs_io, PP.retU_d, PP.retU_nw, PP.retU_sl, PP.nrm_non, PP.nrm_bl, PP.nrm_int, PP.nrm_str, PP.nrm_tup, PP.nrm_lst, PP.nrm_dK, PP.setIO_ow, PP.setIO_io, PP.dupF_0, PP.dupF_1, PP.optP_f, PP.optP_t, PP.truD_bl, PP.truD_non, PP.truD_lst, PP.partD_eq, PP.ix_lst_0, PP.ix_lst_1, PP.ix_lst_2, PP.ix_lst_3, PP.ix_lst_4, PP.ix_lst_5, PP.ix_tup_0, PP.ix_tup_1, PP.ix_tup_2, PP.ix_tup_3, PP.ix_tup_4, PP.ix_tup_5, PP.ix_kst_0, PP.ix_kst_1, PP.ix_kst_2, PP.ix_kst_3, PP.ix_kst_4, PP.ix_kst_5, PP.set_l3_1, PP.set_l3_2, PP.bi_int_i, PP.bi_int_b, PP.bi_abs, PP.bi_len_l, PP.bi_len_t, PP.bi_isInt_non, PP.bi_isInt_bl, PP.bi_isInt_int, PP.bi_isInt_str, PP.bi_isInt_tup, PP.bi_isInt_lst, PP.bi_isInt_kst, PP.bi_isInt_dK, PP.bi_isBool_non, PP.bi_isBool_bl, PP.bi_isBool_int, PP.bi_isBool_str, PP.bi_isBool_tup, PP.bi_isBool_lst, PP.bi_isBool_kst, PP.bi_isBool_dK, PP.bi_isTuple_non, PP.bi_isTuple_bl, PP.bi_isTuple_int, PP.bi_isTuple_str, PP.bi_isTuple_tup, PP.bi_isTuple_lst, PP.bi_isTuple_kst, PP.bi_isTuple_dK, PP.bi_isList_non, PP.bi_isList_bl, PP.bi_isList_int, PP.bi_isList_str, PP.bi_isList_tup, PP.bi_isList_lst, PP.bi_isList_kst, PP.bi_isList_dK, PP.bi_isStr_non, PP.bi_isStr_bl, PP.bi_isStr_int, PP.bi_isStr_str, PP.bi_isStr_tup, PP.bi_isStr_lst, PP.bi_isStr_kst, PP.bi_isStr_dK, PP.le_lim, PP.lt_lim, PP.bi_isInt_dT, PP.bi_isBool_dT, PP.bi_isTuple_dT, PP.bi_isList_dT, PP.bi_isStr_dT, PP.pw_10_18, PP.o_gt_i, PP.o_lt_i, PP.o_ge_i, PP.o_le_i, PP.o_add_i, PP.o_sub_i, PP.o_neg_i, PP.o_eq_i, PP.o_ne_i, PP.o_eq_s, PP.o_ne_s, PP.o_eq_b, PP.ne_nil, PP.fldOf_o, PP.fldOf_e, PP.fldD_c, PP.putD_c, PP.putD_n, PP.isObj_o, PP.isObj_e, PP.isObj_non, PP.isObj_bl, PP.isObj_int, PP.isObj_str, PP.isObj_lst, PP.isObj_tup, PP.isObj_kst, PP.isObj_dK, PP.isCls_o, PP.isCls_e, PP.isCls_non, PP.isCls_bl, PP.isCls_int, PP.isCls_str, PP.isCls_lst, PP.isCls_tup, PP.isCls_kst, PP.isCls_dK, PP.runC_eq, PP.makeO_eq, PP.spec_eq, PP.allFz_0, PP.allFz_c, PP.recv_f, PP.recv_t, PP.ownOp_o, PP.ownIn_o, PP.ownNe_o, PP.opc_add, PP.opc_sub, PP.opc_mul, PP.opc_shl, PP.opc_shr, PP.opc_band, PP.opc_bor, PP.opc_lt, PP.opc_le, PP.opc_gt, PP.opc_ge, PP.opc_eq, PP.opc_ne, PP.okR_o, PP.okR_int, PP.okR_bl, PP.okR_non, PP.okR_str, PP.okR_lst, PP.okR_kst, PP.okR_tup, PP.cmp_lt, PP.cmp_le, PP.cmp_gt, PP.cmp_ge, PP.cmp_eq, PP.cmp_ne, PP.cmp_add, PP.cmp_sub, PP.cmp_band, PP.cmp_bor, PP.cmp_shl, PP.cmp_shr, PP.cmp_mul, PP.slOf_obj, PP.nrm_obj, PP.slOf_err, PP.hear_eq, PP.frz_0, PP.frz_c, PP.mask_c, PP.mask_n, PP.maskS_fz, PP.maskS_ow, PP.maskS_io, PP.maskS_un, PP.item_t, PP.item_l, PP.item_k, PP.bi_max2, PP.bi_min2, PP.bi_bool_b, PP.o_shr_i, PP.o_is_n, PP.o_isnot_n, PP.o_is_b, PP.o_isnot_b, PP.o_add_l, PP.o_mul_l, PP.set_l4_0, PP.set_l4_1, PP.set_l4_2, PP.set_l4_3, PP.ask_o, PP.outD_t, PP.outD_e, PP.keep_d, PP.noL_non, PP.noL_int, PP.noL_bl, PP.noL_str, PP.noL_tup, PP.noL_0, PP.noL_c, PP.evJ_0, PP.runF, PP.startE, PP.rdAll, PP.argsOf, PP.ioSlots, PP.putIO, PP.permL, PP.outsOf, PP.storeAll, PP.R.bind_ok, PP.R.bind_exc, PP.R.bind_bad, PP.orBad_some, PP.orBad_none, Int.reduceLE, Int.reduceLT, Int.reduceToNat, Int.reducePow, Int.reduceNeg, Int.reduceAdd, Int.reduceSub, Int.reduceMul, Int.reduceBEq, Int.cast_ofNat_Int, Int.natCast_zero, Int.natCast_one, Int.reduceBNe, Int.reduceEq, Int.reduceDiv, Int.reduceMod, Nat.reduceAdd, Nat.reduceMul, Nat.reduceSub, Nat.reducePow, Nat.reduceLeDiff, Nat.reduceLT, Nat.reduceEqDiff, Nat.reduceBEq, List.cons_append, List.nil_append, List.append_nil, Nat.zero_le, List.head?_cons, List.tail_cons, Option.map_some, Option.map_none, Option.bind_some, Option.bind_none, Bool.not_true, Bool.not_false, Bool.and_self, Bool.and_true, Bool.true_and, Bool.false_and, Bool.and_false, Bool.or_true, Bool.true_or, Bool.or_false, Bool.false_or, Bool.not_not, List.contains_cons, List.contains_nil, BEq.rfl, reduceCtorEq,
  eq_self, and_self, if_true, if_false, ite_true, ite_false, Bool.false_eq_true, reduceIte, List.length_cons, List.length_nil, List.filterMap_cons, List.filterMap_nil, List.getElem?_cons_zero, List.getElem?_cons_succ, List.map_cons, List.map_nil, List.replicate_succ, List.replicate_zero, List.flatten_cons, List.flatten_nil, List.reverse_cons, List.reverse_nil, decide_true, decide_false, Bool.not_eq_true, Bool.not_eq_false, Bool.cond_true, Bool.cond_false])
namespace LW
open PP PySem L2
theorem lam_eq (k : Nat) (o : D) : calls fs (k + 1) 504 [.fz o] = finR [] (exs (askCl o (calls fs k)) fn30.body [.fn, .un, .un]) := rfl
abbrev S_heard (g : Gf) : Prop := (∀ d, g [.fz (.tup [.non, d])] = .ok (.d .non) []) ∧ (∀ p, g [.fz (.err 3 [1] [.str p])] = .ok (.d (.tup [.str "box", .str p])) []) ∧
  (∀ d s, biD .repr [d] = some (.str s) → g [.fz (.err 4 [0] [d])] = .ok (.d (.tup [.str "many", .str s])) []) ∧ ∀ d s, biD .repr [d] = some (.str s) → g [.fz (.err 2 [0] [d])] = .ok (.d (.tup [.str "level", .str s])) []
theorem k_heard {k : Nat} : S_heard (calls fs (k + 1) 504) := by
  refine ⟨fun d => ?_, fun p => ?_, fun d s h => ?_, fun d s h => ?_⟩
  · rw [lam_eq]
    simp only [fn30]
    walk_at "px"
  · rw [lam_eq]
    simp only [fn30]
    walk_at "px"
  · rw [lam_eq]
    simp only [fn30]
    walk_at "px"
  · rw [lam_eq]
    simp only [fn30]
    walk_at "px"
theorem k_top {k : Nat} : calls fs (k + 1) 500 [] = .ok (.d (.int 1267650600228229401496703205376)) [] := by
  rw [calls_eq fs k 500 (F := fn26) rfl]
  rfl
theorem bad_ok {x y w h : D} {p : Str} (e : boxBad x y w h = some p) : PyData.strOk p = true := by
  unfold boxBad at e
  repeat' split at e
  all_goals first | (cases e; exact ok_ofS _) | cases e
theorem k_odd {k n : Nat} {p : D} {at_ : Int} (hp : PenOk n p) (hn : n ≤ 900000) (h0 : 0 ≤ at_) (h4 : at_ < 4) : ∃ d p', calls fs (k + 3) 505 [.io p, .fz (.int at_)] = .ok (.d d) [p'] ∧ PenOk (n + 1) p' ∧ isClsD d = false ∧
    (at_ < 2 → btw d 0 1267650600228229401496703205375 = false) ∧ (¬ at_ < 2 → btw d 1 1267650600228229401496703205376 = false) := by
  rw [calls_eq fs (k + 2) 505 (F := fn31) rfl]
  have ht := @k_top (k + 1)
  have hpk := @k_pick k
  generalize calls fs (k + 2) = cl at *
  simp only [fn31]
  walk_at "px"
  by_cases h2 : at_ < 2
  · simp only [h2, decide_true]
    walk_at "px"
    generalize hrc : cl 503 _ = rc
    obtain ⟨d, hd, p2, rfl, h5⟩ := use_pick hpk hrc hp (by omega) (by decide) (by decide)
    walk_at "px"
    refine ⟨_, _, rfl, h5, ?_⟩
    simp only [List.mem_cons, List.not_mem_nil, or_false] at hd
    rcases hd with rfl | rfl | rfl | rfl | rfl | rfl | rfl | rfl | rfl | rfl | rfl <;> exact ⟨rfl, fun _ => by decide, fun z => absurd trivial z⟩
  · simp only [h2, decide_false]
    walk_at "px"
    generalize hrc : cl 503 _ = rc
    obtain ⟨d, hd, p2, rfl, h5⟩ := use_pick hpk hrc hp (by omega) (by decide) (by decide)
    walk_at "px"
    refine ⟨_, _, rfl, h5, ?_⟩
    simp only [List.mem_cons, List.not_mem_nil, or_false] at hd
    rcases hd with rfl | rfl | rfl | rfl | rfl | rfl | rfl | rfl | rfl | rfl | rfl | rfl <;> exact ⟨rfl, fun z => z.elim, fun _ => by decide⟩

theorem use_pickI {cl : CallF} {f : Nat} (h : PickOk cl f) {n : Nat} {p : D} {xs : List D} {rc : RC} (lo hi : Int) (hr : cl f [.io p, .fz (.lst xs)] = rc) (hp : PenOk n p) (hn : n ≤ 1000000) (h0 : 0 < xs.length) (h1 : xs.length < 1000) (hx : (xs.all fun d => btw d lo hi) = true) :
    ∃ i p', rc = .ok (.d (.int i)) [p'] ∧ PenOk (n + 1) p' ∧ btw (.int i) lo hi = true := by
  obtain ⟨d, hd, p', e, h2⟩ := use_pick h hr hp hn h0 h1
  have := List.all_eq_true.mp hx d hd
  cases d with
  | int i => exact ⟨i, p', e, h2, this⟩
  | _ => cases this
def oD : Option Str → D | none => .non | some p => .str p
def oT : Option Str → D | none => .non | some p => .tup [.str "box", .str p]
theorem k_made {k n : Nat} {p : D} (hp : PenOk n p) (hn : n ≤ 800000) : ∃ p', calls fs (k + 6) 506 [.io p] = .ok (.d (.bl true)) [p'] ∧ PenOk (n + 12) p' := by
  rw [calls_eq fs (k + 5) 506 (F := fn32) rfl]
  have ht := @k_top (k + 4)
  have hpk := @k_pick (k + 3)
  have hdr := @k_draw (k + 4)
  have hh := @k_heard (k + 4)
  have hB := @k_Box__init__ (k + 2)
  have hod := @k_odd (k + 2)
  generalize calls fs (k + 5) = cl at *
  simp only [fn32]
  walk_at "px"
  generalize hrc : cl 503 _ = rc
  obtain ⟨x, p1, rfl, h1, bx⟩ := use_pickI hpk 0 1267650600228229401496703205375 hrc hp (by omega) (by decide) (by decide) (by decide)
  walk_at "px"
  generalize hrc : cl 503 _ = rc
  obtain ⟨y, p2, rfl, h2, by_⟩ := use_pickI hpk 0 1267650600228229401496703205375 hrc h1 (by omega) (by decide) (by decide) (by decide)
  walk_at "px"
  generalize hrc : cl 503 _ = rc
  obtain ⟨w, p3, rfl, h3, bw⟩ := use_pickI hpk 1 1267650600228229401496703205376 hrc h2 (by omega) (by decide) (by decide) (by decide)
  walk_at "px"
  generalize hrc : cl 503 _ = rc
  obtain ⟨h, p4, rfl, h4, bh⟩ := use_pickI hpk 1 1267650600228229401496703205376 hrc h3 (by omega) (by decide) (by decide) (by decide)
  have bb : boxBad (.int x) (.int y) (.int w) (.int h) = none := by simp only [boxBad, bx, by_, bw, bh]
  walk_at "px"
  generalize hq : forD _ _ _ _ = q
  have hf := use_forI hq (fun j env => ∃ p a b c d s4, PenOk (n + 4 + 2 * j) p ∧ env = [.io p, .ow (.lst [a, b, c, d]), .fz (.lst [.str "x", .str "y", .str "width", .str "height"]), .fz (oD (boxBad a b c d)), s4, .un, .un] ∧
    isClsD a = false ∧ isClsD b = false ∧ isClsD c = false ∧ isClsD d = false ∧ (j = 0 → btw a 0 1267650600228229401496703205375 = true) ∧ (j ≤ 1 → btw b 0 1267650600228229401496703205375 = true) ∧ (j ≤ 2 → btw c 1 1267650600228229401496703205376 = true) ∧ (j ≤ 3 → btw d 1 1267650600228229401496703205376 = true))
    ⟨p4, .int x, .int y, .int w, .int h, .un, h4, by rw [bb]; rfl, rfl, rfl, rfl, rfl, fun _ => bx, fun _ => by_, fun _ => bw, fun _ => bh⟩
  obtain ⟨env', rfl, p5, a, b, c, d, s4, h5, rfl, na, nb, nc, nd, _⟩ := hf (by
    rintro j e env hj ⟨p, a, b, c, d, s4, hp, rfl, na, nb, nc, nd, fa, fb, fc, fd⟩
    clear hf
    have hj4 : j < 4 := by
      have := (List.getElem?_eq_some_iff.mp hj).1
      simpa using this
    rcases (show j = 0 ∨ j = 1 ∨ j = 2 ∨ j = 3 by omega) with rfl | rfl | rfl | rfl
    · cases hj
      walk_at "px"
      generalize hrc : cl 502 _ = rc
      obtain ⟨r, p6, rfl, _, _, h6⟩ := use_draw hdr hrc hp (by omega) (by decide) (by decide)
      walk_at "px"
      cases hr : (r == 0) with
      | false =>
        walk_at "px"
        exact ⟨_, rfl, p6, a, b, c, d, _, h6.mono (by omega), rfl, na, nb, nc, nd, (by first | trivial | exact fun z => absurd z (by decide) | exact fun _ => fa (by decide)), (by first | trivial | exact fun z => absurd z (by decide) | exact fun _ => fb (by decide)), (by first | trivial | exact fun z => absurd z (by decide) | exact fun _ => fc (by decide)), (by first | trivial | exact fun z => absurd z (by decide) | exact fun _ => fd (by decide))⟩
      | true =>
        walk_at "px"
        obtain ⟨v, p7, e7, h7, nv, f1, f2⟩ := hod (at_ := 0) h6 (by omega) (by decide) (by decide)
        have f := f1 (by decide)
        clear f1 f2
        rw [e7]
        walk_at "px"
        have o : boxBad a b c d = none := by simp only [boxBad, fa (by decide), fb (by decide), fc (by decide), fd (by decide)]
        have o' : boxBad v b c d = some (Str.ofString "x") := by simp only [boxBad, fa (by decide), fb (by decide), fc (by decide), fd (by decide), f]
        rw [o]
        simp only [oD]
        walk_at "px"
        exact ⟨_, rfl, p7, v, b, c, d, _, h7.mono (by omega), by rw [o'], nv, nb, nc, nd, (by first | trivial | exact fun z => absurd z (by decide)), (by first | trivial | exact fun _ => fb (by decide)), (by first | trivial | exact fun _ => fc (by decide)), (by first | trivial | exact fun _ => fd (by decide))⟩
    · cases hj
      walk_at "px"
      generalize hrc : cl 502 _ = rc
      obtain ⟨r, p6, rfl, _, _, h6⟩ := use_draw hdr hrc hp (by omega) (by decide) (by decide)
      walk_at "px"
      cases hr : (r == 0) with
      | false =>
        walk_at "px"
        exact ⟨_, rfl, p6, a, b, c, d, _, h6.mono (by omega), rfl, na, nb, nc, nd, (by first | trivial | exact fun z => absurd z (by decide) | exact fun _ => fa (by decide)), (by first | trivial | exact fun z => absurd z (by decide) | exact fun _ => fb (by decide)), (by first | trivial | exact fun z => absurd z (by decide) | exact fun _ => fc (by decide)), (by first | trivial | exact fun z => absurd z (by decide) | exact fun _ => fd (by decide))⟩
      | true =>
        walk_at "px"
        obtain ⟨v, p7, e7, h7, nv, f1, f2⟩ := hod (at_ := 1) h6 (by omega) (by decide) (by decide)
        have f := f1 (by decide)
        clear f1 f2
        rw [e7]
        walk_at "px"
        cases ha : btw a 0 1267650600228229401496703205375 with
        | false =>
          have o : boxBad a b c d = some (Str.ofString "x") := by simp only [boxBad, ha]
          have o' : boxBad a v c d = some (Str.ofString "x") := by simp only [boxBad, ha, f]
          rw [o]
          simp only [oD]
          walk_at "px"
          exact ⟨_, rfl, p7, a, v, c, d, _, h7.mono (by omega), by rw [o'], na, nv, nc, nd, (by first | trivial | exact fun z => absurd z (by decide)), (by first | trivial | exact fun z => absurd z (by decide)), (by first | trivial | exact fun _ => fc (by decide)), (by first | trivial | exact fun _ => fd (by decide))⟩
        | true =>
          have o : boxBad a b c d = none := by simp only [boxBad, ha, fb (by decide), fc (by decide), fd (by decide)]
          have o' : boxBad a v c d = some (Str.ofString "y") := by simp only [boxBad, ha, fb (by decide), fc (by decide), fd (by decide), f]
          rw [o]
          simp only [oD]
          walk_at "px"
          exact ⟨_, rfl, p7, a, v, c, d, _, h7.mono (by omega), by rw [o'], na, nv, nc, nd, (by first | trivial | exact fun z => absurd z (by decide)), (by first | trivial | exact fun z => absurd z (by decide)), (by first | trivial | exact fun _ => fc (by decide)), (by first | trivial | exact fun _ => fd (by decide))⟩
    · cases hj
      walk_at "px"
      generalize hrc : cl 502 _ = rc
      obtain ⟨r, p6, rfl, _, _, h6⟩ := use_draw hdr hrc hp (by omega) (by decide) (by decide)
      walk_at "px"
      cases hr : (r == 0) with
      | false =>
        walk_at "px"
        exact ⟨_, rfl, p6, a, b, c, d, _, h6.mono (by omega), rfl, na, nb, nc, nd, (by first | trivial | exact fun z => absurd z (by decide) | exact fun _ => fa (by decide)), (by first | trivial | exact fun z => absurd z (by decide) | exact fun _ => fb (by decide)), (by first | trivial | exact fun z => absurd z (by decide) | exact fun _ => fc (by decide)), (by first | trivial | exact fun z => absurd z (by decide) | exact fun _ => fd (by decide))⟩
      | true =>
        walk_at "px"
        obtain ⟨v, p7, e7, h7, nv, f1, f2⟩ := hod (at_ := 2) h6 (by omega) (by decide) (by decide)
        have f := f2 (by decide)
        clear f1 f2
        rw [e7]
        walk_at "px"
        cases ha : btw a 0 1267650600228229401496703205375 with
        | false =>
          have o : boxBad a b c d = some (Str.ofString "x") := by simp only [boxBad, ha]
          have o' : boxBad a b v d = some (Str.ofString "x") := by simp only [boxBad, ha, f]
          rw [o]
          simp only [oD]
          walk_at "px"
          exact ⟨_, rfl, p7, a, b, v, d, _, h7.mono (by omega), by rw [o'], na, nb, nv, nd, (by first | trivial | exact fun z => absurd z (by decide)), (by first | trivial | exact fun z => absurd z (by decide)), (by first | trivial | exact fun z => absurd z (by decide)), (by first | trivial | exact fun _ => fd (by decide))⟩
        | true =>
          cases hb : btw b 0 1267650600228229401496703205375 with
          | false =>
            have o : boxBad a b c d = some (Str.ofString "y") := by simp only [boxBad, ha, hb]
            have o' : boxBad a b v d = some (Str.ofString "y") := by simp only [boxBad, ha, hb, f]
            rw [o]
            simp only [oD]
            walk_at "px"
            exact ⟨_, rfl, p7, a, b, v, d, _, h7.mono (by omega), by rw [o'], na, nb, nv, nd, (by first | trivial | exact fun z => absurd z (by decide)), (by first | trivial | exact fun z => absurd z (by decide)), (by first | trivial | exact fun z => absurd z (by decide)), (by first | trivial | exact fun _ => fd (by decide))⟩
          | true =>
            have o : boxBad a b c d = none := by simp only [boxBad, ha, hb, fc (by decide), fd (by decide)]
            have o' : boxBad a b v d = some (Str.ofString "width") := by simp only [boxBad, ha, hb, fc (by decide), fd (by decide), f]
            rw [o]
            simp only [oD]
            walk_at "px"
            exact ⟨_, rfl, p7, a, b, v, d, _, h7.mono (by omega), by rw [o'], na, nb, nv, nd, (by first | trivial | exact fun z => absurd z (by decide)), (by first | trivial | exact fun z => absurd z (by decide)), (by first | trivial | exact fun z => absurd z (by decide)), (by first | trivial | exact fun _ => fd (by decide))⟩
    · cases hj
      walk_at "px"
      generalize hrc : cl 502 _ = rc
      obtain ⟨r, p6, rfl, _, _, h6⟩ := use_draw hdr hrc hp (by omega) (by decide) (by decide)
      walk_at "px"
      cases hr : (r == 0) with
      | false =>
        walk_at "px"
        exact ⟨_, rfl, p6, a, b, c, d, _, h6.mono (by omega), rfl, na, nb, nc, nd, (by first | trivial | exact fun z => absurd z (by decide) | exact fun _ => fa (by decide)), (by first | trivial | exact fun z => absurd z (by decide) | exact fun _ => fb (by decide)), (by first | trivial | exact fun z => absurd z (by decide) | exact fun _ => fc (by decide)), (by first | trivial | exact fun z => absurd z (by decide) | exact fun _ => fd (by decide))⟩
      | true =>
        walk_at "px"
        obtain ⟨v, p7, e7, h7, nv, f1, f2⟩ := hod (at_ := 3) h6 (by omega) (by decide) (by decide)
        have f := f2 (by decide)
        clear f1 f2
        rw [e7]
        walk_at "px"
        cases ha : btw a 0 1267650600228229401496703205375 with
        | false =>
          have o : boxBad a b c d = some (Str.ofString "x") := by simp only [boxBad, ha]
          have o' : boxBad a b c v = some (Str.ofString "x") := by simp only [boxBad, ha, f]
          rw [o]
          simp only [oD]
          walk_at "px"
          exact ⟨_, rfl, p7, a, b, c, v, _, h7.mono (by omega), by rw [o'], na, nb, nc, nv, (by first | trivial | exact fun z => absurd z (by decide)), (by first | trivial | exact fun z => absurd z (by decide)), (by first | trivial | exact fun z => absurd z (by decide)), (by first | trivial | exact fun z => absurd z (by decide))⟩
        | true =>
          cases hb : btw b 0 1267650600228229401496703205375 with
          | false =>
            have o : boxBad a b c d = some (Str.ofString "y") := by simp only [boxBad, ha, hb]
            have o' : boxBad a b c v = some (Str.ofString "y") := by simp only [boxBad, ha, hb, f]
            rw [o]
            simp only [oD]
            walk_at "px"
            exact ⟨_, rfl, p7, a, b, c, v, _, h7.mono (by omega), by rw [o'], na, nb, nc, nv, (by first | trivial | exact fun z => absurd z (by decide)), (by first | trivial | exact fun z => absurd z (by decide)), (by first | trivial | exact fun z => absurd z (by decide)), (by first | trivial | exact fun z => absurd z (by decide))⟩
          | true =>
            cases hc : btw c 1 1267650600228229401496703205376 with
            | false =>
              have o : boxBad a b c d = some (Str.ofString "width") := by simp only [boxBad, ha, hb, hc]
              have o' : boxBad a b c v = some (Str.ofString "width") := by simp only [boxBad, ha, hb, hc, f]
              rw [o]
              simp only [oD]
              walk_at "px"
              exact ⟨_, rfl, p7, a, b, c, v, _, h7.mono (by omega), by rw [o'], na, nb, nc, nv, (by first | trivial | exact fun z => absurd z (by decide)), (by first | trivial | exact fun z => absurd z (by decide)), (by first | trivial | exact fun z => absurd z (by decide)), (by first | trivial | exact fun z => absurd z (by decide))⟩
            | true =>
              have o : boxBad a b c d = none := by simp only [boxBad, ha, hb, hc, fd (by decide)]
              have o' : boxBad a b c v = some (Str.ofString "height") := by simp only [boxBad, ha, hb, hc, fd (by decide), f]
              rw [o]
              simp only [oD]
              walk_at "px"
              exact ⟨_, rfl, p7, a, b, c, v, _, h7.mono (by omega), by rw [o'], na, nb, nc, nv, (by first | trivial | exact fun z => absurd z (by decide)), (by first | trivial | exact fun z => absurd z (by decide)), (by first | trivial | exact fun z => absurd z (by decide)), (by first | trivial | exact fun z => absurd z (by decide))⟩)
  clear hf
  walk_at "px"
  cases o : boxBad a b c d with
  | none =>
    simp only [oD]
    walk_at "pq"
    exact ⟨_, rfl, h5.mono (by simp)⟩
  | some q =>
    have hq := bad_ok o
    simp only [oD]
    walk_at "pq"
    exact ⟨_, rfl, h5.mono (by simp)⟩
theorem box_small {x y w h : Int} (hx : 0 ≤ x) (hx' : x < 9) (hy : 0 ≤ y) (hy' : y < 9) (hw : 0 ≤ w) (hw' : w < 9) (hh : 0 ≤ h) (hh' : h < 9) : boxBad (.int x) (.int y) (.int (1 + w)) (.int (1 + h)) = none := by
  have a1 : x ≤ 1267650600228229401496703205375 := by omega
  have a2 : y ≤ 1267650600228229401496703205375 := by omega
  have a3 : 1 + w ≤ 1267650600228229401496703205376 := by omega
  have a4 : 1 + h ≤ 1267650600228229401496703205376 := by omega
  have a5 : 1 ≤ 1 + w := by omega
  have a6 : 1 ≤ 1 + h := by omega
  simp only [boxBad, btw, a1, a2, a3, a4, a5, a6, hx, hy, decide_true, Bool.and_self]
/-- what repr gives for the wrong numbers -/
def isRp (d : D) : Prop := ∃ s, biD .repr [d] = some (.str s) ∧ PyData.strOk s = true
theorem k_signs {k n : Nat} {p : D} (hp : PenOk n p) (hn : n ≤ 800000) : ∃ p', calls fs (k + 6) 507 [.io p] = .ok (.d (.bl true)) [p'] ∧ PenOk (n + 7) p' := by
  rw [calls_eq fs (k + 5) 507 (F := fn33) rfl]
  have hpk := @k_pick (k + 3)
  have hdr := @k_draw (k + 4)
  have hh := @k_heard (k + 4)
  have hB := @k_Box__init__ (k + 2)
  have hS := @k_Box__str__ (k + 4)
  have i1 := (@k_Box__and__ k).1
  have i2 := (@k_Box__or__ k).1
  have i3 := (@k_Box__le__ (k + 3)).1
  have i4 := (@k_Box__lt__ (k + 3)).1
  have i5 := (@k_Box__ge__ (k + 3)).1
  have i6 := (@k_Box__gt__ (k + 3)).1
  have i7 := (@k_Box__add__ k).1
  have i8 := (@k_Box__sub__ k).1
  have i9 := (@k_Box__lshift__ (k + 1)).1
  have i10 := (@k_Box__rshift__ (k + 1)).1
  generalize calls fs (k + 5) = cl at *
  simp only [fn33]
  walk_at "px"
  generalize hrc : cl 502 _ = rc
  obtain ⟨x, p1, rfl, x0, x1, h1⟩ := use_draw hdr hrc hp (by omega) (by decide) (by decide)
  walk_at "px"
  generalize hrc : cl 502 _ = rc
  obtain ⟨y, p2, rfl, y0, y1, h2⟩ := use_draw hdr hrc h1 (by omega) (by decide) (by decide)
  walk_at "px"
  generalize hrc : cl 502 _ = rc
  obtain ⟨w, p3, rfl, w0, w1, h3⟩ := use_draw hdr hrc h2 (by omega) (by decide) (by decide)
  walk_at "px"
  generalize hrc : cl 502 _ = rc
  obtain ⟨h, p4, rfl, h0, h1', h4⟩ := use_draw hdr hrc h3 (by omega) (by decide) (by decide)
  have bb := box_small x0 x1 y0 y1 w0 w1 h0 h1'
  walk_at "pp"
  rw [hB _ _ _ _ rfl rfl rfl rfl, bb]
  have sx : smI x := ⟨by omega, by omega⟩
  have sy : smI y := ⟨by omega, by omega⟩
  have sw : smI (1 + w) := ⟨by omega, by omega⟩
  have sh : smI (1 + h) := ⟨by omega, by omega⟩
  walk_at "pp"
  rw [hS _ _ _ _ sx sy sw sh]
  walk_at "pp"
  generalize hrc : cl 503 _ = rc
  obtain ⟨d, hd, p5, rfl, h5⟩ := use_pick hpk hrc h4 (by omega) (by decide) (by decide)
  have d1 : isClsD d = false ∧ isBx d = false ∧ okR .band [0, 1, 2, 3, 4, 5, 6] 5 d = true ∧ okR .bor [0, 1, 2, 3, 4, 5, 6] 5 d = true := by
    simp only [List.mem_cons, List.not_mem_nil, or_false] at hd
    rcases hd with rfl | rfl | rfl | rfl | rfl | rfl | rfl | rfl <;> exact ⟨rfl, rfl, rfl, rfl⟩
  have d2 : okR .le [0, 1, 2, 3, 4, 5, 6] 5 d = true ∧ okR .lt [0, 1, 2, 3, 4, 5, 6] 5 d = true ∧ okR .ge [0, 1, 2, 3, 4, 5, 6] 5 d = true ∧ okR .gt [0, 1, 2, 3, 4, 5, 6] 5 d = true := by
    simp only [List.mem_cons, List.not_mem_nil, or_false] at hd
    rcases hd with rfl | rfl | rfl | rfl | rfl | rfl | rfl | rfl <;> exact ⟨rfl, rfl, rfl, rfl⟩
  obtain ⟨d1, d3, d4, d5⟩ := d1
  obtain ⟨d6, d7, d8, d9⟩ := d2
  walk_at "px"
  walk_at "pq"
  generalize hrc : cl 503 _ = rc
  obtain ⟨mv, hmv, p6, rfl, h6⟩ := use_pick hpk hrc h5 (by omega) (by simp) (by simp)
  have d2 : okV mv = true ∧ isP mv = false ∧ okR .add [0, 1, 2, 3, 4, 5, 6] 5 mv = true ∧ okR .sub [0, 1, 2, 3, 4, 5, 6] 5 mv = true := by
    simp only [List.mem_cons, List.not_mem_nil, or_false] at hmv
    rcases hmv with rfl | rfl | rfl | rfl | rfl | rfl | rfl | rfl | rfl | rfl | rfl | rfl <;> exact ⟨rfl, rfl, rfl, rfl⟩
  obtain ⟨m1, m2, m3, m4⟩ := d2
  clear d1 d3 d4 d5 d6 d7 d8 d9 hd hmv
  walk_at "px"
  walk_at "pq"
  generalize hrc : cl 503 _ = rc
  obtain ⟨nv, hnv, p7, rfl, h7⟩ := use_pick hpk hrc h6 (by omega) (by decide) (by decide)
  have d3 : isRp nv ∧ isClsD nv = false ∧ btw nv 0 100 = false ∧ okR .shl [0, 1, 2, 3, 4, 5, 6] 5 nv = true ∧ okR .shr [0, 1, 2, 3, 4, 5, 6] 5 nv = true := by
    simp only [List.mem_cons, List.not_mem_nil, or_false] at hnv
    rcases hnv with rfl | rfl | rfl | rfl | rfl | rfl | rfl | rfl 
    all_goals refine ⟨?_, rfl, by decide, rfl, rfl⟩
    all_goals first | refine ⟨_, by rfl, ?_⟩ | refine ⟨_, rp_str _ (by decide +kernel), ?_⟩
    all_goals decide +kernel
  obtain ⟨⟨s, r1, r2⟩, n1, n2, n3, n4⟩ := d3
  clear hnv m1 m2 m3 m4
  walk_at "px"
  have ok := ok_txB x y (1 + w) (1 + h)
  walk_at "pq"
  exact ⟨_, rfl, h7⟩
theorem law_true (ns : List Int) (h : ns.length ≤ 63) : ∃ outs, calls fs 12 508 [.fz (.kst (ns.map D.int))] = .ok (.d (.bl true)) outs := by
  rw [calls_eq fs 11 508 (F := fn34) rfl]
  have hpen := @k_pen 10 ns h
  have hpk := @k_pick 9
  have hh := @k_heard 10
  have hB := @k_Box__init__ 8
  have hm := @k_made 5
  have hs := @k_signs 5
  have hq1 := (@k_Box_square 7).1
  have hq2 := (@k_Box_square 7).2
  have hshl := (@k_Box__lshift__ 7).2
  have hshr := (@k_Box__rshift__ 7).2
  have hp0 := (pen_ok (cl := calls fs 11) h).2
  generalize calls fs 11 = cl at *
  simp only [fn34]
  walk_at "px"
  generalize hq : forD _ _ _ _ = q
  have hf := use_for hq (fun j env => ∃ p a2 a3, PenOk (20 * j) p ∧ env = [.fz (D.kst (ns.map D.int)), .ow p, a2, a3, .un]) ⟨_, _, _, hp0, rfl⟩
  obtain ⟨env', rfl, p, a2, a3, hp, rfl⟩ := hf (by
    rintro j d env hj hd ⟨p, a2, a3, hp, rfl⟩
    clear hf
    rw [List.length_map, List.length_range] at hj
    have hj : j < 10 := hj
    walk_at "px"
    obtain ⟨p1, e1, h1⟩ := hm hp (by omega)
    rw [e1]
    walk_at "px"
    obtain ⟨p2, e2, h2⟩ := hs h1 (by omega)
    rw [e2]
    walk_at "px"
    generalize hrc : cl 503 _ = rc
    obtain ⟨nv, hnv, p3, rfl, h3⟩ := use_pick hpk hrc h2 (by omega) (by simp) (by simp)
    have d3 : isRp nv ∧ isClsD nv = false ∧ btw nv 0 100 = false := by
      simp only [List.mem_cons, List.not_mem_nil, or_false] at hnv
      rcases hnv with rfl | rfl | rfl | rfl | rfl | rfl | rfl | rfl
      all_goals refine ⟨?_, rfl, by decide⟩
      all_goals first | refine ⟨_, by rfl, ?_⟩ | refine ⟨_, rp_str _ (by decide +kernel), ?_⟩
      all_goals decide +kernel
    obtain ⟨⟨s, r1, r2⟩, n1, n2⟩ := d3
    clear hnv
    walk_at "px"
    walk_at "pq"
    exact ⟨_, rfl, p3, _, _, h3.mono (by omega), rfl⟩)
  clear hf
  have e1 : mkBx (.int 0) (.int 0) (.int 1) (.int 1) = .ok (.nw (boxD 0 0 1 1)) [] := by simp [mkBx, boxBad, btw]
  have e2 : cl 6007 [.fz (boxD 1 0 1 1), .fz (.int 100)] = .exc (eBox "x") [] := (hshl 1 0 1 1 100 (by decide) (by decide) ⟨by decide, by decide⟩ ⟨by decide, by decide⟩ ⟨by decide, by decide⟩ ⟨by decide, by decide⟩).trans (by simp [mkBx, boxBad, btw])
  have e3 : cl 6007 [.fz (boxD 0 0 1 2), .fz (.int 100)] = .exc (eBox "height") [] := (hshl 0 0 1 2 100 (by decide) (by decide) ⟨by decide, by decide⟩ ⟨by decide, by decide⟩ ⟨by decide, by decide⟩ ⟨by decide, by decide⟩).trans (by simp [mkBx, boxBad, btw])
  have e4 : boxBad (.int 1) (.int 0) (.int 1) (.int 1) = none := by simp [boxBad, btw]
  have e5 : boxBad (.int 0) (.int 0) (.int 1) (.int 2) = none := by simp [boxBad, btw]
  walk_at "px"
  walk_at "pq"
  exact ⟨_, rfl⟩
end LW
end

open PySem PySem.W PyProof.Rows in
set_option maxRecDepth 100000 in
set_option maxHeartbeats 0 in
theorem PySem.Challenge.cw_curveboxes_k07_boxes_refused_holds : PySem.Challenge.rw_curveboxes_k07_boxes_refused.Holds := by
  w_on; o_law; k_head; (case hw => w_witness2)
  k_fill
  refine PP.law_walkN (l := PySem.Challenge.rw_curveboxes_k07_boxes_refused) (n := 63) (k := 60) (sp := fun K => PP.spF (LW.tb K) (PP.calls LW.fs 12) 508 1) (x := "_law_script") LW.lamN rfl (by decide) rfl ⟨rfl, by decide, by decide⟩ (fun w h Y => by first | exact PySem.W.kIn_of Y | exact PySem.W.km_in_of Y) ?Q ?L ?F (PP.law_sp (T := LW.tb) (cs := PP.csOf LW.lamN) (fun _ => rfl) (fun K => PP.cs_tt) LW.law_true)
  case Q => kernel_rfl
  case L => intro w; kernel_rfl
  case F =>
    intro w mg fa h KX G hmg
    refine' LW.all_mk KX G hmg ?aC0 ?aC1 ?aC2 ?aC3 ?aC4 ?aC5 ?xc0 ?na0 ?xc1 ?na1 ?xc2 ?na2 ?xL2 ?xR2 ?xS2 ?xi2 ?xt2 ?xc3 ?na3 ?xL3 ?xR3 ?xS3 ?xi3 ?xt3 ?xc4 ?na4 ?xL4 ?xR4 ?xS4 ?xi4 ?xt4 ?cl5 ?cg5 ?na5 ?ni5 ?nk5 ?nf5 ?np5 ?a0 ?l0 ?c0 ?k0 ?a1 ?l1 ?c1 ?k1 ?a2 ?l2 ?c2 ?k2 ?a3 ?l3 ?c3 ?k3 ?l4 ?c4 ?k4 ?l5 ?c5 ?k5 ?l6 ?c6 ?k6 ?a7 ?l7 ?c7 ?k7 ?a8 ?l8 ?c8 ?k8 ?a9 ?l9 ?c9 ?k9 ?a10 ?l10 ?c10 ?k10 ?a11 ?l11 ?c11 ?k11 ?a12 ?l12 ?c12 ?k12 ?l13 ?c13 ?k13 ?dD13 ?sa14 ?sr14 ?sd14 ?sg14 ?l14 ?c14 ?k14 ?ma5_15 ?mb15 ?l15 ?c15 ?k15 ?ma5_16 ?mb16 ?l16 ?c16 ?k16 ?ma5_17 ?mb17 ?l17 ?c17 ?k17 ?ma5_18 ?mb18 ?l18 ?c18 ?k18 ?ma5_19 ?mb19 ?l19 ?c19 ?k19 ?ma5_20 ?mb20 ?l20 ?c20 ?k20 ?ma5_21 ?mb21 ?l21 ?c21 ?k21 ?ma5_22 ?mb22 ?l22 ?c22 ?k22 ?ma5_23 ?mb23 ?l23 ?c23 ?k23 ?ma5_24 ?mb24 ?l24 ?c24 ?k24 ?ma5_25 ?mb25 ?l25 ?c25 ?k25 ?a26 ?l26 ?c26 ?k26 ?a27 ?l27 ?c27 ?k27 ?a28 ?l28 ?c28 ?k28 ?a29 ?l29 ?c29 ?k29 ?a30 ?l30 ?c30 ?k30 ?a31 ?l31 ?c31 ?k31 ?a32 ?l32 ?c32 ?k32 ?lc32 ?lp32 ?lt32 ?lu32 ?a33 ?l33 ?c33 ?k33 ?lc33 ?lp33 ?lt33 ?lu33 ?a34 ?l34 ?c34 ?k34 ?lc34 ?lp34 ?lt34 ?lu34 ?is2 ?is3 ?is4 ?is5 ?ib ?em0 ?nO5 ?bc5__add__ ?bc5__and__ ?bc5__lshift__ ?bc5__or__ ?bc5__rshift__ ?bc5__sub__ ?z_abs ?z_bool ?z_int ?z_isinstance ?z_len ?z_list ?z_max ?z_min ?z_range ?z_repr ?z_str ?z_tuple ?y_MOST_LEVEL ?y_MOST_SHIFT ?y_MOST_SIDE
    (case aC0 => k_is)
    (case aC1 => k_is)
    (case aC2 => k_is)
    (case aC3 => k_is)
    (case aC4 => k_is)
    (case aC5 => k_is)
    (case xc0 => kernel_rfl)
    (case na0 => kernel_rfl)
    (case xc1 => kernel_rfl)
    (case na1 => kernel_rfl)
    (case xc2 => kernel_rfl)
    (case na2 => kernel_rfl)
    (case xL2 => k_is)
    (case xR2 => kernel_rfl)
    (case xS2 => kernel_rfl)
    (case xi2 => k_is)
    (case xt2 => k_is)
    (case xc3 => kernel_rfl)
    (case na3 => kernel_rfl)
    (case xL3 => k_is)
    (case xR3 => kernel_rfl)
    (case xS3 => kernel_rfl)
    (case xi3 => k_is)
    (case xt3 => k_is)
    (case xc4 => kernel_rfl)
    (case na4 => kernel_rfl)
    (case xL4 => k_is)
    (case xR4 => kernel_rfl)
    (case xS4 => kernel_rfl)
    (case xi4 => k_is)
    (case xt4 => k_is)
    (case cl5 => kernel_rfl)
    (case cg5 => kernel_rfl)
    (case na5 => kernel_rfl)
    (case ni5 => k_is)
    (case nk5 => k_is)
    (case nf5 => k_is)
    (case np5 => k_is)
    (case a0 => k_is)
    (case l0 => k_is)
    (case c0 => k_is)
    (case k0 => k_is)
    (case a1 => k_is)
    (case l1 => k_is)
    (case c1 => k_is)
    (case k1 => k_is)
    (case a2 => k_is)
    (case l2 => k_is)
    (case c2 => k_is)
    (case k2 => k_is)
    (case a3 => k_is)
    (case l3 => k_is)
    (case c3 => k_is)
    (case k3 => k_is)
    (case l4 => k_is)
    (case c4 => k_is)
    (case k4 => k_is)
    (case l5 => k_is)
    (case c5 => k_is)
    (case k5 => k_is)
    (case l6 => k_is)
    (case c6 => k_is)
    (case k6 => k_is)
    (case a7 => k_is)
    (case l7 => k_is)
    (case c7 => k_is)
    (case k7 => k_is)
    (case a8 => k_is)
    (case l8 => k_is)
    (case c8 => k_is)
    (case k8 => k_is)
    (case a9 => k_is)
    (case l9 => k_is)
    (case c9 => k_is)
    (case k9 => k_is)
    (case a10 => k_is)
    (case l10 => k_is)
    (case c10 => k_is)
    (case k10 => k_is)
    (case a11 => k_is)
    (case l11 => k_is)
    (case c11 => k_is)
    (case k11 => k_is)
    (case a12 => k_is)
    (case l12 => k_is)
    (case c12 => k_is)
    (case k12 => k_is)
    (case l13 => k_is)
    (case c13 => k_is)
    (case k13 => k_is)
    (case dD13 => k_is)
    (case sa14 => k_is)
    (case sr14 => k_is)
    (case sd14 => k_is)
    (case sg14 => k_is)
    (case l14 => k_is)
    (case c14 => k_is)
    (case k14 => k_is)
    (case ma5_15 => k_is)
    (case mb15 => k_is)
    (case l15 => k_is)
    (case c15 => k_is)
    (case k15 => k_is)
    (case ma5_16 => k_is)
    (case mb16 => k_is)
    (case l16 => k_is)
    (case c16 => k_is)
    (case k16 => k_is)
    (case ma5_17 => k_is)
    (case mb17 => k_is)
    (case l17 => k_is)
    (case c17 => k_is)
    (case k17 => k_is)
    (case ma5_18 => k_is)
    (case mb18 => k_is)
    (case l18 => k_is)
    (case c18 => k_is)
    (case k18 => k_is)
    (case ma5_19 => k_is)
    (case mb19 => k_is)
    (case l19 => k_is)
    (case c19 => k_is)
    (case k19 => k_is)
    (case ma5_20 => k_is)
    (case mb20 => k_is)
    (case l20 => k_is)
    (case c20 => k_is)
    (case k20 => k_is)
    (case ma5_21 => k_is)
    (case mb21 => k_is)
    (case l21 => k_is)
    (case c21 => k_is)
    (case k21 => k_is)
    (case ma5_22 => k_is)
    (case mb22 => k_is)
    (case l22 => k_is)
    (case c22 => k_is)
    (case k22 => k_is)
    (case ma5_23 => k_is)
    (case mb23 => k_is)
    (case l23 => k_is)
    (case c23 => k_is)
    (case k23 => k_is)
    (case ma5_24 => k_is)
    (case mb24 => k_is)
    (case l24 => k_is)
    (case c24 => k_is)
    (case k24 => k_is)
    (case ma5_25 => k_is)
    (case mb25 => k_is)
    (case l25 => k_is)
    (case c25 => k_is)
    (case k25 => k_is)
    (case a26 => k_is)
    (case l26 => k_is)
    (case c26 => k_is)
    (case k26 => k_is)
    (case a27 => k_is)
    (case l27 => k_is)
    (case c27 => k_is)
    (case k27 => k_is)
    (case a28 => k_is)
    (case l28 => k_is)
    (case c28 => k_is)
    (case k28 => k_is)
    (case a29 => k_is)
    (case l29 => k_is)
    (case c29 => k_is)
    (case k29 => k_is)
    (case a30 => k_is)
    (case l30 => k_is)
    (case c30 => k_is)
    (case k30 => k_is)
    (case a31 => k_is)
    (case l31 => k_is)
    (case c31 => k_is)
    (case k31 => k_is)
    (case a32 => k_is)
    (case l32 => k_is)
    (case c32 => k_is)
    (case k32 => k_is)
    (case lc32 => k_is)
    (case lp32 => rfl)
    (case lt32 => kernel_rfl)
    (case lu32 => kernel_rfl)
    (case a33 => k_is)
    (case l33 => k_is)
    (case c33 => k_is)
    (case k33 => k_is)
    (case lc33 => k_is)
    (case lp33 => rfl)
    (case lt33 => kernel_rfl)
    (case lu33 => kernel_rfl)
    (case a34 => k_is)
    (case l34 => k_is)
    (case c34 => k_is)
    (case k34 => k_is)
    (case lc34 => k_is)
    (case lp34 => rfl)
    (case lt34 => kernel_rfl)
    (case lu34 => kernel_rfl)
    (case is2 => kernel_rfl)
    (case is3 => kernel_rfl)
    (case is4 => kernel_rfl)
    (case is5 => kernel_rfl)
    (case ib => kernel_rfl)
    (case em0 => kernel_rfl)
    (case nO5 => kernel_rfl)
    (case bc5__add__ => kernel_rfl)
    (case bc5__and__ => kernel_rfl)
    (case bc5__lshift__ => kernel_rfl)
    (case bc5__or__ => kernel_rfl)
    (case bc5__rshift__ => kernel_rfl)
    (case bc5__sub__ => kernel_rfl)
    (case z_abs => k_is)
    (case z_bool => k_is)
    (case z_int => k_is)
    (case z_isinstance => k_is)
    (case z_len => k_is)
    (case z_list => k_is)
    (case z_max => k_is)
    (case z_min => k_is)
    (case z_range => k_is)
    (case z_repr => k_is)
    (case z_str => k_is)
    (case z_tuple => k_is)
    (case y_MOST_LEVEL => k_is)
    (case y_MOST_SHIFT => k_is)
    (case y_MOST_SIDE => k_is)
