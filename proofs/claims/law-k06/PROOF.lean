import PyProof.Rows.All
import Wide.All
import OpenK.AllK
import Wide.FinOn
import HandS.Base
import HandS.Call
import HandS.List
import HandS.Comp
import HandS.Ends
import HandS.Exc
import HandS.ExcOwn
import HandS.Text
import HandS.Lambda
import HandS.EndTab
import HandS.ExcInit
import HandS.ExcField
import HandS.Wide
import HandS.WideBits
import HandS.Flow
import HandS.Dict
import HandS.IsInst
import HandS.RaiseMore
import PyProof.ReprRoads
import HandS.Words
import HandS.WordsExc
import KE.KNestM
import HandS.NoneIn
import HandS.Style
import HandS.Iter
import HandS.Zip
import HandS.Deep
import HandS.FStr
import HandS.Star
import HandS.Codes
import HandS.ExcIs
import HandS.SlotsOwn
import KE.KOpsOwn
import HandS.Property
import PyProof.InstNe
import HandS.ExcValue
import HandS.ClsMeth
import HandS.MakeKw
import KE.KCallOwn
import KE.GoesEnum
import KE.GoesMore
import PySem.Challenge.RW_curveboxes_k06_texts_of_boxes
set_option Elab.async false
set_option linter.all false
set_option maxRecDepth 100000
section
/-! Pure data, the small syntax, its interpreter. -/
namespace PP
open PySem L2

inductive D where
  | non | bl (b : Bool) | int (i : Int) | str (s : Str)
  | lst (xs : List D) | tup (xs : List D) | kst (xs : List D)
  | dK (ks : List Key) (vs : List D) | dT (ks : List (List Key)) (vs : List D)
  | obj (c : Nat) (ks : List Nat) (vs : List D)
  | cls (c : Nat)
  | err (c : Nat) (ks : List Nat) (vs : List D)

/-- as plain data; none where a dict or an object is within -/
inductive O2 where
  | add | sub | mul | fdiv | mod | pow | shl | shr | band | bor | bxor | lt | le | gt | ge | eq | ne | isin | notin | is | isnot
inductive O1 where
  | neg | inv
inductive B where
  | len | int | abs | list | tuple | repr | str | isInt | isBool | isTuple | isList | isStr | max2 | min2 | bool
  | all | any | sum | maxL | minL | sorted | isLT | zipL | split | join | index | strIx
mutual
inductive Tg where
  | nm (i : Nat) | tup (ts : Tgs)
inductive Tgs where
  | nil | cons (t : Tg) (ts : Tgs)
end
mutual
inductive Ex where
  | var (i : Nat)
  | cst (d : D)
  | op2 (o : O2) (a b : Ex)
  | op1 (o : O1) (a : Ex)
  | chain (o p : O2) (a b c : Ex)
  | and (a b : Ex) | or (a b : Ex) | not (a : Ex)
  | ife (c a b : Ex)
  | tup (es : Exs) | lst (es : Exs) | dic
  | call (f : Nat) (ms : List Bool) (es : Exs)
  | callP (f : Nat) (ms : List Bool) (pm : List Nat) (es : Exs)
  | bi (b : B) (es : Exs)
  | ix (a i : Ex)
  | slice (a : Ex) (bl bh : Bool) (lo hi : Ex)
  | fld (a : Ex) (k : Nat)
  | opo (o : O2) (cs ts : List Nat) (a b : Ex)
  | callD (f : Nat) (ms : List Bool) (es : Exs) (ds : List D)
  | mk (c : Nat) (ms : List Bool) (es : Exs) (ds : List D)
  | mth (io : Bool) (a : Ex) (m : Nat) (cs : List Nat) (ms : List Bool) (es : Exs) (ds : List D)
  | isObj (cs : List Nat) (a : Ex)
  | prp (a : Ex) (m : Nat) (cs : List Nat)
  | ino (neg : Bool) (cs : List Nat) (a b : Ex)
  | neo (cs : List Nat) (a b : Ex)
  | lc (vs : List Nat) (tg : Tg) (it : It) (hc : Bool) (c e : Ex)
  | popI (i : Nat) (e : Ex)
  | bm (b : B) (o e : Ex)
  | lenO (cs : List Nat) (a : Ex)
  | fstr (es : Exs)
  | strO (cs : List Nat) (a : Ex)
  | mkP (c : Nat) (pm : List Nat) (es : Exs)
  | mkEP (c : Nat) (ks : List Nat) (pm : List Nat) (es : Exs)
  | mkE (c : Nat) (ks : List Nat) (es : Exs)
  | heard (f : Nat) (vs : List Nat) (e : Ex)
  | heardK (f : Nat) (vs : List Nat) (e : Ex)
  | ask (i : Nat)
  | callS (f : Nat) (es : Exs)
  | cmt (c m n : Nat) (es : Exs)
  | mkL (i c n : Nat) (es : Exs)
  | mkLS (i c : Nat) (es : Exs)
  | getO (cs : List Nat) (a b : Ex)
  | calO (cs : List Nat) (n : Nat) (a : Ex) (es : Exs)
  | mkS (c : Nat) (es : Exs)
inductive Exs where
  | nil | cons (e : Ex) (es : Exs) | star (e : Ex) (es : Exs)
inductive It where
  | seq (e : Ex) | rng (lo hi : Ex) | down (lo hi : Ex) | enum (e : Ex) | zip (a b : Ex) | str (e : Ex)
end
mutual
inductive S where
  | asg (i : Nat) (e : Ex)
  | setI (i : Nat) (x e : Ex)
  | app (i : Nat) (e : Ex)
  | aug (i : Nat) (o : O2) (e : Ex)
  | ex (e : Ex)
  | iff (c : Ex) (a b : Ss)
  | forr (i : Nat) (n : Ex) (b : Ss)
  | forl (i : Nat) (l : Ex) (b : Ss)
  | whil (c : Ex) (b : Ss)
  | ret (e : Ex) | retN | pass | brk | cont | never
  | par (is : List Nat) (es : Exs)
  | unp (is : List Nat) (e : Ex)
  | setF (i : Nat) (cs : List Nat) (k : Nat) (e : Ex)
  | fort (tg : Tg) (it : It) (b : Ss)
  | raise (c : Nat) (ks : List Nat) (es : Exs)
  | tryC (b : Ss) (cs : List Nat) (i j : Nat)
inductive Ss where
  | nil | cons (s : S) (r : Ss)
end

inductive Sl where
  | un | fz (d : D) | ow (d : D) | io (d : D) | fn
abbrev Env := List Sl
inductive U where
  | d (x : D) | sl (i : Nat) | nw (x : D)
abbrev Exn := Nat × List Nat × List D
inductive R (α : Type) where
  | ok (a : α) (env : Env) | exc (x : Exn) (env : Env) | bad
def R.bind {α β : Type} (r : R α) (f : α → Env → R β) : R β := match r with
  | .ok a env => f a env
  | .exc x env => .exc x env
  | .bad => .bad
@[simp] theorem R.bind_ok {α β : Type} (a : α) (env : Env) (f : α → Env → R β) : (R.ok a env).bind f = f a env := rfl
@[simp] theorem R.bind_exc {α β : Type} (x : Exn) (env : Env) (f : α → Env → R β) : (R.exc x env : R α).bind f = .exc x env := rfl
@[simp] theorem R.bind_bad {α β : Type} (f : α → Env → R β) : (R.bad : R α).bind f = .bad := rfl
def orBad {α β : Type} (o : Option α) (f : α → R β) : R β := match o with
  | some a => f a
  | none => .bad
@[simp] theorem orBad_some {α β : Type} (a : α) (f : α → R β) : orBad (some a) f = f a := rfl
@[simp] theorem orBad_none {α β : Type} (f : α → R β) : orBad (none : Option α) f = .bad := rfl

def getS (env : Env) (i : Nat) : Sl := env.getD i .un
def rdS : Sl → Option D
  | .fz d => some d | .ow d => some d | .io d => some d | .un => none | .fn => none
def rdU (env : Env) : U → Option D
  | .d x => some x | .nw x => some x | .sl i => rdS (getS env i)
def rdAll (env : Env) : List U → Option (List D)
  | [] => some []
  | u :: us => match rdU env u, rdAll env us with
    | some d, some ds => some (d :: ds)
    | _, _ => none
def pend : U → U
  | .nw x => .d x | u => u
/-- take a value for good: an owned list is owned no more -/
def fzU (env : Env) : U → Option (D × Env)
  | .d x => some (x, env) | .nw x => some (x, env)
  | .sl i => match getS env i with
    | .fz d => some (d, env) | .ow d => some (d, env.set i (.fz d)) | _ => none

/-! ### values -/
def LIM : Nat := 100000
def truD : D → Option Bool
  | .non => some false | .bl b => some b | .int i => some (i != 0)
  | .str s => if s.length ≤ LIM then some ((s.length : Int) != 0) else none
  | .lst xs => some (!xs.isEmpty) | .tup xs => some (!xs.isEmpty) | .kst xs => some (!xs.isEmpty)
  | .dK ks _ => some (!ks.isEmpty) | _ => none
mutual
def toPy : D → Option PyData
  | .non => some .none | .bl b => some (.bool b) | .int i => some (.int i) | .str s => some (.str s)
  | .lst xs => (toPyAll xs).map .list | .tup xs => (toPyAll xs).map .tuple | .kst xs => (toPyAll xs).map .list
  | _ => none
def toPyAll : List D → Option (List PyData)
  | [] => some []
  | d :: ds => match toPy d, toPyAll ds with
    | some p, some ps => some (p :: ps)
    | _, _ => none
end
def eqP (x y : D) : Option Bool := match toPy x, toPy y with
  | some p, some q => if SeqAt.shaped p && SeqAt.shaped q then some (PyData.eqv p q) else none
  | _, _ => none
def eqD (x y : D) : Option Bool := match x, y with
  | .str a, .str b => some (decide (a = b))
  | x, y => eqP x y
/-- x in a list of data -/
def inD (x : D) (ys : List D) : Option D := match toPy x, toPyAll ys with
  | some p, some ps => if SeqAt.shaped p && SeqAt.shaped (.list ps) then some (.bl (ps.any fun z => PyData.eqv z p)) else none
  | _, _ => none
/-- one sign in a text -/
def inS (x y : Str) : Option D := match x.cps.toList with
  | [c] => some (.bl (decide (c ∈ y.cps.toList)))
  | _ => none
def bnd64 (i : Int) : Bool := decide (-(2 ^ 64) < i) && decide (i < 2 ^ 64)
def mulOk (i j : Int) : Bool := bnd64 i || bnd64 j || decide (i.natAbs.log2 + j.natAbs.log2 < 1000000)
def divOk (j : Int) : Bool := decide (0 < j) && decide (j.natAbs.log2 < 9000)
def shlOk (i j : Int) : Bool := decide (0 ≤ j) && decide (j ≤ 1000000) && decide (i.natAbs.log2 < 1000000)
def powOk (i j : Int) : Bool := decide (0 ≤ j) && decide (j ≤ 1000000) && decide (i.natAbs < 2 ^ 64)
/-- a text so many times -/
def repS (z : Str) (k : Nat) : Str := ⟨(List.replicate k z.cps).foldl (· ++ ·) #[]⟩
def op2 : O2 → D → D → Option D
  | .add, .int i, .int j => some (.int (i + j))
  | .add, .lst xs, .lst ys => if xs.length + ys.length ≤ LIM then some (.lst (xs ++ ys)) else none
  | .add, .str x, .str y => if x.length + y.length ≤ LIM then some (.str (x ++ y)) else none
  | .sub, .int i, .int j => some (.int (i - j))
  | .mul, .int i, .int j => if mulOk i j then some (.int (i * j)) else none
  | .mul, .lst xs, .int j => if decide (0 ≤ j) && decide (j ≤ 1000) && decide (xs.length * j.toNat ≤ LIM) then some (.lst (List.replicate j.toNat xs).flatten) else none
  | .mul, .str z, .int j => if decide (2 ≤ j) && decide (j ≤ 1000) && decide (1 ≤ z.length) && decide (z.length * j.toNat ≤ LIM) then some (.str (repS z j.toNat)) else none
  | .fdiv, .int i, .int j => if divOk j then some (.int (i / j)) else none
  | .mod, .int i, .int j => if 0 < j then some (.int (i % j)) else none
  | .pow, .int i, .int j => if powOk i j then some (.int (i ^ j.toNat)) else none
  | .shl, .int i, .int j => if shlOk i j then some (.int (i * 2 ^ j.toNat)) else none
  | .shr, .int i, .int j => if 0 ≤ j then some (.int (i / 2 ^ j.toNat)) else none
  | .band, .int i, .int j => some (.int (Builtin.bitAnd i j))
  | .bor, .int i, .int j => some (.int (Builtin.bitOr i j))
  | .bxor, .int i, .int j => some (.int (Builtin.bitXor i j))
  | .lt, .int i, .int j => some (.bl (decide (i < j)))
  | .le, .int i, .int j => some (.bl (decide (i ≤ j)))
  | .gt, .int i, .int j => some (.bl (decide (j < i)))
  | .ge, .int i, .int j => some (.bl (decide (j ≤ i)))
  | .eq, x, y => (eqD x y).map .bl
  | .ne, x, y => (eqD x y).map fun b => .bl (!b)
  | .isin, x, .lst ys => inD x ys
  | .isin, x, .kst ys => inD x ys
  | .isin, .str x, .str y => inS x y
  | .notin, x, .lst ys => (inD x ys).map fun d => match d with | .bl b => .bl (!b) | d => d
  | .notin, x, .kst ys => (inD x ys).map fun d => match d with | .bl b => .bl (!b) | d => d
  | .notin, .str x, .str y => (inS x y).map fun d => match d with | .bl b => .bl (!b) | d => d
  | .is, x, .non => some (.bl (match x with | .non => true | _ => false))
  | .isnot, x, .non => some (.bl (match x with | .non => false | _ => true))
  | .is, x, .bl b => some (.bl (match x with | .bl c => b == c | _ => false))
  | .isnot, x, .bl b => some (.bl (match x with | .bl c => !(b == c) | _ => true))
  | _, _, _ => none
def op1 : O1 → D → Option D
  | .neg, .int i => some (.int (-i))
  | .inv, .int i => some (.int (Builtin.bitNot i))
  | _, _ => none
def cutD (xs : List D) (lo hi : Option Int) : List D := (xs.drop (HT.sIx xs.length 0 lo)).take (HT.sIx xs.length xs.length hi - HT.sIx xs.length 0 lo)
/-- the item at an int -/
def atD (xs : List D) (i : Int) : Option D := atI xs i
def ixD : D → D → Option D
  | .lst xs, .int i => atI xs i
  | .tup xs, .int i => atI xs i
  | .kst xs, .int i => atI xs i
  | .str z, .int i => if z.length ≤ LIM then (atI z.cps.toList i).map fun c => .str ⟨#[c]⟩ else none
  | _, _ => none
def blsD : List D → Option (List Bool)
  | [] => some []
  | .bl b :: r => (blsD r).map (b :: ·)
  | _ => none
def intsD : List D → Option (List Int)
  | [] => some []
  | .int b :: r => (intsD r).map (b :: ·)
  | _ => none
def strsD : List D → Option (List Str)
  | [] => some []
  | .str b :: r => (strsD r).map (b :: ·)
  | _ => none
/-- the place of x in a list of data -/
def indexP (p : PyData) : List PyData → Nat → Option Nat
  | [], _ => none
  | z :: r, j => if PyData.eqv z p then some j else indexP p r (j + 1)
def indexD (x : D) (ys : List D) : Option D := match toPy x, toPyAll ys with
  | some p, some ps => if SeqAt.shaped p && SeqAt.shaped (.list ps) then (indexP p ps 0).map fun (j : Nat) => .int j else none
  | _, _ => none
/-- built-in functions: what they give (fresh lists come as .nw) -/
def biD : B → List D → Option D
  | .len, [.lst xs] => some (.int xs.length)
  | .len, [.tup xs] => some (.int xs.length)
  | .len, [.kst xs] => some (.int xs.length)
  | .len, [.str x] => if x.length ≤ LIM then some (.int x.length) else none
  | .tuple, [.lst xs] => some (.tup xs)
  | .tuple, [.kst xs] => some (.tup xs)
  | .tuple, [.tup xs] => some (.tup xs)
  | .str, [.int i] => if decide (i.natAbs.log2 < 1920) then some (.str (toString i)) else none
  | .int, [.str x] => if x.length ≤ 640 then (PySem.intText? x).map .int else none
  | .all, [.lst xs] => (blsD xs).map fun bs => .bl (bs.all id)
  | .any, [.lst xs] => (blsD xs).map fun bs => .bl (bs.any id)
  | .isLT, [x] => match x with | .obj _ _ _ => none | .cls _ => none | .err _ _ _ => none | .lst _ => some (.bl true) | .kst _ => some (.bl true) | .tup _ => some (.bl true) | _ => some (.bl false)
  | .split, [.str x, .str y] => if x.length ≤ LIM && !(y.length == 0) then some (.lst ((Txt.split x y).map .str)) else none
  | .join, [.str x, .lst ys] => (strsD ys).bind fun zs => if (zs.map (·.length)).sum + zs.length * x.length ≤ LIM then some (.str (Txt.join x zs)) else none
  | .index, [.lst xs, x] => indexD x xs
  | .index, [.kst xs, x] => indexD x xs
  | .sum, [.lst xs] => (intsD xs).map fun ns => .int ns.sum
  | .maxL, [.lst xs] => (intsD xs).bind fun ns => ns.max?.map .int
  | .minL, [.lst xs] => (intsD xs).bind fun ns => ns.min?.map .int
  | .zipL, [.lst xs, .lst ys] => if xs.length ≤ LIM then some (.lst ((xs.zip ys).map fun p => .tup [p.1, p.2])) else none
  | .int, [.int i] => some (.int i)
  | .int, [.bl b] => some (.int (if b then 1 else 0))
  | .bool, [.bl b] => some (.bl b)
  | .bool, [.int i] => some (.bl (i != 0))
  | .abs, [.int i] => some (.int (if i < 0 then -i else i))
  | .max2, [.int i, .int j] => some (.int (if j > i then j else i))
  | .min2, [.int i, .int j] => some (.int (if j < i then j else i))
  | .list, [.lst xs] => some (.lst xs)
  | .list, [.tup xs] => some (.lst xs)
  | .list, [.kst xs] => some (.lst xs)
  | .isInt, [x] => match x with | .cls _ => none | .int _ => some (.bl true) | .bl _ => some (.bl true) | _ => some (.bl false)
  | .isBool, [x] => match x with | .cls _ => none | .bl _ => some (.bl true) | _ => some (.bl false)
  | .isTuple, [x] => match x with | .cls _ => none | .tup _ => some (.bl true) | _ => some (.bl false)
  | .isList, [x] => match x with | .cls _ => none | .lst _ => some (.bl true) | .kst _ => some (.bl true) | _ => some (.bl false)
  | .isStr, [x] => match x with | .cls _ => none | .str _ => some (.bl true) | _ => some (.bl false)
  | .repr, [x] => match toPy x with
    | some p => if p.showable && !p.hasDict && decide (p.shown.length ≤ LIM) && decide (p.depth ≤ 64) then some (.str p.shown) else none
    | none => none
  | _, _ => none

/-! ### the interpreter -/
inductive Ar where
  | fz (d : D) | io (d : D)
inductive RC where
  | ok (r : U) (outs : List D) | exc (x : Exn) (outs : List D) | bad
abbrev CallF := Nat → List Ar → RC
/-- the arguments of a call, once all are evaluated -/
def argsOf (env : Env) : List Bool → List U → Option (List Ar)
  | [], [] => some []
  | false :: ms, .d x :: us => (argsOf env ms us).map (.fz x :: ·)
  | true :: ms, .sl i :: us => match getS env i with
    | .ow d => (argsOf env ms us).map (.io d :: ·)
    | .io d => (argsOf env ms us).map (.io d :: ·)
    | _ => none
  | _, _ => none
/-- the slots that a call may change -/
def ioSlots : List U → List Nat
  | [] => []
  | .sl i :: us => i :: ioSlots us
  | _ :: us => ioSlots us
def setIO (s : Sl) (d : D) : Sl := match s with
  | .ow _ => .ow d | .io _ => .io d | s => s
def putIO (env : Env) : List Nat → List D → Env
  | i :: is, d :: ds => putIO (env.set i (setIO (getS env i) d)) is ds
  | _, _ => env
def dupFree : List Nat → Bool
  | [] => true
  | i :: is => !is.contains i && dupFree is

/-- in another order -/
def permL {α : Type} (pm : List Nat) (xs : List α) : List α := pm.filterMap fun i => xs[i]?
/-- a bound of a slice -/
def partD (u : U) (env : Env) : R (Option Int) := orBad (rdU env u) fun d => match d with
  | .int i => .ok (some i) env
  | _ => .bad
def optP (b : Bool) (f : Env → R U) (env : Env) : R (Option Int) := match b with
  | true => (f env).bind partD
  | false => .ok none env
/-- a def's call, once its arguments stand -/
def runC (cl : CallF) (f : Nat) (ms : List Bool) (us : List U) (env : Env) : R U := orBad (argsOf env ms us) fun as =>
  if dupFree (ioSlots us) then match cl f as with
    | .ok r outs => .ok r (putIO env (ioSlots us) outs)
    | .exc x outs => .exc x (putIO env (ioSlots us) outs)
    | .bad => .bad
  else .bad
/-- the number of a class's special thing -/
def spec (c m : Nat) : Nat := 1000 + 1000 * c + m
def opc : O2 → Nat
  | .add => 1 | .sub => 2 | .mul => 3 | .fdiv => 4 | .mod => 5 | .pow => 6 | .shl => 7 | .shr => 8 | .band => 9 | .bor => 10 | .bxor => 11 | .lt => 12 | .le => 13 | .gt => 14 | .ge => 15 | .eq => 16 | .ne => 16 | .isin => 17 | .notin => 17 | .is => 18 | .isnot => 18
def fldD : List Nat → List D → Nat → Option D
  | k :: ks, v :: vs, j => if k = j then some v else fldD ks vs j
  | _, _, _ => none
def putD : List Nat → List D → Nat → D → List Nat × List D
  | k :: ks, v :: vs, j, x => if k = j then (k :: ks, x :: vs) else (k :: (putD ks vs j x).1, v :: (putD ks vs j x).2)
  | _, _, j, x => ([j], [x])
def fldOf : D → Nat → Option D
  | .obj _ ks vs, j => fldD ks vs j
  | .err _ ks vs, j => fldD ks vs j
  | _, _ => none
/-- who takes a method's call: its class, how it is handed in -/
def recvU (io : Bool) (env : Env) (u : U) : Option (Nat × U × Env) := match io with
  | true => match u with
    | .sl i => match getS env i with
      | .ow (.obj c _ _) => some (c, .sl i, env)
      | .io (.obj c _ _) => some (c, .sl i, env)
      | _ => none
    | _ => none
  | false => match fzU env u with
    | some (.obj c ks vs, env') => some (c, .d (.obj c ks vs), env')
    | _ => none
def isObjOf (cs : List Nat) : D → Bool
  | .obj c _ _ => cs.contains c
  | .err c _ _ => cs.contains c
  | _ => false
def isClsD : D → Bool
  | .cls _ => true | _ => false
/-- no plain value: a class, an exception -/
def oddD : D → Bool
  | .cls _ => true | .err _ _ _ => true | _ => false
def kdD : D → Nat
  | .non => 0 | .bl _ => 1 | .int _ => 2 | .str _ => 3 | .lst _ => 4 | .kst _ => 4 | .tup _ => 5 | .dK _ _ => 6 | .dT _ _ => 6 | .obj _ _ _ => 7 | .cls _ => 8 | .err _ _ _ => 9
def isCmpO : O2 → Bool
  | .lt => true | .le => true | .gt => true | .ge => true | .eq => true | .ne => true | _ => false
/-- which right ones an own operator takes here -/
def okR (o : O2) (ts : List Nat) (c : Nat) : D → Bool
  | .obj c' _ _ => isCmpO o || c == c'
  | .cls _ => false
  | .err _ _ _ => false
  | y => isCmpO o || ts.contains (kdD y)
/-- an operator where the left one may be an object of an own class -/
def ownOp (cl : CallF) (o : O2) (cs ts : List Nat) (x y : D) (env : Env) : R U := match x with
  | .obj c ks vs => if !(cs.contains c && okR o ts c y) then .bad else match cl (spec c (opc o)) [.fz (.obj c ks vs), .fz y] with
    | .ok r _ => match o with
      | .ne => match r with
        | .d (.bl t) => .ok (.nw (.bl (!t))) env
        | _ => .bad
      | _ => .ok r env
    | .exc x _ => .exc x env
    | .bad => .bad
  | x => orBad (op2 o x y) fun z => .ok (.nw z) env
/-- x in o, by o's own def -/
def ownIn (cl : CallF) (neg : Bool) (cs : List Nat) (x y : D) (env : Env) : R U := match y with
  | .obj c ks vs => if !cs.contains c then .bad else match cl (spec c 17) [.fz (.obj c ks vs), .fz x] with
    | .ok (.d (.bl t)) _ => .ok (.nw (.bl (if neg then !t else t))) env
    | .exc x _ => .exc x env
    | _ => .bad
  | y => orBad (op2 (if neg then .notin else .isin) x y) fun z => .ok (.nw z) env
/-- x != y, x of a class with its own == -/
def ownNe (cl : CallF) (cs : List Nat) (x y : D) (env : Env) : R U := match x with
  | .obj c ks vs => if !(cs.contains c && !oddD y) then .bad else match cl (spec c 16) [.fz (.obj c ks vs), .fz y] with
    | .ok (.d (.bl t)) _ => .ok (.nw (.bl (!t))) env
    | .exc x _ => .exc x env
    | _ => .bad
  | x => orBad (op2 .ne x y) fun z => .ok (.nw z) env
/-- x[y], x of a class with its own __getitem__ -/
def ownGet (cl : CallF) (cs : List Nat) (x y : D) (env : Env) : R U := match x with
  | .obj c ks vs => if !cs.contains c then .bad else match cl (spec c 18) [.fz (.obj c ks vs), .fz y] with
    | .ok r _ => .ok r env
    | .exc x _ => .exc x env
    | .bad => .bad
  | _ => .bad
def isObD : D → Bool
  | .obj _ _ _ => true | _ => false
/-- x(..), x of a class with its own __call__ -/
def ownCal (cl : CallF) (cs : List Nat) (x : D) (ds : List D) (env : Env) : R U := match x with
  | .obj c ks vs => if !cs.contains c then .bad else match cl (spec c 20) ((.obj c ks vs :: ds).map .fz) with
    | .ok r _ => .ok r env
    | .exc x _ => .exc x env
    | .bad => .bad
  | _ => .bad
/-- the class c stands at a name -/
def isClsN (c : Nat) : Sl → Bool
  | .fz (.cls c') => c == c' | _ => false
/-- a new object, made by __init__ -/
def makeO (cl : CallF) (c : Nat) (as : List Ar) (env : Env) : R U := match cl (spec c 0) (.io (.obj c [] []) :: as) with
  | .ok (.d .non) [o] => .ok (.nw o) env
  | .exc x _ => .exc x env
  | _ => .bad
def allFz : List Ar → Bool
  | [] => true | .fz _ :: as => allFz as | .io _ :: _ => false
/-- a list comprehension's turns -/
def lcD (body : D → Env → R (Option D)) : List D → Env → List D → R (List D)
  | [], env, acc => .ok acc env
  | d :: r, env, acc => match body d env with
    | .ok (some x) env1 => if acc.length < LIM then lcD body r env1 (acc ++ [x]) else .bad
    | .ok none env1 => lcD body r env1 acc
    | _ => .bad
def wipeE (env : Env) : List Nat → Env
  | [] => env
  | i :: vs => wipeE (env.set i .un) vs
def calmS : Sl → Bool
  | .un => true | .fz _ => true | _ => false
/-- the comprehension's own names are again what they were -/
def backE (env0 env : Env) : List Nat → Env
  | [] => env
  | i :: vs => backE env0 (env.set i (getS env0 i)) vs
mutual
def storeG : Tg → D → Env → Option Env
  | .nm i, d, env => some (env.set i (.fz d))
  | .tup ts, .tup ds, env => storeGs ts ds env
  | .tup _, _, _ => none
def storeGs : Tgs → List D → Env → Option Env
  | .nil, [], env => some env
  | .cons t ts, d :: ds, env => (storeG t d env).bind (storeGs ts ds)
  | _, _, _ => none
end
def itemsD : D → Option (List D)
  | .lst xs => some xs | .tup xs => some xs | .kst xs => some xs | _ => none
def listD : D → Option (List D)
  | .lst xs => some xs | .kst xs => some xs | _ => none
def enumD : Nat → List D → List D
  | _, [] => []
  | i, d :: r => .tup [.int i, d] :: enumD (i + 1) r
def zipD (x y : D) : Option (List D) := match x, y with
  | .tup xs, .tup ys => some ((xs.zip ys).map fun p => .tup [p.1, p.2])
  | x, y => match listD x, listD y with
    | some xs, some ys => some ((xs.zip ys).map fun p => .tup [p.1, p.2])
    | _, _ => none
def b40 (i : Int) : Bool := decide (-(2 ^ 40) ≤ i) && decide (i < 2 ^ 40)
/-- one turn -/
def lcTurn (vs : List Nat) (tg : Tg) (hc : Bool) (tst : Env → R U) (elt : Env → R U) (d : D) (env : Env) : R (Option D) := orBad (storeG tg d (wipeE env vs)) fun env1 => match hc with
  | true => (tst env1).bind fun u env2 => orBad (rdU env2 u) fun x => orBad (truD x) fun t => match t with
    | true => (elt env2).bind fun u env3 => orBad (fzU env3 u) fun p => .ok (some p.1) p.2
    | false => .ok none env2
  | false => (elt env1).bind fun u env3 => orBad (fzU env3 u) fun p => .ok (some p.1) p.2
def lcAll (vs : List Nat) (env : Env) (r : R (List D)) : R U := if !(vs.all fun i => calmS (getS env i)) then .bad else match r with
  | .ok ds env1 => .ok (.nw (.lst ds)) (backE env env1 vs)
  | _ => .bad
def popD (xs : List D) (i : Int) : Option (D × List D) := if xs.length ≤ LIM then (ixN xs.length i).bind fun j => xs[j]?.map fun d => (d, xs.eraseIdx j) else none
/-- whose method it is -/
def recvB : B → D → Bool
  | .index, .lst _ => true | .index, .kst _ => true
  | .split, .str _ => true | .join, .str _ => true
  | _, _ => false
/-- a part of an f-string -/
def fmtD : D → Option Str
  | .str z => if z.length ≤ LIM then some z else none
  | .int i => if i.natAbs.log2 < 1920 then some (toString i) else none
  | _ => none
/-- slots are taken for good -/
def frzAll : List Nat → Env → Option Env
  | [], env => some env
  | i :: is, env => (fzU env (.sl i)).bind fun p => frzAll is p.2
/-- what is frozen alone -/
def maskS : Sl → Sl
  | .fz d => .fz d | _ => .un
def maskE (env : Env) : Env := env.map maskS
/-- the def that asks a lambda, told what comes of it -/
def hearC (cl : CallF) (f : Nat) (o : D) (env : Env) : R U := match cl f [.fz o] with
  | .ok r _ => .ok r env
  | .exc x _ => .exc x env
  | .bad => .bad
mutual
/-- no list, dict or object within -/
def noLst : D → Bool
  | .non => true | .bl _ => true | .int _ => true | .str _ => true | .tup xs => noLsts xs | _ => false
def noLsts : List D → Bool
  | [] => true | d :: r => noLst d && noLsts r
end
/-- the names are again what they were -/
def keepC (env : Env) : R U → R U
  | .ok (.d d) _ => if noLst d then .ok (.d d) env else .bad
  | _ => .bad
def askCl (o : D) (cl : CallF) : CallF := fun g as => if g = 999 then match as, o with
    | [], .tup [.non, d] => .ok (.d d) []
    | [], .err c ks vs => .exc (c, ks, vs) []
    | _, _ => .bad
  else cl g as
def askR (r : RC) (env : Env) : R U := match r with
  | .ok (.d d) _ => .ok (.d d) env
  | .exc x _ => .exc x env
  | _ => .bad
/-- an owned list -/
def isLs : Sl → Bool
  | .ow (.lst _) => true | .io (.lst _) => true | _ => false
mutual
def ev (cl : CallF) : Ex → Env → R U
  | .var i, env => match getS env i with
    | .un => .bad
    | .fz d => .ok (.d d) env
    | _ => .ok (.sl i) env
  | .cst d, env => .ok (.d d) env
  | .op2 o a b, env => (ev cl a env).bind fun u env1 => (ev cl b env1).bind fun w env2 =>
      orBad (rdU env2 (pend u)) fun x => orBad (rdU env2 w) fun y => orBad (op2 o x y) fun z => .ok (.nw z) env2
  | .op1 o a, env => (ev cl a env).bind fun u env1 => orBad (rdU env1 u) fun x => orBad (op1 o x) fun z => .ok (.nw z) env1
  | .chain o p a b c, env => (ev cl a env).bind fun u env1 => (ev cl b env1).bind fun w env2 =>
      orBad (rdU env2 (pend u)) fun x => orBad (rdU env2 (pend w)) fun y => orBad (op2 o x y) fun z => match z with
        | .bl true => (ev cl c env2).bind fun q env3 => orBad (rdU env3 (pend w)) fun y' => orBad (rdU env3 q) fun r => orBad (op2 p y' r) fun z' => .ok (.nw z') env3
        | .bl false => .ok (.nw (.bl false)) env2
        | _ => .bad
  | .and a b, env => (ev cl a env).bind fun u env1 => orBad (rdU env1 u) fun x => orBad (truD x) fun t => match t with
        | true => ev cl b env1
        | false => .ok (pend u) env1
  | .or a b, env => (ev cl a env).bind fun u env1 => orBad (rdU env1 u) fun x => orBad (truD x) fun t => match t with
        | true => .ok (pend u) env1
        | false => ev cl b env1
  | .not a, env => (ev cl a env).bind fun u env1 => orBad (rdU env1 u) fun x => orBad (truD x) fun t => .ok (.nw (.bl (!t))) env1
  | .ife c a b, env => (ev cl c env).bind fun u env1 => orBad (rdU env1 u) fun x => orBad (truD x) fun t => match t with
        | true => ev cl a env1
        | false => ev cl b env1
  | .tup es, env => (evF cl es env).bind fun ds env1 => if ds.length ≤ LIM then .ok (.nw (.tup ds)) env1 else .bad
  | .lst es, env => (evF cl es env).bind fun ds env1 => if ds.length ≤ LIM then .ok (.nw (.lst ds)) env1 else .bad
  | .dic, env => .ok (.nw (.dK [] [])) env
  | .call f ms es, env => (evC cl ms es env).bind fun us env1 => orBad (argsOf env1 ms us) fun as =>
      if dupFree (ioSlots us) then match cl f as with
        | .ok r outs => .ok r (putIO env1 (ioSlots us) outs)
        | .exc x outs => .exc x (putIO env1 (ioSlots us) outs)
        | .bad => .bad
      else .bad
  | .callP f ms pm es, env => (evC cl (ms.map fun _ => false) es env).bind fun us env1 => orBad (argsOf env1 ms (permL pm us)) fun as =>
      if dupFree (ioSlots (permL pm us)) && decide (us.length = ms.length) then match cl f as with
        | .ok r outs => .ok r (putIO env1 (ioSlots (permL pm us)) outs)
        | .exc x outs => .exc x (putIO env1 (ioSlots (permL pm us)) outs)
        | .bad => .bad
      else .bad
  | .bi b es, env => (evR cl es env).bind fun us env1 => orBad (rdAll env1 us) fun ds => orBad (biD b ds) fun z => .ok (.nw z) env1
  | .ix a i, env => (ev cl a env).bind fun u env1 => (ev cl i env1).bind fun w env2 =>
      orBad (rdU env2 (pend u)) fun x => orBad (rdU env2 w) fun y => orBad (ixD x y) fun z => .ok (.d z) env2
  | .slice a bl bh lo hi, env => (ev cl a env).bind fun u env1 => (optP bl (ev cl lo) env1).bind fun l env2 => (optP bh (ev cl hi) env2).bind fun h env3 => orBad (rdU env3 (pend u)) fun x => match x with
        | .lst xs => .ok (.nw (.lst (cutD xs l h))) env3
        | .kst xs => .ok (.nw (.lst (cutD xs l h))) env3
        | .tup xs => if HT.sIx xs.length 0 l = 0 ∧ HT.sIx xs.length xs.length h = xs.length then .bad else .ok (.nw (.tup (cutD xs l h))) env3
        | .str z => if z.length ≤ LIM then .ok (.nw (.str (cutS z l h))) env3 else .bad
        | _ => .bad
  | .fld a k, env => (ev cl a env).bind fun u env1 => orBad (rdU env1 u) fun x => orBad (fldOf x k) fun z => .ok (.d z) env1
  | .opo o cs ts a b, env => (ev cl a env).bind fun u env1 => orBad (fzU env1 u) fun p => (ev cl b p.2).bind fun w env2 => orBad (fzU env2 w) fun q => ownOp cl o cs ts p.1 q.1 q.2
  | .callD f ms es ds, env => (evC cl ms es env).bind fun us env1 => runC cl f (ms ++ ds.map fun _ => false) (us ++ ds.map .d) env1
  | .mk c ms es ds, env => (evC cl ms es env).bind fun us env1 => orBad (argsOf env1 (ms ++ ds.map fun _ => false) (us ++ ds.map .d)) fun as => if allFz as then makeO cl c as env1 else .bad
  | .mth io a m cs ms es ds, env => (ev cl a env).bind fun u env1 => orBad (recvU io env1 u) fun p => if !cs.contains p.1 then .bad else (evC cl ms es p.2.2).bind fun us env2 =>
      runC cl (spec p.1 m) (io :: (ms ++ ds.map fun _ => false)) (p.2.1 :: (us ++ ds.map .d)) env2
  | .prp a m cs, env => (ev cl a env).bind fun u env1 => orBad (recvU false env1 u) fun p => if !cs.contains p.1 then .bad else orBad (rdU p.2.2 p.2.1) fun x => match cl (spec p.1 m) [.fz x] with
      | .ok r _ => .ok r p.2.2
      | _ => .bad
  | .ino neg cs a b, env => (ev cl a env).bind fun u env1 => orBad (fzU env1 u) fun p => (ev cl b p.2).bind fun w env2 => orBad (fzU env2 w) fun q => ownIn cl neg cs p.1 q.1 q.2
  | .neo cs a b, env => (ev cl a env).bind fun u env1 => orBad (fzU env1 u) fun p => (ev cl b p.2).bind fun w env2 => orBad (fzU env2 w) fun q => ownNe cl cs p.1 q.1 q.2
  | .lc vs tg it hc c e, env => (itD cl it env).bind fun ds env1 => lcAll vs env1 (lcD (lcTurn vs tg hc (ev cl c) (ev cl e)) ds env1 [])
  | .popI i e, env => if !isLs (getS env i) then .bad else (ev cl e env).bind fun u env1 => orBad (rdU env1 u) fun k => match getS env1 i, k with
      | .ow (.lst xs), .int n => orBad (popD xs n) fun p => .ok (.d p.1) (env1.set i (.ow (.lst p.2)))
      | .io (.lst xs), .int n => orBad (popD xs n) fun p => .ok (.d p.1) (env1.set i (.io (.lst p.2)))
      | _, _ => .bad
  | .bm b o e, env => (ev cl o env).bind fun u env1 => orBad (rdU env1 u) fun x0 => if !recvB b x0 then .bad else (ev cl e env1).bind fun w env2 => orBad (rdU env2 (pend u)) fun x => orBad (rdU env2 w) fun y => orBad (biD b [x, y]) fun z => .ok (.nw z) env2
  | .lenO cs a, env => (ev cl a env).bind fun u env1 => orBad (recvU false env1 u) fun p => if !cs.contains p.1 then .bad else orBad (rdU p.2.2 p.2.1) fun x => match cl (spec p.1 19) [.fz x] with
      | .ok (.d (.int n)) _ => if decide (0 ≤ n) && decide (n < 2 ^ 40) then .ok (.nw (.int n)) p.2.2 else .bad
      | _ => .bad
  | .fstr es, env => (evJ cl es Str.empty env).bind fun z env1 => .ok (.nw (.str z)) env1
  | .strO cs a, env => (ev cl a env).bind fun u env1 => orBad (recvU false env1 u) fun p => if !cs.contains p.1 then .bad else orBad (rdU p.2.2 p.2.1) fun x => match cl (spec p.1 21) [.fz x] with
      | .ok (.d (.str z)) _ => .ok (.nw (.str z)) p.2.2
      | _ => .bad
  | .mkP c pm es, env => (evC cl (pm.map fun _ => false) es env).bind fun us env1 => orBad (argsOf env1 (pm.map fun _ => false) (permL pm us)) fun as => if allFz as && decide (us.length = pm.length) then makeO cl c as env1 else .bad
  | .mkEP c ks pm es, env => (evF cl es env).bind fun ds env1 => if (permL pm ds).length = ks.length ∧ ds.length = ks.length then .ok (.d (.err c ks (permL pm ds).reverse)) env1 else .bad
  | .mkE c ks es, env => (evF cl es env).bind fun ds env1 => if ds.length = ks.length then .ok (.d (.err c ks ds.reverse)) env1 else .bad
  | .heard f vs e, env => orBad (frzAll vs env) fun env1 => match ev cl e (maskE env1) with
      | .ok u env2 => orBad (fzU env2 u) fun p => hearC cl f (.tup [.non, p.1]) env1
      | .exc x _ => hearC cl f (.err x.1 x.2.1 x.2.2) env1
      | .bad => .bad
  | .heardK f vs e, env => orBad (frzAll vs env) fun env1 => match ev cl e (maskE env1) with
      | .ok u env2 => orBad (fzU env2 u) fun p => keepC env (hearC cl f (.tup [.non, p.1]) env1)
      | .exc x _ => keepC env (hearC cl f (.err x.1 x.2.1 x.2.2) env1)
      | .bad => .bad
  | .ask i, env => match getS env i with
      | .fn => askR (cl 999 []) env
      | _ => .bad
  | .getO cs a b, env => (ev cl a env).bind fun u env1 => orBad (fzU env1 u) fun p => (ev cl b p.2).bind fun w env2 => orBad (fzU env2 w) fun q => ownGet cl cs p.1 q.1 q.2
  | .calO cs n a es, env => (ev cl a env).bind fun u env1 => orBad (fzU env1 u) fun p => if !isObD p.1 then .bad else (evF cl es p.2).bind fun ds env2 => if ds.length = n then ownCal cl cs p.1 ds env2 else .bad
  | .cmt c m n es, env => (evF cl es env).bind fun ds env1 => if ds.length = n then (match cl (spec c m) ((.cls c :: ds).map .fz) with
      | .ok r _ => .ok r env1
      | .exc x _ => .exc x env1
      | .bad => .bad) else .bad
  | .mkL i c n es, env => if !isClsN c (getS env i) then .bad else (evF cl es env).bind fun ds env1 => if ds.length = n then makeO cl c (ds.map .fz) env1 else .bad
  | .mkLS i c es, env => if !isClsN c (getS env i) then .bad else (evF cl es env).bind fun ds env1 => makeO cl c (ds.map .fz) env1
  | .callS f es, env => (evF cl es env).bind fun ds env1 => match cl f (ds.map .fz) with
      | .ok r _ => .ok r env1
      | .exc x _ => .exc x env1
      | .bad => .bad
  | .mkS c es, env => (evF cl es env).bind fun ds env1 => makeO cl c (ds.map .fz) env1
  | .isObj cs a, env => (ev cl a env).bind fun u env1 => orBad (rdU env1 u) fun x => if isClsD x then .bad else .ok (.nw (.bl (isObjOf cs x))) env1
/-- all taken for good -/
def evF (cl : CallF) : Exs → Env → R (List D)
  | .nil, env => .ok [] env
  | .cons e es, env => (ev cl e env).bind fun u env1 => orBad (fzU env1 u) fun p => (evF cl es p.2).bind fun ds env2 => .ok (p.1 :: ds) env2
  | .star e es, env => (ev cl e env).bind fun u env1 => orBad (fzU env1 u) fun p => orBad (itemsD p.1) fun xs => (evF cl es p.2).bind fun ds env2 => .ok (xs ++ ds) env2
/-- all read -/
def evR (cl : CallF) : Exs → Env → R (List U)
  | .nil, env => .ok [] env
  | .cons e es, env => (ev cl e env).bind fun u env1 => (evR cl es env1).bind fun us env2 => .ok (pend u :: us) env2
  | .star _ _, _ => .bad
/-- the parts of an f-string -/
def evJ (cl : CallF) : Exs → Str → Env → R Str
  | .nil, acc, env => .ok acc env
  | .cons e es, acc, env => (ev cl e env).bind fun u env1 => orBad (rdU env1 u) fun d => orBad (fmtD d) fun y => if (acc ++ y).length ≤ LIM then evJ cl es (acc ++ y) env1 else .bad
  | .star _ _, _, _ => .bad
/-- a call's: taken for good, or handed in to be changed -/
def evC (cl : CallF) : List Bool → Exs → Env → R (List U)
  | _, .nil, env => .ok [] env
  | m :: ms, .cons e es, env => (ev cl e env).bind fun u env1 => match m with
      | true => match u with
        | .sl i => (evC cl ms es env1).bind fun us env2 => .ok (.sl i :: us) env2
        | _ => .bad
      | false => orBad (fzU env1 u) fun p => (evC cl ms es p.2).bind fun us env2 => .ok (.d p.1 :: us) env2
  | ms, .star e es, env => (ev cl e env).bind fun u env1 => orBad (fzU env1 u) fun p => orBad (itemsD p.1) fun xs => (evC cl ms es p.2).bind fun us env2 => .ok (xs.map .d ++ us) env2
  | [], .cons _ _, _ => .bad
/-- what is walked -/
def itD (cl : CallF) : It → Env → R (List D)
  | .seq e, env => (ev cl e env).bind fun u env1 => orBad (fzU env1 u) fun p => orBad (itemsD p.1) fun xs => .ok xs p.2
  | .rng lo hi, env => (ev cl lo env).bind fun u env1 => (ev cl hi env1).bind fun w env2 => orBad (rdU env2 (pend u)) fun x => orBad (rdU env2 w) fun y => match x, y with
      | .int m, .int n => if b40 m && b40 n then .ok ((List.range (n - m).toNat).map fun (k : Nat) => .int (m + k)) env2 else .bad
      | _, _ => .bad
  | .down lo hi, env => (ev cl lo env).bind fun u env1 => (ev cl hi env1).bind fun w env2 => orBad (rdU env2 (pend u)) fun x => orBad (rdU env2 w) fun y => match x, y with
      | .int m, .int n => if b40 m && b40 n then .ok ((List.range (m - n).toNat).map fun (k : Nat) => .int (m - k)) env2 else .bad
      | _, _ => .bad
  | .enum e, env => (ev cl e env).bind fun u env1 => orBad (fzU env1 u) fun p => orBad (itemsD p.1) fun xs => .ok (enumD 0 xs) p.2
  | .zip a b, env => (ev cl a env).bind fun u env1 => orBad (fzU env1 u) fun p => (ev cl b p.2).bind fun w env2 => orBad (fzU env2 w) fun q => orBad (zipD p.1 q.1) fun xs => .ok xs q.2
  | .str e, env => (ev cl e env).bind fun u env1 => orBad (rdU env1 u) fun x => match x with
      | .str z => .ok (z.cps.toList.map fun c => .str ⟨#[c]⟩) env1
      | _ => .bad
end

inductive Fl where
  | next | brk | cont | ret (u : U)
/-- what is stored at a name: an owned thing, or a frozen one -/
def slOf : U → D → Sl
  | .nw _, .lst ds => .ow (.lst ds)
  | .nw _, .dK ks vs => .ow (.dK ks vs)
  | .nw _, .dT ks vs => .ow (.dT ks vs)
  | .nw _, .obj c ks vs => .ow (.obj c ks vs)
  | _, d => .fz d
def isIO : Sl → Bool
  | .io _ => true | _ => false
/-- name = value -/
def asgU (env : Env) (i : Nat) (u : U) : Option Env :=
  match u with
  | .nw d => some (env.set i (slOf (.nw d) d))
  | .d d => some (env.set i (.fz d))
  | .sl j => (fzU env (.sl j)).map fun p => p.2.set i (.fz p.1)
/-- several names -/
def storeAll : List Nat → List D → Env → Option Env
  | [], [], env => some env
  | i :: is, d :: ds, env => storeAll is ds (env.set i (.fz d))
  | _, _, _ => none
def setD (xs : List D) (i : Int) (d : D) : Option (List D) := (ixN xs.length i).map fun j => xs.set j d
/-- the loop over items -/
def forD (body : Env → R Fl) (i : Nat) : List D → Env → R Fl
  | [], env => .ok .next env
  | d :: r, env => (body (env.set i (.fz d))).bind fun fl env1 => match fl with
      | .next => forD body i r env1
      | .cont => forD body i r env1
      | .brk => .ok .next env1
      | .ret u => .ok (.ret u) env1
/-- the loop over items, any target -/
def forG (body : Env → R Fl) (tg : Tg) : List D → Env → R Fl
  | [], env => .ok .next env
  | d :: r, env => orBad (storeG tg d env) fun env0 => (body env0).bind fun fl env1 => match fl with
      | .next => forG body tg r env1
      | .cont => forG body tg r env1
      | .brk => .ok .next env1
      | .ret u => .ok (.ret u) env1
def whD (test : Env → R Bool) (body : Env → R Fl) : Nat → Env → R Fl
  | 0, _ => .bad
  | n + 1, env => (test env).bind fun t env1 => match t with
      | false => .ok .next env1
      | true => (body env1).bind fun fl env2 => match fl with
        | .next => whD test body n env2
        | .cont => whD test body n env2
        | .brk => .ok .next env2
        | .ret u => .ok (.ret u) env2
def evT (cl : CallF) (e : Ex) (env : Env) : R Bool := (ev cl e env).bind fun u env1 => orBad (rdU env1 u) fun x => orBad (truD x) fun t => .ok t env1
def FUEL : Nat := 100000
def retU (env : Env) : U → Option (U × Env)
  | .d x => some (.d x, env) | .nw x => some (.nw x, env)
  | .sl i => match getS env i with
    | .ow x => some (.nw x, env.set i .un) | .fz x => some (.d x, env) | _ => none
mutual
def ex (cl : CallF) : S → Env → R Fl
  | .asg i e, env => (ev cl e env).bind fun u env1 => orBad (asgU env1 i u) fun env2 => .ok .next env2
  | .setI i x e, env => (ev cl e env).bind fun u env1 => orBad (fzU env1 u) fun p => if !isLs (getS p.2 i) then .bad else (ev cl x p.2).bind fun w env2 =>
      orBad (rdU env2 w) fun k => match getS env2 i, k with
        | .ow (.lst xs), .int n => orBad (setD xs n p.1) fun ys => .ok .next (env2.set i (.ow (.lst ys)))
        | .io (.lst xs), .int n => orBad (setD xs n p.1) fun ys => .ok .next (env2.set i (.io (.lst ys)))
        | _, _ => .bad
  | .app i e, env => if !isLs (getS env i) then .bad else (ev cl e env).bind fun u env1 => orBad (fzU env1 u) fun p => match getS p.2 i with
        | .ow (.lst xs) => if xs.length < LIM then .ok .next (p.2.set i (.ow (.lst (xs ++ [p.1])))) else .bad
        | .io (.lst xs) => if xs.length < LIM then .ok .next (p.2.set i (.io (.lst (xs ++ [p.1])))) else .bad
        | _ => .bad
  | .aug i o e, env => match getS env i with
        | .fz (.int n) => (ev cl e env).bind fun u env1 => orBad (rdU env1 u) fun y => match y with
          | .int m => match o with
            | .add => .ok .next (env1.set i (.fz (.int (n + m))))
            | .sub => .ok .next (env1.set i (.fz (.int (n - m))))
            | _ => .bad
          | _ => .bad
        | _ => .bad
  | .ex e, env => (ev cl e env).bind fun _ env1 => .ok .next env1
  | .iff c a b, env => (evT cl c env).bind fun t env1 => match t with
      | true => exs cl a env1
      | false => exs cl b env1
  | .forr i n b, env => (ev cl n env).bind fun u env1 => orBad (rdU env1 u) fun y => match y with
      | .int m => if decide (-(2 ^ 40) ≤ m) && decide (m < 2 ^ 40) then forD (exs cl b) i ((List.range m.toNat).map fun (k : Nat) => .int k) env1 else .bad
      | _ => .bad
  | .forl i l b, env => (ev cl l env).bind fun u env1 => orBad (fzU env1 u) fun p => match p.1 with
      | .lst xs => forD (exs cl b) i xs p.2
      | .tup xs => forD (exs cl b) i xs p.2
      | .kst xs => forD (exs cl b) i xs p.2
      | _ => .bad
  | .fort tg it b, env => (itD cl it env).bind fun ds env1 => forG (exs cl b) tg ds env1
  | .whil c b, env => whD (evT cl c) (exs cl b) FUEL env
  | .ret e, env => (ev cl e env).bind fun u env1 => orBad (retU env1 u) fun r => .ok (.ret r.1) r.2
  | .retN, env => .ok (.ret (.d .non)) env
  | .pass, env => .ok .next env
  | .never, _ => .bad
  | .par is es, env => (evF cl es env).bind fun ds env1 => orBad (storeAll is ds env1) fun env2 => .ok .next env2
  | .unp is e, env => (ev cl e env).bind fun u env1 => orBad (rdU env1 u) fun d => match d with
      | .tup ds => orBad (storeAll is ds env1) fun env2 => .ok .next env2
      | .lst ds => orBad (storeAll is ds env1) fun env2 => .ok .next env2
      | .kst ds => orBad (storeAll is ds env1) fun env2 => .ok .next env2
      | _ => .bad
  | .setF i cs k e, env => (ev cl e env).bind fun u env1 => orBad (fzU env1 u) fun p => match getS p.2 i with
      | .ow (.obj c ks vs) => if (decide (ks.length < 100) && decide (vs.length = ks.length) && cs.contains c) = true then .ok .next (p.2.set i (.ow (.obj c (putD ks vs k p.1).1 (putD ks vs k p.1).2))) else .bad
      | .io (.obj c ks vs) => if (decide (ks.length < 100) && decide (vs.length = ks.length) && cs.contains c) = true then .ok .next (p.2.set i (.io (.obj c (putD ks vs k p.1).1 (putD ks vs k p.1).2))) else .bad
      | _ => .bad
  | .brk, env => .ok .brk env
  | .cont, env => .ok .cont env
  | .raise c ks es, env => (evF cl es env).bind fun ds env1 => if ds.length = ks.length then .exc (c, ks, ds.reverse) env1 else .bad
  | .tryC b cs i j, env => match exs cl b env with
      | .exc x env1 => if cs.contains x.1 then .ok .next (((env1.set i .un).set j (.fz (.err x.1 x.2.1 x.2.2))).set i .un) else .bad
      | r => r
def exs (cl : CallF) : Ss → Env → R Fl
  | .nil, env => .ok .next env
  | .cons s r, env => (ex cl s env).bind fun fl env1 => match fl with
      | .next => exs cl r env1
      | f => .ok f env1
end

/-- a def: how many names, its body -/
structure Fn where
  n : Nat
  body : Ss
  star : Option Nat := none
  lam : Bool := false
/-- what is left over is a tuple -/
def restD : List Ar → Option (List D)
  | [] => some []
  | .fz d :: r => (restD r).map (d :: ·)
  | .io _ :: _ => none
def packA : Nat → List Ar → Option (List Ar)
  | 0, as => (restD as).bind fun ds => if ds.length ≤ LIM then some [.fz (.tup ds)] else none
  | n + 1, a :: as => (packA n as).map (a :: ·)
  | _ + 1, [] => none
def startE : Nat → List Ar → Env
  | n + 1, .fz d :: as => .fz d :: startE n as
  | n + 1, .io d :: as => .io d :: startE n as
  | n + 1, [] => .un :: startE n []
  | 0, _ => []
/-- what stands in the slots that were handed in -/
def outsOf : List Ar → Env → Option (List D)
  | [], _ => some []
  | .fz _ :: as, env => outsOf as env.tail
  | .io _ :: as, env => match env.head? with
    | some (.io d) => (outsOf as env.tail).map (d :: ·)
    | _ => none
/-- a result that can't be owned is a plain one -/
def isMutD : D → Bool
  | .lst _ => true | .dK _ _ => true | .dT _ _ => true | .obj _ _ _ => true | _ => false
def nrm (x : D) : U := if isMutD x = true then .nw x else .d x
def finO : Option (List D) → Fl → RC
  | some outs, .next => .ok (.d .non) outs
  | some outs, .ret (.d x) => .ok (.d x) outs
  | some outs, .ret (.nw x) => .ok (nrm x) outs
  | _, _ => .bad
def finX : Option (List D) → Exn → RC
  | some outs, x => .exc x outs
  | none, _ => .bad
def finR (as : List Ar) : R Fl → RC
  | .ok fl env => finO (outsOf as env) fl
  | .exc x env => finX (outsOf as env) x
  | .bad => .bad
def runF (cl : CallF) (F : Fn) (as : List Ar) : RC := finR as (exs cl F.body (startE F.n as))
/-- what the def that asks begins with -/
def lamE (n : Nat) : Env := (startE n []).set 0 .fn
/-- calls, to a depth -/
def calls (fs : Nat → Option Fn) : Nat → CallF
  | 0, _, _ => .bad
  | k + 1, f, as => match fs f with
    | some F => match F.lam with
      | false => match F.star with
        | none => runF (calls fs k) F as
        | some n => match packA n as with
          | some bs => runF (calls fs k) F bs
          | none => .bad
      | true => match as with
        | [.fz o] => finR [] (exs (askCl o (calls fs k)) F.body (lamE F.n))
        | _ => .bad
    | none => .bad
end PP
end

section
set_option maxHeartbeats 1000000
/-! What the data stand for in the heap; the readings of the small syntax. -/
namespace PP
open PySem L2

structure Tbl where
  K : PySem.W.Frag
  cn : Nat → Option Addr
  fn : Nat → Str
  fo : Nat → Nat → Bool
  tt : List (Addr × Str)
  ec : Nat → Bool
/-- the class, where it has such fields -/
def Tbl.ck (T : Tbl) (c : Nat) (ks : List Nat) : Option Addr := if (!T.ec c && ks.all (T.fo c)) = true then T.cn c else none
/-- .. an exception's -/
def Tbl.cx (T : Tbl) (c : Nat) (ks : List Nat) : Option Addr := if (T.ec c && ks.all (T.fo c)) = true then T.cn c else none
abbrev Ext (H H' : Hp) : Prop := ∀ a o, H a = some o → H' a = some o
theorem Ext.rfl' (H : Hp) : Ext H H := fun _ _ h => h
theorem Ext.tr {H H1 H2 : Hp} (a : Ext H H1) (b : Ext H1 H2) : Ext H H2 := fun x o h => b x o (a x o h)
theorem ext_upd {H : Hp} {p : Addr} {o : HO} (h : H p = none) : Ext H (upd H p o) := fun a u e => by
  rw [upd_ne (ne_of_none e h)]; exact e
theorem Ext.sqL {K : PySem.W.Frag} {H H' : Hp} {a : Addr} {xs : List V} (e : Ext H H') (h : SqL K H a xs) : SqL K H' a xs := by
  rcases h with (h | ⟨o, h⟩) | h
  · exact .inl (.inl (e _ _ h))
  · exact .inl (.inr ⟨o, e _ _ h⟩)
  · exact .inr h
theorem Ext.rd {H H' : Hp} {a : Addr} {o : HO} (e : Ext H H') (h : Rd H a o) : Rd H' a o := by
  rcases h with h | ⟨u, h⟩
  · exact .inl (e _ _ h)
  · exact .inr ⟨u, e _ _ h⟩
theorem Ext.sqT {K : PySem.W.Frag} {H H' : Hp} {a : Addr} {xs : List V} (e : Ext H H') (h : SqT K H a xs) : SqT K H' a xs := by
  rcases h with (h | ⟨o, h⟩) | h
  · exact .inl (.inl (e _ _ h))
  · exact .inl (.inr ⟨o, e _ _ h⟩)
  · exact .inr h
/-- kept, but for a table -/
def Kp (o : HO) (x : Option HO) : Prop := x = some o ∨ ∃ ps ps', o = .tbl ps ∧ x = some (.tbl ps')
theorem Kp.at {o : HO} {x : Option HO} (h : Kp o x) (n : ∀ ps, o ≠ .tbl ps) : x = some o := by
  rcases h with h | ⟨ps, _, h, _⟩
  · exact h
  · exact (n ps h).elim
theorem Kp.some {o : HO} {x : Option HO} (h : Kp o x) : ∃ u, x = .some u := by
  rcases h with h | ⟨_, _, _, h⟩ <;> exact ⟨_, h⟩
theorem Kp.tr {o u : HO} {x y : Option HO} (h : Kp o x) (e : x = .some u) (k : Kp u y) : Kp o y := by
  rcases h with h | ⟨ps, ps', h, h'⟩
  · rw [h] at e; cases e; exact k
  · rw [h'] at e; cases e
    rcases k with k | ⟨qs, qs', k, k'⟩
    · exact .inr ⟨ps, ps', h, k⟩
    · exact .inr ⟨ps, qs', h, k'⟩
def ExtW (H H' : Hp) : Prop := ∀ a o, H a = some o → Kp o (H' a)
theorem ExtW.of {H H' : Hp} (e : Ext H H') : ExtW H H' := fun a o h => .inl (e a o h)
theorem ExtW.tr {H H1 H2 : Hp} (a : ExtW H H1) (b : ExtW H1 H2) : ExtW H H2 := fun x o h => by
  obtain ⟨u, hu⟩ := (a x o h).some
  exact (a x o h).tr hu (b x u hu)
theorem ExtW.no {H H' : Hp} (e : ExtW H H') {a : Addr} (h : H' a = none) : H a = none := by
  cases q : H a with
  | none => rfl
  | some o => obtain ⟨u, hu⟩ := (e a o q).some; rw [h] at hu; cases hu
theorem Ext.tabs {T : List (Addr × Str)} {H H' : Hp} (e : Ext H H') (t : LamX.Tabs T H) : LamX.Tabs T H' := t.ext e
/-- an object that is no table and no code object changes -/
theorem tabs_upd {T : List (Addr × Str)} {H : Hp} {a : Addr} {o u : HO} (h : H a = some u) (n1 : ∀ ps, u ≠ .tbl ps) (n2 : ∀ φ, u ≠ .ext φ) (t : LamX.Tabs T H) : LamX.Tabs T (upd H a o) := fun p hp => by
  obtain ⟨ps, h1, h2, h3⟩ := t p hp
  refine ⟨ps, ?_, h2, fun pos cv hc => ?_⟩
  · rw [upd_ne (fun z => by rw [z, h] at h1; exact n1 ps (Option.some.inj h1))]; exact h1
  · obtain ⟨c, e1, e2⟩ := h3 pos cv hc
    refine ⟨c, e1, ?_⟩
    rw [upd_ne (fun z => by rw [z, h] at e2; exact n2 _ (Option.some.inj e2))]; exact e2
/-- an exception that is at hand -/
def ErrO (C : Addr) (d : Option Addr) (a : Addr) : HO := .ext fun h => ∃ (oe : Obj) (vs : Array Value), h.get? a = some oe ∧ Zc (.ref C) d oe ∧ oe.data = .fields vs
theorem Ext.no {H H' : Hp} (e : Ext H H') {a : Addr} (h : H' a = none) : H a = none := by
  cases q : H a with
  | none => rfl
  | some o => rw [e a o q] at h; cases h

mutual
/-- the value v stands for the data, in the heap H -/
def Rep (T : Tbl) (H : Hp) : D → V → Prop
  | .non, v => v = .non
  | .bl b, v => v = .bl b
  | .int i, v => v = .int i
  | .str s, v => v = .str s
  | .lst ds, v => ∃ a xs, v = .ref a ∧ Rd H a (.lst xs) ∧ RepAll T H ds xs
  | .tup ds, v => ∃ a xs, v = .ref a ∧ SqT T.K H a xs ∧ RepAll T H ds xs
  | .kst ds, v => ∃ a xs, v = .ref a ∧ SqL T.K H a xs ∧ RepAll T H ds xs
  | .dK ks vs, v => ∃ a xs, v = .ref a ∧ H a = some (.dK (ks.zip xs)) ∧ xs.length = ks.length ∧ RepAll T H vs xs
  | .dT ks vs, v => ∃ a xs, v = .ref a ∧ H a = some (.dT (ks.zip xs)) ∧ xs.length = ks.length ∧ RepAll T H vs xs
  | .obj c ks vs, v => ∃ a C dx xs, v = .ref a ∧ T.ck c ks = some C ∧ H a = some (.ins C dx ((ks.map T.fn).zip xs)) ∧ xs.length = ks.length ∧ RepAll T H vs xs
  | .cls c, v => ∃ C, T.cn c = some C ∧ v = .ref C
  | .err c ks vs, v => ∃ a C d, v = .ref a ∧ T.cx c ks = some C ∧ H a = some (ErrO C d a) ∧ ((ks = [] ∧ d = none) ∨ ∃ dd xs, d = some dd ∧ H dd = some (.xd ((ks.map T.fn).zip xs)) ∧ xs.length = ks.length ∧ RepAll T H vs xs)
def RepAll (T : Tbl) (H : Hp) : List D → List V → Prop
  | [], vs => vs = []
  | d :: ds, vs => ∃ v r, vs = v :: r ∧ Rep T H d v ∧ RepAll T H ds r
end
/-- an owned thing: its own object isn't frozen, its parts are -/
def RepO (T : Tbl) (H0 H : Hp) : D → V → Prop
  | .lst ds, v => ∃ a xs, v = .ref a ∧ H0 a = none ∧ H a = some (.lst xs) ∧ RepAll T H0 ds xs
  | .dK ks vs, v => ∃ a xs, v = .ref a ∧ H0 a = none ∧ H a = some (.dK (ks.zip xs)) ∧ xs.length = ks.length ∧ RepAll T H0 vs xs
  | .dT ks vs, v => ∃ a xs, v = .ref a ∧ H0 a = none ∧ H a = some (.dT (ks.zip xs)) ∧ xs.length = ks.length ∧ RepAll T H0 vs xs
  | .obj c ks vs, v => ∃ a C dx xs, v = .ref a ∧ H0 a = none ∧ T.ck c ks = some C ∧ H a = some (.ins C dx ((ks.map T.fn).zip xs)) ∧ xs.length = ks.length ∧ RepAll T H0 vs xs
  | _, _ => False
/-- a value to be read: frozen, or owned -/
def RdV (T : Tbl) (H0 H : Hp) (d : D) (v : V) : Prop := Rep T H0 d v ∨ RepO T H0 H d v
/-- what an operation gives: a new thing (not of H), or a frozen one -/
def RepG (T : Tbl) (H0' H' H : Hp) (d : D) (v : V) : Prop := if isMutD d = true then ∃ a, v = .ref a ∧ H a = none ∧ RepO T H0' H' d v else Rep T H0' d v

mutual
theorem Rep.mono {T : Tbl} {H H' : Hp} (e : Ext H H') : ∀ (d : D) (v : V), Rep T H d v → Rep T H' d v
  | .non, _, h => by simpa only [Rep] using h
  | .bl _, _, h => by simpa only [Rep] using h
  | .int _, _, h => by simpa only [Rep] using h
  | .str _, _, h => by simpa only [Rep] using h
  | .lst ds, _, h => by
    simp only [Rep] at h ⊢
    obtain ⟨a, xs, h1, h2, h3⟩ := h
    exact ⟨a, xs, h1, e.rd h2, RepAll.mono e _ _ h3⟩
  | .tup ds, _, h => by
    simp only [Rep] at h ⊢
    obtain ⟨a, xs, h1, h2, h3⟩ := h
    exact ⟨a, xs, h1, e.sqT h2, RepAll.mono e _ _ h3⟩
  | .kst ds, _, h => by
    simp only [Rep] at h ⊢
    obtain ⟨a, xs, h1, h2, h3⟩ := h
    exact ⟨a, xs, h1, e.sqL h2, RepAll.mono e _ _ h3⟩
  | .dK ks vs, _, h => by
    simp only [Rep] at h ⊢
    obtain ⟨a, xs, h1, h2, hl, h3⟩ := h
    exact ⟨a, xs, h1, e _ _ h2, hl, RepAll.mono e _ _ h3⟩
  | .dT ks vs, _, h => by
    simp only [Rep] at h ⊢
    obtain ⟨a, xs, h1, h2, hl, h3⟩ := h
    exact ⟨a, xs, h1, e _ _ h2, hl, RepAll.mono e _ _ h3⟩
  | .obj c ks vs, _, h => by
    simp only [Rep] at h ⊢
    obtain ⟨a, C, dx, xs, h1, hc, h2, hl, h3⟩ := h
    exact ⟨a, C, dx, xs, h1, hc, e _ _ h2, hl, RepAll.mono e _ _ h3⟩
  | .cls _, _, h => by simpa only [Rep] using h
  | .err c ks vs, _, h => by
    simp only [Rep] at h ⊢
    obtain ⟨a, C, d, h1, hc, h2, h3⟩ := h
    refine ⟨a, C, d, h1, hc, e _ _ h2, ?_⟩
    rcases h3 with h3 | ⟨dd, xs, e1, e2, e3, e4⟩
    · exact .inl h3
    · exact .inr ⟨dd, xs, e1, e _ _ e2, e3, RepAll.mono e _ _ e4⟩
theorem RepAll.mono {T : Tbl} {H H' : Hp} (e : Ext H H') : ∀ (ds : List D) (vs : List V), RepAll T H ds vs → RepAll T H' ds vs
  | [], _, h => by simpa only [RepAll] using h
  | d :: ds, _, h => by
    simp only [RepAll] at h ⊢
    obtain ⟨v, r, h1, h2, h3⟩ := h
    exact ⟨v, r, h1, Rep.mono e _ _ h2, RepAll.mono e _ _ h3⟩
end
theorem RepAll.len {T : Tbl} {H : Hp} : ∀ {ds : List D} {vs : List V}, RepAll T H ds vs → vs.length = ds.length
  | [], _, h => by simp only [RepAll] at h; subst h; rfl
  | d :: ds, _, h => by
    simp only [RepAll] at h
    obtain ⟨v, r, rfl, _, h3⟩ := h
    simp [RepAll.len h3]
theorem RepAll.app {T : Tbl} {H : Hp} : ∀ {ds es : List D} {vs us : List V}, RepAll T H ds vs → RepAll T H es us → RepAll T H (ds ++ es) (vs ++ us)
  | [], _, _, _, h, h' => by simp only [RepAll] at h; subst h; simpa using h'
  | d :: ds, _, _, _, h, h' => by
    simp only [RepAll] at h
    obtain ⟨v, r, rfl, h2, h3⟩ := h
    simp only [List.cons_append, RepAll]
    exact ⟨v, _, rfl, h2, RepAll.app h3 h'⟩
theorem RepAll.get {T : Tbl} {H : Hp} : ∀ {ds : List D} {vs : List V} {i : Nat} {d : D}, RepAll T H ds vs → ds[i]? = some d → ∃ v, vs[i]? = some v ∧ Rep T H d v
  | [], _, _, _, h, e => by simp at e
  | d :: ds, _, 0, _, h, e => by
    simp only [RepAll] at h
    obtain ⟨v, r, rfl, h2, h3⟩ := h
    simp at e; subst e
    exact ⟨v, rfl, h2⟩
  | d :: ds, _, i + 1, _, h, e => by
    simp only [RepAll] at h
    obtain ⟨v, r, rfl, h2, h3⟩ := h
    simpa using RepAll.get h3 (by simpa using e)
theorem RepAll.get' {T : Tbl} {H : Hp} : ∀ {ds : List D} {vs : List V} {i : Nat} {v : V}, RepAll T H ds vs → vs[i]? = some v → ∃ d, ds[i]? = some d ∧ Rep T H d v
  | [], _, _, _, h, e => by simp only [RepAll] at h; subst h; simp at e
  | d :: ds, _, 0, _, h, e => by
    simp only [RepAll] at h
    obtain ⟨v, r, rfl, h2, h3⟩ := h
    simp at e; subst e
    exact ⟨d, rfl, h2⟩
  | d :: ds, _, i + 1, _, h, e => by
    simp only [RepAll] at h
    obtain ⟨v, r, rfl, h2, h3⟩ := h
    simpa using RepAll.get' h3 (by simpa using e)
theorem RepAll.set {T : Tbl} {H : Hp} {d : D} {v : V} (hd : Rep T H d v) : ∀ {ds : List D} {vs : List V} (i : Nat), RepAll T H ds vs → RepAll T H (ds.set i d) (vs.set i v)
  | [], _, _, h => by simp only [RepAll] at h; subst h; simp [RepAll]
  | e :: ds, _, 0, h => by
    simp only [RepAll] at h
    obtain ⟨u, r, rfl, h2, h3⟩ := h
    simp only [List.set_cons_zero, RepAll]
    exact ⟨v, r, rfl, hd, h3⟩
  | e :: ds, _, i + 1, h => by
    simp only [RepAll] at h
    obtain ⟨u, r, rfl, h2, h3⟩ := h
    simp only [List.set_cons_succ, RepAll]
    exact ⟨u, _, rfl, h2, RepAll.set hd i h3⟩
theorem RepAll.take {T : Tbl} {H : Hp} : ∀ {ds : List D} {vs : List V} (n : Nat), RepAll T H ds vs → RepAll T H (ds.take n) (vs.take n)
  | _, _, 0, h => by simp [RepAll]
  | [], _, _ + 1, h => by simp only [RepAll] at h; subst h; simp [RepAll]
  | e :: ds, _, i + 1, h => by
    simp only [RepAll] at h
    obtain ⟨u, r, rfl, h2, h3⟩ := h
    simp only [List.take_succ_cons, RepAll]
    exact ⟨u, _, rfl, h2, RepAll.take i h3⟩
theorem RepAll.drop {T : Tbl} {H : Hp} : ∀ {ds : List D} {vs : List V} (n : Nat), RepAll T H ds vs → RepAll T H (ds.drop n) (vs.drop n)
  | _, _, 0, h => by simpa using h
  | [], _, _ + 1, h => by simp only [RepAll] at h; subst h; simp [RepAll]
  | e :: ds, _, i + 1, h => by
    simp only [RepAll] at h
    obtain ⟨u, r, rfl, h2, h3⟩ := h
    simpa using RepAll.drop i h3
theorem RepAll.atI {T : Tbl} {H : Hp} {ds : List D} {vs : List V} {i : Int} {d : D} (h : RepAll T H ds vs) (e : L2.atI ds i = some d) : ∃ v, L2.atI vs i = some v ∧ Rep T H d v := by
  unfold L2.atI at e ⊢
  rw [h.len]
  cases q : ixN ds.length i with
  | none => rw [q] at e; cases e
  | some j =>
    rw [q] at e
    exact RepAll.get h e

structure Ctx where
  T : Tbl
  H0e : Hp
  He : Hp
  ioAt : List (Option Addr)
  fa : Addr
def Ctx.io (C : Ctx) (a : Addr) : Prop := some a ∈ C.ioAt
structure Ctx.Ok (C : Ctx) : Prop where
  ioNo : ∀ a, C.io a → C.H0e a = none ∧ C.He a ≠ none
  ex : Ext C.H0e C.He
def ownS : Sl → Bool
  | .ow _ => true | .io _ => true | _ => false
def SlOk (C : Ctx) (H0 H : Hp) (i : Nat) (o : Option (Option V)) : Sl → Prop
  | .un => True
  | .fz d => ∃ v, o = some (some v) ∧ Rep C.T H0 d v
  | .ow d => ∃ a, o = some (some (.ref a)) ∧ C.He a = none ∧ RepO C.T H0 H d (.ref a)
  | .io d => ∃ a, o = some (some (.ref a)) ∧ C.ioAt[i]? = some (some a) ∧ RepO C.T H0 H d (.ref a)
  | .fn => o = some (some (.ref C.fa))
structure Sim (C : Ctx) (σ : L2.St) (H0 H : Hp) (env : Env) : Prop where
  ok : C.Ok
  ex : Ext H0 H
  ex0 : Ext C.H0e H0
  fresh : ∀ a, C.H0e a = none → H0 a ≠ none → C.He a = none
  keep : ∀ a o, C.He a = some o → ¬ C.io a → Kp o (H a)
  ioH : ∀ a, C.io a → H a ≠ none
  len : env.length = σ.length
  slots : ∀ i, SlOk C H0 H i (σ[i]?) (getS env i)
  inj : ∀ i j a, i ≠ j → ownS (getS env i) = true → ownS (getS env j) = true → σ[i]? = some (some (.ref a)) → σ[j]? = some (some (.ref a)) → False
  tabs : LamX.Tabs C.T.tt H
  tno : ∀ p ∈ C.T.tt, H0 p.1 = none
/-- a new thing -/
def RepN (C : Ctx) (σ : L2.St) (H0 H : Hp) (env : Env) (d : D) (v : V) : Prop :=
  if isMutD d = true then ∃ a, v = .ref a ∧ C.He a = none ∧ RepO C.T H0 H d v ∧ ∀ i, ownS (getS env i) = true → σ[i]? ≠ some (some (.ref a)) else Rep C.T H0 d v
def UOk (C : Ctx) (σ : L2.St) (H0 H : Hp) (env : Env) : U → V → Prop
  | .d x, v => Rep C.T H0 x v
  | .sl i, v => σ[i]? = some (some v)
  | .nw x, v => RepN C σ H0 H env x v
/-- an exception: its class, its own dict -/
def XOk (T : Tbl) (H0 H : Hp) (x : Exn) (cls : Value) (d : Option Addr) : Prop :=
  ∃ C, T.cx x.1 x.2.1 = some C ∧ cls = .ref C ∧ ((x.2.1 = [] ∧ d = none) ∨ ∃ dd xs, d = some dd ∧ H0 dd = some (.xd ((x.2.1.map T.fn).zip xs)) ∧ xs.length = x.2.1.length ∧ RepAll T H0 x.2.2 xs)

/-! ### growing -/
structure Gr (T : Tbl) (H0 H H0' H' : Hp) : Prop where
  e0 : Ext H0 H0'
  e : ExtW H H'
  e01 : Ext H0' H'
  new : ∀ a, H0 a = none → H0' a ≠ none → H a = none
  tb : LamX.Tabs T.tt H → LamX.Tabs T.tt H'
theorem Gr.rfl' {T : Tbl} {H0 H : Hp} (e : Ext H0 H) : Gr T H0 H H0 H := ⟨Ext.rfl' _, .of (Ext.rfl' _), e, fun a h h' => (h' h).elim, fun t => t⟩
theorem Gr.tr {T : Tbl} {H0 H H0' H' H0'' H'' : Hp} (a : Gr T H0 H H0' H') (b : Gr T H0' H' H0'' H'') : Gr T H0 H H0'' H'' :=
  ⟨a.e0.tr b.e0, a.e.tr b.e, b.e01, fun x h h' => by
    cases q : H0' x with
    | none => exact a.e.no (b.new x q h')
    | some o => exact a.new x h (by rw [q]; exact nofun), fun t => b.tb (a.tb t)⟩
/-- a frozen new object -/
theorem Gr.froz {T : Tbl} {H0 H : Hp} {p : Addr} {o : HO} (e : Ext H0 H) (hp : H p = none) : Gr T H0 H (upd H0 p o) (upd H p o) := by
  refine ⟨ext_upd (e.no hp), .of (ext_upd hp), fun a u h => ?_, fun a h h' => ?_, fun t => (ext_upd hp).tabs t⟩
  · by_cases z : a = p
    · subst z; rw [upd_same] at h ⊢; exact h
    · rw [upd_ne z] at h ⊢; exact e _ _ h
  · by_cases z : a = p
    · subst z; exact hp
    · rw [upd_ne z] at h'; exact (h' h).elim
/-- an owned new object -/
theorem Gr.own {T : Tbl} {H0 H : Hp} {p : Addr} {o : HO} (e : Ext H0 H) (hp : H p = none) : Gr T H0 H H0 (upd H p o) :=
  ⟨Ext.rfl' _, .of (ext_upd hp), e.tr (ext_upd hp), fun a h h' => (h' h).elim, fun t => (ext_upd hp).tabs t⟩

section
variable {C : Ctx} {σ : L2.St} {H0 H H0' H' : Hp} {env : Env}
theorem RepO.keep {T : Tbl} {d : D} {a : Addr} (e0 : Ext H0 H0') (hn : H0' a = none) (hk : H' a = H a) (h : RepO T H0 H d (.ref a)) : RepO T H0' H' d (.ref a) := by
  cases d with
  | lst ds =>
    obtain ⟨b, xs, e, h1, h2, h3⟩ := h
    cases e
    exact ⟨a, xs, rfl, hn, hk.trans h2, RepAll.mono e0 _ _ h3⟩
  | dK ks vs =>
    obtain ⟨b, xs, e, h1, h2, hl, h3⟩ := h
    cases e
    exact ⟨a, xs, rfl, hn, hk.trans h2, hl, RepAll.mono e0 _ _ h3⟩
  | dT ks vs =>
    obtain ⟨b, xs, e, h1, h2, hl, h3⟩ := h
    cases e
    exact ⟨a, xs, rfl, hn, hk.trans h2, hl, RepAll.mono e0 _ _ h3⟩
  | obj c ks vs =>
    obtain ⟨b, Ca, dx, xs, e, h1, hc, h2, hl, h3⟩ := h
    cases e
    exact ⟨a, Ca, dx, xs, rfl, hn, hc, hk.trans h2, hl, RepAll.mono e0 _ _ h3⟩
  | _ => exact h.elim
theorem RepO.some {T : Tbl} {d : D} {a : Addr} (h : RepO T H0 H d (.ref a)) : H0 a = none ∧ ∃ o, H a = .some o := by
  cases d with
  | lst ds => obtain ⟨b, xs, e, h1, h2, h3⟩ := h; cases e; exact ⟨h1, _, h2⟩
  | dK ks vs => obtain ⟨b, xs, e, h1, h2, hl, h3⟩ := h; cases e; exact ⟨h1, _, h2⟩
  | dT ks vs => obtain ⟨b, xs, e, h1, h2, hl, h3⟩ := h; cases e; exact ⟨h1, _, h2⟩
  | obj c ks vs => obtain ⟨b, Ca, dx, xs, e, h1, hc, h2, hl, h3⟩ := h; cases e; exact ⟨h1, _, h2⟩
  | _ => exact h.elim
theorem RepO.kind {T : Tbl} {d : D} {a : Addr} {o : HO} (h : RepO T H0 H d (.ref a)) (ho : H a = .some o) : (∀ ps, o ≠ .tbl ps) ∧ ∀ φ, o ≠ .ext φ := by
  cases d with
  | lst ds => obtain ⟨b, xs, e, h1, h2, h3⟩ := h; cases e; rw [ho] at h2; cases h2; exact ⟨nofun, nofun⟩
  | dK ks vs => obtain ⟨b, xs, e, h1, h2, hl, h3⟩ := h; cases e; rw [ho] at h2; cases h2; exact ⟨nofun, nofun⟩
  | dT ks vs => obtain ⟨b, xs, e, h1, h2, hl, h3⟩ := h; cases e; rw [ho] at h2; cases h2; exact ⟨nofun, nofun⟩
  | obj c ks vs => obtain ⟨b, Ca, dx, xs, e, h1, hc, h2, hl, h3⟩ := h; cases e; rw [ho] at h2; cases h2; exact ⟨nofun, nofun⟩
  | _ => exact h.elim
theorem RepO.ref {T : Tbl} {d : D} {v : V} (h : RepO T H0 H d v) : isMutD d = true ∧ ∃ a, v = .ref a := by
  cases d with
  | lst ds => obtain ⟨b, xs, e, h1, h2, h3⟩ := h; exact ⟨rfl, b, e⟩
  | dK ks vs => obtain ⟨b, xs, e, h1, h2, hl, h3⟩ := h; exact ⟨rfl, b, e⟩
  | dT ks vs => obtain ⟨b, xs, e, h1, h2, hl, h3⟩ := h; exact ⟨rfl, b, e⟩
  | obj c ks vs => obtain ⟨b, Ca, dx, xs, e, h1, hc, h2, hl, h3⟩ := h; exact ⟨rfl, b, e⟩
  | _ => exact h.elim
/-- an owned thing becomes frozen -/
theorem RepO.kindT {T : Tbl} {d : D} {a : Addr} {o : HO} (h : RepO T H0 H d (.ref a)) (ho : H a = .some o) : (∀ ps, o ≠ .tup ps) ∧ ∀ x u, o ≠ .frz x u := by
  cases d with
  | lst ds => obtain ⟨b, xs, e, h1, h2, h3⟩ := h; cases e; rw [ho] at h2; cases h2; exact ⟨(fun _ z => by cases z), (fun _ _ z => by cases z)⟩
  | dK ks vs => obtain ⟨b, xs, e, h1, h2, hl, h3⟩ := h; cases e; rw [ho] at h2; cases h2; exact ⟨(fun _ z => by cases z), (fun _ _ z => by cases z)⟩
  | dT ks vs => obtain ⟨b, xs, e, h1, h2, hl, h3⟩ := h; cases e; rw [ho] at h2; cases h2; exact ⟨(fun _ z => by cases z), (fun _ _ z => by cases z)⟩
  | obj c ks vs => obtain ⟨b, Ca, dx, xs, e, h1, hc, h2, hl, h3⟩ := h; cases e; rw [ho] at h2; cases h2; exact ⟨(fun _ z => by cases z), (fun _ _ z => by cases z)⟩
  | _ => exact h.elim
theorem RepO.froz {T : Tbl} {d : D} {a : Addr} {o : HO} (ho : H a = .some o) (h : RepO T H0 H d (.ref a)) : Rep T (upd H0 a o) d (.ref a) := by
  have en : Ext H0 (upd H0 a o) := ext_upd h.some.1
  cases d with
  | lst ds =>
    obtain ⟨b, xs, e, h1, h2, h3⟩ := h
    cases e
    rw [ho] at h2; cases h2
    simp only [Rep]
    exact ⟨a, xs, rfl, .inl upd_same, RepAll.mono en _ _ h3⟩
  | dK ks vs =>
    obtain ⟨b, xs, e, h1, h2, hl, h3⟩ := h
    cases e
    rw [ho] at h2; cases h2
    simp only [Rep]
    exact ⟨a, xs, rfl, upd_same, hl, RepAll.mono en _ _ h3⟩
  | dT ks vs =>
    obtain ⟨b, xs, e, h1, h2, hl, h3⟩ := h
    cases e
    rw [ho] at h2; cases h2
    simp only [Rep]
    exact ⟨a, xs, rfl, upd_same, hl, RepAll.mono en _ _ h3⟩
  | obj c ks vs =>
    obtain ⟨b, Ca, dx, xs, e, h1, hc, h2, hl, h3⟩ := h
    cases e
    rw [ho] at h2; cases h2
    simp only [Rep]
    exact ⟨a, Ca, dx, xs, rfl, hc, upd_same, hl, RepAll.mono en _ _ h3⟩
  | _ => exact h.elim

/-- the slots are as they were where the owned objects stand as they stood -/
theorem SlOk.step {i : Nat} {o : Option (Option V)} {s : Sl} (e0 : Ext H0 H0') (hk : ∀ a, ownS s = true → o = some (some (.ref a)) → H0' a = none ∧ H' a = H a) (h : SlOk C H0 H i o s) : SlOk C H0' H' i o s := by
  cases s with
  | un => trivial
  | fn => exact h
  | fz d => obtain ⟨v, h1, h2⟩ := h; exact ⟨v, h1, Rep.mono e0 _ _ h2⟩
  | ow d => obtain ⟨a, h1, h2, h3⟩ := h; exact ⟨a, h1, h2, h3.keep e0 (hk a rfl h1).1 (hk a rfl h1).2⟩
  | io d => obtain ⟨a, h1, h2, h3⟩ := h; exact ⟨a, h1, h2, h3.keep e0 (hk a rfl h1).1 (hk a rfl h1).2⟩
theorem Sim.own (S : Sim C σ H0 H env) {i : Nat} {a : Addr} (h : ownS (getS env i) = true) (e : σ[i]? = some (some (.ref a))) : H0 a = none ∧ ∃ o, H a = some o := by
  have q := S.slots i
  cases z : getS env i with
  | un => rw [z] at h; cases h
  | fn => rw [z] at h; cases h
  | fz d => rw [z] at h; cases h
  | ow d => rw [z] at q; obtain ⟨b, h1, h2, h3⟩ := q; rw [e] at h1; cases h1; exact h3.some
  | io d => rw [z] at q; obtain ⟨b, h1, h2, h3⟩ := q; rw [e] at h1; cases h1; exact h3.some
theorem Sim.ownK (S : Sim C σ H0 H env) {i : Nat} {a : Addr} {o : HO} (h : ownS (getS env i) = true) (e : σ[i]? = some (some (.ref a))) (ho : H a = some o) : (∀ ps, o ≠ .tbl ps) ∧ ∀ φ, o ≠ .ext φ := by
  have q := S.slots i
  cases z : getS env i with
  | un => rw [z] at h; cases h
  | fn => rw [z] at h; cases h
  | fz d => rw [z] at h; cases h
  | ow d => rw [z] at q; obtain ⟨b, h1, h2, h3⟩ := q; rw [e] at h1; cases h1; exact h3.kind ho
  | io d => rw [z] at q; obtain ⟨b, h1, h2, h3⟩ := q; rw [e] at h1; cases h1; exact h3.kind ho
theorem Sim.he (S : Sim C σ H0 H env) {a : Addr} (h : H a = none) : C.He a = none := by
  cases q : C.He a with
  | none => rfl
  | some o =>
    by_cases z : C.io a
    · exact (S.ioH a z h).elim
    · obtain ⟨u, hu⟩ := (S.keep a o q z).some; rw [h] at hu; cases hu
theorem Sim.gr (S : Sim C σ H0 H env) (g : Gr C.T H0 H H0' H') : Sim C σ H0' H' env where
  ok := S.ok
  ex := g.e01
  ex0 := S.ex0.tr g.e0
  fresh := fun a h h' => by
    cases q : H0 a with
    | none => exact S.he (g.new a q h')
    | some o => exact S.fresh a h (by rw [q]; exact nofun)
  keep := fun a o h h' => by
    obtain ⟨u, hu⟩ := (S.keep a o h h').some
    exact (S.keep a o h h').tr hu (g.e a u hu)
  tabs := g.tb S.tabs
  tno := fun p hp => by
    obtain ⟨ps, h1, _⟩ := S.tabs p hp
    cases q : H0' p.1 with
    | none => rfl
    | some u => rw [g.new p.1 (S.tno p hp) (by rw [q]; exact nofun)] at h1; cases h1
  ioH := fun a h h' => by
    cases q : H a with
    | none => exact S.ioH a h q
    | some o => obtain ⟨u, hu⟩ := (g.e _ _ q).some; rw [h'] at hu; cases hu
  len := S.len
  slots := fun i => (S.slots i).step g.e0 fun a ho e => by
    obtain ⟨h0, o, h1⟩ := S.own ho e
    refine ⟨?_, by rw [(g.e _ _ h1).at (S.ownK ho e h1).1, h1]⟩
    cases q : H0' a with
    | none => rfl
    | some u => rw [g.new a h0 (by rw [q]; exact nofun)] at h1; cases h1
  inj := S.inj
theorem Sim.tnoU (S : Sim C σ H0 H env) {a : Addr} {o o' : HO} (h : H a = some o) (hk : ∀ ps, o ≠ .tbl ps) : ∀ p ∈ C.T.tt, upd H0 a o' p.1 = none := fun p hp => by
  obtain ⟨ps, h1, _⟩ := S.tabs p hp
  rw [upd_ne (fun z => by rw [z, h] at h1; exact hk ps (Option.some.inj h1))]
  exact S.tno p hp
theorem RepG.nw (S : Sim C σ H0 H env) {d : D} {v : V} (h : RepG C.T H0' H' H d v) : RepN C σ H0' H' env d v := by
  unfold RepN; unfold RepG at h
  split
  · rename_i z
    rw [if_pos z] at h
    obtain ⟨a, rfl, h1, h2⟩ := h
    refine ⟨a, rfl, S.he h1, h2, fun i ho e => ?_⟩
    obtain ⟨_, o, q⟩ := S.own ho e
    rw [h1] at q; cases q
  · rename_i z
    rw [if_neg z] at h
    exact h
/-- freezing an object that is owned by no slot -/
theorem Sim.frozN (S : Sim C σ H0 H env) {a : Addr} {o : HO} (hk : ∀ ps, o ≠ .tbl ps) (h0 : H0 a = none) (he : C.He a = none) (h : H a = some o) (hs : ∀ i, ownS (getS env i) = true → σ[i]? ≠ some (some (.ref a))) : Sim C σ (upd H0 a o) H env where
  ok := S.ok
  ex := fun b u q => by
    by_cases z : b = a
    · subst z; rw [upd_same] at q; cases q; exact h
    · rw [upd_ne z] at q; exact S.ex _ _ q
  ex0 := S.ex0.tr (ext_upd h0)
  fresh := fun b q q' => by
    by_cases z : b = a
    · subst z; exact he
    · rw [upd_ne z] at q'; exact S.fresh b q q'
  keep := S.keep
  ioH := S.ioH
  len := S.len
  slots := fun i => (S.slots i).step (ext_upd h0) fun b ho e => by
    have z : b ≠ a := fun z => hs i ho (by rw [← z]; exact e)
    exact ⟨by rw [upd_ne z]; exact (S.own ho e).1, rfl⟩
  inj := S.inj
  tabs := S.tabs
  tno := fun p hp => by
    obtain ⟨ps, h1, _⟩ := S.tabs p hp
    rw [upd_ne (fun z => by rw [z, h] at h1; exact hk ps (Option.some.inj h1))]
    exact S.tno p hp
/-- a value that waits: a new thing is frozen -/
theorem Sim.pend (S : Sim C σ H0 H env) {u : U} {v : V} (h : UOk C σ H0 H env u v) : ∃ H0', Ext H0 H0' ∧ Sim C σ H0' H env ∧ UOk C σ H0' H env (PP.pend u) v := by
  cases u with
  | d x => exact ⟨H0, Ext.rfl' _, S, h⟩
  | sl i => exact ⟨H0, Ext.rfl' _, S, h⟩
  | nw x =>
    have h' : RepN C σ H0 H env x v := h
    unfold RepN at h'
    split at h'
    · obtain ⟨a, rfl, h1, h2, h3⟩ := h'
      obtain ⟨h0, o, ho⟩ := h2.some
      exact ⟨upd H0 a o, ext_upd h0, S.frozN (h2.kind ho).1 h0 h1 ho h3, h2.froz ho⟩
    · exact ⟨H0, Ext.rfl' _, S, h'⟩
/-- what waits, waits on -/
theorem UOk.wait {u : U} {v : V} {env' : Env} {H1 : Hp} (h : UOk C σ H0 H env (PP.pend u) v) (e : Ext H0 H0') : UOk C σ H0' H1 env' (PP.pend u) v := by
  cases u with
  | d x => exact Rep.mono e _ _ h
  | sl i => exact h
  | nw x => exact Rep.mono e _ _ h
/-- reading -/
theorem Sim.rd (S : Sim C σ H0 H env) {u : U} {v : V} {d : D} (h : UOk C σ H0 H env u v) (hr : rdU env u = some d) : RdV C.T H0 H d v := by
  cases u with
  | d x => cases hr; exact .inl h
  | nw x =>
    cases hr
    have h' : RepN C σ H0 H env d v := h
    unfold RepN at h'
    split at h'
    · obtain ⟨a, rfl, h1, h2, h3⟩ := h'
      exact .inr h2
    · exact .inl h'
  | sl i =>
    have q := S.slots i
    have e : σ[i]? = some (some v) := h
    unfold rdU rdS at hr
    cases z : getS env i with
    | un => simp [z] at hr
    | fn => simp [z] at hr
    | fz x => simp [z] at hr; subst hr; rw [z] at q; obtain ⟨w, h1, h2⟩ := q; rw [e] at h1; cases h1; exact .inl h2
    | ow x => simp [z] at hr; subst hr; rw [z] at q; obtain ⟨w, h1, h2, h3⟩ := q; rw [e] at h1; cases h1; exact .inr h3
    | io x => simp [z] at hr; subst hr; rw [z] at q; obtain ⟨w, h1, h2, h3⟩ := q; rw [e] at h1; cases h1; exact .inr h3
end
end PP
end

section
set_option maxHeartbeats 1000000
namespace PP
open PySem L2

/-- what is wanted of a result -/
def RQ {α : Type} (C : Ctx) (W : WX) (σ : L2.St) (K : α → Env → Hp → Hp → Prop) (H0 : Hp) : R α → Prop
  | .ok a env => ∀ H0' H', Ext H0 H0' → Sim C σ H0' H' env → K a env H0' H'
  | .exc x env => ∀ cls d H0' H', Ext H0 H0' → Sim C σ H0' H' env → XOk C.T H0' H' x cls d → W cls d σ H'
  | .bad => False
def KV (C : Ctx) (σ : L2.St) (Q : VK) : U → Env → Hp → Hp → Prop := fun u env H0 H => ∀ v, UOk C σ H0 H env u v → Q v H
/-- an expression of the small syntax, read -/
def tI (C : Ctx) (W : WX) (cl : CallF) (e : Ex) : TE := fun σ H Q => ∃ H0 env, Sim C σ H0 H env ∧ RQ C W σ (KV C σ Q) H0 (ev cl e env)
def tT (C : Ctx) (W : WX) (cl : CallF) (e : Ex) : TT := fun σ H Q => ∃ H0 env, Sim C σ H0 H env ∧ RQ C W σ (fun b _ _ H' => Q b H') H0 (evT cl e env)
theorem RQ.mono {α : Type} {C : Ctx} {W : WX} {σ : L2.St} {K : α → Env → Hp → Hp → Prop} {H0 H1 : Hp} (e : Ext H0 H1) {r : R α} (h : RQ C W σ K H0 r) : RQ C W σ K H1 r := by
  cases r with
  | ok a env => exact fun H0' H' e' s => h H0' H' (e.tr e') s
  | exc x env => exact fun cls d H0' H' e' s x => h cls d H0' H' (e.tr e') s x
  | bad => exact h
theorem RQ.orB {α β : Type} {C : Ctx} {W : WX} {σ : L2.St} {K : β → Env → Hp → Hp → Prop} {H0 : Hp} {o : Option α} {f : α → R β} (h : RQ C W σ K H0 (orBad o f)) : ∃ a, o = some a ∧ RQ C W σ K H0 (f a) := by
  cases o with
  | none => exact h.elim
  | some a => exact ⟨a, rfl, h⟩
section
variable {C : Ctx} {W : WX} {σ : L2.St} {cl : CallF} {H0 H : Hp} {env : Env} {β : Type} {K : β → Env → Hp → Hp → Prop}
/-- an expression, then the rest -/
theorem seqI {a : Ex} {f : U → Env → R β} (S : Sim C σ H0 H env) (h : RQ C W σ K H0 ((ev cl a env).bind f)) {Q : VK}
    (hQ : ∀ u env1 v H01 H1, Ext H0 H01 → Sim C σ H01 H1 env1 → UOk C σ H01 H1 env1 u v → RQ C W σ K H01 (f u env1) → Q v H1) : tI C W cl a σ H Q := by
  refine ⟨H0, env, S, ?_⟩
  cases q : ev cl a env with
  | ok u env1 =>
    rw [q] at h
    exact fun H01 H1 e s v hu => hQ u env1 v H01 H1 e s hu (RQ.mono e h)
  | exc x env1 =>
    rw [q] at h
    exact fun cls d H0' H' e s x => h cls d H0' H' e s x
  | bad => rw [q] at h; exact h
theorem seqT {a : Ex} {f : Bool → Env → R β} (S : Sim C σ H0 H env) (h : RQ C W σ K H0 ((evT cl a env).bind f)) {Q : Bool → Hp → Prop}
    (hQ : ∀ b env1 H01 H1, Ext H0 H01 → Sim C σ H01 H1 env1 → RQ C W σ K H01 (f b env1) → Q b H1) : tT C W cl a σ H Q := by
  refine ⟨H0, env, S, ?_⟩
  cases q : evT cl a env with
  | ok u env1 =>
    rw [q] at h
    exact fun H01 H1 e s => hQ u env1 H01 H1 e s (RQ.mono e h)
  | exc x env1 =>
    rw [q] at h
    exact fun cls d H0' H' e s x => h cls d H0' H' e s x
  | bad => rw [q] at h; exact h
end
theorem peI {X : Cx} {e : Expr} {t t' : TE} (h : PE X e t) (i : ∀ σ H Q, t' σ H Q → t σ H Q) : PE X e t' := ⟨fun pins s σ H Q I q => h.run pins s σ H Q I (i σ H Q q)⟩
theorem ptI {X : Cx} {e : Expr} {t t' : TT} (h : PT X e t) (i : ∀ σ H Q, t' σ H Q → t σ H Q) : PT X e t' := ⟨fun pins s σ H Q I q => h.run pins s σ H Q I (i σ H Q q)⟩
theorem pwI {X : Cx} {e : Expr} {t t' : TT} (h : PW X e t) (i : ∀ σ H Q, t' σ H Q → t σ H Q) : PW X e t' := ⟨fun wh pins s σ H Q I q => h.run wh pins s σ H Q I (i σ H Q q)⟩
theorem orI {X : Cx} {f : Value → Value → Sem Value} {r r' : R2} (h : OpR X f r) (i : ∀ x y H Q, r' x y H Q → r x y H Q) : OpR X f r' := fun pins s σ H x y v u Q I rx ry q => h pins s σ H x y v u Q I rx ry (i x y H Q q)

/-! ### reading a value by its data -/
section
variable {T : Tbl} {H0 H : Hp} {x : V}
theorem rd_non (h : RdV T H0 H .non x) : x = .non := by rcases h with h | h; exact (by simpa only [Rep] using h); exact h.elim
theorem rd_bl {b : Bool} (h : RdV T H0 H (.bl b) x) : x = .bl b := by rcases h with h | h; exact (by simpa only [Rep] using h); exact h.elim
theorem rd_int {i : Int} (h : RdV T H0 H (.int i) x) : x = .int i := by rcases h with h | h; exact (by simpa only [Rep] using h); exact h.elim
theorem rd_str {i : Str} (h : RdV T H0 H (.str i) x) : x = .str i := by rcases h with h | h; exact (by simpa only [Rep] using h); exact h.elim
theorem rd_lst (e : Ext H0 H) {ds : List D} (h : RdV T H0 H (.lst ds) x) : ∃ a xs, x = .ref a ∧ Rd H a (.lst xs) ∧ RepAll T H0 ds xs := by
  rcases h with h | h
  · simp only [Rep] at h
    obtain ⟨a, xs, h1, h2, h3⟩ := h
    exact ⟨a, xs, h1, e.rd h2, h3⟩
  · obtain ⟨a, xs, h1, h0, h2, h3⟩ := h
    exact ⟨a, xs, h1, .inl h2, h3⟩
theorem rd_tup (e : Ext H0 H) {ds : List D} (h : RdV T H0 H (.tup ds) x) : ∃ a xs, x = .ref a ∧ SqT T.K H a xs ∧ RepAll T H0 ds xs := by
  rcases h with h | h
  · simp only [Rep] at h
    obtain ⟨a, xs, h1, h2, h3⟩ := h
    exact ⟨a, xs, h1, e.sqT h2, h3⟩
  · exact h.elim
theorem rd_kst (e : Ext H0 H) {ds : List D} (h : RdV T H0 H (.kst ds) x) : ∃ a xs, x = .ref a ∧ SqL T.K H a xs ∧ RepAll T H0 ds xs := by
  rcases h with h | h
  · simp only [Rep] at h
    obtain ⟨a, xs, h1, h2, h3⟩ := h
    exact ⟨a, xs, h1, e.sqL h2, h3⟩
  · exact h.elim
theorem rd_dK (e : Ext H0 H) {ks : List Key} {ds : List D} (h : RdV T H0 H (.dK ks ds) x) : ∃ a xs, x = .ref a ∧ H a = some (.dK (ks.zip xs)) ∧ xs.length = ks.length ∧ RepAll T H0 ds xs := by
  rcases h with h | h
  · simp only [Rep] at h
    obtain ⟨a, xs, h1, h2, h3⟩ := h
    exact ⟨a, xs, h1, e _ _ h2, h3⟩
  · obtain ⟨a, xs, h1, h0, h2, h3⟩ := h
    exact ⟨a, xs, h1, h2, h3⟩
theorem lim_line : LIM ≤ sizeLine := by rw [PySem.sizeLine_eq]; decide
theorem rd_truth (e : Ext H0 H) {d : D} {b : Bool} (h : RdV T H0 H d x) (ht : truD d = some b) : TruV T.K x H b := by
  cases d with
  | non => cases rd_non h; cases ht; rfl
  | bl c => cases rd_bl h; cases ht; rfl
  | int i => cases rd_int h; cases ht; rfl
  | str z =>
    cases rd_str h
    simp only [truD] at ht
    split at ht
    · rename_i hl
      cases ht
      exact ⟨Nat.le_trans hl lim_line, rfl⟩
    · cases ht
  | lst ds =>
    obtain ⟨a, xs, rfl, h1, h2⟩ := rd_lst e h
    cases ht
    refine .inl ⟨xs, .inl h1, ?_⟩
    have := h2.len
    cases ds <;> cases xs <;> simp_all
  | tup ds =>
    obtain ⟨a, xs, rfl, h1, h2⟩ := rd_tup e h
    cases ht
    refine .inr (.inl ⟨xs, h1, ?_⟩)
    have := h2.len
    cases ds <;> cases xs <;> simp_all
  | kst ds =>
    obtain ⟨a, xs, rfl, h1, h2⟩ := rd_kst e h
    cases ht
    refine .inl ⟨xs, h1, ?_⟩
    have := h2.len
    cases ds <;> cases xs <;> simp_all
  | dK ks ds =>
    obtain ⟨a, xs, rfl, h1, hl, h2⟩ := rd_dK e h
    cases ht
    refine .inr (.inr ⟨_, h1, ?_⟩)
    cases ks <;> cases xs <;> simp_all
  | dT ks ds => cases ht
  | obj c ks ds => cases ht
  | cls c => cases ht
  | err c ks ds => cases ht
end
theorem RepG.flat {T : Tbl} {H0' H' H : Hp} {d : D} {v : V} (hf : isMutD d = false) (h : Rep T H0' d v) : RepG T H0' H' H d v := by
  unfold RepG
  rw [if_neg (by rw [hf]; decide)]
  exact h
theorem RepG.lst {T : Tbl} {H0 H : Hp} {ds : List D} {xs : List V} {p : Addr} (e : Ext H0 H) (hp : H p = none) (h : RepAll T H0 ds xs) : RepG T H0 (upd H p (.lst xs)) H (.lst ds) (.ref p) := by
  show (if true = true then _ else _)
  rw [if_pos rfl]
  exact ⟨p, rfl, hp, p, xs, rfl, e.no hp, upd_same, h⟩

/-- an operation by the data -/
def rD (T : Tbl) (g : D → D → Option D) : R2 := fun x y H Q => ∃ H0 dx dy d, Ext H0 H ∧ RdV T H0 H dx x ∧ RdV T H0 H dy y ∧ g dx dy = some d ∧ ∀ v H0' H', Gr T H0 H H0' H' → RepG T H0' H' H d v → Q v H'
def rD1 (T : Tbl) (g : D → Option D) : V → Hp → VK → Prop := fun x H Q => ∃ H0 dx d, Ext H0 H ∧ RdV T H0 H dx x ∧ g dx = some d ∧ ∀ v H0' H', Gr T H0 H H0' H' → RepG T H0' H' H d v → Q v H'
section
variable {X : Cx} {T : Tbl}
/-- two ints in -/
theorem opInts {f : Value → Value → Sem Value} {o : O2} {c : Int → Int → Prop} {g : Int → Int → V} {gd : Int → Int → D} (h : OpR X f (rI c g)) (hf : ∀ i j, isMutD (gd i j) = false) (hr : ∀ T H i j, Rep T H (gd i j) (g i j))
    (inv : ∀ dx dy d, op2 o dx dy = some d → ∃ i j, dx = .int i ∧ dy = .int j ∧ c i j ∧ d = gd i j) : OpR X f (rD T (op2 o)) :=
  orI h fun x y H Q ⟨H0, dx, dy, d, e, hx, hy, hg, q⟩ => by
    obtain ⟨i, j, rfl, rfl, hc, rfl⟩ := inv dx dy d hg
    exact ⟨i, j, rd_int hx, rd_int hy, hc, q _ _ _ (Gr.rfl' e) (.flat (hf i j) (hr _ _ i j))⟩
theorem rI0I {g : Int → Int → V} {f : Value → Value → Sem Value} (h : OpR X f (rI0 g)) : OpR X f (rI (fun _ _ => True) g) := orI h fun x y H Q ⟨i, j, h1, h2, _, q⟩ => ⟨i, j, h1, h2, q⟩
theorem r_int (T : Tbl) (H : Hp) (i : Int) : Rep T H (.int i) (.int i) := by simp only [Rep]
theorem r_bl (T : Tbl) (H : Hp) (i : Bool) : Rep T H (.bl i) (.bl i) := by simp only [Rep]
theorem r_str (T : Tbl) (H : Hp) (i : Str) : Rep T H (.str i) (.str i) := by simp only [Rep]
theorem r_non (T : Tbl) (H : Hp) : Rep T H .non .non := by simp only [Rep]
theorem o_sub : OpR X (binaryOp .Sub) (rD T (op2 .sub)) := opInts (gd := fun i j => .int (i - j)) (rI0I op_sub) (fun _ _ => rfl) (fun T H i j => r_int T H _) (by
  intro dx dy d h
  cases dx <;> first | (cases h; done) | (cases dy <;> first | (cases h; done) | (cases h; exact ⟨_, _, rfl, rfl, trivial, rfl⟩)))
theorem op_fdivA : OpR X (binaryOp .FloorDiv) (rI CDivW fun i j => .int (i / j)) := op_fdivW
def CMulA (i j : Int) : Prop := CMul i j ∨ CMulW i j
theorem op_mulA : OpR X (binaryOp .Mult) (rI CMulA fun i j => .int (i * j)) := opI fun _ _ _ _ _ _ _ hc q => PyProof.Rows.mul_int q (hc.elim CMul.ok CMulW.ok)
theorem o_fdiv : OpR X (binaryOp .FloorDiv) (rD T (op2 .fdiv)) := opInts (gd := fun i j => .int (i / j)) op_fdivA (fun _ _ => rfl) (fun T H i j => r_int T H _) (by
  intro dx dy d h
  cases dx <;> first | (cases h; done) | (cases dy <;> first | (cases h; done) | skip)
  simp only [op2] at h
  split at h
  · rename_i z
    cases h
    refine ⟨_, _, rfl, rfl, ?_, rfl⟩
    simpa [divOk, CDivW] using z
  · cases h)
theorem o_mod : OpR X (binaryOp .Mod) (rD T (op2 .mod)) := opInts (gd := fun i j => .int (i % j)) op_mod (fun _ _ => rfl) (fun T H i j => r_int T H _) (by
  intro dx dy d h
  cases dx <;> first | (cases h; done) | (cases dy <;> first | (cases h; done) | skip)
  simp only [op2] at h
  split at h
  · rename_i z
    cases h
    exact ⟨_, _, rfl, rfl, z, rfl⟩
  · cases h)
theorem o_pow : OpR X (binaryOp .Pow) (rD T (op2 .pow)) := opInts (gd := fun i j => .int (i ^ j.toNat)) op_pow (fun _ _ => rfl) (fun T H i j => r_int T H _) (by
  intro dx dy d h
  cases dx <;> first | (cases h; done) | (cases dy <;> first | (cases h; done) | skip)
  simp only [op2] at h
  split at h
  · rename_i z
    cases h
    refine ⟨_, _, rfl, rfl, ?_, rfl⟩
    simpa [powOk, CPow, and_assoc] using z
  · cases h)
theorem o_shl : OpR X (binaryOp .LShift) (rD T (op2 .shl)) := opInts (gd := fun i j => .int (i * 2 ^ j.toNat)) op_shlW (fun _ _ => rfl) (fun T H i j => r_int T H _) (by
  intro dx dy d h
  cases dx <;> first | (cases h; done) | (cases dy <;> first | (cases h; done) | skip)
  simp only [op2] at h
  split at h
  · rename_i z
    cases h
    refine ⟨_, _, rfl, rfl, ?_, rfl⟩
    simp only [shlOk, Bool.and_eq_true, decide_eq_true_eq] at z
    have hb : ∀ x : Int, Builtin.Int.intBits x ≤ x.natAbs.log2 + 1 := fun x => by
      unfold Builtin.Int.intBits
      split <;> omega
    refine ⟨z.1.1, ?_⟩
    rename_i i' j'
    have h1 := hb j'
    have h2 := hb i'
    have e : (2 : Int) ^ 27 = 134217728 := by decide
    rw [e]
    omega
  · cases h)
theorem o_shr : OpR X (binaryOp .RShift) (rD T (op2 .shr)) := opInts (gd := fun i j => .int (i / 2 ^ j.toNat)) op_shr (fun _ _ => rfl) (fun T H i j => r_int T H _) (by
  intro dx dy d h
  cases dx <;> first | (cases h; done) | (cases dy <;> first | (cases h; done) | skip)
  simp only [op2] at h
  split at h
  · rename_i z
    cases h
    exact ⟨_, _, rfl, rfl, z, rfl⟩
  · cases h)
theorem o_band : OpR X (binaryOp .BitAnd) (rD T (op2 .band)) := opInts (gd := fun i j => .int (Builtin.bitAnd i j)) (rI0I op_and) (fun _ _ => rfl) (fun T H i j => r_int T H _) (by
  intro dx dy d h
  cases dx <;> first | (cases h; done) | (cases dy <;> first | (cases h; done) | (cases h; exact ⟨_, _, rfl, rfl, trivial, rfl⟩)))
theorem o_bor : OpR X (binaryOp .BitOr) (rD T (op2 .bor)) := opInts (gd := fun i j => .int (Builtin.bitOr i j)) (rI0I op_or) (fun _ _ => rfl) (fun T H i j => r_int T H _) (by
  intro dx dy d h
  cases dx <;> first | (cases h; done) | (cases dy <;> first | (cases h; done) | (cases h; exact ⟨_, _, rfl, rfl, trivial, rfl⟩)))
theorem o_lt : OpR X (compareOp .Lt) (rD T (op2 .lt)) := opInts (gd := fun i j => .bl (decide (i < j))) (rI0I op_lt) (fun _ _ => rfl) (fun T H i j => r_bl T H _) (by
  intro dx dy d h
  cases dx <;> first | (cases h; done) | (cases dy <;> first | (cases h; done) | (cases h; exact ⟨_, _, rfl, rfl, trivial, rfl⟩)))
theorem o_le : OpR X (compareOp .LtE) (rD T (op2 .le)) := opInts (gd := fun i j => .bl (decide (i ≤ j))) (rI0I op_le) (fun _ _ => rfl) (fun T H i j => r_bl T H _) (by
  intro dx dy d h
  cases dx <;> first | (cases h; done) | (cases dy <;> first | (cases h; done) | (cases h; exact ⟨_, _, rfl, rfl, trivial, rfl⟩)))
theorem o_gt : OpR X (compareOp .Gt) (rD T (op2 .gt)) := opInts (gd := fun i j => .bl (decide (j < i))) (rI0I op_gt) (fun _ _ => rfl) (fun T H i j => r_bl T H _) (by
  intro dx dy d h
  cases dx <;> first | (cases h; done) | (cases dy <;> first | (cases h; done) | (cases h; exact ⟨_, _, rfl, rfl, trivial, rfl⟩)))
theorem o_ge : OpR X (compareOp .GtE) (rD T (op2 .ge)) := opInts (gd := fun i j => .bl (decide (j ≤ i))) (rI0I op_ge) (fun _ _ => rfl) (fun T H i j => r_bl T H _) (by
  intro dx dy d h
  cases dx <;> first | (cases h; done) | (cases dy <;> first | (cases h; done) | (cases h; exact ⟨_, _, rfl, rfl, trivial, rfl⟩)))

/-- a readable list, as the machine has it -/
theorem rdM {pins : List (Addr × Obj)} {s : Shared} {σ : L2.St} {H : Hp} {l : Addr} {xs : List V} (I : Inv X pins σ H s) (h : Rd H l (.lst xs)) :
    ∃ (its : List Value) (n : Nat), Vals xs its ∧ xs.length = its.length ∧ xs.length ≤ sizeLine ∧ s.heap.get? l = some { cls := .type "list", data := .seq its.toArray n } := by
  obtain ⟨z, its, n, r, e⟩ := h.ok I.hok
  exact ⟨its, n, r, r.length, z, e⟩
/-- list + list, wherever they stand -/
theorem o_cat : OpR X (binaryOp .Add) (fun x y H Q => ∃ l b xs zs, x = .ref l ∧ y = .ref b ∧ Rd H l (.lst xs) ∧ Rd H b (.lst zs) ∧ xs.length + zs.length ≤ sizeLine ∧ ∀ p, H p = none → Q (.ref p) (upd H p (.lst (xs ++ zs)))) := by
  intro pins s σ H x y v u Q I rx ry h
  obtain ⟨l, b, xs, zs, rfl, rfl, hl, hb, hz, q⟩ := h
  cases rx
  cases ry
  obtain ⟨its, n, r, hh1, _, e⟩ := rdM I hl
  obtain ⟨its2, n2, r2, hh2, _, e2⟩ := rdM I hb
  refine PySem.P.add_list e e2 ?_ (by simp only [List.size_toArray]; omega)
  simp only [List.append_toArray]
  exact ⟨.ref _, _, I.lnew (t' := s.toks) (r.append r2) (by rw [List.length_append]; omega), rfl, q _ I.fresh⟩
section
open PySem.Spec PyProof.Rows
theorem o_rep : OpR X (binaryOp .Mult) (fun x y H Q => ∃ l k xs, x = .ref l ∧ y = .int k ∧ Rd H l (.lst xs) ∧ -(2 ^ 63) ≤ k ∧ k < 2 ^ 63 ∧ xs.length * k.toNat ≤ sizeLine ∧ ∀ p, H p = none → Q (.ref p) (upd H p (.lst (List.replicate k.toNat xs).flatten))) := by
  intro pins s σ H x y v u Q I rx ry h
  obtain ⟨l, k, xs, rfl, rfl, hH, h1, h2, hz, q⟩ := h
  cases rx
  obtain ⟨t, rfl⟩ := ry
  obtain ⟨its, n, r, hl, z, e⟩ := rdM I hH
  have hlen : its.toArray.size * k.toNat ≤ sizeLine := by rw [List.size_toArray, ← hl]; exact hz
  have hcap : ¬ its.toArray.size * k.toNat > (2 ^ 63 - 1) / 8 := by
    have : (sizeLine : Nat) ≤ (2 ^ 63 - 1) / 8 := by decide
    omega
  have hfit : ¬ (!Builtin.List.listFitsIndex k) = true := by
    rw [fitsIndex_both h1 h2]
    exact Bool.false_ne_true
  have hlong : ¬ Builtin.List.listTooLong (its.toArray.size * k.toNat) = true := by
    rw [notLongL hlen]
    exact Bool.false_ne_true
  have hnew : List.foldl (fun x1 x2 => x1 ++ x2) #[] (List.replicate (if its.toArray.isEmpty = true then 0 else k.toNat) its.toArray) = (List.replicate k.toNat its).flatten.toArray := by
    have f0 : ∀ m : Nat, List.foldl (fun x1 x2 => x1 ++ x2) #[] (List.replicate m its.toArray) = (List.replicate m its).flatten.toArray := fun m => by
      have := foldl_rep its m []
      rw [List.nil_append] at this
      exact this
    rw [f0]
    cases its with
    | nil => simp
    | cons a r' => rw [if_neg (by simp)]
  refine wpAny_binaryOp_repeat_ref (T := "list") (U := "int") (by decide) ⟨_, e, rfl⟩ (fun s' => typeIs_int s' k t) noFill_list_mul F.fills_int_mul F.slot_int_rmul repeat_list F.slot_int_index.lookup
    (call_meets F.slot_int_rmul (typeIs_int s k t) F.entry_int_rmul (F.args_int_rmul_2 _ _) (int___rmul___int_list k t l its.toArray n)
      ⟨e, rfl, ⟨_, e, rfl⟩, call_meets F.slot_list_mul ⟨_, e, rfl⟩ F.entry_list_mul (F.args_list_mul_2 _ _) (AutoListH.list___mul___list_int_3 l its.toArray n k t hfit hcap hlong) ⟨e, ?_⟩⟩)
  rw [hnew]
  exact ⟨.ref _, _, I.lnew (t' := s.toks) (r.rep k.toNat) (by rw [PyProof.Rows.lm_len_rep_flat, Nat.mul_comm]; exact hz), rfl, q _ I.fresh⟩
end
theorem RepAll.rep {T : Tbl} {H : Hp} {ds : List D} {vs : List V} (h : RepAll T H ds vs) : ∀ n : Nat, RepAll T H (List.replicate n ds).flatten (List.replicate n vs).flatten
  | 0 => by simp [RepAll]
  | n + 1 => by
    rw [List.replicate_succ, List.replicate_succ, List.flatten_cons, List.flatten_cons]
    exact h.app (RepAll.rep h n)
theorem o_reps : OpR X (binaryOp .Mult) (fun x y H Q => ∃ z n, x = .str z ∧ y = .int n ∧ 2 ≤ n ∧ n ≤ 1000 ∧ 1 ≤ z.length ∧ z.length * n.toNat ≤ sizeLine ∧ Q (.str (repS z n.toNat)) H) := by
  intro pins s σ H x y v u Q I rx ry h
  obtain ⟨z, n, rfl, rfl, h1, h2, h3, h4, q⟩ := h
  obtain ⟨t, rfl⟩ := rx
  obtain ⟨t', rfl⟩ := ry
  have hl : Builtin.Str.tooLong (z.length * n.toNat) = false := by unfold Builtin.Str.tooLong; rw [decide_eq_false_iff_not]; omega
  have hz : z.length ≤ sizeLine := Nat.le_trans (Nat.le_mul_of_pos_right _ (by omega)) h4
  refine P.mul_str (by rw [decide_eq_false (by omega), decide_eq_false (by omega)]; rfl) (fun _ _ => ?_) (fun _ _ => hl) ?_
  · rw [PySem.sizeLine_eq] at hz
    have hz' : (z.length : Int) ≤ 2 ^ 40 := by omega
    refine Int.not_lt.mpr ((Int.le_ediv_iff_mul_le (by omega)).mpr (Int.le_trans (Int.mul_le_mul hz' h2 (by omega) (by decide)) (by decide)))
  · rw [if_neg (by omega), if_neg (by simp <;> omega)]
    exact ⟨fits_reps hl, .str (repS z n.toNat), H, I.tok _, ⟨_, rfl⟩, q⟩
theorem o_mul : OpR X (binaryOp .Mult) (rD T (op2 .mul)) :=
  orI ((op_mulA.or o_rep).or o_reps) fun x y H Q ⟨H0, dx, dy, d, e, hx, hy, hg, q⟩ => by
    cases dx with
    | int i =>
      cases dy with
      | int j =>
        simp only [op2] at hg
        split at hg
        · rename_i z
          cases hg
          exact .inl (.inl ⟨i, j, rd_int hx, rd_int hy, by simpa [mulOk, bnd64, CMulA, CMul, CMulW] using z, q _ _ _ (Gr.rfl' e) (.flat rfl (r_int _ _ _))⟩)
        · cases hg
      | _ => cases hg
    | lst xs =>
      cases dy with
      | int j =>
        simp only [op2] at hg
        split at hg
        · rename_i z
          cases hg
          simp only [Bool.and_eq_true, decide_eq_true_eq] at z
          obtain ⟨a, us, rfl, h1, h2⟩ := rd_lst e hx
          refine .inl (.inr ⟨a, j, us, rfl, rd_int hy, h1, by omega, by omega, ?_, fun p hp => ?_⟩)
          · rw [h2.len]; exact Nat.le_trans z.2 lim_line
          · exact q _ _ _ (Gr.own e hp) (.lst e hp (h2.rep _))
        · cases hg
      | _ => cases hg
    | str z =>
      cases dy with
      | int j =>
        simp only [op2] at hg
        split at hg
        · rename_i w
          cases hg
          simp only [Bool.and_eq_true, decide_eq_true_eq] at w
          exact .inr ⟨z, j, rd_str hx, rd_int hy, w.1.1.1, w.1.1.2, w.1.2, Nat.le_trans w.2 lim_line, q _ _ _ (Gr.rfl' e) (.flat rfl (r_str _ _ _))⟩
        · cases hg
      | _ => cases hg
    | _ => cases hg
theorem o_add : OpR X (binaryOp .Add) (rD T (op2 .add)) :=
  orI ((op_add.or (o_cat (X := X))).or op_add_str) fun x y H Q ⟨H0, dx, dy, d, e, hx, hy, hg, q⟩ => by
    cases dx with
    | int i =>
      cases dy with
      | int j =>
        cases hg
        exact .inl (.inl ⟨i, j, rd_int hx, rd_int hy, q _ _ _ (Gr.rfl' e) (.flat rfl (r_int _ _ _))⟩)
      | _ => cases hg
    | str i =>
      cases dy with
      | str j =>
        simp only [op2] at hg
        split at hg
        · rename_i hl
          cases hg
          exact .inr ⟨i, j, rd_str hx, rd_str hy, Nat.le_trans hl lim_line, q _ _ _ (Gr.rfl' e) (.flat rfl (r_str _ _ _))⟩
        · cases hg
      | _ => cases hg
    | lst xs =>
      cases dy with
      | lst ys =>
        simp only [op2] at hg
        split at hg
        · rename_i hl
          cases hg
          obtain ⟨a, us, rfl, h1, h2⟩ := rd_lst e hx
          obtain ⟨b, ws, rfl, h3, h4⟩ := rd_lst e hy
          refine .inl (.inr ⟨a, b, us, ws, rfl, rfl, h1, h3, ?_, fun p hp => ?_⟩)
          · rw [h2.len, h4.len]; exact Nat.le_trans hl lim_line
          · exact q _ _ _ (Gr.own e hp) (.lst e hp (h2.app h4))
        · cases hg
      | _ => cases hg
    | _ => cases hg
end

section
variable {X : Cx} {T : Tbl}
mutual
theorem dp_of {H0 H : Hp} (hK : X.K = T.K) (e : Ext H0 H) : ∀ (d : D) (p : PyData) (v : V), toPy d = some p → Rep T H0 d v → Dp X.K H v p
  | .non, p, v, h, r => by simp only [toPy] at h; cases h; simp only [Rep] at r; subst r; exact .non
  | .bl b, p, v, h, r => by simp only [toPy] at h; cases h; simp only [Rep] at r; subst r; exact .bl b
  | .int b, p, v, h, r => by simp only [toPy] at h; cases h; simp only [Rep] at r; subst r; exact .int b
  | .str b, p, v, h, r => by simp only [toPy] at h; cases h; simp only [Rep] at r; subst r; exact .str b
  | .lst ds, p, v, h, r => by
    simp only [toPy, Option.map_eq_some_iff] at h
    obtain ⟨ps, h1, rfl⟩ := h
    simp only [Rep] at r
    obtain ⟨a, xs, rfl, r1, r2⟩ := r
    exact .lst (.inl (e.rd r1)) (dpAll_of hK e ds ps xs h1 r2)
  | .tup ds, p, v, h, r => by
    simp only [toPy, Option.map_eq_some_iff] at h
    obtain ⟨ps, h1, rfl⟩ := h
    simp only [Rep] at r
    obtain ⟨a, xs, rfl, r1, r2⟩ := r
    exact .tup (hK ▸ e.sqT r1) (dpAll_of hK e ds ps xs h1 r2)
  | .kst ds, p, v, h, r => by
    simp only [toPy, Option.map_eq_some_iff] at h
    obtain ⟨ps, h1, rfl⟩ := h
    simp only [Rep] at r
    obtain ⟨a, xs, rfl, r1, r2⟩ := r
    exact .lst (hK ▸ e.sqL r1) (dpAll_of hK e ds ps xs h1 r2)
  | .dK _ _, p, v, h, r => by simp only [toPy] at h; cases h
  | .dT _ _, p, v, h, r => by simp only [toPy] at h; cases h
  | .obj _ _ _, p, v, h, r => by simp only [toPy] at h; cases h
  | .cls _, p, v, h, r => by simp only [toPy] at h; cases h
  | .err _ _ _, p, v, h, r => by simp only [toPy] at h; cases h
theorem dpAll_of {H0 H : Hp} (hK : X.K = T.K) (e : Ext H0 H) : ∀ (ds : List D) (ps : List PyData) (vs : List V), toPyAll ds = some ps → RepAll T H0 ds vs → DpAll X.K H vs ps
  | [], ps, vs, h, r => by simp only [toPyAll] at h; cases h; simp only [RepAll] at r; subst r; exact .nil
  | d :: ds, ps, vs, h, r => by
    simp only [toPyAll] at h
    simp only [RepAll] at r
    obtain ⟨v, r', rfl, r1, r2⟩ := r
    split at h
    · rename_i p ps' q1 q2
      cases h
      exact .cons (dp_of hK e d p v q1 r1) (dpAll_of hK e ds ps' r' q2 r2)
    · cases h
end
theorem dp_rd {H0 H : Hp} (hK : X.K = T.K) (e : Ext H0 H) {d : D} {p : PyData} {v : V} (h : toPy d = some p) (r : RdV T H0 H d v) : Dp X.K H v p := by
  rcases r with r | r
  · exact dp_of hK e d p v h r
  · cases d with
    | lst ds =>
      simp only [toPy, Option.map_eq_some_iff] at h
      obtain ⟨ps, h1, rfl⟩ := h
      obtain ⟨a, xs, rfl, h0, h2, h3⟩ := r
      exact .lst (SqL.of h2) (dpAll_of hK e ds ps xs h1 h3)
    | dK _ _ => cases h
    | dT _ _ => cases h
    | obj _ _ _ => cases h
    | _ => exact r.elim
theorem eqP_inv {x y : D} {b : Bool} (h : eqP x y = some b) : ∃ p q, toPy x = some p ∧ toPy y = some q ∧ SeqAt.shaped p = true ∧ SeqAt.shaped q = true ∧ b = PyData.eqv p q := by
  unfold eqP at h
  split at h
  · rename_i p q h1 h2
    split at h
    · rename_i z
      cases h
      rw [Bool.and_eq_true] at z
      exact ⟨p, q, h1, h2, z.1, z.2, rfl⟩
    · cases h
  · cases h
theorem eqD_inv {x y : D} {b : Bool} (h : eqD x y = some b) : (∃ u v, x = .str u ∧ y = .str v ∧ b = decide (u = v)) ∨ eqP x y = some b := by
  unfold eqD at h
  split at h
  · cases h; exact .inl ⟨_, _, rfl, rfl, rfl⟩
  · exact .inr h
theorem dec_strV (u v : Str) : decide (V.str u = V.str v) = decide (u = v) := decide_eq_decide.mpr ⟨fun h => by cases h; rfl, fun h => by rw [h]⟩
theorem o_eq (hK : X.K = T.K) (hu : X.A.units + 64 < cLine) : OpR X (compareOp .Eq) (rD T (op2 .eq)) :=
  orI ((op_eqD hu).or op_eq) fun x y H Q ⟨H0, dx, dy, d, e, hx, hy, hg, q⟩ => by
    have hg' : (eqD dx dy).map D.bl = some d := by cases dx <;> cases dy <;> exact hg
    rw [Option.map_eq_some_iff] at hg'
    obtain ⟨b, h1, rfl⟩ := hg'
    rcases eqD_inv h1 with ⟨u, v, rfl, rfl, rfl⟩ | h1
    · cases rd_str hx
      cases rd_str hy
      exact .inr ⟨rfl, by rw [dec_strV]; exact q _ _ _ (Gr.rfl' e) (.flat rfl (r_bl _ _ _))⟩
    · obtain ⟨p, p', h2, h3, s1, s2, rfl⟩ := eqP_inv h1
      exact .inl ⟨p, p', dp_rd hK e h2 hx, dp_rd hK e h3 hy, s1, s2, q _ _ _ (Gr.rfl' e) (.flat rfl (r_bl _ _ _))⟩
theorem o_ne (hK : X.K = T.K) (hu : X.A.units + 64 < cLine) : OpR X (compareOp .NotEq) (rD T (op2 .ne)) :=
  orI ((op_neD hu).or op_ne) fun x y H Q ⟨H0, dx, dy, d, e, hx, hy, hg, q⟩ => by
    have hg' : ((eqD dx dy).map fun b => D.bl (!b)) = some d := by cases dx <;> cases dy <;> exact hg
    rw [Option.map_eq_some_iff] at hg'
    obtain ⟨b, h1, rfl⟩ := hg'
    rcases eqD_inv h1 with ⟨u, v, rfl, rfl, rfl⟩ | h1
    · cases rd_str hx
      cases rd_str hy
      exact .inr ⟨rfl, by rw [dec_strV]; exact q _ _ _ (Gr.rfl' e) (.flat rfl (r_bl _ _ _))⟩
    · obtain ⟨p, p', h2, h3, s1, s2, rfl⟩ := eqP_inv h1
      exact .inl ⟨p, p', dp_rd hK e h2 hx, dp_rd hK e h3 hy, s1, s2, q _ _ _ (Gr.rfl' e) (.flat rfl (r_bl _ _ _))⟩

/-! ### the constructions -/
variable {C : Ctx} {W : WX} {cl : CallF} {e a b c : Expr} {e' a' b' c' : Ex} {pos : Pos}
theorem c_var {i : Nat} (h : PE X e (tVar i)) : PE X e (tI C W cl (.var i)) := peI h fun σ H Q ⟨H0, env, S, q⟩ => by
  have z := S.slots i
  simp only [ev] at q
  split at q
  · exact q.elim
  · rename_i d hd
    rw [hd] at z
    obtain ⟨v, h1, h2⟩ := z
    exact ⟨v, h1, q H0 H (Ext.rfl' _) S v h2⟩
  · rename_i n1 n2
    have : ∃ v, σ[i]? = some (some v) := by
      cases hs : getS env i with
      | un => exact (n1 hs).elim
      | fn => rw [hs] at z; exact ⟨_, z⟩
      | fz d => exact (n2 d hs).elim
      | ow d => rw [hs] at z; obtain ⟨x, h1, _⟩ := z; exact ⟨_, h1⟩
      | io d => rw [hs] at z; obtain ⟨x, h1, _⟩ := z; exact ⟨_, h1⟩
    obtain ⟨v, h1⟩ := this
    exact ⟨v, h1, q H0 H (Ext.rfl' _) S v h1⟩
theorem c_cst {d : D} {v : V} (h : PE X e (tC v)) (hr : ∀ H, Rep C.T H d v) : PE X e (tI C W cl (.cst d)) := peI h fun σ H Q ⟨H0, env, S, q⟩ => by
  simp only [ev] at q
  exact q H0 H (Ext.rfl' _) S v (hr H0)
/-- behind an operation -/
theorem fin_nw {σ : L2.St} {H0 H H0' H' : Hp} {env : Env} {Q : VK} {z : D} {v : V} (S : Sim C σ H0 H env) (h : RQ C W σ (KV C σ Q) H0 (.ok (.nw z) env)) (g : Gr C.T H0 H H0' H') (r : RepG C.T H0' H' H z v) : Q v H' :=
  h H0' H' g.e0 (S.gr g) v (r.nw S)
theorem two {σ : L2.St} {H0 H : Hp} {env : Env} {o : O2} {Q : VK} (S : Sim C σ H0 H env) (q : RQ C W σ (KV C σ Q) H0 (ev cl (.op2 o a' b') env)) : tOp (rD C.T (op2 o)) (tI C W cl a') (tI C W cl b') σ H Q := by
  simp only [ev] at q
  refine seqI S q fun u env1 x H1 H1' e1 S1 u1 q1 => ?_
  obtain ⟨H1f, e1f, S1f, u1f⟩ := S1.pend u1
  refine seqI S1f (RQ.mono e1f q1) fun w env2 y H2 H2' e2 S2 u2 q2 => ?_
  obtain ⟨dx, hx, q2⟩ := q2.orB
  obtain ⟨dy, hy, q2⟩ := q2.orB
  obtain ⟨z, hz, q2⟩ := q2.orB
  exact ⟨H2, dx, dy, z, S2.ex, S2.rd (u1f.wait e2) hx, S2.rd u2 hy, hz, fun v H0' H' g r => fin_nw S2 q2 g r⟩
theorem c_bin {op : Operator} {o : O2} (ho : OpR X (binaryOp op) (rD C.T (op2 o))) (ha : PE X a (tI C W cl a')) (hb : PE X b (tI C W cl b')) : PE X (.BinOp a op b pos) (tI C W cl (.op2 o a' b')) :=
  peI (pe_op ho ha hb) fun σ H Q ⟨H0, env, S, q⟩ => two S q
theorem c_cmp {op : CmpOp} {o : O2} (ho : OpR X (compareOp op) (rD C.T (op2 o))) (ha : PE X a (tI C W cl a')) (hb : PE X b (tI C W cl b')) (hm : behindInMarks op b = false) : PE X (.Compare a [op] [b] pos) (tI C W cl (.op2 o a' b')) :=
  peI (pe_cmpR ho ha hb hm) fun σ H Q ⟨H0, env, S, q⟩ => two S q
theorem c_un {op : UnaryOp} {o : O1} (ho : UnR X (unaryOp op) (rD1 C.T (op1 o))) (ha : PE X a (tI C W cl a')) : PE X (.UnaryOp op a pos) (tI C W cl (.op1 o a')) :=
  peI (pe_un ho ha) fun σ H Q ⟨H0, env, S, q⟩ => by
    simp only [ev] at q
    refine seqI S q fun u env1 x H1 H1' e1 S1 u1 q1 => ?_
    obtain ⟨dx, hx, q1⟩ := q1.orB
    obtain ⟨z, hz, q1⟩ := q1.orB
    exact ⟨H1, dx, z, S1.ex, S1.rd u1 hx, hz, fun v H0' H' g r => fin_nw S1 q1 g r⟩
theorem o_neg {T : Tbl} : UnR X (unaryOp .USub) (rD1 T (op1 .neg)) := fun pins s σ H x v Q I rx ⟨H0, dx, d, e, hx, hg, q⟩ => by
  cases dx with
  | int i => cases hg; exact un_neg pins s σ H x v Q I rx ⟨i, rd_int hx, q _ _ _ (Gr.rfl' e) (.flat rfl (r_int _ _ _))⟩
  | _ => cases hg
/-- a op b op' c -/
theorem c_chain {op op' : CmpOp} {o p : O2} (ho : OpR X (compareOp op) (rD C.T (op2 o))) (ho' : OpR X (compareOp op') (rD C.T (op2 p))) (ha : PE X a (tI C W cl a')) (hb : PE X b (tI C W cl b')) (hc : PE X c (tI C W cl c'))
    (hm : lastMarks [op, op'] [b, c] = false := by with_unfolding_all rfl) : PE X (.Compare a [op, op'] [b, c] pos) (tI C W cl (.chain o p a' b' c')) :=
  peI (pe_chain ho ho' ha hb hc hm) fun σ H Q ⟨H0, env, S, q⟩ => by
    simp only [ev] at q
    refine seqI S q fun u env1 x H1 H1' e1 S1 u1 q1 => ?_
    obtain ⟨H1f, e1f, S1f, u1f⟩ := S1.pend u1
    refine seqI S1f (RQ.mono e1f q1) fun w env2 y H2 H2' e2 S2 u2 q2 => ?_
    obtain ⟨H2f, e2f, S2f, u2f⟩ := S2.pend u2
    have q2 := RQ.mono e2f q2
    obtain ⟨dx, hx, q2⟩ := q2.orB
    obtain ⟨dy, hy, q2⟩ := q2.orB
    obtain ⟨z, hz, q2⟩ := q2.orB
    refine ⟨H2f, dx, dy, z, S2f.ex, S2f.rd (u1f.wait (e2.tr e2f)) hx, S2f.rd u2f hy, hz, fun v H0' H' g r => ?_⟩
    split at q2
    · have hv : v = .bl true := by simpa only [RepG, isMutD, Rep, Bool.false_eq_true, if_false] using r
      subst hv
      refine ⟨true, rfl, ?_⟩
      rw [if_pos rfl]
      have S3 := S2f.gr g
      refine seqI S3 (RQ.mono g.e0 q2) fun t env3 y3 H3 H3' e3 S4 u3 q3 => ?_
      obtain ⟨dy', hy', q3⟩ := q3.orB
      obtain ⟨dr, hr, q3⟩ := q3.orB
      obtain ⟨z', hz', q3⟩ := q3.orB
      exact ⟨H3, dy', dr, z', S4.ex, S4.rd (u2f.wait (g.e0.tr e3)) hy', S4.rd u3 hr, hz', fun v H0' H' g r => fin_nw S4 q3 g r⟩
    · have hv : v = .bl false := by simpa only [RepG, isMutD, Rep, Bool.false_eq_true, if_false] using r
      subst hv
      refine ⟨false, rfl, ?_⟩
      rw [if_neg Bool.false_ne_true]
      exact fin_nw S2f q2 g r
    · exact q2.elim
/-! truth -/
theorem c_and {rest : List Expr} (hK : X.K = C.T.K) (ha : PE X a (tI C W cl a')) (hb : PE X (.BoolOp .And (b :: rest) pos) (tI C W cl b')) : PE X (.BoolOp .And (a :: b :: rest) pos) (tI C W cl (.and a' b')) :=
  peI (pe_andT ha hb) fun σ H Q ⟨H0, env, S, q⟩ => by
    simp only [ev] at q
    refine seqI S q fun u env1 x H1 H1' e1 S1 u1 q1 => ?_
    obtain ⟨dx, hx, q1⟩ := q1.orB
    obtain ⟨t, ht, q1⟩ := q1.orB
    refine ⟨t, hK ▸ rd_truth S1.ex (S1.rd u1 hx) ht, ?_⟩
    cases t with
    | true =>
      rw [if_pos rfl]
      exact ⟨H1, env1, S1, q1⟩
    | false =>
      rw [if_neg Bool.false_ne_true]
      obtain ⟨H1f, e1f, S1f, u1f⟩ := S1.pend u1
      exact q1 H1f H1' e1f S1f x u1f
theorem c_or {rest : List Expr} (hK : X.K = C.T.K) (ha : PE X a (tI C W cl a')) (hb : PE X (.BoolOp .Or (b :: rest) pos) (tI C W cl b')) : PE X (.BoolOp .Or (a :: b :: rest) pos) (tI C W cl (.or a' b')) :=
  peI (pe_orT ha hb) fun σ H Q ⟨H0, env, S, q⟩ => by
    simp only [ev] at q
    refine seqI S q fun u env1 x H1 H1' e1 S1 u1 q1 => ?_
    obtain ⟨dx, hx, q1⟩ := q1.orB
    obtain ⟨t, ht, q1⟩ := q1.orB
    refine ⟨t, hK ▸ rd_truth S1.ex (S1.rd u1 hx) ht, ?_⟩
    cases t with
    | false =>
      rw [if_neg Bool.false_ne_true]
      exact ⟨H1, env1, S1, q1⟩
    | true =>
      rw [if_pos rfl]
      obtain ⟨H1f, e1f, S1f, u1f⟩ := S1.pend u1
      exact q1 H1f H1' e1f S1f x u1f
theorem c_one {op : BoolOp} (ha : PE X a (tI C W cl a')) : PE X (.BoolOp op [a] pos) (tI C W cl a') := pe_one ha
theorem c_not (hK : X.K = C.T.K) (ha : PE X a (tI C W cl a')) : PE X (.UnaryOp .Not a pos) (tI C W cl (.not a')) :=
  peI (pe_notT ha) fun σ H Q ⟨H0, env, S, q⟩ => by
    simp only [ev] at q
    refine seqI S q fun u env1 x H1 H1' e1 S1 u1 q1 => ?_
    obtain ⟨dx, hx, q1⟩ := q1.orB
    obtain ⟨t, ht, q1⟩ := q1.orB
    exact ⟨t, hK ▸ rd_truth S1.ex (S1.rd u1 hx) ht, fin_nw S1 q1 (Gr.rfl' S1.ex) (.flat rfl (r_bl _ _ _))⟩
/-- a test -/
theorem t_tru (hK : X.K = C.T.K) (ha : PE X a (tI C W cl a')) (he : ∀ whole, isTrue a X.env whole = (do let v ← whole; standAt a.pos; holding [v] (truthy v)) := by intro _; rfl) : PT X a (tT C W cl a') :=
  ptI (pt_truth ha he) fun σ H Q ⟨H0, env, S, q⟩ => by
    simp only [evT] at q
    refine seqI S q fun u env1 x H1 H1' e1 S1 u1 q1 => ?_
    obtain ⟨dx, hx, q1⟩ := q1.orB
    obtain ⟨t, ht, q1⟩ := q1.orB
    exact ⟨t, hK ▸ rd_truth S1.ex (S1.rd u1 hx) ht, q1 H1 H1' (Ext.rfl' _) S1⟩
end
end PP
end

section
set_option maxHeartbeats 1000000
namespace PP
open PySem L2

/-! ### lists of expressions -/
def tAF (C : Ctx) (W : WX) (cl : CallF) (es : Exs) : TA := fun σ H Q => ∃ H0 env, Sim C σ H0 H env ∧ RQ C W σ (fun ds _ H0' H' => ∀ vs, RepAll C.T H0' ds vs → Q vs H') H0 (evF cl es env)
def UsOk (C : Ctx) (σ : L2.St) (H0 H : Hp) (env : Env) : List U → List V → Prop
  | [], vs => vs = []
  | u :: us, vs => ∃ v r, vs = v :: r ∧ (∃ u', u = pend u' ∧ UOk C σ H0 H env (pend u') v) ∧ UsOk C σ H0 H env us r
def tAR (C : Ctx) (W : WX) (cl : CallF) (es : Exs) : TA := fun σ H Q => ∃ H0 env, Sim C σ H0 H env ∧ RQ C W σ (fun us env' H0' H' => ∀ vs, UsOk C σ H0' H' env' us vs → Q vs H') H0 (evR cl es env)
def RdAll (T : Tbl) (H0 H : Hp) : List D → List V → Prop
  | [], vs => vs = []
  | d :: ds, vs => ∃ v r, vs = v :: r ∧ RdV T H0 H d v ∧ RdAll T H0 H ds r
section
variable {C : Ctx} {W : WX} {σ : L2.St} {cl : CallF} {H0 H H0' H' : Hp} {env : Env}
theorem Sim.takeK (S : Sim C σ H0 H env) {i : Nat} {v : V} {d : D} {env' : Env} (e : σ[i]? = some (some v)) (hf : fzU env (.sl i) = some (d, env')) : ∃ H0', Ext H0 H0' ∧ Sim C σ H0' H env' ∧ Rep C.T H0' d v ∧ ∀ a, H0 a = none → ∀ o, H0' a = some o → (∀ ps, o ≠ .tup ps) ∧ ∀ x u, o ≠ .frz x u := by
  have q := S.slots i
  cases z : getS env i with
  | un => simp [fzU, z] at hf
  | fn => simp [fzU, z] at hf
  | io x => simp [fzU, z] at hf
  | fz x =>
    simp [fzU, z] at hf
    obtain ⟨rfl, rfl⟩ := hf
    rw [z] at q
    obtain ⟨w, h1, h2⟩ := q
    rw [e] at h1; cases h1
    exact ⟨H0, Ext.rfl' _, S, h2, fun a h o h' => by rw [h] at h'; cases h'⟩
  | ow x =>
    simp [fzU, z] at hf
    obtain ⟨rfl, rfl⟩ := hf
    rw [z] at q
    obtain ⟨a, h1, h2, h3⟩ := q
    rw [e] at h1; cases h1
    obtain ⟨h0, o, ho⟩ := h3.some
    have hi : i < env.length := by
      rw [S.len]
      exact (List.getElem?_eq_some_iff.mp e).1
    have gs : ∀ j, getS (env.set i (.fz x)) j = if i = j then .fz x else getS env j := fun j => by
      unfold getS
      simp only [List.getD_eq_getElem?_getD, List.getElem?_set]
      split
      · rename_i z2; subst z2; simp [hi]
      · rfl
    refine ⟨upd H0 a o, ext_upd h0, ?_, h3.froz ho, fun b hb o' ho' => by
      by_cases z : b = a
      · subst z; rw [upd_same] at ho'; cases ho'; exact h3.kindT ho
      · rw [upd_ne z, hb] at ho'; cases ho'⟩
    exact {
      ok := S.ok
      ex := fun b u q => by
        by_cases z : b = a
        · subst z; rw [upd_same] at q; cases q; exact ho
        · rw [upd_ne z] at q; exact S.ex _ _ q
      ex0 := S.ex0.tr (ext_upd h0)
      fresh := fun b q q' => by
        by_cases z : b = a
        · subst z; exact h2
        · rw [upd_ne z] at q'; exact S.fresh b q q'
      keep := S.keep
      tabs := S.tabs
      tno := S.tnoU ho (h3.kind ho).1
      ioH := S.ioH
      len := by rw [List.length_set]; exact S.len
      slots := fun j => by
        rw [gs j]
        split
        · rename_i z2
          subst z2
          exact ⟨_, e, h3.froz ho⟩
        · rename_i z2
          refine (S.slots j).step (ext_upd h0) fun b hb eb => ?_
          have zb : b ≠ a := fun zb => S.inj i j a z2 (by rw [z]; rfl) hb e (by rw [← zb]; exact eb)
          exact ⟨by rw [upd_ne zb]; exact (S.own hb eb).1, rfl⟩
      inj := fun j k b hjk hj hk ej ek => by
        rw [gs j] at hj
        rw [gs k] at hk
        split at hj
        · cases hj
        · split at hk
          · cases hk
          · exact S.inj j k b hjk hj hk ej ek }
/-- taken for good -/
theorem Sim.take (S : Sim C σ H0 H env) {u : U} {v : V} {d : D} {env' : Env} (h : UOk C σ H0 H env u v) (hf : fzU env u = some (d, env')) : ∃ H0', Ext H0 H0' ∧ Sim C σ H0' H env' ∧ Rep C.T H0' d v := by
  cases u with
  | d x => cases hf; exact ⟨H0, Ext.rfl' _, S, h⟩
  | nw x =>
    cases hf
    obtain ⟨H0', e, S', h'⟩ := S.pend h
    exact ⟨H0', e, S', h'⟩
  | sl i =>
    obtain ⟨H0', a, b, c, _⟩ := S.takeK h hf
    exact ⟨H0', a, b, c⟩
theorem UsOk.mono (e : Ext H0 H0') : ∀ {us : List U} {vs : List V} {env' : Env}, UsOk C σ H0 H env us vs → UsOk C σ H0' H' env' us vs
  | [], _, _, h => h
  | u :: us, _, _, h => by
    obtain ⟨v, r, rfl, ⟨u', rfl, h1⟩, h2⟩ := h
    exact ⟨v, r, rfl, ⟨u', rfl, h1.wait e⟩, UsOk.mono e h2⟩
theorem UsOk.rd (S : Sim C σ H0 H env) : ∀ {us : List U} {vs : List V} {ds : List D}, UsOk C σ H0 H env us vs → rdAll env us = some ds → RdAll C.T H0 H ds vs
  | [], _, _, h, q => by cases q; exact h
  | u :: us, _, _, h, q => by
    obtain ⟨v, r, rfl, ⟨u', rfl, h1⟩, h2⟩ := h
    unfold rdAll at q
    split at q
    · rename_i d ds q1 q2
      cases q
      exact ⟨v, r, rfl, S.rd h1 q1, UsOk.rd S h2 q2⟩
    · cases q
end
theorem paI {X : Cx} {es : List Expr} {t t' : TA} (h : PA X es t) (i : ∀ σ H Q, t' σ H Q → t σ H Q) : PA X es t' := ⟨fun pos pins s σ H Q I q => h.run pos pins s σ H Q I (i σ H Q q)⟩
section
variable {X : Cx} {C : Ctx} {W : WX} {cl : CallF} {e a b c : Expr} {es : List Expr} {e' a' b' c' : Ex} {es' : Exs} {pos : Pos}
theorem f_nil : PA X [] (tAF C W cl .nil) := paI pa_nil fun σ H Q ⟨H0, env, S, q⟩ => q H0 H (Ext.rfl' _) S [] (by simp only [RepAll])
theorem f_cons (ha : PE X e (tI C W cl e')) (hr : PA X es (tAF C W cl es')) (hs : starEach (e :: es) X.env = (false, eval e X.env) :: starEach es X.env := by rfl) : PA X (e :: es) (tAF C W cl (.cons e' es')) :=
  paI (pa_cons ha hr hs) fun σ H Q ⟨H0, env, S, q⟩ => by
    simp only [evF] at q
    refine seqI S q fun u env1 x H1 H1' e1 S1 u1 q1 => ?_
    obtain ⟨⟨d, env2⟩, hf, q1⟩ := q1.orB
    obtain ⟨H2, e2, S2, r2⟩ := S1.take u1 hf
    have q2 := RQ.mono e2 q1
    refine ⟨H2, env2, S2, ?_⟩
    cases z : evF cl es' env2 with
    | ok ds env3 =>
      simp only [z] at q2
      exact fun H3 H3' e3 S3 vs hv => q2 H3 H3' e3 S3 (x :: vs) (by simp only [RepAll]; exact ⟨x, vs, rfl, Rep.mono e3 _ _ r2, hv⟩)
    | exc x env3 => simp only [z] at q2; exact q2
    | bad => simp only [z] at q2; exact q2
theorem r_nil : PA X [] (tAR C W cl .nil) := paI pa_nil fun σ H Q ⟨H0, env, S, q⟩ => q H0 H (Ext.rfl' _) S [] rfl
theorem r_cons (ha : PE X e (tI C W cl e')) (hr : PA X es (tAR C W cl es')) (hs : starEach (e :: es) X.env = (false, eval e X.env) :: starEach es X.env := by rfl) : PA X (e :: es) (tAR C W cl (.cons e' es')) :=
  paI (pa_cons ha hr hs) fun σ H Q ⟨H0, env, S, q⟩ => by
    simp only [evR] at q
    refine seqI S q fun u env1 x H1 H1' e1 S1 u1 q1 => ?_
    obtain ⟨H2, e2, S2, r2⟩ := S1.pend u1
    have q2 := RQ.mono e2 q1
    refine ⟨H2, env1, S2, ?_⟩
    cases z : evR cl es' env1 with
    | ok ds env3 =>
      simp only [z] at q2
      exact fun H3 H3' e3 S3 vs hv => q2 H3 H3' e3 S3 (x :: vs) ⟨x, vs, rfl, ⟨u, rfl, r2.wait e3⟩, hv⟩
    | exc x env3 => simp only [z] at q2; exact q2
    | bad => simp only [z] at q2; exact q2
/-! displays -/
theorem c_tup {k : Nat} (h : PA X es (tAF C W cl es')) : PE X (.Tuple es k pos) (tI C W cl (.tup es')) :=
  peI (pe_tup h) fun σ H Q ⟨H0, env, S, q⟩ => by
    simp only [ev] at q
    refine ⟨H0, env, S, ?_⟩
    cases z : evF cl es' env with
    | ok ds env3 =>
      simp only [z, R.bind_ok] at q
      split at q
      · rename_i hl
        intro H1 H1' e1 S1 vs hv
        refine ⟨by rw [hv.len]; exact Nat.le_trans hl lim_line, fun p hp => ?_⟩
        refine fin_nw S1 (RQ.mono e1 q) (Gr.froz S1.ex hp) (.flat rfl ?_)
        simp only [Rep]
        exact ⟨p, vs, rfl, SqT.of upd_same, RepAll.mono (ext_upd (S1.ex.no hp)) _ _ hv⟩
      · exact q.elim
    | exc x env3 => simp only [z] at q; exact q
    | bad => simp only [z] at q; exact q
theorem c_lst (h : PA X es (tAF C W cl es')) : PE X (.List es pos) (tI C W cl (.lst es')) :=
  peI (pe_lst h) fun σ H Q ⟨H0, env, S, q⟩ => by
    simp only [ev] at q
    refine ⟨H0, env, S, ?_⟩
    cases z : evF cl es' env with
    | ok ds env3 =>
      simp only [z, R.bind_ok] at q
      split at q
      · rename_i hl
        intro H1 H1' e1 S1 vs hv
        refine ⟨by rw [hv.len]; exact Nat.le_trans hl lim_line, fun p hp => ?_⟩
        exact fin_nw S1 (RQ.mono e1 q) (Gr.own S1.ex hp) (.lst S1.ex hp hv)
      · exact q.elim
    | exc x env3 => simp only [z] at q; exact q
    | bad => simp only [z] at q; exact q
/-! an item -/
theorem x_lst (hK : X.K = C.T.K) : IxR X (fun x y H Q => ∃ H0 dx dy d, Ext H0 H ∧ RdV C.T H0 H dx x ∧ RdV C.T H0 H dy y ∧ ixD dx dy = some d ∧ ∀ v, Rep C.T H0 d v → Q v H) :=
  fun value slice pins s σ H x y v u Q I rx ry ⟨H0, dx, dy, d, e, hx, hy, hg, q⟩ hsub => by
    refine (ix_list.or (ix_tup.or ix_str)) value slice pins s σ H x y v u Q I rx ry ?_ hsub
    cases dx with
    | lst ds =>
      cases dy with
      | int i =>
        obtain ⟨a, xs, rfl, h1, h2⟩ := rd_lst e hx
        obtain ⟨w, h3, h4⟩ := h2.atI hg
        exact .inl ⟨a, xs, i, w, rfl, rd_int hy, .inl h1, h3, q w h4⟩
      | _ => cases hg
    | tup ds =>
      cases dy with
      | int i =>
        obtain ⟨a, xs, rfl, h1, h2⟩ := rd_tup e hx
        obtain ⟨w, h3, h4⟩ := h2.atI hg
        exact .inr (.inl ⟨a, xs, i, w, rfl, rd_int hy, hK ▸ h1, h3, q w h4⟩)
      | _ => cases hg
    | kst ds =>
      cases dy with
      | int i =>
        obtain ⟨a, xs, rfl, h1, h2⟩ := rd_kst e hx
        obtain ⟨w, h3, h4⟩ := h2.atI hg
        exact .inl ⟨a, xs, i, w, rfl, rd_int hy, hK ▸ h1, h3, q w h4⟩
      | _ => cases hg
    | str z =>
      cases dy with
      | int i =>
        simp only [ixD] at hg
        split at hg
        · rename_i hl
          rw [Option.map_eq_some_iff] at hg
          obtain ⟨c, hc, rfl⟩ := hg
          exact .inr (.inr ⟨z, i, c, rd_str hx, rd_int hy, Nat.le_trans hl lim_line, hc, q _ (r_str _ _ _)⟩)
        · cases hg
      | _ => cases hg
    | _ => cases hg
theorem c_ix (hK : X.K = C.T.K) (ha : PE X a (tI C W cl a')) (hb : PE X b (tI C W cl b')) (hs : PlainIx b := by exact fun _ _ => rfl) : PE X (.Subscript a b pos) (tI C W cl (.ix a' b')) :=
  peI (pe_ix (x_lst hK) ha hb hs) fun σ H Q ⟨H0, env, S, q⟩ => by
    simp only [ev] at q
    refine seqI S q fun u env1 x H1 H1' e1 S1 u1 q1 => ?_
    obtain ⟨H1f, e1f, S1f, u1f⟩ := S1.pend u1
    refine seqI S1f (RQ.mono e1f q1) fun w env2 y H2 H2' e2 S2 u2 q2 => ?_
    obtain ⟨dx, hx, q2⟩ := q2.orB
    obtain ⟨dy, hy, q2⟩ := q2.orB
    obtain ⟨z, hz, q2⟩ := q2.orB
    exact ⟨H2, dx, dy, z, S2.ex, S2.rd (u1f.wait e2) hx, S2.rd u2 hy, hz, fun v r => q2 H2 H2' (Ext.rfl' _) S2 v r⟩
/-! built-in functions -/
def rDn (T : Tbl) (g : List D → Option D) : List V → Hp → VK → Prop := fun vs H Q => ∃ H0 ds d, Ext H0 H ∧ RdAll T H0 H ds vs ∧ g ds = some d ∧ ∀ v H0' H', Gr T H0 H H0' H' → RepG T H0' H' H d v → Q v H'
theorem readB {σ : L2.St} {H : Hp} {Q : VK} {B : B} (h : tI C W cl (.bi B es') σ H Q) : tCB (rDn C.T (biD B)) (tAR C W cl es') σ H Q := by
  obtain ⟨H0, env, S, q⟩ := h
  simp only [ev] at q
  refine ⟨H0, env, S, ?_⟩
  cases z : evR cl es' env with
  | ok us env3 =>
    simp only [z, R.bind_ok] at q
    intro H1 H1' e1 S1 vs hv
    obtain ⟨ds, hd, q1⟩ := (RQ.mono e1 q).orB
    obtain ⟨d, hg, q1⟩ := q1.orB
    exact ⟨H1, ds, d, S1.ex, hv.rd S1 hd, hg, fun v H0' H' g r => fin_nw S1 q1 g r⟩
  | exc x env3 => simp only [z] at q; exact q
  | bad => simp only [z] at q; exact q
theorem c_biB {x : Str} {p : Pos} {id : String} {B : B} (hc : CallR X (.builtin id) (rDn C.T (biD B))) (hg : Gl X x) (hm : X.mg x = none) (hv : bootBuiltins x = some (.builtin id)) (ha : PA X (e :: es) (tAR C W cl es')) (hn : x ≠ "__name__" := by decide) (hdb : (x == ("__debug__" : Str)) = false := by decide)
    (he : starEach (e :: es) X.env = (false, eval e X.env) :: starEach es X.env := by rfl) (hpl : (backTo pos (starEach es X.env)).any (·.1) = false := by rfl) : PE X (.Call (.Name x p) (e :: es) [] pos) (tI C W cl (.bi B es')) :=
  peI (pe_callB hc hg hm hv ha hn hdb he hpl) fun _ _ _ q => readB q
theorem c_biT {x : Str} {p : Pos} {id : String} {B : B} (hc : CallR X (.type id) (rDn C.T (biD B))) (hg : Gl X x) (hm : X.mg x = none) (hv : bootBuiltins x = some (.type id)) (ha : PA X (e :: es) (tAR C W cl es')) (hn : x ≠ "__name__" := by decide) (hdb : (x == ("__debug__" : Str)) = false := by decide)
    (he : starEach (e :: es) X.env = (false, eval e X.env) :: starEach es X.env := by rfl) (hpl : (backTo pos (starEach es X.env)).any (·.1) = false := by rfl) : PE X (.Call (.Name x p) (e :: es) [] pos) (tI C W cl (.bi B es')) :=
  peI (pe_callTy hc hg hm hv ha hn hdb he hpl) fun _ _ _ q => readB q
theorem callI {f : Value} {r r' : List V → Hp → VK → Prop} (h : CallR X f r) (i : ∀ xs H Q, r' xs H Q → r xs H Q) : CallR X f r' := fun pins s σ H xs us Q I rx q => h pins s σ H xs us Q I rx (i xs H Q q)
theorem rd1 {T : Tbl} {H0 H : Hp} {d : D} {vs : List V} (h : RdAll T H0 H [d] vs) : ∃ v, vs = [v] ∧ RdV T H0 H d v := by
  obtain ⟨v, r, rfl, h1, h2⟩ := h
  cases h2
  exact ⟨v, rfl, h1⟩
theorem rd2 {T : Tbl} {H0 H : Hp} {d d' : D} {vs : List V} (h : RdAll T H0 H [d, d'] vs) : ∃ v v', vs = [v, v'] ∧ RdV T H0 H d v ∧ RdV T H0 H d' v' := by
  obtain ⟨v, r, rfl, h1, v', r', rfl, h2, h3⟩ := h
  cases h3
  exact ⟨v, v', rfl, h1, h2⟩
theorem b_len (hK : X.K = C.T.K) : CallR X (.builtin "len") (rDn C.T (biD .len)) := callI (call_len_seq.or call_len_str) fun xs H Q ⟨H0, ds, d, e, hr, hg, q⟩ => by
  match ds, hg with
  | [.lst ys], hg =>
    cases hg
    obtain ⟨v, rfl, h1⟩ := rd1 hr
    obtain ⟨a, us, rfl, h2, h3⟩ := rd_lst e h1
    exact .inl ⟨a, us, rfl, .inl (.inl h2), q _ _ _ (Gr.rfl' e) (.flat rfl (by rw [h3.len]; exact r_int _ _ _))⟩
  | [.tup ys], hg =>
    cases hg
    obtain ⟨v, rfl, h1⟩ := rd1 hr
    obtain ⟨a, us, rfl, h2, h3⟩ := rd_tup e h1
    exact .inl ⟨a, us, rfl, .inr (hK ▸ h2), q _ _ _ (Gr.rfl' e) (.flat rfl (by rw [h3.len]; exact r_int _ _ _))⟩
  | [.kst ys], hg =>
    cases hg
    obtain ⟨v, rfl, h1⟩ := rd1 hr
    obtain ⟨a, us, rfl, h2, h3⟩ := rd_kst e h1
    exact .inl ⟨a, us, rfl, .inl (hK ▸ h2), q _ _ _ (Gr.rfl' e) (.flat rfl (by rw [h3.len]; exact r_int _ _ _))⟩
  | [.str z], hg =>
    simp only [biD] at hg
    split at hg
    · rename_i hl
      cases hg
      obtain ⟨v, rfl, h1⟩ := rd1 hr
      cases rd_str h1
      exact .inr ⟨z, rfl, Nat.le_trans hl lim_line, q _ _ _ (Gr.rfl' e) (.flat rfl (r_int _ _ _))⟩
    · cases hg
theorem b_int : CallR X (.type "int") (rDn C.T (biD .int)) := callI (call_int1.or call_int_str) fun xs H Q ⟨H0, ds, d, e, hr, hg, q⟩ => by
  match ds, hg with
  | [.int i], hg =>
    cases hg
    obtain ⟨v, rfl, h1⟩ := rd1 hr
    cases rd_int h1
    exact .inl (.inl ⟨i, rfl, q _ _ _ (Gr.rfl' e) (.flat rfl (r_int _ _ _))⟩)
  | [.bl i], hg =>
    cases hg
    obtain ⟨v, rfl, h1⟩ := rd1 hr
    cases rd_bl h1
    exact .inl (.inr ⟨i, rfl, q _ _ _ (Gr.rfl' e) (.flat rfl (r_int _ _ _))⟩)
  | [.str z], hg =>
    simp only [biD] at hg
    split at hg
    · rename_i hl
      rw [Option.map_eq_some_iff] at hg
      obtain ⟨n, hn, rfl⟩ := hg
      obtain ⟨v, rfl, h1⟩ := rd1 hr
      cases rd_str h1
      exact .inr ⟨z, n, rfl, hn, hl, q _ _ _ (Gr.rfl' e) (.flat rfl (r_int _ _ _))⟩
    · cases hg
theorem b_abs : CallR X (.builtin "abs") (rDn C.T (biD .abs)) := callI call_abs fun xs H Q ⟨H0, ds, d, e, hr, hg, q⟩ => by
  match ds, hg with
  | [.int i], hg =>
    cases hg
    obtain ⟨v, rfl, h1⟩ := rd1 hr
    cases rd_int h1
    exact ⟨i, rfl, q _ _ _ (Gr.rfl' e) (.flat rfl (r_int _ _ _))⟩
theorem b_max (hc : X.calm = true) : CallR X (.builtin "max") (rDn C.T (biD .max2)) := callI (call_max2 hc) fun xs H Q ⟨H0, ds, d, e, hr, hg, q⟩ => by
  match ds, hg with
  | [.int i, .int j], hg =>
    cases hg
    obtain ⟨v, v', rfl, h1, h2⟩ := rd2 hr
    cases rd_int h1
    cases rd_int h2
    exact ⟨i, j, rfl, q _ _ _ (Gr.rfl' e) (.flat rfl (r_int _ _ _))⟩
theorem b_min (hc : X.calm = true) : CallR X (.builtin "min") (rDn C.T (biD .min2)) := callI (call_min2 hc) fun xs H Q ⟨H0, ds, d, e, hr, hg, q⟩ => by
  match ds, hg with
  | [.int i, .int j], hg =>
    cases hg
    obtain ⟨v, v', rfl, h1, h2⟩ := rd2 hr
    cases rd_int h1
    cases rd_int h2
    exact ⟨i, j, rfl, q _ _ _ (Gr.rfl' e) (.flat rfl (r_int _ _ _))⟩
theorem b_list (hK : X.K = C.T.K) : CallR X (.type "list") (rDn C.T (biD .list)) := callI call_list_of fun xs H Q ⟨H0, ds, d, e, hr, hg, q⟩ => by
  match ds, hg with
  | [.lst ys], hg =>
    cases hg
    obtain ⟨v, rfl, h1⟩ := rd1 hr
    obtain ⟨a, us, rfl, h2, h3⟩ := rd_lst e h1
    exact ⟨a, us, rfl, .inl (.inl h2), fun l hl => q _ _ _ (Gr.own e hl) (.lst e hl h3)⟩
  | [.tup ys], hg =>
    cases hg
    obtain ⟨v, rfl, h1⟩ := rd1 hr
    obtain ⟨a, us, rfl, h2, h3⟩ := rd_tup e h1
    exact ⟨a, us, rfl, .inr (hK ▸ h2), fun l hl => q _ _ _ (Gr.own e hl) (.lst e hl h3)⟩
  | [.kst ys], hg =>
    cases hg
    obtain ⟨v, rfl, h1⟩ := rd1 hr
    obtain ⟨a, us, rfl, h2, h3⟩ := rd_kst e h1
    exact ⟨a, us, rfl, .inl (hK ▸ h2), fun l hl => q _ _ _ (Gr.own e hl) (.lst e hl h3)⟩
end
end PP
end

section
set_option maxHeartbeats 1000000
namespace PP
open PySem L2
section
variable {X : Cx} {C : Ctx} {W : WX} {cl : CallF} {e a b c : Expr} {es : List Expr} {e' a' b' c' : Ex} {es' : Exs} {pos : Pos}
/-! isinstance -/
def tyN : D → String
  | .non => "NoneType" | .bl _ => "bool" | .int _ => "int" | .str _ => "str" | .lst _ => "list" | .tup _ => "tuple" | .kst _ => "list" | .dK _ _ => "dict" | .dT _ _ => "dict" | .obj _ _ _ => "object" | .cls _ => "type" | .err _ _ _ => "exception"
def isObjD : D → Bool
  | .obj _ _ _ => true | .cls _ => true | .err _ _ _ => true | _ => false
theorem tyx {T : Tbl} {H0 H : Hp} {d : D} {v : V} (hK : X.K = T.K) (e : Ext H0 H) (h : RdV T H0 H d v) (ho : isObjD d = false) : TyX X.K H v (.type (tyN d)) := by
  cases d with
  | non => cases rd_non h; exact .base .non
  | bl b => cases rd_bl h; exact .base (.bl _)
  | int b => cases rd_int h; exact .base (.int _)
  | str b => cases rd_str h; exact .base (.str _)
  | lst ds =>
    obtain ⟨a, xs, rfl, h1, h2⟩ := rd_lst e h
    rcases h1 with h1 | ⟨o, h1⟩
    · exact .base (.lst h1)
    · exact .base (.frz h1)
  | tup ds =>
    obtain ⟨a, xs, rfl, h1, h2⟩ := rd_tup e h
    rcases h1 with (h1 | ⟨o, h1⟩) | ⟨o, its, n, h1, h3, _⟩
    · exact .base (.tup h1)
    · exact .fTuple h1
    · exact .kTuple (hK ▸ h1) h3
  | kst ds =>
    obtain ⟨a, xs, rfl, h1, h2⟩ := rd_kst e h
    rcases h1 with (h1 | ⟨o, h1⟩) | ⟨o, its, n, h1, h3, _⟩
    · exact .base (.lst h1)
    · exact .base (.frz h1)
    · exact .kList (hK ▸ h1) h3
  | dK ks ds =>
    obtain ⟨a, xs, rfl, h1, h2⟩ := rd_dK e h
    exact .base (.dK h1)
  | dT ks ds =>
    rcases h with h | h
    · simp only [Rep] at h
      obtain ⟨a, xs, rfl, h1, h2⟩ := h
      exact .base (.dT (e _ _ h1))
    · obtain ⟨a, xs, rfl, h0, h1, h2⟩ := h
      exact .base (.dT h1)
  | obj c ks ds => cases ho
  | cls c => cases ho
  | err c ks ds => cases ho
/-- an object, an exception -/
def isXD : D → Bool
  | .obj _ _ _ => true | .err _ _ _ => true | _ => false
theorem isi_int : ∀ d z, biD .isInt [d] = some z → ∃ r, z = .bl r ∧ ((isObjD d = false ∧ kitB (tyN d) "int" = some r) ∨ (isXD d = true ∧ r = false)) := by
  intro d z h
  cases d <;> simp only [biD] at h <;> first | (cases h; done) | (cases h; exact ⟨_, rfl, .inl ⟨rfl, by simp only [tyN]; decide +kernel⟩⟩) | (cases h; exact ⟨_, rfl, .inr ⟨rfl, rfl⟩⟩)
theorem isi_bool : ∀ d z, biD .isBool [d] = some z → ∃ r, z = .bl r ∧ ((isObjD d = false ∧ kitB (tyN d) "bool" = some r) ∨ (isXD d = true ∧ r = false)) := by
  intro d z h
  cases d <;> simp only [biD] at h <;> first | (cases h; done) | (cases h; exact ⟨_, rfl, .inl ⟨rfl, by simp only [tyN]; decide +kernel⟩⟩) | (cases h; exact ⟨_, rfl, .inr ⟨rfl, rfl⟩⟩)
theorem isi_tuple : ∀ d z, biD .isTuple [d] = some z → ∃ r, z = .bl r ∧ ((isObjD d = false ∧ kitB (tyN d) "tuple" = some r) ∨ (isXD d = true ∧ r = false)) := by
  intro d z h
  cases d <;> simp only [biD] at h <;> first | (cases h; done) | (cases h; exact ⟨_, rfl, .inl ⟨rfl, by simp only [tyN]; decide +kernel⟩⟩) | (cases h; exact ⟨_, rfl, .inr ⟨rfl, rfl⟩⟩)
theorem isi_list : ∀ d z, biD .isList [d] = some z → ∃ r, z = .bl r ∧ ((isObjD d = false ∧ kitB (tyN d) "list" = some r) ∨ (isXD d = true ∧ r = false)) := by
  intro d z h
  cases d <;> simp only [biD] at h <;> first | (cases h; done) | (cases h; exact ⟨_, rfl, .inl ⟨rfl, by simp only [tyN]; decide +kernel⟩⟩) | (cases h; exact ⟨_, rfl, .inr ⟨rfl, rfl⟩⟩)
theorem isi_str : ∀ d z, biD .isStr [d] = some z → ∃ r, z = .bl r ∧ ((isObjD d = false ∧ kitB (tyN d) "str" = some r) ∨ (isXD d = true ∧ r = false)) := by
  intro d z h
  cases d <;> simp only [biD] at h <;> first | (cases h; done) | (cases h; exact ⟨_, rfl, .inl ⟨rfl, by simp only [tyN]; decide +kernel⟩⟩) | (cases h; exact ⟨_, rfl, .inr ⟨rfl, rfl⟩⟩)
/-! is, is not -/
theorem rel_ne {x : V} {v : Value} {b : Bool} (rx : RelV x v) (h : x ≠ .bl b) : v ≠ .bool b := fun q => by
  subst q
  cases x with
  | bl c => cases (show Value.bool b = Value.bool c from rx); exact h rfl
  | int i => obtain ⟨t, q⟩ := rx; cases q
  | str i => obtain ⟨t, q⟩ := rx; cases q
  | byt i => obtain ⟨t, q⟩ := rx; cases q
  | flt i => obtain ⟨t, q⟩ := rx; cases q
  | non => cases (show Value.bool b = Value.none from rx)
  | ref a => cases (show Value.bool b = Value.ref a from rx)
  | ty n => cases (show Value.bool b = Value.type n from rx)
theorem plain_bl {x : V} {v : Value} {b : Bool} (rx : RelV x v) : plainIs v (.bool b) = true := by
  cases x with
  | bl c => cases (show v = Value.bool c from rx); rfl
  | int i => obtain ⟨t, rfl⟩ := rx; rfl
  | str i => obtain ⟨t, rfl⟩ := rx; rfl
  | byt i => obtain ⟨t, rfl⟩ := rx; rfl
  | flt i => obtain ⟨t, rfl⟩ := rx; rfl
  | non => cases (show v = Value.none from rx); rfl
  | ref a => cases (show v = Value.ref a from rx); rfl
  | ty n => cases (show v = Value.type n from rx); rfl
theorem op_isB : OpR X (compareOp .Is) (fun x y H Q => ∃ b, y = .bl b ∧ Q (.bl (decide (x = .bl b))) H) := by
  intro pins s σ H x y v u Q I rx ry ⟨b, hy, q⟩
  subst hy
  cases (show u = Value.bool b from ry)
  by_cases h : x = .bl b
  · subst h
    cases (show v = Value.bool b from rx)
    exact wpAny_is_self rfl ⟨.bl true, H, I, rfl, by simpa using q⟩
  · exact wpAny_is_other (plain_bl rx) (rel_ne rx h) ⟨.bl false, H, I, rfl, by simpa [h] using q⟩
theorem op_isnotB : OpR X (compareOp .IsNot) (fun x y H Q => ∃ b, y = .bl b ∧ Q (.bl (!decide (x = .bl b))) H) := by
  intro pins s σ H x y v u Q I rx ry ⟨b, hy, q⟩
  subst hy
  cases (show u = Value.bool b from ry)
  by_cases h : x = .bl b
  · subst h
    cases (show v = Value.bool b from rx)
    exact wpAny_isNot_self rfl ⟨.bl false, H, I, rfl, by simpa using q⟩
  · exact wpAny_isNot_other (plain_bl rx) (rel_ne rx h) ⟨.bl true, H, I, rfl, by simpa [h] using q⟩
/-- a value stands for one thing -/
theorem rd_kind {T : Tbl} {H0 H : Hp} {d : D} {v : V} (h : RdV T H0 H d v) : (v = .non ↔ d = .non) ∧ ∀ b, v = .bl b ↔ d = .bl b := by
  cases d with
  | non => cases rd_non h; simp
  | bl b => cases rd_bl h; simp
  | int b => cases rd_int h; simp
  | str b => cases rd_str h; simp
  | lst ds => rcases h with h | h; (simp only [Rep] at h; obtain ⟨a, _, rfl, _⟩ := h; simp); (obtain ⟨a, _, rfl, _⟩ := h; simp)
  | tup ds => rcases h with h | h; (simp only [Rep] at h; obtain ⟨a, _, rfl, _⟩ := h; simp); exact h.elim
  | kst ds => rcases h with h | h; (simp only [Rep] at h; obtain ⟨a, _, rfl, _⟩ := h; simp); exact h.elim
  | dK ks ds => rcases h with h | h; (simp only [Rep] at h; obtain ⟨a, _, rfl, _⟩ := h; simp); (obtain ⟨a, _, rfl, _⟩ := h; simp)
  | dT ks ds => rcases h with h | h; (simp only [Rep] at h; obtain ⟨a, _, rfl, _⟩ := h; simp); (obtain ⟨a, _, rfl, _⟩ := h; simp)
  | obj k ks ds => rcases h with h | h; (simp only [Rep] at h; obtain ⟨a, _, _, _, rfl, _⟩ := h; simp); (obtain ⟨a, _, _, _, rfl, _⟩ := h; simp)
  | cls k => rcases h with h | h; (simp only [Rep] at h; obtain ⟨a, _, rfl⟩ := h; simp); exact h.elim
  | err k ks ds => rcases h with h | h; (simp only [Rep] at h; obtain ⟨a, _, _, rfl, _⟩ := h; simp); exact h.elim
theorem is_inv {x y d : D} (h : op2 .is x y = some d) : (y = .non ∧ d = .bl (decide (tyN x = "NoneType"))) ∨ ∃ b, y = .bl b ∧ ∃ r, d = .bl r ∧ (r = true ↔ x = .bl b) := by
  cases y with
  | non => refine .inl ⟨rfl, ?_⟩; cases x <;> cases h <;> rfl
  | bl b => refine .inr ⟨b, rfl, ?_⟩; cases x <;> cases h <;> exact ⟨_, rfl, by first | (simp; done) | (simp; exact eq_comm)⟩
  | _ => cases x <;> cases h
theorem isnot_inv {x y d : D} (h : op2 .isnot x y = some d) : (y = .non ∧ d = .bl (!decide (tyN x = "NoneType"))) ∨ ∃ b, y = .bl b ∧ ∃ r, d = .bl (!r) ∧ (r = true ↔ x = .bl b) := by
  cases y with
  | non => refine .inl ⟨rfl, ?_⟩; cases x <;> cases h <;> rfl
  | bl b => refine .inr ⟨b, rfl, ?_⟩; cases x <;> cases h <;> first | exact ⟨false, rfl, by simp⟩ | exact ⟨_, rfl, by first | (simp; done) | (simp; exact eq_comm)⟩
  | _ => cases x <;> cases h
theorem tyN_non {d : D} : tyN d = "NoneType" ↔ d = .non := by cases d <;> simp [tyN]
theorem o_is {T : Tbl} : OpR X (compareOp .Is) (rD T (op2 .is)) := orI (op_isN.or op_isB) fun x y H Q ⟨H0, dx, dy, d, e, hx, hy, hg, q⟩ => by
  rcases is_inv hg with ⟨rfl, rfl⟩ | ⟨b, rfl, r, rfl, hr⟩
  · refine .inl ⟨rd_non hy, ?_⟩
    have : decide (x = V.non) = decide (tyN dx = "NoneType") := decide_eq_decide.mpr ((rd_kind hx).1.trans tyN_non.symm)
    rw [this]
    exact q _ _ _ (Gr.rfl' e) (.flat rfl (r_bl _ _ _))
  · refine .inr ⟨b, rd_bl hy, ?_⟩
    have : decide (x = V.bl b) = r := by rw [Bool.eq_iff_iff, decide_eq_true_iff, hr]; exact (rd_kind hx).2 b
    rw [this]
    exact q _ _ _ (Gr.rfl' e) (.flat rfl (r_bl _ _ _))
theorem o_isnot {T : Tbl} : OpR X (compareOp .IsNot) (rD T (op2 .isnot)) := orI (op_notN.or op_isnotB) fun x y H Q ⟨H0, dx, dy, d, e, hx, hy, hg, q⟩ => by
  rcases isnot_inv hg with ⟨rfl, rfl⟩ | ⟨b, rfl, r, rfl, hr⟩
  · refine .inl ⟨rd_non hy, ?_⟩
    have : decide (x = V.non) = decide (tyN dx = "NoneType") := decide_eq_decide.mpr ((rd_kind hx).1.trans tyN_non.symm)
    rw [this]
    exact q _ _ _ (Gr.rfl' e) (.flat rfl (r_bl _ _ _))
  · refine .inr ⟨b, rd_bl hy, ?_⟩
    have : decide (x = V.bl b) = r := by rw [Bool.eq_iff_iff, decide_eq_true_iff, hr]; exact (rd_kind hx).2 b
    rw [this]
    exact q _ _ _ (Gr.rfl' e) (.flat rfl (r_bl _ _ _))
/-! repr -/
theorem reprV {pins : List (Addr × Obj)} {s : Shared} {σ : L2.St} {H : Hp} {v : V} {u : Value} {p : PyData} {Q : VK} (hgd : X.A.guards = some []) (hu : X.A.units + 200 < cLine) (I : Inv X pins σ H s) (rv : RelV v u) (h : Dp X.K H v p)
    (h1 : p.showable = true) (h2 : p.hasDict = false) (h3 : p.shown.length ≤ sizeLine) (h4 : p.depth ≤ 64) (q : Q (.str p.shown) H) : wpAny (model X.prog X.w) X.A (call (.builtin "repr") [u]) (EP X pins σ Q) X.xe s := by
  cases h with
  | non => cases (show u = Value.none from rv); exact P.repr_of_none ⟨.str _, H, I.tok _, ⟨_, rfl⟩, by simpa only [PyData.shown] using q⟩
  | bl b => cases (show u = Value.bool b from rv); exact P.repr_of_bool ⟨.str _, H, I.tok _, ⟨_, rfl⟩, by simpa only [PyData.shown] using q⟩
  | int i =>
    obtain ⟨t, rfl⟩ := rv
    exact P.repr_of_int (by simpa [PyData.showable] using h1) ⟨.str _, H, I.tok _, ⟨_, rfl⟩, by simpa only [PyData.shown] using q⟩
  | str z =>
    obtain ⟨t, rfl⟩ := rv
    exact P.repr_of_str ⟨.str _, H, I.tok _, ⟨_, rfl⟩, by simpa only [PyData.shown] using q⟩ (by simpa only [PyData.shown] using h3)
  | @lst a xs ds ha hd =>
    obtain ⟨as, r⟩ := Dp.reads I _ _ _ (.lst ha hd) rv
    cases (show u = Value.ref a from rv)
    exact repr_of_reads' r h1 (PyData.noDict_hsm h2) hgd (by omega) (fun b o z => z) (fun h' t tk hk => ⟨.str _, H, I.kept hk, ⟨_, rfl⟩, q⟩) h3
  | @tup a xs ds ha hd =>
    obtain ⟨as, r⟩ := Dp.reads I _ _ _ (.tup ha hd) rv
    cases (show u = Value.ref a from rv)
    exact repr_of_reads' r h1 (PyData.noDict_hsm h2) hgd (by omega) (fun b o z => z) (fun h' t tk hk => ⟨.str _, H, I.kept hk, ⟨_, rfl⟩, q⟩) h3
theorem b_repr (hK : X.K = C.T.K) (hgd : X.A.guards = some []) (hu : X.A.units + 200 < cLine) : CallR X (.builtin "repr") (rDn C.T (biD .repr)) := fun pins s σ H xs us Q I rx ⟨H0, ds, d, e, hr, hg, q⟩ => by
  match ds, hg with
  | [x], hg =>
    obtain ⟨v, rfl, h1⟩ := rd1 hr
    obtain ⟨u, rfl, ru⟩ := vals1 rx
    simp only [biD] at hg
    split at hg
    · rename_i p hp
      split at hg
      · rename_i hc
        cases hg
        simp only [Bool.and_eq_true, Bool.not_eq_true', decide_eq_true_eq] at hc
        obtain ⟨⟨⟨c1, c2⟩, c3⟩, c4⟩ := hc
        exact reprV hgd hu I ru (dp_rd hK e hp h1) c1 c2 (Nat.le_trans c3 lim_line) c4 (q _ _ _ (Gr.rfl' e) (.flat rfl (r_str _ _ _)))
      · cases hg
    · cases hg
/-! a slice of a list -/
theorem repAll_cut {T : Tbl} {H : Hp} {ds : List D} {vs : List V} (h : RepAll T H ds vs) (lo hi : Option Int) : RepAll T H (cutD ds lo hi) (cutV vs lo hi) := by
  unfold cutD cutV
  rw [h.len]
  exact (h.drop _).take _
def tP (C : Ctx) (W : WX) (cl : CallF) (b : Bool) (e : Ex) : TO := fun σ H Q => ∃ H0 env, Sim C σ H0 H env ∧ RQ C W σ (fun b _ _ H' => Q b H') H0 (optP b (ev cl e) env)
theorem so_none {e' : Ex} : PO X none (tP C W cl false e') := ⟨fun pins s σ H Q I ⟨H0, env, S, q⟩ => po_none.run pins s σ H Q I (q H0 H (Ext.rfl' _) S)⟩
theorem so_some (h : PE X e (tI C W cl e')) : PO X (some e) (tP C W cl true e') :=
  ⟨fun pins s σ H Q I ⟨H0, env, S, q⟩ => (po_some h).run pins s σ H Q I (seqI S q fun u env1 x H1 H1' e1 S1 u1 q1 => by
    obtain ⟨d, hd, q1⟩ := q1.orB
    cases d with
    | int i =>
      cases rd_int (S1.rd u1 hd)
      exact ⟨i, rfl, q1 H1 H1' (Ext.rfl' _) S1⟩
    | _ => exact q1.elim)⟩
theorem seqP {σ : L2.St} {H0 H : Hp} {env : Env} {bb : Bool} {β : Type} {K : β → Env → Hp → Hp → Prop} {f : Option Int → Env → R β} (S : Sim C σ H0 H env) (h : RQ C W σ K H0 ((optP bb (ev cl a') env).bind f)) {Q : Option Int → Hp → Prop}
    (hQ : ∀ b env1 H01 H1, Ext H0 H01 → Sim C σ H01 H1 env1 → RQ C W σ K H01 (f b env1) → Q b H1) : tP C W cl bb a' σ H Q := by
  refine ⟨H0, env, S, ?_⟩
  cases q : optP bb (ev cl a') env with
  | ok u env1 =>
    rw [q] at h
    exact fun H01 H1 e s => hQ u env1 H01 H1 e s (RQ.mono e h)
  | exc x env1 =>
    rw [q] at h
    exact fun cls d H0' H' e s x => h cls d H0' H' e s x
  | bad => rw [q] at h; exact h
theorem c_slice {lo hi : Option Expr} {bl bh : Bool} {l h : Ex} {p2 : Pos} (hK : X.K = C.T.K) (ha : PE X a (tI C W cl a')) (hl : PO X lo (tP C W cl bl l)) (hh : PO X hi (tP C W cl bh h)) : PE X (.Subscript a (.Slice lo hi none p2) pos) (tI C W cl (.slice a' bl bh l h)) :=
  peI (pe_slice ((sl_list.or sl_tup).or sl_str) ha hl hh) fun σ H Q ⟨H0, env, S, q⟩ => by
    simp only [ev] at q
    refine seqI S q fun u env1 x H1 H1' e1 S1 u1 q1 => ?_
    obtain ⟨H1f, e1f, S1f, u1f⟩ := S1.pend u1
    refine seqP S1f (RQ.mono e1f q1) fun lv env2 H2 H2' e2 S2 q2 => ?_
    refine seqP S2 q2 fun hv env3 H3 H3' e3 S3 q3 => ?_
    obtain ⟨dx, hx, q3⟩ := q3.orB
    cases dx with
    | lst xs =>
      obtain ⟨a, us, rfl, h1, h2⟩ := rd_lst S3.ex (S3.rd (u1f.wait (e2.tr e3)) hx)
      exact .inl (.inl ⟨a, us, rfl, .inl h1, fun p hp => fin_nw S3 q3 (Gr.own S3.ex hp) (.lst S3.ex hp (repAll_cut h2 _ _))⟩)
    | kst xs =>
      obtain ⟨a, us, rfl, h1, h2⟩ := rd_kst S3.ex (S3.rd (u1f.wait (e2.tr e3)) hx)
      exact .inl (.inl ⟨a, us, rfl, hK ▸ h1, fun p hp => fin_nw S3 q3 (Gr.own S3.ex hp) (.lst S3.ex hp (repAll_cut h2 _ _))⟩)
    | tup xs =>
      simp only at q3
      split at q3
      · exact q3.elim
      rename_i hw
      rcases S3.rd (u1f.wait (e2.tr e3)) hx with h1 | h1
      · simp only [Rep] at h1
        obtain ⟨a, us, rfl, h2, h3⟩ := h1
        rw [← RepAll.len h3] at hw
        exact .inl (.inr ⟨a, us, rfl, hK ▸ S3.ex.sqT h2, hw, fun p hp => fin_nw S3 q3 (Gr.froz S3.ex hp) (.flat rfl (by simp only [Rep]; exact ⟨p, _, rfl, SqT.of upd_same, RepAll.mono (ext_upd (S3.ex.no hp)) _ _ (repAll_cut h3 _ _)⟩))⟩)
      · exact h1.elim
    | str z =>
      simp only at q3
      split at q3
      · rename_i hz
        refine .inr ⟨z, rd_str (S3.rd (u1f.wait (e2.tr e3)) hx), Nat.le_trans hz (by decide), fin_nw S3 q3 (Gr.rfl' S3.ex) (.flat rfl (r_str _ _ _))⟩
      · exact q3.elim
    | _ => exact q3.elim
end
end PP
end

section
set_option maxHeartbeats 1000000
/-! statements -/
namespace PP
open PySem L2

theorem getS_set (env : Env) (i j : Nat) (s : Sl) : getS (env.set i s) j = if i = j ∧ i < env.length then s else getS env j := by
  unfold getS
  simp only [List.getD_eq_getElem?_getD, List.getElem?_set]
  by_cases h : i = j
  · subst h
    by_cases l : i < env.length <;> simp [l]
  · simp [h]
section
variable {C : Ctx} {W : WX} {σ : L2.St} {cl : CallF} {H0 H H0' H' : Hp} {env : Env}
theorem Sim.store (S : Sim C σ H0 H env) {i : Nat} {v : V} {s : Sl} (hs : isIO s = false) (h : SlOk C H0 H i (some (some v)) s)
    (hd : ∀ a, v = .ref a → ownS s = true → ∀ j, j ≠ i → ownS (getS env j) = true → σ[j]? ≠ some (some (.ref a))) : Sim C (σ.set i (some v)) H0 H (env.set i s) := by
  by_cases hl : i < env.length
  · have hl' : i < σ.length := by rw [← S.len]; exact hl
    refine { ok := S.ok, ex := S.ex, ex0 := S.ex0, fresh := S.fresh, keep := S.keep, tabs := S.tabs, tno := S.tno, ioH := S.ioH, len := by simp only [List.length_set]; exact S.len, slots := fun j => ?_, inj := fun j k a hjk hj hk ej ek => ?_ }
    · rw [getS_set, List.getElem?_set]
      by_cases z : i = j
      · subst z; simpa [hl, hl'] using h
      · simpa [z] using S.slots j
    · rw [getS_set] at hj hk
      rw [List.getElem?_set] at ej ek
      by_cases z : i = j
      · subst z
        simp only [hl, hl', and_self, if_true, true_and, if_pos] at hj ej
        have zk : ¬ i = k := hjk
        simp only [zk, false_and, if_false] at hk ek
        simp only [Option.some.injEq] at ej
        exact hd a ej hj k (fun q => zk q.symm) hk ek
      · simp only [z, false_and, if_false] at hj ej
        by_cases zk : i = k
        · subst zk
          simp only [hl, hl', and_self, if_true, true_and, if_pos] at hk ek
          simp only [Option.some.injEq] at ek
          exact hd a ek hk j (fun q => z q.symm) hj ej
        · simp only [zk, false_and, if_false] at hk ek
          exact S.inj j k a hjk hj hk ej ek
  · have e1 : env.set i s = env := List.set_eq_of_length_le (by omega)
    have e2 : σ.set i (some v) = σ := List.set_eq_of_length_le (by rw [← S.len]; omega)
    rw [e1, e2]
    exact S
/-- name = value -/
theorem Sim.asg (S : Sim C σ H0 H env) {i : Nat} {u : U} {v : V} {env2 : Env} (h : UOk C σ H0 H env u v) (ha : asgU env i u = some env2) : ∃ H0', Ext H0 H0' ∧ Sim C (σ.set i (some v)) H0' H env2 := by
  unfold asgU at ha
  · cases u with
    | d x =>
      cases ha
      exact ⟨H0, Ext.rfl' _, S.store rfl ⟨v, rfl, h⟩ fun _ _ q => by cases q⟩
    | nw x =>
      simp only [Option.some.injEq] at ha
      subst ha
      have h' : RepN C σ H0 H env x v := h
      unfold RepN at h'
      split at h'
      · rename_i hm
        obtain ⟨a, rfl, h1, h2, h3⟩ := h'
        have e : slOf (.nw x) x = .ow x := by cases x <;> first | rfl | cases hm
        rw [e]
        exact ⟨H0, Ext.rfl' _, S.store rfl ⟨a, rfl, h1, h2⟩ fun b hb _ j _ hj => by cases hb; exact h3 j hj⟩
      · rename_i hm
        have e : slOf (.nw x) x = .fz x := by cases x <;> first | rfl | exact (hm rfl).elim
        rw [e]
        exact ⟨H0, Ext.rfl' _, S.store rfl ⟨v, rfl, h'⟩ fun _ _ q => by cases q⟩
    | sl j =>
      simp only [Option.map_eq_some_iff] at ha
      obtain ⟨⟨d, env1⟩, hf, rfl⟩ := ha
      obtain ⟨H1, e1, S1, r1⟩ := S.take h hf
      exact ⟨H1, e1, S1.store rfl ⟨v, rfl, r1⟩ fun _ _ q => by cases q⟩
/-- an owned list at a slot -/
theorem Sim.ls (S : Sim C σ H0 H env) {i : Nat} (h : isLs (getS env i) = true) : ∃ a ds, σ[i]? = some (some (.ref a)) ∧ rdS (getS env i) = some (.lst ds) ∧ ownS (getS env i) = true ∧ RepO C.T H0 H (.lst ds) (.ref a) := by
  have hi := S.slots i
  cases z : getS env i with
  | un => rw [z] at h; cases h
  | fn => rw [z] at h; cases h
  | fz d => rw [z] at h; cases h
  | ow d =>
    rw [z] at h hi
    obtain ⟨a, h1, _, h3⟩ := hi
    cases d <;> first | (cases h; done) | exact ⟨a, _, h1, rfl, rfl, h3⟩
  | io d =>
    rw [z] at h hi
    obtain ⟨a, h1, _, h3⟩ := hi
    cases d <;> first | (cases h; done) | exact ⟨a, _, h1, rfl, rfl, h3⟩
theorem own_setIO {s : Sl} {d : D} : ownS (setIO s d) = ownS s := by cases s <;> rfl
/-- an owned thing changes -/
theorem Sim.mut (S : Sim C σ H0 H env) {i : Nat} {a : Addr} {o : HO} {d : D} (ho : ownS (getS env i) = true) (e : σ[i]? = some (some (.ref a))) (h : RepO C.T H0 (upd H a o) d (.ref a)) : Sim C σ H0 (upd H a o) (env.set i (setIO (getS env i) d)) := by
  have hl : i < env.length := by rw [S.len]; exact (List.getElem?_eq_some_iff.mp e).1
  have hi := S.slots i
  have hw : C.He a = none ∨ C.io a := by
    cases z : getS env i with
    | un => rw [z] at ho; cases ho
    | fn => rw [z] at ho; cases ho
    | fz x => rw [z] at ho; cases ho
    | ow x => rw [z] at hi; obtain ⟨b, h1, h2, _⟩ := hi; rw [e] at h1; cases h1; exact .inl h2
    | io x => rw [z] at hi; obtain ⟨b, h1, h2, _⟩ := hi; rw [e] at h1; cases h1; exact .inr (List.mem_of_getElem? h2)
  refine { ok := S.ok, ex := fun b u q => ?_, ex0 := S.ex0, fresh := S.fresh, keep := fun b u q z => ?_, tno := S.tno, tabs := (by obtain ⟨_, u, hu⟩ := S.own ho e; exact tabs_upd hu (S.ownK ho e hu).1 (S.ownK ho e hu).2 S.tabs), ioH := fun b z q => ?_, len := by simp only [List.length_set]; exact S.len, slots := fun j => ?_, inj := fun j k b hjk hj hk ej ek => ?_ }
  · have z : b ≠ a := fun z => by subst z; rw [(S.own ho e).1] at q; cases q
    rw [upd_ne z]; exact S.ex _ _ q
  · have z2 : b ≠ a := fun z2 => by
      subst z2
      rcases hw with w | w
      · rw [w] at q; cases q
      · exact z w
    rw [upd_ne z2]; exact S.keep _ _ q z
  · by_cases z2 : b = a
    · subst z2; rw [upd_same] at q; cases q
    · rw [upd_ne z2] at q; exact S.ioH b z q
  · rw [getS_set]
    by_cases z : i = j
    · subst z
      simp only [hl, and_self, if_true]
      cases z : getS env i with
      | un => rw [z] at ho; cases ho
      | fn => rw [z] at ho; cases ho
      | fz x => rw [z] at ho; cases ho
      | ow x => rw [z] at hi; obtain ⟨b, h1, h2, _⟩ := hi; rw [e] at h1; cases h1; exact ⟨a, e, h2, h⟩
      | io x => rw [z] at hi; obtain ⟨b, h1, h2, _⟩ := hi; rw [e] at h1; cases h1; exact ⟨a, e, h2, h⟩
    · simp only [z, false_and, if_false]
      refine (S.slots j).step (Ext.rfl' _) fun b hb eb => ⟨(S.own hb eb).1, ?_⟩
      exact upd_ne fun zb => S.inj i j a z ho hb e (by rw [← zb]; exact eb)
  · rw [getS_set] at hj hk
    have hj' : ownS (getS env j) = true := by
      split at hj
      · rename_i z; rw [← z.1]; exact ho
      · exact hj
    have hk' : ownS (getS env k) = true := by
      split at hk
      · rename_i z; rw [← z.1]; exact ho
      · exact hk
    exact S.inj j k b hjk hj' hk' ej ek
/-- a name is let go -/
theorem Sim.drop (S : Sim C σ H0 H env) (i : Nat) : Sim C σ H0 H (env.set i .un) := by
  refine { ok := S.ok, ex := S.ex, ex0 := S.ex0, fresh := S.fresh, keep := S.keep, tabs := S.tabs, tno := S.tno, ioH := S.ioH, len := by simp only [List.length_set]; exact S.len, slots := fun j => ?_, inj := fun j k a hjk hj hk ej ek => ?_ }
  · rw [getS_set]
    split
    · trivial
    · exact S.slots j
  · rw [getS_set] at hj hk
    split at hj
    · cases hj
    · split at hk
      · cases hk
      · exact S.inj j k a hjk hj hk ej ek
end

/-- what is wanted behind a statement; H0: what is frozen ahead of it -/
def RS (C : Ctx) (W : WX) (E : Ends) (G : Hp) : R Fl → Prop
  | .ok .next env => ∀ σ H0 H, Ext G H0 → Sim C σ H0 H env → E.nx σ H
  | .ok .brk env => ∀ σ H0 H, Ext G H0 → Sim C σ H0 H env → E.bk σ H
  | .ok .cont env => ∀ σ H0 H, Ext G H0 → Sim C σ H0 H env → E.ct σ H
  | .ok (.ret u) env => ∀ σ H0 H v, Ext G H0 → Sim C σ H0 H env → UOk C σ H0 H env u v → E.rt v H
  | .exc x env => ∀ σ cls d H0 H, Ext G H0 → Sim C σ H0 H env → XOk C.T H0 H x cls d → W cls d σ H
  | .bad => False
def tS (C : Ctx) (W : WX) (cl : CallF) (s : S) : TS := fun E σ H => ∃ H0 env, Sim C σ H0 H env ∧ RS C W E H0 (ex cl s env)
def tSs (C : Ctx) (W : WX) (cl : CallF) (s : Ss) : TS := fun E σ H => ∃ H0 env, Sim C σ H0 H env ∧ RS C W E H0 (exs cl s env)
theorem RS.orB {α : Type} {C : Ctx} {W : WX} {E : Ends} {G : Hp} {o : Option α} {f : α → R Fl} (h : RS C W E G (orBad o f)) : ∃ a, o = some a ∧ RS C W E G (f a) := by
  cases o with
  | none => exact h.elim
  | some a => exact ⟨a, rfl, h⟩
theorem RS.mono {C : Ctx} {W : WX} {E : Ends} {G G' : Hp} (e : Ext G G') {r : R Fl} (h : RS C W E G r) : RS C W E G' r := by
  cases r with
  | ok a env =>
    cases a with
    | next => exact fun σ H0' H' e' s => h σ H0' H' (e.tr e') s
    | brk => exact fun σ H0' H' e' s => h σ H0' H' (e.tr e') s
    | cont => exact fun σ H0' H' e' s => h σ H0' H' (e.tr e') s
    | ret u => exact fun σ H0' H' v e' s => h σ H0' H' v (e.tr e') s
  | exc x env => exact fun σ cls d H0' H' e' s x => h σ cls d H0' H' (e.tr e') s x
  | bad => exact h
section
variable {C : Ctx} {W : WX} {σ : L2.St} {cl : CallF} {H0 H : Hp} {env : Env} {E : Ends}
theorem seqE {a : Ex} {f : U → Env → R Fl} (S : Sim C σ H0 H env) (h : RS C W E H0 ((ev cl a env).bind f)) {Q : VK}
    (hQ : ∀ u env1 v H01 H1, Ext H0 H01 → Sim C σ H01 H1 env1 → UOk C σ H01 H1 env1 u v → RS C W E H01 (f u env1) → Q v H1) : tI C W cl a σ H Q := by
  refine ⟨H0, env, S, ?_⟩
  cases q : ev cl a env with
  | ok u env1 =>
    rw [q] at h
    exact fun H01 H1 e s v hu => hQ u env1 v H01 H1 e s hu (RS.mono e h)
  | exc x env1 =>
    rw [q] at h
    exact fun cls d H0' H' e s x => h σ cls d H0' H' e s x
  | bad => rw [q] at h; exact h
theorem seqTE {a : Ex} {f : Bool → Env → R Fl} (S : Sim C σ H0 H env) (h : RS C W E H0 ((evT cl a env).bind f)) {Q : Bool → Hp → Prop}
    (hQ : ∀ b env1 H01 H1, Ext H0 H01 → Sim C σ H01 H1 env1 → RS C W E H01 (f b env1) → Q b H1) : tT C W cl a σ H Q := by
  refine ⟨H0, env, S, ?_⟩
  cases q : evT cl a env with
  | ok u env1 =>
    rw [q] at h
    exact fun H01 H1 e s => hQ u env1 H01 H1 e s (RS.mono e h)
  | exc x env1 =>
    rw [q] at h
    exact fun cls d H0' H' e s x => h σ cls d H0' H' e s x
  | bad => rw [q] at h; exact h
end
theorem psI {X : Cx} {st : Stmt} {t t' : TS} (h : PS X st t) (i : ∀ E σ H, t' E σ H → t E σ H) : PS X st t' := ⟨fun pins s σ H D I q => h.run pins s σ H D I (i D σ H q)⟩
theorem pssI {X : Cx} {st : List Stmt} {t t' : TS} (h : PSs X st t) (i : ∀ E σ H, t' E σ H → t E σ H) : PSs X st t' := ⟨fun pins s σ H D I q => h.run pins s σ H D I (i D σ H q)⟩
section
variable {X : Cx} {C : Ctx} {W : WX} {cl : CallF} {st : Stmt} {rest : List Stmt} {s' : S} {r' : Ss} {e : Expr} {e' : Ex} {pos : Pos}
theorem ss_nil : PSs X [] (tSs C W cl .nil) := pssI pss_nil fun E σ H ⟨H0, env, S, q⟩ => q σ H0 H (Ext.rfl' _) S
theorem ss_cons (h1 : PS X st (tS C W cl s')) (h2 : PSs X rest (tSs C W cl r')) : PSs X (st :: rest) (tSs C W cl (.cons s' r')) := pssI (pss_cons h1 h2) fun E σ H ⟨H0, env, S, q⟩ => by
  refine ⟨H0, env, S, ?_⟩
  simp only [exs] at q
  cases z : ex cl s' env with
  | ok fl env1 =>
    rw [z] at q
    cases fl with
    | next => exact fun σ' H0' H' e' S' => ⟨H0', env1, S', RS.mono e' q⟩
    | brk => exact q
    | cont => exact q
    | ret u => exact q
  | exc x env1 => rw [z] at q; exact q
  | bad => rw [z] at q; exact q
theorem s_asg {i : Nat} (h : PS X st (tAsg (tI C W cl e') (gName i))) : PS X st (tS C W cl (.asg i e')) := psI h fun E σ H ⟨H0, env, S, q⟩ => by
  simp only [ex] at q
  refine seqE S q fun u env1 v H1 H1' e1 S1 u1 q1 => ?_
  obtain ⟨env2, ha, q1⟩ := q1.orB
  obtain ⟨H2, e2, S2⟩ := S1.asg u1 ha
  exact q1 _ H2 H1' e2 S2
theorem s_ex (h : PE X e (tI C W cl e')) (hs : swapsWith e none pos.line X.env = pure false := by rfl) : PS X (.Expr e pos) (tS C W cl (.ex e')) := psI (ps_expr h hs) fun E σ H ⟨H0, env, S, q⟩ => by
  simp only [ex] at q
  exact seqE S q fun u env1 v H1 H1' e1 S1 u1 q1 => q1 σ H1 H1' (Ext.rfl' _) S1
theorem s_doc {x j p2} : PS X (.Expr (.Constant (.str x) j p2) pos) (tS C W cl .pass) := psI ps_doc fun E σ H ⟨H0, env, S, q⟩ => q σ H0 H (Ext.rfl' _) S
theorem s_pass : PS X (.Pass pos) (tS C W cl .pass) := psI ps_pass fun E σ H ⟨H0, env, S, q⟩ => q σ H0 H (Ext.rfl' _) S
theorem s_brk : PS X (.Break pos) (tS C W cl .brk) := psI ps_break fun E σ H ⟨H0, env, S, q⟩ => q σ H0 H (Ext.rfl' _) S
theorem s_cont : PS X (.Continue pos) (tS C W cl .cont) := psI ps_continue fun E σ H ⟨H0, env, S, q⟩ => q σ H0 H (Ext.rfl' _) S
theorem s_retN : PS X (.Return none pos) (tS C W cl .retN) := psI ps_retN fun E σ H ⟨H0, env, S, q⟩ => q σ H0 H .non (Ext.rfl' _) S (by show Rep _ _ _ _; simp only [Rep])
theorem s_ret (h : PE X e (tI C W cl e')) : PS X (.Return (some e) pos) (tS C W cl (.ret e')) := psI (ps_ret h) fun E σ H ⟨H0, env, S, q⟩ => by
  simp only [ex] at q
  refine seqE S q fun u env1 v H1 H1' e1 S1 u1 q1 => ?_
  obtain ⟨⟨r, env2⟩, hr, q1⟩ := q1.orB
  cases u with
  | d x => cases hr; exact q1 σ H1 H1' v (Ext.rfl' _) S1 u1
  | nw x => cases hr; exact q1 σ H1 H1' v (Ext.rfl' _) S1 u1
  | sl i =>
    have ei : σ[i]? = some (some v) := u1
    have hi := S1.slots i
    cases z : getS env1 i with
    | un => simp [retU, z] at hr
    | fn => simp [retU, z] at hr
    | io d => simp [retU, z] at hr
    | fz d =>
      simp [retU, z] at hr
      obtain ⟨rfl, rfl⟩ := hr
      rw [z] at hi
      obtain ⟨w, h1, h2⟩ := hi
      rw [ei] at h1; cases h1
      exact q1 σ H1 H1' v (Ext.rfl' _) S1 h2
    | ow d =>
      simp [retU, z] at hr
      obtain ⟨rfl, rfl⟩ := hr
      rw [z] at hi
      obtain ⟨a, h1, h2, h3⟩ := hi
      rw [ei] at h1; cases h1
      refine q1 σ H1 H1' _ (Ext.rfl' _) (S1.drop i) ?_
      show RepN _ _ _ _ _ _ _
      unfold RepN
      rw [if_pos h3.ref.1]
      have hl : i < env1.length := by rw [S1.len]; exact (List.getElem?_eq_some_iff.mp ei).1
      refine ⟨a, rfl, h2, h3, fun j hj ej => ?_⟩
      rw [getS_set] at hj
      split at hj
      · cases hj
      · rename_i zz
        have zj : ¬ i = j := fun w => zz ⟨w, hl⟩
        exact S1.inj i j a zj (by rw [z]; rfl) hj ei ej
theorem s_iff {c : Expr} {c' : Ex} {a b : List Stmt} {a' b' : Ss} (hc : PT X c (tT C W cl c')) (ha : PSs X a (tSs C W cl a')) (hb : PSs X b (tSs C W cl b')) : PS X (.If c a b pos) (tS C W cl (.iff c' a' b')) :=
  psI (ps_if hc ha hb) fun E σ H ⟨H0, env, S, q⟩ => by
    simp only [ex] at q
    refine seqTE S q fun t env1 H1 H1' e1 S1 q1 => ?_
    cases t with
    | true => rw [if_pos rfl]; exact ⟨H1, env1, S1, q1⟩
    | false => rw [if_neg Bool.false_ne_true]; exact ⟨H1, env1, S1, q1⟩
/-- slot[x] = e -/
theorem s_setI {i : Nat} {x' : Ex} (h : PS X st (tAsg (tI C W cl e') (gSub (tVar i) (tI C W cl x') rSetL))) : PS X st (tS C W cl (.setI i x' e')) := psI h fun E σ H ⟨H0, env, S, q⟩ => by
  simp only [ex] at q
  refine seqE S q fun u env1 v H1 H1' e1 S1 u1 q1 => ?_
  obtain ⟨⟨d, env2⟩, hf, q1⟩ := q1.orB
  obtain ⟨H2, e2, S2, r2⟩ := S1.take u1 hf
  split at q1
  · exact q1.elim
  rename_i hl
  simp only [Bool.not_eq_true, Bool.not_eq_false'] at hl
  obtain ⟨a, ds, ha, hs, ho, hr0⟩ := S2.ls hl
  refine ⟨.ref a, ha, seqE S2 (RS.mono e2 q1) fun w env3 k H3 H3' e3 S3 u3 q3 => ?_⟩
  obtain ⟨dk, hk, q3⟩ := q3.orB
  have fin : ∀ xs n, dk = .int n → isLs (getS env3 i) = true → rdS (getS env3 i) = some (.lst xs) → RS C W E H3 (orBad (setD xs n d) fun ys => .ok .next (env3.set i (setIO (getS env3 i) (.lst ys)))) → rSetL (.ref a) k v H3' fun H4 => E.nx σ H4 := by
    intro xs n hdk hg hx q4
    subst hdk
    obtain ⟨ys, hy, q4⟩ := q4.orB
    obtain ⟨b, ds3, hb, hs3, ho3, hr3⟩ := S3.ls hg
    rw [ha] at hb; cases hb
    rw [hs3] at hx; cases hx
    obtain ⟨b, us, eb, hn, hu, hr⟩ := hr3
    cases eb
    unfold setD at hy
    simp only [Option.map_eq_some_iff] at hy
    obtain ⟨j, hj, rfl⟩ := hy
    refine ⟨a, us, n, j, rfl, rd_int (S3.rd u3 hk), hu, by rw [hr.len]; exact hj, ?_⟩
    exact q4 _ H3 _ (Ext.rfl' _) (S3.mut ho3 ha ⟨a, _, rfl, hn, upd_same, hr.set (Rep.mono e3 _ _ r2) j⟩)
  split at q3
  · rename_i xs n hg; exact fin xs n rfl (by rw [hg]; rfl) (by rw [hg]; rfl) (by rw [hg]; exact q3)
  · rename_i xs n hg; exact fin xs n rfl (by rw [hg]; rfl) (by rw [hg]; rfl) (by rw [hg]; exact q3)
  · exact q3.elim
/-- slot.append(e) -/
theorem s_app {i : Nat} (h : PS X st (tDrop (tBM X.K "list" rAppend (tVar i) (tCons (tI C W cl e') tNil)))) : PS X st (tS C W cl (.app i e')) := psI h fun E σ H ⟨H0, env, S, q⟩ => by
  simp only [ex] at q
  split at q
  · exact q.elim
  rename_i hl
  simp only [Bool.not_eq_true, Bool.not_eq_false'] at hl
  obtain ⟨a, ds, ha, hs, ho, b, us, eb, hn, hu, hr⟩ := S.ls hl
  cases eb
  refine ⟨.ref a, ha, .inl ⟨rfl, us, SqL.of hu⟩, seqE S q fun u env1 v H1 H1' e1 S1 u1 q1 => ?_⟩
  obtain ⟨⟨d, env2⟩, hf, q1⟩ := q1.orB
  obtain ⟨H2, e2, S2, r2⟩ := S1.take u1 hf
  have fin : ∀ xs, isLs (getS env2 i) = true → rdS (getS env2 i) = some (.lst xs) → RS C W E H1 (if xs.length < LIM then .ok .next (env2.set i (setIO (getS env2 i) (.lst (xs ++ [d])))) else .bad) → rAppend (.ref a) [v] H1' fun _ H4 => E.nx σ H4 := by
    intro xs hg hx q4
    split at q4
    · rename_i hz
      obtain ⟨b, ds3, hb, hs3, ho3, hr3⟩ := S2.ls hg
      rw [ha] at hb; cases hb
      rw [hs3] at hx; cases hx
      obtain ⟨b, us3, eb, hn3, hu3, hr3⟩ := hr3
      cases eb
      refine ⟨a, us3, v, rfl, rfl, hu3, by rw [hr3.len]; exact Nat.lt_of_lt_of_le hz lim_line, ?_⟩
      exact q4 _ H2 _ e2 (S2.mut ho3 ha ⟨a, _, rfl, hn3, upd_same, hr3.app (by simp only [RepAll]; exact ⟨v, [], rfl, r2, rfl⟩)⟩)
    · exact q4.elim
  split at q1
  · rename_i xs hg; exact fin xs (by rw [hg]; rfl) (by rw [hg]; rfl) (by rw [hg]; exact q1)
  · rename_i xs hg; exact fin xs (by rw [hg]; rfl) (by rw [hg]; rfl) (by rw [hg]; exact q1)
  · exact q1.elim
/-- name += e, ints -/
theorem s_add {i : Nat} (h : PS X st (tAug i (tI C W cl e') (ipI fun i j => i + j))) : PS X st (tS C W cl (.aug i .add e')) := psI h fun E σ H ⟨H0, env, S, q⟩ => by
  simp only [ex] at q
  split at q
  rotate_left
  · exact q.elim
  rename_i n hn
  have hi := S.slots i
  rw [hn] at hi
  obtain ⟨x, hx, hr⟩ := hi
  simp only [Rep] at hr
  subst hr
  refine ⟨_, hx, seqE S q fun u env1 v H1 H1' e1 S1 u1 q1 => ?_⟩
  obtain ⟨d, hd, q1⟩ := q1.orB
  split at q1
  · rename_i m
    exact ⟨n, m, rfl, rd_int (S1.rd u1 hd), q1 _ H1 H1' (Ext.rfl' _) (S1.store rfl ⟨_, rfl, r_int _ _ _⟩ fun _ _ z => by cases z)⟩
  · exact q1.elim
theorem s_sub {i : Nat} (h : PS X st (tAug i (tI C W cl e') (ipI fun i j => i - j))) : PS X st (tS C W cl (.aug i .sub e')) := psI h fun E σ H ⟨H0, env, S, q⟩ => by
  simp only [ex] at q
  split at q
  rotate_left
  · exact q.elim
  rename_i n hn
  have hi := S.slots i
  rw [hn] at hi
  obtain ⟨x, hx, hr⟩ := hi
  simp only [Rep] at hr
  subst hr
  refine ⟨_, hx, seqE S q fun u env1 v H1 H1' e1 S1 u1 q1 => ?_⟩
  obtain ⟨d, hd, q1⟩ := q1.orB
  split at q1
  · rename_i m
    exact ⟨n, m, rfl, rd_int (S1.rd u1 hd), q1 _ H1 H1' (Ext.rfl' _) (S1.store rfl ⟨_, rfl, r_int _ _ _⟩ fun _ _ z => by cases z)⟩
  · exact q1.elim
/-! loops -/
def forPv (C : Ctx) (W : WX) (E : Ends) (G : Hp) (body : Env → R Fl) (j : Nat) (items : List D) : Nat → L2.St → Hp → Prop := fun i σ H => ∃ H0 env, Ext G H0 ∧ Sim C σ H0 H env ∧ RS C W E H0 (forD body j (items.drop i) env)
/-- one turn -/
theorem turnF {E : Ends} {G : Hp} {b : Ss} {j : Nat} {items : List D} {i : Nat} {d : D} {v : V} {σ : L2.St} {H : Hp} (hd : items[i]? = some d) (hr : ∀ H0, Ext G H0 → Rep C.T H0 d v)
    (h : forPv C W E G (exs cl b) j items i σ H) : tSs C W cl b { E with nx := forPv C W E G (exs cl b) j items (i + 1), ct := forPv C W E G (exs cl b) j items (i + 1), bk := E.nx } (σ.set j (some v)) H := by
  obtain ⟨H0, env, eG, S, q⟩ := h
  have rv := hr H0 eG
  have hdrop : items.drop i = d :: items.drop (i + 1) := by
    have hi := (List.getElem?_eq_some_iff.mp hd)
    rw [List.drop_eq_getElem_cons hi.1, hi.2]
  rw [hdrop] at q
  simp only [forD] at q
  refine ⟨H0, env.set j (.fz d), S.store rfl ⟨v, rfl, rv⟩ fun _ _ z => (by cases z), ?_⟩
  cases z : exs cl b (env.set j (.fz d)) with
  | bad => rw [z] at q; exact q
  | exc x env1 => rw [z] at q; exact q
  | ok fl env1 =>
    rw [z] at q
    cases fl with
    | next => exact fun σ' H0' H' e' S' => ⟨H0', env1, eG.tr e', S', RS.mono e' q⟩
    | cont => exact fun σ' H0' H' e' S' => ⟨H0', env1, eG.tr e', S', RS.mono e' q⟩
    | brk => exact q
    | ret u => exact q
theorem s_forr {n' : Ex} {b : Ss} {j : Nat} (h : PS X st (tFor (iRng1 (tCons (tI C W cl n') tNil)) (gName j) (tSs C W cl b))) : PS X st (tS C W cl (.forr j n' b)) := psI h fun E σ H ⟨H0, env, S, q⟩ => by
  simp only [ex] at q
  refine seqE S q fun u env1 v H1 H1' e1 S1 u1 q1 => ?_
  obtain ⟨d, hd, q1⟩ := q1.orB
  split at q1
  rotate_left
  · exact q1.elim
  rename_i m
  split at q1
  rotate_left
  · exact q1.elim
  rename_i hb
  simp only [Bool.and_eq_true, decide_eq_true_eq] at hb
  cases rd_int (S1.rd u1 hd)
  refine ⟨m, rfl, by omega, by omega, for_range (lo := 0) (n := m.toNat) (forPv C W E H1 (exs cl b) j ((List.range m.toNat).map fun (k : Nat) => .int k)) ⟨H1, env1, Ext.rfl' _, S1, q1⟩ (fun i σ' H' hi p => ?_) (fun σ' H' p => ?_)⟩
  · have hz : ((0 : Int) + (i : Nat)) = (i : Nat) := by omega
    show tSs C W cl b _ (σ'.set j (some (.int ((0 : Int) + (i : Nat))))) H'
    rw [hz]
    exact turnF (d := .int i) (by simp [hi]) (fun H0 _ => r_int _ _ _) p
  · obtain ⟨H2, env2, _, S2, q2⟩ := p
    rw [List.drop_eq_nil_of_le (by simp)] at q2
    exact q2 σ' H2 H' (Ext.rfl' _) S2
/-- what a for walks: a list or a tuple -/
def itemsU (u : U) (env : Env) : R (List D) := orBad (fzU env u) fun p => match p.1 with
  | .lst xs => .ok xs p.2
  | .tup xs => .ok xs p.2
  | .kst xs => .ok xs p.2
  | _ => .bad
def tIt (C : Ctx) (W : WX) (cl : CallF) (e : Ex) : TI := fun σ H R => ∃ H0 env, Sim C σ H0 H env ∧
  RQ C W σ (fun (ds : List D) env' H0' H' => ∀ a xs, RepAll C.T H0' ds xs → (SqL C.T.K H0' a xs → R (Itl C.T.K a) H') ∧ (SqT C.T.K H0' a xs → R (Itt C.T.K a) H')) H0 ((ev cl e env).bind itemsU)
theorem i_any {tg l : Expr} {l' : Ex} (hK : X.K = C.T.K) (h : PE X l (tI C W cl l')) : PI X tg l (tIt C W cl l') := ⟨fun pins s σ H R I ⟨H0, env, S, q⟩ => by
  cases z : ev cl l' env with
  | bad => rw [z] at q; exact q.elim
  | exc x env1 => exact (pi_list h).run pins s σ H R I ⟨H0, env, S, by rw [z] at q ⊢; exact q⟩
  | ok u env1 =>
    rw [z] at q
    simp only [PP.R.bind_ok, itemsU] at q
    obtain ⟨⟨d, env2⟩, hf, q⟩ := q.orB
    have key : ∀ (Q : VK), (∀ H2 H1' v, Ext H0 H2 → Sim C σ H2 H1' env2 → Rep C.T H2 d v → Q v H1') → tI C W cl l' σ H Q := fun Q hQ => ⟨H0, env, S, by
      rw [z]
      intro H1 H1' e1 S1 v u1
      obtain ⟨H2, e2, S2, r2⟩ := S1.take u1 hf
      exact hQ H2 H1' v (e1.tr e2) S2 r2⟩
    cases d with
    | lst ds =>
      exact (pi_list h).run pins s σ H R I (key _ fun H2 H1' v e S2 r => by
        simp only [Rep] at r
        obtain ⟨a, xs, rfl, r1, r2⟩ := r
        exact ⟨a, rfl, ⟨xs, .inl (S2.ex.rd r1)⟩, hK ▸ ((q H2 H1' e S2) a xs r2).1 (.inl r1)⟩)
    | kst ds =>
      exact (pi_list h).run pins s σ H R I (key _ fun H2 H1' v e S2 r => by
        simp only [Rep] at r
        obtain ⟨a, xs, rfl, r1, r2⟩ := r
        exact ⟨a, rfl, ⟨xs, hK ▸ S2.ex.sqL r1⟩, hK ▸ ((q H2 H1' e S2) a xs r2).1 r1⟩)
    | tup ds =>
      exact (pi_tup h).run pins s σ H R I (key _ fun H2 H1' v e S2 r => by
        simp only [Rep] at r
        obtain ⟨a, xs, rfl, r1, r2⟩ := r
        exact ⟨a, rfl, ⟨xs, hK ▸ S2.ex.sqT r1⟩, hK ▸ ((q H2 H1' e S2) a xs r2).2 r1⟩)
    | _ => exact q.elim⟩
theorem s_forl {l' : Ex} {b : Ss} {j : Nat} (h : PS X st (tFor (tIt C W cl l') (gName j) (tSs C W cl b))) : PS X st (tS C W cl (.forl j l' b)) := psI h fun E σ H ⟨H0, env, S, q⟩ => by
  simp only [ex] at q
  refine ⟨H0, env, S, ?_⟩
  have fin : ∀ (ds : List D) env2, RS C W E H0 (forD (exs cl b) j ds env2) → ∀ H2 H1', Ext H0 H2 → Sim C σ H2 H1' env2 → ∀ a xs, RepAll C.T H2 ds xs →
      (SqL C.T.K H2 a xs → ∃ W' : Nat → Nat → L2.St → Hp → Prop, (∃ m, W' 0 m σ H1') ∧ ∀ i m σ H, W' i m σ H → ((Itl C.T.K a).stop i H ∧ E.nx σ H) ∨ ((Itl C.T.K a).go i H ∧ ∃ N : L2.St → Hp → Prop, (∀ σ' H', N σ' H' → ∃ m', m' < m ∧ W' (i + 1) m' σ' H') ∧ ∀ x H', (Itl C.T.K a).yld i H x H' → gName j x σ H' fun σ2 H2 => tSs C W cl b { E with nx := N, ct := N, bk := E.nx } σ2 H2)) ∧
      (SqT C.T.K H2 a xs → ∃ W' : Nat → Nat → L2.St → Hp → Prop, (∃ m, W' 0 m σ H1') ∧ ∀ i m σ H, W' i m σ H → ((Itt C.T.K a).stop i H ∧ E.nx σ H) ∨ ((Itt C.T.K a).go i H ∧ ∃ N : L2.St → Hp → Prop, (∀ σ' H', N σ' H' → ∃ m', m' < m ∧ W' (i + 1) m' σ' H') ∧ ∀ x H', (Itt C.T.K a).yld i H x H' → gName j x σ H' fun σ2 H2 => tSs C W cl b { E with nx := N, ct := N, bk := E.nx } σ2 H2)) := by
    intro ds env2 q2 H2 H1' e S2 a xs hr
    have hend : ∀ σ' H', forPv C W E H2 (exs cl b) j ds xs.length σ' H' → E.nx σ' H' := fun σ' H' p => by
      obtain ⟨H3, env3, _, S3, q3⟩ := p
      rw [List.drop_eq_nil_of_le (by rw [hr.len]; exact Nat.le_refl _)] at q3
      exact q3 σ' H3 H' (Ext.rfl' _) S3
    have hturn : ∀ i x σ' H', xs[i]? = some x → forPv C W E H2 (exs cl b) j ds i σ' H' → gName j x σ' H' fun σ2 H2' => tSs C W cl b { E with nx := forPv C W E H2 (exs cl b) j ds (i + 1), ct := forPv C W E H2 (exs cl b) j ds (i + 1), bk := E.nx } σ2 H2' := fun i x σ' H' hx p => by
      obtain ⟨d, hd, rd⟩ := hr.get' hx
      exact turnF hd (fun H0 e0 => Rep.mono e0 _ _ rd) p
    exact ⟨fun hs => for_list (forPv C W E H2 (exs cl b) j ds) ⟨H2, env2, Ext.rfl' _, S2, RS.mono e q2⟩ (fun i σ' H' _ p => by obtain ⟨H3, env3, e3, S3, _⟩ := p; exact (e3.tr S3.ex).sqL hs) hturn hend,
      fun hs => for_tup (forPv C W E H2 (exs cl b) j ds) ⟨H2, env2, Ext.rfl' _, S2, RS.mono e q2⟩ (fun i σ' H' _ p => by obtain ⟨H3, env3, e3, S3, _⟩ := p; exact (e3.tr S3.ex).sqT hs) hturn hend⟩
  cases z : ev cl l' env with
  | bad => rw [z] at q; exact q.elim
  | exc x env1 => rw [z] at q; exact fun cls d H0' H' e s x => q σ cls d H0' H' e s x
  | ok u env1 =>
    rw [z] at q
    simp only [R.bind_ok] at q ⊢
    obtain ⟨⟨d, env2⟩, hf, q⟩ := q.orB
    unfold itemsU
    rw [hf]
    cases d with
    | lst ds => exact fun H2 H1' e S2 a xs hr => fin ds env2 q H2 H1' e S2 a xs hr
    | kst ds => exact fun H2 H1' e S2 a xs hr => fin ds env2 q H2 H1' e S2 a xs hr
    | tup ds => exact fun H2 H1' e S2 a xs hr => fin ds env2 q H2 H1' e S2 a xs hr
    | _ => exact q.elim
theorem s_whil {c' : Ex} {b : Ss} (h : PS X st (tWhile (tT C W cl c') (tSs C W cl b))) : PS X st (tS C W cl (.whil c' b)) := psI h fun E σ H ⟨H0, env, S, q⟩ => by
  simp only [ex] at q
  refine ⟨fun m σ H => ∃ H0 env, Sim C σ H0 H env ∧ RS C W E H0 (whD (evT cl c') (exs cl b) m env), ⟨FUEL, H0, env, S, q⟩, fun m σ H ⟨H0, env, S, q⟩ => ?_⟩
  cases m with
  | zero => exact q.elim
  | succ m =>
    simp only [whD] at q
    refine seqTE S q fun t env1 H1 H1' e1 S1 q1 => ?_
    cases t with
    | false => rw [if_neg Bool.false_ne_true]; exact q1 σ H1 H1' (Ext.rfl' _) S1
    | true =>
      rw [if_pos rfl]
      refine ⟨fun σ H => ∃ H0 env, Sim C σ H0 H env ∧ RS C W E H0 (whD (evT cl c') (exs cl b) m env), fun σ' H' p => ⟨m, Nat.lt_succ_self _, p⟩, H1, env1, S1, ?_⟩
      cases z : exs cl b env1 with
      | bad => simp only [z] at q1; exact q1
      | exc x env1 => simp only [z] at q1; exact q1
      | ok fl env2 =>
        simp only [z, R.bind_ok] at q1
        cases fl with
        | next => exact fun σ' H0' H' e' S' => ⟨H0', env2, S', RS.mono e' q1⟩
        | cont => exact fun σ' H0' H' e' S' => ⟨H0', env2, S', RS.mono e' q1⟩
        | brk => exact q1
        | ret u => exact q1
end
end PP
end

section
set_option maxHeartbeats 1000000
/-! defs and their calls -/
namespace PP
open PySem L2

def ArOk (T : Tbl) (H0 H : Hp) : List Ar → List V → Prop
  | [], vs => vs = []
  | .fz d :: as, vs => ∃ v r, vs = v :: r ∧ Rep T H0 d v ∧ ArOk T H0 H as r
  | .io d :: as, vs => ∃ a r, vs = .ref a :: r ∧ RepO T H0 H d (.ref a) ∧ ArOk T H0 H as r
/-- the addresses that are handed in to be changed, place by place -/
def ioL : List Ar → List V → List (Option Addr)
  | .io _ :: as, .ref a :: vs => some a :: ioL as vs
  | _ :: as, _ :: vs => none :: ioL as vs
  | _, _ => []
def OutsOk (T : Tbl) (H0 H : Hp) : List (Option Addr) → List D → Prop
  | [], ds => ds = []
  | none :: r, ds => OutsOk T H0 H r ds
  | some a :: r, ds => ∃ d ds', ds = d :: ds' ∧ RepO T H0 H d (.ref a) ∧ OutsOk T H0 H r ds'
def NoDup (l : List (Option Addr)) : Prop := ∀ (i j : Nat) (a : Addr), l[i]? = some (some a) → l[j]? = some (some a) → i = j
def TbOk (T : Tbl) (H0 H : Hp) : Prop := LamX.Tabs T.tt H ∧ ∀ p ∈ T.tt, H0 p.1 = none
theorem Sim.tb {C : Ctx} {σ : L2.St} {H0 H : Hp} {env : Env} (S : Sim C σ H0 H env) : TbOk C.T H0 H := ⟨S.tabs, S.tno⟩
structure GrC (T : Tbl) (L : List (Option Addr)) (H0 H H0' H' : Hp) : Prop where
  e0 : Ext H0 H0'
  e01 : Ext H0' H'
  new : ∀ a, H0 a = none → H0' a ≠ none → H a = none
  keep : ∀ a o, some a ∉ L → H a = some o → Kp o (H' a)
  tb : LamX.Tabs T.tt H → LamX.Tabs T.tt H'
def RetOk (T : Tbl) (H0' H' H : Hp) : U → V → Prop
  | .d d, v => Rep T H0' d v
  | .nw d, v => RepG T H0' H' H d v
  | .sl _, _ => False
/-- the promise of a def: it does what the interpreter does -/
def spF (T : Tbl) (cl : CallF) (f n : Nat) : Sp := fun vs H Q E => ∃ H0 as, Ext H0 H ∧ ArOk T H0 H as vs ∧ NoDup (ioL as vs) ∧ as.length = n ∧ TbOk T H0 H ∧
  match cl f as with
  | .ok r outs => ∀ v H0' H', GrC T (ioL as vs) H0 H H0' H' → RetOk T H0' H' H r v → OutsOk T H0' H' (ioL as vs) outs → Q v H'
  | .exc x outs => ∀ cls d H0' H', GrC T (ioL as vs) H0 H H0' H' → OutsOk T H0' H' (ioL as vs) outs → XOk T H0' H' x cls d → E cls d H'
  | .bad => False
theorem ArOk.len {T : Tbl} {H0 H : Hp} : ∀ {as : List Ar} {vs : List V}, ArOk T H0 H as vs → vs.length = as.length
  | [], _, h => by cases h; rfl
  | .fz d :: as, _, h => by obtain ⟨v, r, rfl, _, h⟩ := h; simp [ArOk.len h]
  | .io d :: as, _, h => by obtain ⟨v, r, rfl, _, h⟩ := h; simp [ArOk.len h]
theorem ArOk.ioLen {T : Tbl} {H0 H : Hp} : ∀ {as : List Ar} {vs : List V}, ArOk T H0 H as vs → (ioL as vs).length = as.length
  | [], _, h => by cases h; rfl
  | .fz d :: as, _, h => by obtain ⟨v, r, rfl, _, h⟩ := h; simp [ioL, ArOk.ioLen h]
  | .io d :: as, _, h => by obtain ⟨v, r, rfl, _, h⟩ := h; simp [ioL, ArOk.ioLen h]
theorem ArOk.at {T : Tbl} {H0 H : Hp} : ∀ {as : List Ar} {vs : List V} (i : Nat), ArOk T H0 H as vs → match as[i]? with
    | none => True
    | some (.fz d) => (∃ v, vs[i]? = some v ∧ Rep T H0 d v) ∧ (ioL as vs)[i]? = some none
    | some (.io d) => ∃ a, vs[i]? = some (.ref a) ∧ RepO T H0 H d (.ref a) ∧ (ioL as vs)[i]? = some (some a)
  | [], _, i, h => by simp
  | .fz d :: as, _, 0, h => by obtain ⟨v, r, rfl, h1, h⟩ := h; exact ⟨⟨v, rfl, h1⟩, rfl⟩
  | .io d :: as, _, 0, h => by obtain ⟨v, r, rfl, h1, h⟩ := h; exact ⟨v, rfl, h1, rfl⟩
  | .fz d :: as, _, i + 1, h => by obtain ⟨v, r, rfl, h1, h⟩ := h; simpa [ioL] using ArOk.at i h
  | .io d :: as, _, i + 1, h => by obtain ⟨v, r, rfl, h1, h⟩ := h; simpa [ioL] using ArOk.at i h
theorem ArOk.ioAt {T : Tbl} {H0 H : Hp} {as : List Ar} {vs : List V} (h : ArOk T H0 H as vs) {a : Addr} {i : Nat} (hi : (ioL as vs)[i]? = some (some a)) : ∃ d, as[i]? = some (.io d) ∧ vs[i]? = some (.ref a) ∧ RepO T H0 H d (.ref a) := by
  have q := h.at i
  cases z : as[i]? with
  | none =>
    rw [List.getElem?_eq_none_iff, ← h.ioLen, ← List.getElem?_eq_none_iff] at z
    rw [z] at hi; cases hi
  | some x =>
    rw [z] at q
    cases x with
    | fz d => rw [q.2] at hi; cases hi
    | io d => obtain ⟨b, h1, h2, h3⟩ := q; rw [h3] at hi; cases hi; exact ⟨d, rfl, h1, h2⟩

/-! ### a def's body -/
theorem startE_len : ∀ {n : Nat} {as : List Ar}, (startE n as).length = n
  | 0, [] => rfl
  | 0, _ :: _ => rfl
  | n + 1, [] => by simp only [startE, List.length_cons, startE_len]
  | n + 1, .fz d :: as => by simp only [startE, List.length_cons, startE_len]
  | n + 1, .io d :: as => by simp only [startE, List.length_cons, startE_len]
theorem getS_start : ∀ {n : Nat} {as : List Ar} (hn : as.length ≤ n) (i : Nat), getS (startE n as) i = match as[i]? with
    | none => .un
    | some (.fz d) => .fz d
    | some (.io d) => .io d
  | 0, [], _, i => by simp [startE, getS]
  | 0, _ :: _, h, i => by simp at h
  | n + 1, [], _, 0 => by simp [startE, getS]
  | n + 1, [], _, i + 1 => by
    have := getS_start (n := n) (as := []) (Nat.zero_le _) i
    simpa [startE, getS] using this
  | n + 1, .fz d :: as, _, 0 => by simp [startE, getS]
  | n + 1, .io d :: as, _, 0 => by simp [startE, getS]
  | n + 1, .fz d :: as, h, i + 1 => by
    have := getS_start (n := n) (as := as) (by simpa using h) i
    simpa [startE, getS] using this
  | n + 1, .io d :: as, h, i + 1 => by
    have := getS_start (n := n) (as := as) (by simpa using h) i
    simpa [startE, getS] using this
theorem sim_start {T : Tbl} {H0 H : Hp} {as : List Ar} {vs : List V} {N : List Str} (e : Ext H0 H) (h : ArOk T H0 H as vs) (nd : NoDup (ioL as vs)) (hn : as.length ≤ N.length) (tb : TbOk T H0 H) : Sim ⟨T, H0, H, ioL as vs, 0⟩ (L2.start N vs) H0 H (startE N.length as) := by
  have hl := h.len
  have sv : ∀ (i : Nat) (v : V), vs[i]? = some v → (L2.start N vs)[i]? = some (some v) := fun i v hv => by
    have hi := (List.getElem?_eq_some_iff.mp hv).1
    unfold L2.start
    rw [List.getElem?_append_left (by simpa using hi), List.getElem?_map, hv]; rfl
  have io : ∀ a, Ctx.io ⟨T, H0, H, ioL as vs, 0⟩ a → H0 a = none ∧ ∃ o, H a = some o := fun a ha => by
    obtain ⟨i, hi⟩ := List.getElem?_of_mem (show some a ∈ ioL as vs from ha)
    obtain ⟨d, _, _, hr⟩ := h.ioAt hi
    exact hr.some
  have own : ∀ i, ownS (getS (startE N.length as) i) = true → ∃ d a, as[i]? = some (.io d) ∧ vs[i]? = some (.ref a) ∧ (ioL as vs)[i]? = some (some a) := fun i hi => by
    rw [getS_start hn] at hi
    have q := h.at i
    cases z : as[i]? with
    | none => rw [z] at hi; cases hi
    | some x =>
      rw [z] at hi q
      cases x with
      | fz d => cases hi
      | io d => obtain ⟨a, h1, h2, h3⟩ := q; exact ⟨d, a, rfl, h1, h3⟩
  have hio : ∀ a, Ctx.io ⟨T, H0, H, ioL as vs, 0⟩ a → H a ≠ none := fun a ha q => by
    obtain ⟨o, z⟩ := (io a ha).2
    rw [q] at z; cases z
  refine { ok := ⟨fun a ha => ⟨(io a ha).1, hio a ha⟩, e⟩, ex := e, ex0 := Ext.rfl' _, fresh := fun a q q' => (q' q).elim, keep := fun a o q _ => .inl q, tabs := tb.1, tno := tb.2, ioH := hio, len := ?_, slots := fun i => ?_, inj := fun i j a hij hi hj ei ej => ?_ }
  · rw [startE_len]
    unfold L2.start
    simp only [List.length_append, List.length_map, List.length_replicate]
    omega
  · rw [getS_start hn]
    have q := h.at i
    cases z : as[i]? with
    | none => trivial
    | some x =>
      rw [z] at q
      cases x with
      | fz d => obtain ⟨⟨v, h1, h2⟩, _⟩ := q; exact ⟨v, sv i v h1, h2⟩
      | io d => obtain ⟨a, h1, h2, h3⟩ := q; exact ⟨a, sv i _ h1, h3, h2⟩
  · obtain ⟨d, b, h1, h2, h3⟩ := own i hi
    obtain ⟨d', b', h1', h2', h3'⟩ := own j hj
    rw [sv i _ h2] at ei; cases ei
    rw [sv j _ h2'] at ej; cases ej
    exact hij (nd i j _ h3 h3')
/-- what stands in the slots that were handed in -/
theorem outs_ok {T : Tbl} {σ : L2.St} {H0 H : Hp} {L : List (Option Addr)} {C : Ctx} : ∀ {as : List Ar} {L' : List (Option Addr)} {env : Env} {outs : List D} (k : Nat), outsOf as env = some outs → as.length ≤ L'.length →
    (∀ (i : Nat) (d : D), as[i]? = some (Ar.fz d) → L'[i]? = some none) → (∀ (i : Nat) (d : D), as[i]? = some (Ar.io d) → ∀ x : D, env[i]? = some (Sl.io x) → ∃ a, L'[i]? = some (some a) ∧ RepO T H0 H x (.ref a)) → L'.length = as.length → OutsOk T H0 H L' outs
  | [], L', env, outs, k, h, _, _, _, hl => by
    cases h
    cases L' with
    | nil => rfl
    | cons a b => simp at hl
  | .fz d :: as, L', env, outs, k, h, hle, hf, hi, hl => by
    cases L' with
    | nil => simp at hl
    | cons a b =>
      have := hf 0 d rfl
      simp at this
      subst this
      simp only [outsOf] at h
      show OutsOk T H0 H b outs
      refine outs_ok (L := L) (C := C) (σ := σ) (k + 1) h (by simpa using hle) (fun i d hd => by simpa using hf (i + 1) d (by simpa using hd)) (fun i d hd x hx => ?_) (by simpa using hl)
      have := hi (i + 1) d (by simpa using hd) x (by cases env with | nil => simp at hx | cons s r => simpa using hx)
      simpa using this
  | .io d :: as, L', env, outs, k, h, hle, hf, hi, hl => by
    cases L' with
    | nil => simp at hl
    | cons a b =>
      cases env with
      | nil => simp [outsOf] at h
      | cons s r =>
        cases s with
        | io x =>
          simp only [outsOf, List.head?_cons, List.tail_cons, Option.map_eq_some_iff] at h
          obtain ⟨o', h1, rfl⟩ := h
          obtain ⟨a', e1, e2⟩ := hi 0 d rfl x rfl
          simp at e1
          subst e1
          refine ⟨x, o', rfl, e2, outs_ok (L := L) (C := C) (σ := σ) (k + 1) h1 (by simpa using hle) (fun i d hd => by simpa using hf (i + 1) d (by simpa using hd)) (fun i d hd x hx => ?_) (by simpa using hl)⟩
          have := hi (i + 1) d (by simpa using hd) x (by simpa using hx)
          simpa using this
        | un => simp [outsOf] at h
        | fn => simp [outsOf] at h
        | fz x => simp [outsOf] at h
        | ow x => simp [outsOf] at h
/-- behind the body -/
theorem Sim.outs {T : Tbl} {H0e He H0 H : Hp} {σ : L2.St} {env : Env} {as : List Ar} {vs : List V} {outs : List D} (hA : ArOk T H0e He as vs) (S : Sim ⟨T, H0e, He, ioL as vs, 0⟩ σ H0 H env) (h : outsOf as env = some outs) :
    GrC T (ioL as vs) H0e He H0 H ∧ OutsOk T H0 H (ioL as vs) outs := by
  refine ⟨⟨S.ex0, S.ex, S.fresh, fun a o q z => S.keep a o z q, fun _ => S.tabs⟩, ?_⟩
  refine outs_ok (L := []) (C := ⟨T, H0e, He, [], 0⟩) (σ := σ) 0 h (Nat.le_of_eq hA.ioLen.symm) (fun i d hd => ?_) (fun i d hd x hx => ?_) hA.ioLen
  · have q := hA.at i
    rw [hd] at q
    exact q.2
  · have q := hA.at i
    rw [hd] at q
    obtain ⟨a, h1, h2, h3⟩ := q
    have z := S.slots i
    have gx : getS env i = .io x := by unfold getS; rw [List.getD_eq_getElem?_getD, hx]; rfl
    rw [gx] at z
    obtain ⟨b, e1, e2, e3⟩ := z
    rw [show (ioL as vs)[i]? = some (some b) from e2] at h3
    exact ⟨b, e2, e3⟩
/-- the body does what the def promises -/
theorem body_ok {T : Tbl} {cl : CallF} {fs : CallF} {F : Fn} {f n : Nat} {vs : List V} {H : Hp} {Q : VK} {E : XK} {N : List Str} {X : Cx} {body : List Stmt} (hN : N.length = F.n) (hn : n ≤ F.n) (hf : ∀ as, fs f as = runF cl F as)
    (hb : ∀ C : Ctx, C.T = T → PSs X body (tSs C (fun cls d _ H => E cls d H) cl F.body)) (h : spF T fs f n vs H Q E) : ∃ t, PSs X body t ∧ t { nx := fun _ H' => Q .non H', rt := Q } (L2.start N vs) H := by
  obtain ⟨H0, as, e, hA, nd, hl, tb, h⟩ := h
  refine ⟨_, hb ⟨T, H0, H, ioL as vs, 0⟩ rfl, H0, startE F.n as, by rw [← hN]; exact sim_start e hA nd (by rw [hl, hN]; exact hn) tb, ?_⟩
  rw [hf, runF] at h
  unfold finR at h
  cases z : exs cl F.body (startE F.n as) with
  | bad => rw [z] at h; exact h
  | exc x env =>
    simp only [z] at h
    cases zo : outsOf as env with
    | none => simp only [zo, finX, finO] at h
    | some outs =>
      simp only [zo, finX, finO] at h
      intro σ cls d H0' H' _ S hx
      obtain ⟨g, o⟩ := S.outs hA zo
      exact h cls d H0' H' g o hx
  | ok fl env =>
    simp only [z] at h
    cases zo : outsOf as env with
    | none => simp only [zo, finX, finO] at h
    | some outs =>
      simp only [zo, finX, finO] at h
      cases fl with
      | next =>
        intro σ H0' H' _ S
        obtain ⟨g, o⟩ := S.outs hA zo
        exact h .non H0' H' g (by show Rep _ _ _ _; simp only [Rep]) o
      | brk => exact h.elim
      | cont => exact h.elim
      | ret u =>
        intro σ H0' H' v _ S hu
        obtain ⟨g, o⟩ := S.outs hA zo
        cases u with
        | d x => exact h v H0' H' g hu o
        | sl i => exact h.elim
        | nw x =>
          refine h v H0' H' g ?_ o
          rw [show (nrm x) = if isMutD x = true then U.nw x else U.d x from rfl]
          have h' : RepN ⟨T, H0, H, ioL as vs, 0⟩ σ H0' H' env x v := hu
          unfold RepN at h'
          by_cases hm : isMutD x = true
          · rw [if_pos hm] at h' ⊢
            show RepG T H0' H' H x v
            unfold RepG
            rw [if_pos hm]
            obtain ⟨a, rfl, h1, h2, _⟩ := h'
            exact ⟨a, rfl, h1, h2⟩
          · rw [if_neg hm] at h' ⊢
            exact h'
end PP
end

section
set_option maxHeartbeats 1000000
namespace PP
open PySem PySem.Spec PyProof.Rows L2

/-! ### the promise of a def, where no repr is under way -/
structure FnG (P : Program) (w : World) (K : PySem.W.Frag) (mg : Str → Option Value) (base : Heap) (k : Nat) (f : Addr) (fd : FuncData) (ps : List Str) (sp : Sp) : Prop where
  len : ∀ vs H Q E, sp vs H Q E → vs.length = ps.length
  run : ∀ (A : Around) (outer : List PySem.Env) (s : Shared) (H : Hp) (args : Args) (us : List Value) (vs : List V) (Q : VK) (E : XK), A.guards = some [] → Room k A → Env0 P w K mg base A outer s H →
    BindsTo s fd args (ps.zip us) → Vals vs us → sp vs H Q E → codeAny (model P w) A (.call (.ref f) args) (CR (L2.CX P w) outer P w H s Q E) s
theorem FnG.up {P : Program} {w : World} {K : PySem.W.Frag} {mg : Str → Option Value} {base : Heap} {j k : Nat} {f : Addr} {fd : FuncData} {ps : List Str} {sp : Sp} (F : FnG P w K mg base j f fd ps sp) (h : j ≤ k) : FnG P w K mg base k f fd ps sp :=
  ⟨F.len, fun A outer s H args us vs Q E hg hr => F.run A outer s H args us vs Q E hg (hr.mono h)⟩
/-- a def of the text, its defaults anywhere -/
structure FunV (K : PySem.W.Frag) (x qual : Str) (st : Stmt) (f : Addr) (fd : FuncData) : Prop where
  ex : ∃ (oc : Value) (od : Option Addr) (dV kV doc pm : Value) (an : Option Addr) (cdv ct : Value) (osl : Array (Option Value)),
    fd = PySem.W.fnOf x qual (defArgs st) (defBody st) (defScope st) dV kV doc pm an cdv ct ∧ K.lookup f = some ⟨oc, od, .func fd, osl⟩ ∧ PySem.W.codeIn K cdv qual = true
  kp : PySem.W.keepIn K (.ref f) = true
theorem funV {K : PySem.W.Frag} {x qual : Str} {st : Stmt} {f : Addr} {fd : FuncData} (F : Fun K x qual st f fd) : FunV K x qual st f fd := by
  obtain ⟨oc, od, kV, doc, pm, an, cdv, ct, osl, e, l, c⟩ := F.ex
  exact ⟨⟨oc, od, .none, kV, doc, pm, an, cdv, ct, osl, e, l, c⟩, F.kp⟩
theorem FnG.of {P : Program} {w : World} {K : PySem.W.Frag} {mg : Str → Option Value} {base : Heap} {x qual : Str} {st : Stmt} {f : Addr} {fd : FuncData} {N ps : List Str} {k : Nat} {sp : Sp} (F : FunV K x qual st f fd) (S : FnScope N ps (defScope st))
    (len : ∀ vs H Q E, sp vs H Q E → vs.length = ps.length)
    (hb : ∀ (cdv : Value), fd.code = cdv → ∀ (A : Around) (outer : List PySem.Env) (s : Shared) (H : Hp) (vs : List V) (Q : VK) (E : XK), A.guards = some [] → Room k (A.deeper (envOfC qual (defScope st) s.heap.objs.size f cdv)) → sp vs H Q E →
      ∃ t, PSs (cxOf (L2.CX P w) P w K mg base N qual (defScope st) f cdv A outer s H E) (defBody st) t ∧ t { nx := fun _ H' => Q .non H', rt := Q } (L2.start N vs) H) : FnG P w K mg base (k + 1) f fd ps sp := by
  obtain ⟨oc, od, dV, kV, doc, pm, an, cdv, ct, osl, rfl, lk, hcd⟩ := F.ex
  refine ⟨len, fun A outer s H args us vs Q E hgd hr e0 hbi rv hsp => ?_⟩
  have hkin : K.In s.heap := e0.mod.kin.keeps fun y z q => (e0.bs y z q).1
  have hlim : s.heap.NoLimit := e0.mod.nolimit.keeps fun y z q => (e0.bs y z q).1
  have kinds : ∀ y ∈ ps.zip us, (defScope st).names.lookup y.1 = some .local ∨ ((defScope st).names.lookup y.1 = some .cell ∧ ((cellsFrom (s.heap.objs.size + 1) (defScope st).names []).lookup y.1).isSome = true) := by
    rintro ⟨nm, val⟩ hy
    cases S.par nm (List.of_mem_zip hy).1 with
    | inl q => exact .inl q
    | inr q => exact .inr ⟨q, PySem.W.cellsFrom_some _ _ _ (.inl q)⟩
  refine codeAny_call_function hr.depth (hkin _ _ lk) rfl S.co S.gen rfl (PySem.W.codeRec_of hkin hcd) (hbi _ _ _ _ ?_)
  refine wpAny_newFunctionEnv_cells S.kind kinds fun env henv s1 hin => ?_
  subst henv
  refine ⟨hlim.keeps hin.toInCall.keep, codeAny_func ?_⟩
  obtain ⟨t, hder, hread⟩ := hb cdv rfl A outer s H vs Q E hgd (hr.deeper _) hsp
  have I0 := inv_start (CX := L2.CX P w) (E := E) S hr.hd e0 (len _ _ _ _ hsp) rv hin
  refine wpAny_mono (hder.run [] s1 _ H _ I0 hread) (fun fl s' hfl => ?_) fun e s' he => he
  cases fl with
  | ret u => obtain ⟨v, σ', H', J, r, q⟩ := hfl; exact ⟨v, H', J.os, J.bare, J.base, J.hok, r, q⟩
  | next => obtain ⟨σ', H', J, q⟩ := hfl; exact ⟨V.non, H', J.os, J.bare, J.base, J.hok, rfl, q⟩
  | brk => obtain ⟨_, _, _, q⟩ := hfl; exact q.elim
  | cont => obtain ⟨_, _, _, q⟩ := hfl; exact q.elim
section
variable {X : Cx} {C : Ctx} {W : WX} {cl : CallF} {e a b c : Expr} {es : List Expr} {e' a' b' c' : Ex} {es' : Exs} {pos : Pos}
/-- the def at f runs -/
theorem FnG.goA {k : Nat} {f : Addr} {fd : FuncData} {ps : List Str} {sp : Sp} {pins : List (Addr × Obj)} {σ : L2.St} {H : Hp} {s : Shared} {Q : VK} {args : Args} {us : List Value} {vs : List V} {E : XK}
    (F : FnG X.prog X.w X.K X.mg X.base k f fd ps sp) (hgd : X.A.guards = some []) (hr : Room k X.A) (hb : BindsTo s fd args (ps.zip us)) (tk : Takes X W) (hE : ∀ cls d H', E cls d H' → W cls d σ H')
    (I : Inv X pins σ H s) (r : Vals vs us) (h : sp vs H Q E) : wpAny (model X.prog X.w) X.A (call (.ref f) args.pos args.kw) (EP X pins σ Q) X.xe s := by
  refine wpAny_call (codeAny_mono (F.run X.A X.stack s H args us vs Q E hgd hr I.env0 hb r h) fun res s' hq => ?_)
  cases res with
  | error ee => exact tk _ _ (XE.of_call I hE hq)
  | ok fl =>
    cases fl with
    | ret u => exact I.after hq
    | next => exact hq.elim
    | brk => exact hq.elim
    | cont => exact hq.elim
theorem FnG.go {k : Nat} {f : Addr} {fd : FuncData} {ps : List Str} {sp : Sp} {ds : List Value} {dvs : List V} {pins : List (Addr × Obj)} {σ : L2.St} {H : Hp} {s : Shared} {Q : VK} {us : List Value} {vs : List V} {E : XK}
    (F : FnG X.prog X.w X.K X.mg X.base k f fd ps sp) (hgd : X.A.guards = some []) (hr : Room k X.A) (hb : Binds X.K fd ps ds) (hd : Vals dvs ds) (tk : Takes X W) (hE : ∀ cls d H', E cls d H' → W cls d σ H')
    (I : Inv X pins σ H s) (r : Vals vs us) (h : sp (vs ++ dvs) H Q E) : wpAny (model X.prog X.w) X.A (call (.ref f) us) (EP X pins σ Q) X.xe s := by
  have r2 := r.append hd
  have hlen : (us ++ ds).length = ps.length := r2.length ▸ F.len _ _ _ _ h
  exact F.goA (args := ⟨us, []⟩) hgd hr (hb s us I.kIn hlen) tk hE I r2 h

def UcOk (C : Ctx) (σ : L2.St) (H0 : Hp) : List U → List V → Prop
  | [], vs => vs = []
  | .d x :: us, vs => ∃ v r, vs = v :: r ∧ Rep C.T H0 x v ∧ UcOk C σ H0 us r
  | .sl i :: us, vs => ∃ v r, vs = v :: r ∧ σ[i]? = some (some v) ∧ UcOk C σ H0 us r
  | .nw _ :: _, _ => False
theorem UcOk.mono {σ : L2.St} {H0 H0' : Hp} (e : Ext H0 H0') : ∀ {us : List U} {vs : List V}, UcOk C σ H0 us vs → UcOk C σ H0' us vs
  | [], _, h => h
  | .d x :: us, _, h => by obtain ⟨v, r, rfl, h1, h2⟩ := h; exact ⟨v, r, rfl, Rep.mono e _ _ h1, UcOk.mono e h2⟩
  | .sl i :: us, _, h => by obtain ⟨v, r, rfl, h1, h2⟩ := h; exact ⟨v, r, rfl, h1, UcOk.mono e h2⟩
  | .nw _ :: _, _, h => h
def tAC (C : Ctx) (W : WX) (cl : CallF) (ms : List Bool) (es : Exs) : TA := fun σ H Q => ∃ H0 env, Sim C σ H0 H env ∧ RQ C W σ (fun us _ H0' H' => ∀ vs, UcOk C σ H0' us vs → Q vs H') H0 (evC cl ms es env)
theorem k_nil {ms : List Bool} : PA X [] (tAC C W cl ms .nil) := paI pa_nil fun σ H Q ⟨H0, env, S, q⟩ => by
  simp only [evC] at q
  exact q H0 H (Ext.rfl' _) S [] rfl
theorem k_cons {m : Bool} {ms : List Bool} (ha : PE X e (tI C W cl e')) (hr : PA X es (tAC C W cl ms es')) (hs : starEach (e :: es) X.env = (false, eval e X.env) :: starEach es X.env := by rfl) : PA X (e :: es) (tAC C W cl (m :: ms) (.cons e' es')) :=
  paI (pa_cons ha hr hs) fun σ H Q ⟨H0, env, S, q⟩ => by
    simp only [evC] at q
    refine seqI S q fun u env1 x H1 H1' e1 S1 u1 q1 => ?_
    cases m with
    | true =>
      cases u with
      | d x => exact q1.elim
      | nw x => exact q1.elim
      | sl i =>
        simp only at q1
        refine ⟨H1, env1, S1, ?_⟩
        cases z : evC cl ms es' env1 with
        | ok us env3 =>
          simp only [z] at q1
          exact fun H3 H3' e3 S3 vs hv => q1 H3 H3' e3 S3 (x :: vs) ⟨x, vs, rfl, u1, hv⟩
        | exc x env3 => simp only [z] at q1; exact q1
        | bad => simp only [z] at q1; exact q1
    | false =>
      simp only at q1
      obtain ⟨⟨d, env2⟩, hf, q1⟩ := q1.orB
      obtain ⟨H2, e2, S2, r2⟩ := S1.take u1 hf
      have q2 := RQ.mono e2 q1
      refine ⟨H2, env2, S2, ?_⟩
      cases z : evC cl ms es' env2 with
      | ok us env3 =>
        simp only [z] at q2
        exact fun H3 H3' e3 S3 vs hv => q2 H3 H3' e3 S3 (x :: vs) ⟨x, vs, rfl, Rep.mono e3 _ _ r2, hv⟩
      | exc x env3 => simp only [z] at q2; exact q2
      | bad => simp only [z] at q2; exact q2
end
/-! ### behind a call -/
section
variable {C : Ctx} {σ : L2.St} {H0 H H0' H' : Hp} {env : Env}
/-- the arguments, as the callee has them -/
theorem args_ok (S : Sim C σ H0 H env) : ∀ {ms : List Bool} {us : List U} {vs : List V} {as : List Ar}, argsOf env ms us = some as → UcOk C σ H0 us vs → ArOk C.T H0 H as vs ∧ as.length = ms.length ∧
    (∀ a, some a ∈ ioL as vs → ∃ i ∈ ioSlots us, ownS (getS env i) = true ∧ σ[i]? = some (some (.ref a)))
  | [], [], _, _, h, hu => by cases h; cases hu; exact ⟨rfl, rfl, fun a ha => by simp [ioL] at ha⟩
  | [], _ :: _, _, _, h, hu => by simp [argsOf] at h
  | true :: _, [], _, _, h, hu => by simp [argsOf] at h
  | false :: _, [], _, _, h, hu => by simp [argsOf] at h
  | false :: ms, .d x :: us, _, as, h, hu => by
    simp only [argsOf, Option.map_eq_some_iff] at h
    obtain ⟨as', h1, rfl⟩ := h
    obtain ⟨v, r, rfl, h2, h3⟩ := hu
    obtain ⟨q1, q2, q3⟩ := args_ok S h1 h3
    refine ⟨⟨v, r, rfl, h2, q1⟩, by simp [q2], fun a ha => ?_⟩
    simp only [ioL, List.mem_cons, reduceCtorEq, false_or] at ha
    exact q3 a ha
  | false :: ms, .sl i :: us, _, as, h, hu => by simp [argsOf] at h
  | false :: ms, .nw i :: us, _, as, h, hu => by simp [argsOf] at h
  | true :: ms, .d x :: us, _, as, h, hu => by simp [argsOf] at h
  | true :: ms, .nw x :: us, _, as, h, hu => by simp [argsOf] at h
  | true :: ms, .sl i :: us, _, as, h, hu => by
    obtain ⟨v, r, rfl, h2, h3⟩ := hu
    have hi := S.slots i
    have key : ∀ d, ownS (getS env i) = true → (∃ a, v = .ref a ∧ RepO C.T H0 H d (.ref a)) → ((argsOf env ms us).map (Ar.io d :: ·)) = some as → ArOk C.T H0 H as (v :: r) ∧ as.length = (true :: ms).length ∧
        (∀ a, some a ∈ ioL as (v :: r) → ∃ j ∈ ioSlots (.sl i :: us), ownS (getS env j) = true ∧ σ[j]? = some (some (.ref a))) := by
      intro d ho ⟨a, ev, hr⟩ hm
      subst ev
      simp only [Option.map_eq_some_iff] at hm
      obtain ⟨as', h1, rfl⟩ := hm
      obtain ⟨q1, q2, q3⟩ := args_ok S h1 h3
      refine ⟨⟨a, r, rfl, hr, q1⟩, by simp [q2], fun b hb => ?_⟩
      simp only [ioL, List.mem_cons, Option.some.injEq] at hb
      rcases hb with rfl | hb
      · exact ⟨i, by simp [ioSlots], ho, h2⟩
      · obtain ⟨j, hj, z⟩ := q3 b hb
        exact ⟨j, by simp [ioSlots, hj], z⟩
    unfold argsOf at h
    split at h
    · rename_i d hd
      rw [hd] at hi
      obtain ⟨a, e1, _, e3⟩ := hi
      rw [h2] at e1; cases e1
      exact key d (by rw [hd]; rfl) ⟨a, rfl, e3⟩ h
    · rename_i d hd
      rw [hd] at hi
      obtain ⟨a, e1, _, e3⟩ := hi
      rw [h2] at e1; cases e1
      exact key d (by rw [hd]; rfl) ⟨a, rfl, e3⟩ h
    · cases h
theorem mem_of_dupFree {i : Nat} {is : List Nat} (h : dupFree (i :: is) = true) : i ∉ is ∧ dupFree is = true := by
  simp only [dupFree, Bool.and_eq_true, Bool.not_eq_true', List.contains_eq_mem, decide_eq_false_iff_not] at h
  exact h
/-- no address is handed in twice -/
theorem io_nodup (S : Sim C σ H0 H env) : ∀ {ms : List Bool} {us : List U} {vs : List V} {as : List Ar}, argsOf env ms us = some as → UcOk C σ H0 us vs → dupFree (ioSlots us) = true → NoDup (ioL as vs)
  | [], [], _, _, h, hu, _ => by cases h; cases hu; intro i j a hi; simp [ioL] at hi
  | [], _ :: _, _, _, h, hu, _ => by simp [argsOf] at h
  | true :: _, [], _, _, h, hu, _ => by simp [argsOf] at h
  | false :: _, [], _, _, h, hu, _ => by simp [argsOf] at h
  | false :: ms, .d x :: us, _, as, h, hu, hd => by
    simp only [argsOf, Option.map_eq_some_iff] at h
    obtain ⟨as', h1, rfl⟩ := h
    obtain ⟨v, r, rfl, h2, h3⟩ := hu
    have q := io_nodup S h1 h3 hd
    intro i j a hi hj
    cases i with
    | zero => simp [ioL] at hi
    | succ i =>
      cases j with
      | zero => simp [ioL] at hj
      | succ j => simp only [ioL, List.getElem?_cons_succ] at hi hj; rw [q i j a hi hj]
  | false :: ms, .sl i :: us, _, as, h, hu, _ => by simp [argsOf] at h
  | false :: ms, .nw i :: us, _, as, h, hu, _ => by simp [argsOf] at h
  | true :: ms, .d x :: us, _, as, h, hu, _ => by simp [argsOf] at h
  | true :: ms, .nw x :: us, _, as, h, hu, _ => by simp [argsOf] at h
  | true :: ms, .sl k :: us, _, as, h, hu, hd => by
    have hd' : dupFree (k :: ioSlots us) = true := hd
    obtain ⟨hk, hd2⟩ := mem_of_dupFree hd'
    obtain ⟨v, r, rfl, h2, h3⟩ := hu
    have key : ∀ d, ownS (getS env k) = true → (∃ a, v = .ref a) → ((argsOf env ms us).map (Ar.io d :: ·)) = some as → NoDup (ioL as (v :: r)) := by
      intro d ho ⟨a, ev⟩ hm
      subst ev
      simp only [Option.map_eq_some_iff] at hm
      obtain ⟨as', h1, rfl⟩ := hm
      have q := io_nodup S h1 h3 hd2
      have far : ∀ i b, (ioL as' r)[i]? = some (some b) → b ≠ a := fun i b hb z => by
        subst z
        obtain ⟨j, hj, oj, ej⟩ := (args_ok S h1 h3).2.2 b (List.mem_of_getElem? hb)
        exact S.inj k j b (fun w => hk (w ▸ hj)) ho oj h2 ej
      intro i j b hi hj
      cases i with
      | zero =>
        cases j with
        | zero => rfl
        | succ j => simp [ioL] at hi hj; subst hi; exact (far j _ hj rfl).elim
      | succ i =>
        cases j with
        | zero => simp [ioL] at hi hj; subst hj; exact (far i _ hi rfl).elim
        | succ j => simp only [ioL, List.getElem?_cons_succ] at hi hj; rw [q i j b hi hj]
    have hi := S.slots k
    unfold argsOf at h
    split at h
    · rename_i d hdd
      rw [hdd] at hi
      obtain ⟨a, e1, _, e3⟩ := hi
      rw [h2] at e1; cases e1
      exact key d (by rw [hdd]; rfl) ⟨a, rfl⟩ h
    · rename_i d hdd
      rw [hdd] at hi
      obtain ⟨a, e1, _, e3⟩ := hi
      rw [h2] at e1; cases e1
      exact key d (by rw [hdd]; rfl) ⟨a, rfl⟩ h
    · cases h
/-- what stands at the slots behind the call -/
theorem put_at (S : Sim C σ H0 H env) : ∀ {ms : List Bool} {us : List U} {vs : List V} {as : List Ar} {outs : List D} {env0 : Env}, argsOf env ms us = some as → UcOk C σ H0 us vs → dupFree (ioSlots us) = true → OutsOk C.T H0' H' (ioL as vs) outs →
    (∀ i ∈ ioSlots us, getS env0 i = getS env i) → env0.length = env.length →
    (putIO env0 (ioSlots us) outs).length = env.length ∧ (∀ i, i ∉ ioSlots us → getS (putIO env0 (ioSlots us) outs) i = getS env0 i) ∧
    ∀ i ∈ ioSlots us, ∃ a d, ownS (getS env i) = true ∧ σ[i]? = some (some (.ref a)) ∧ some a ∈ ioL as vs ∧ getS (putIO env0 (ioSlots us) outs) i = setIO (getS env i) d ∧ RepO C.T H0' H' d (.ref a)
  | [], [], _, _, outs, _, h, hu, _, ho, _, hl => by cases h; cases hu; cases ho; exact ⟨hl, fun _ _ => rfl, fun i hi => by simp [ioSlots] at hi⟩
  | [], _ :: _, _, _, _, _, h, hu, _, _, _, _ => by simp [argsOf] at h
  | true :: _, [], _, _, _, _, h, hu, _, _, _, _ => by simp [argsOf] at h
  | false :: _, [], _, _, _, _, h, hu, _, _, _, _ => by simp [argsOf] at h
  | false :: ms, .d x :: us, _, as, outs, _, h, hu, hd, ho, he, hl => by
    simp only [argsOf, Option.map_eq_some_iff] at h
    obtain ⟨as', h1, rfl⟩ := h
    obtain ⟨v, r, rfl, h2, h3⟩ := hu
    obtain ⟨q1, q2, q3⟩ := put_at S h1 h3 hd ho he hl
    exact ⟨q1, q2, fun i hi => by obtain ⟨a, d, z0, z1, z2, z3⟩ := q3 i hi; exact ⟨a, d, z0, z1, by simp [ioL, z2], z3⟩⟩
  | false :: ms, .sl i :: us, _, as, _, _, h, hu, _, _, _, _ => by simp [argsOf] at h
  | false :: ms, .nw i :: us, _, as, _, _, h, hu, _, _, _, _ => by simp [argsOf] at h
  | true :: ms, .d x :: us, _, as, _, _, h, hu, _, _, _, _ => by simp [argsOf] at h
  | true :: ms, .nw x :: us, _, as, _, _, h, hu, _, _, _, _ => by simp [argsOf] at h
  | true :: ms, .sl k :: us, _, as, outs, env0, h, hu, hd, ho, he, hl => by
    have hd' : dupFree (k :: ioSlots us) = true := hd
    obtain ⟨hk, hd2⟩ := mem_of_dupFree hd'
    obtain ⟨v, r, rfl, h2, h3⟩ := hu
    have key : ∀ d, ownS (getS env k) = true → (∃ a, v = .ref a) → ((argsOf env ms us).map (Ar.io d :: ·)) = some as → (putIO env0 (ioSlots (.sl k :: us)) outs).length = env.length ∧ (∀ i, i ∉ ioSlots (.sl k :: us) → getS (putIO env0 (ioSlots (.sl k :: us)) outs) i = getS env0 i) ∧
        ∀ i ∈ ioSlots (.sl k :: us), ∃ a d, ownS (getS env i) = true ∧ σ[i]? = some (some (.ref a)) ∧ some a ∈ ioL as (v :: r) ∧ getS (putIO env0 (ioSlots (.sl k :: us)) outs) i = setIO (getS env i) d ∧ RepO C.T H0' H' d (.ref a) := by
      intro d hown ⟨a, ev⟩ hm
      subst ev
      simp only [Option.map_eq_some_iff] at hm
      obtain ⟨as', h1, rfl⟩ := hm
      obtain ⟨o1, o2, rfl, ro, ho2⟩ := ho
      have hkl : k < env0.length := by rw [hl, S.len]; exact (List.getElem?_eq_some_iff.mp h2).1
      have hg : ∀ j, j ≠ k → getS (env0.set k (setIO (getS env0 k) o1)) j = getS env0 j := fun j hj => by
        rw [getS_set, if_neg (fun z => hj z.1.symm)]
      obtain ⟨q1, q2, q3⟩ := put_at (env0 := env0.set k (setIO (getS env0 k) o1)) S h1 h3 hd2 ho2 (fun i hi => by
        rw [hg i (fun z => hk (z ▸ hi))]; exact he i (by simp [ioSlots, hi])) (by simp [hl])
      refine ⟨q1, fun i hi => ?_, fun i hi => ?_⟩
      · simp only [ioSlots, List.mem_cons, not_or] at hi
        show getS (putIO (env0.set k (setIO (getS env0 k) o1)) (ioSlots us) o2) i = _
        rw [q2 i hi.2, hg i hi.1]
      · simp only [ioSlots, List.mem_cons] at hi
        rcases hi with rfl | hi
        · refine ⟨a, o1, hown, h2, by simp [ioL], ?_, ro⟩
          show getS (putIO (env0.set i (setIO (getS env0 i) o1)) (ioSlots us) o2) i = _
          rw [q2 i hk, getS_set, if_pos ⟨rfl, hkl⟩, he i (by simp [ioSlots])]
        · obtain ⟨a', d', z0, z1, z2, z3⟩ := q3 i hi
          exact ⟨a', d', z0, z1, by simp [ioL, z2], z3⟩
    have hi := S.slots k
    unfold argsOf at h
    split at h
    · rename_i d hdd
      rw [hdd] at hi
      obtain ⟨a, e1, _, e3⟩ := hi
      rw [h2] at e1; cases e1
      exact key d (by rw [hdd]; rfl) ⟨a, rfl⟩ h
    · rename_i d hdd
      rw [hdd] at hi
      obtain ⟨a, e1, _, e3⟩ := hi
      rw [h2] at e1; cases e1
      exact key d (by rw [hdd]; rfl) ⟨a, rfl⟩ h
    · cases h
theorem Sim.call (S : Sim C σ H0 H env) {ms : List Bool} {us : List U} {vs : List V} {as : List Ar} {outs : List D} (h : argsOf env ms us = some as) (hu : UcOk C σ H0 us vs) (hd : dupFree (ioSlots us) = true)
    (g : GrC C.T (ioL as vs) H0 H H0' H') (ho : OutsOk C.T H0' H' (ioL as vs) outs) : Sim C σ H0' H' (putIO env (ioSlots us) outs) := by
  obtain ⟨p1, p2, p3⟩ := put_at S h hu hd ho (fun _ _ => rfl) rfl
  have hio := (args_ok S h hu).2.2
  have kind : ∀ j, ownS (getS (putIO env (ioSlots us) outs) j) = ownS (getS env j) := fun j => by
    by_cases hj : j ∈ ioSlots us
    · obtain ⟨a, d, _, _, _, e, _⟩ := p3 j hj
      rw [e, own_setIO]
    · rw [p2 j hj]
  have far : ∀ j a, ownS (getS env j) = true → σ[j]? = some (some (.ref a)) → j ∉ ioSlots us → some a ∉ ioL as vs := fun j a oj ej hj ha => by
    obtain ⟨i, hi, oi, ei⟩ := hio a ha
    exact S.inj i j a (fun z => hj (z ▸ hi)) oi oj ei ej
  have notHe : ∀ a, some a ∈ ioL as vs → C.He a = none ∨ C.io a := fun a ha => by
    obtain ⟨i, hi, oi, ei⟩ := hio a ha
    have q := S.slots i
    cases z : getS env i with
    | un => rw [z] at oi; cases oi
    | fn => rw [z] at oi; cases oi
    | fz d => rw [z] at oi; cases oi
    | ow d => rw [z] at q; obtain ⟨b, e1, e2, _⟩ := q; rw [ei] at e1; cases e1; exact .inl e2
    | io d => rw [z] at q; obtain ⟨b, e1, e2, _⟩ := q; rw [ei] at e1; cases e1; exact .inr (List.mem_of_getElem? e2)
  have there : ∀ a, some a ∈ ioL as vs → H' a ≠ none := fun a ha q => by
    obtain ⟨i, hi, oi, ei⟩ := hio a ha
    obtain ⟨b, d, _, e1, _, _, r⟩ := p3 i hi
    rw [ei] at e1; cases e1
    obtain ⟨_, o, z⟩ := r.some
    rw [q] at z; cases z
  exact {
    ok := S.ok
    ex := g.e01
    ex0 := S.ex0.tr g.e0
    fresh := fun a q q' => by
      cases z : H0 a with
      | none => exact S.he (g.new a z q')
      | some o => exact S.fresh a q (by rw [z]; exact nofun)
    keep := fun a o q q' => by
      obtain ⟨u, hu⟩ := (S.keep a o q q').some
      exact (S.keep a o q q').tr hu (g.keep a u (fun ha => by
        rcases notHe a ha with z | z
        · rw [z] at q; cases q
        · exact q' z) hu)
    tabs := g.tb S.tabs
    tno := fun p hp => by
      obtain ⟨ps, h1, _⟩ := S.tabs p hp
      cases z : H0' p.1 with
      | none => rfl
      | some u => rw [g.new p.1 (S.tno p hp) (by rw [z]; exact nofun)] at h1; cases h1
    ioH := fun a q q' => by
      by_cases ha : some a ∈ ioL as vs
      · exact there a ha q'
      · cases z : H a with
        | none => exact S.ioH a q z
        | some o => obtain ⟨u, hu⟩ := (g.keep a o ha z).some; rw [hu] at q'; cases q'
    len := p1.trans S.len
    slots := fun j => by
      by_cases hj : j ∈ ioSlots us
      · obtain ⟨a, d, oj, ej, _, e, r⟩ := p3 j hj
        rw [e]
        have q := S.slots j
        cases z : getS env j with
        | un => trivial
        | fn => rw [z] at oj; cases oj
        | fz d' => rw [z] at oj; cases oj
        | ow d' => rw [z] at q; obtain ⟨b, e1, e2, _⟩ := q; rw [ej] at e1; cases e1; exact ⟨a, ej, e2, r⟩
        | io d' => rw [z] at q; obtain ⟨b, e1, e2, _⟩ := q; rw [ej] at e1; cases e1; exact ⟨a, ej, e2, r⟩
      · rw [p2 j hj]
        refine (S.slots j).step g.e0 fun a oj ej => ?_
        obtain ⟨n0, o, ho⟩ := S.own oj ej
        refine ⟨?_, by rw [ho]; exact (g.keep a o (far j a oj ej hj) ho).at (S.ownK oj ej ho).1⟩
        cases z : H0' a with
        | none => rfl
        | some u => rw [g.new a n0 (by rw [z]; exact nofun)] at ho; cases ho
    inj := fun i j a hij hi hj ei ej => by
      rw [kind] at hi hj
      exact S.inj i j a hij hi hj ei ej }
end
end PP
end

section
set_option maxHeartbeats 1000000
namespace PP
open PySem PySem.Spec PyProof.Rows L2
section
variable {X : Cx} {C : Ctx} {W : WX} {cl : CallF} {e a b c : Expr} {es : List Expr} {e' a' b' c' : Ex} {es' : Exs} {pos : Pos}
/-- the reading of a call of a def: its arguments, then its promise with the wish W -/
def tCl (T : Tbl) (W : WX) (cl : CallF) (f n : Nat) (t : TA) : TE := fun σ H Q => t σ H fun vs H1 => spF T cl f n vs H1 Q fun cls d H' => W cls d σ H'
/-- what a call hands back -/
theorem ret_u {σ : L2.St} {H1 H1' H0' H' : Hp} {env1 : Env} {ms : List Bool} {us : List U} {vs : List V} {as : List Ar} {outs : List D} {r : U} {v : V} (S1 : Sim C σ H1 H1' env1) (ha : argsOf env1 ms us = some as) (hv : UcOk C σ H1 us vs) (hd : dupFree (ioSlots us) = true)
    (g : GrC C.T (ioL as vs) H1 H1' H0' H') (o : OutsOk C.T H0' H' (ioL as vs) outs) (hr : RetOk C.T H0' H' H1' r v) : UOk C σ H0' H' (putIO env1 (ioSlots us) outs) r v := by
  cases r with
  | d x => exact hr
  | sl i => exact hr.elim
  | nw x =>
    have hr' : RepG C.T H0' H' H1' x v := hr
    show RepN _ _ _ _ _ _ _
    unfold RepG at hr'
    unfold RepN
    split
    · rename_i hm
      rw [if_pos hm] at hr'
      obtain ⟨a, rfl, h1, h2⟩ := hr'
      refine ⟨a, rfl, S1.he h1, h2, fun i hi ei => ?_⟩
      have hk : ownS (getS env1 i) = true := by
        obtain ⟨_, p2, p3⟩ := put_at S1 ha hv hd o (fun _ _ => rfl) rfl
        by_cases hj : i ∈ ioSlots us
        · obtain ⟨_, _, z, _⟩ := p3 i hj; exact z
        · rw [p2 i hj] at hi; exact hi
      obtain ⟨_, o1, ho1⟩ := S1.own hk ei
      rw [h1] at ho1; cases ho1
    · rename_i hm
      rw [if_neg hm] at hr'
      exact hr'
theorem readC {σ : L2.St} {H : Hp} {Q : VK} {f n : Nat} {ms : List Bool} (hn : ms.length = n) (h : tI C W cl (.call f ms es') σ H Q) : tCl C.T W cl f n (tAC C W cl ms es') σ H Q := by
  obtain ⟨H0, env, S, q⟩ := h
  simp only [ev] at q
  refine ⟨H0, env, S, ?_⟩
  cases z : evC cl ms es' env with
  | bad => rw [z] at q; exact q.elim
  | exc x env1 => rw [z] at q; exact q
  | ok us env1 =>
    rw [z] at q
    simp only [R.bind_ok] at q
    obtain ⟨as, ha, q⟩ := q.orB
    split at q
    rotate_left
    · exact q.elim
    rename_i hd
    intro H1 H1' e1 S1 vs hv
    obtain ⟨g1, g2, g3⟩ := args_ok S1 ha hv
    refine ⟨H1, as, S1.ex, g1, io_nodup S1 ha hv hd, g2.trans hn, S1.tb, ?_⟩
    cases zc : cl f as with
    | bad => simp only [zc] at q; exact q
    | exc x outs =>
      simp only [zc] at q
      intro cls d H0' H' g o hx
      exact q cls d H0' H' (e1.tr g.e0) (S1.call ha hv hd g o) hx
    | ok r outs =>
      simp only [zc] at q
      intro v H0' H' g hr o
      have S2 := S1.call ha hv hd g o
      exact q H0' H' (e1.tr g.e0) S2 v (ret_u S1 ha hv hd g o hr)
theorem c_call {x : Str} {p : Pos} {k f n : Nat} {fa : Addr} {fd : FuncData} {ps : List Str} {ms : List Bool} (F : FnG X.prog X.w X.K X.mg X.base k fa fd ps (spF C.T cl f n)) (hgd : X.A.guards = some []) (hr : Room k X.A) (tk : Takes X W)
    (hg : Gl X x) (hm : X.mg x = some (.ref fa)) (hk : PySem.W.keepIn X.K (.ref fa) = true) (hb : Binds X.K fd ps []) (ha : PA X (e :: es) (tAC C W cl ms es')) (hn : ms.length = n := by rfl) (hdb : (x == ("__debug__" : Str)) = false := by decide)
    (he : starEach (e :: es) X.env = (false, eval e X.env) :: starEach es X.env := by rfl) (hpl : (backTo pos (starEach es X.env)).any (·.1) = false := by rfl) : PE X (.Call (.Name x p) (e :: es) [] pos) (tI C W cl (.call f ms es')) := by
  refine peI (t := tCl C.T W cl f n (tAC C W cl ms es')) ⟨fun pins s σ H Q I h => ?_⟩ fun σ H Q q => readC hn q
  refine wpAny_Call_Name_kw (ld_glob I hg hm ?_ hdb)
  refine PySem.W.callWith_K (h₀ := X.base) I.ok.mod.kin hk (thn (ha.run pos pins s σ H _ I h) fun us s1 hq => ?_) he hpl
  obtain ⟨vs, H1, I1, r, q⟩ := hq
  exact ⟨I1.kIn, F.go hgd hr hb .nil tk (fun _ _ _ z => z) I1 r (by rw [List.append_nil]; exact q)⟩
theorem c_call0 {x : Str} {p : Pos} {k f : Nat} {fa : Addr} {fd : FuncData} {ps : List Str} (F : FnG X.prog X.w X.K X.mg X.base k fa fd ps (spF C.T cl f 0)) (hgd : X.A.guards = some []) (hr : Room k X.A) (tk : Takes X W)
    (hg : Gl X x) (hm : X.mg x = some (.ref fa)) (hk : PySem.W.keepIn X.K (.ref fa) = true) (hb : Binds X.K fd ps []) (hdb : (x == ("__debug__" : Str)) = false := by decide) : PE X (.Call (.Name x p) [] [] pos) (tI C W cl (.call f [] .nil)) := by
  refine peI (t := tCl C.T W cl f 0 (tAC C W cl [] .nil)) ⟨fun pins s σ H Q I h => ?_⟩ fun σ H Q q => readC rfl q
  refine wpAny_Call_Name_kw (ld_glob I hg hm ?_ hdb)
  obtain ⟨H0, env, S, q⟩ := h
  simp only [evC] at q
  exact PySem.W.callWith_K0 I.kIn hk (F.go (us := []) hgd hr hb .nil tk (fun _ _ _ z => z) I .nil (q H0 H (Ext.rfl' _) S [] rfl))
end
/-! ### the law's call -/
theorem ints_vals : ∀ {vs : List Value} {ns : List Int}, IntsAre vs ns → Vals (ns.map V.int) vs := fun h => vals_ints h
theorem law_run {P : Program} {w : World} {K : PySem.W.Frag} {mg mb : Str → Option Value} {k : Nat} {fa a : Addr} {cs : List (Addr × Addr)} {fd : FuncData} {x : Str} {sp : Sp} {s1 : Shared} {vs : List Value} {ns : List Int}
    (hK : K.In s1.heap) (hm : s1.heap.Ns mainGlobals mg) (hb : s1.heap.Ns builtinsNs mb) (hbb : ∀ x : Str, x ≠ "__name__" → mb x = bootBuiltins x) (hno : s1.heap.NoLimit) (hgen : s1.gens = #[])
    (hT : ∀ p ∈ cs, s1.heap.get? p.2 = some { cls := .none, data := .fields #[] }) (nT : ∀ p ∈ cs, K.lookup p.2 = none) (Cd : ∀ p ∈ cs, PySem.W.CodeHd s1.heap p.1 p.2)
    (hbm : ∃ (bm : Addr) (ob : Obj), mg "__builtins__" = some (.ref bm) ∧ bm ≠ builtinsNs ∧ s1.heap.get? bm = some ob ∧ ob.cls = .type "module" ∧ ob.dict = some builtinsNs ∧ ob.data = .plain)
    (hobj : s1.heap.get? a = some { cls := .type "list", data := .seq vs.toArray }) (hin : IntsAre vs ns) (hlen : ns.length ≤ sizeLine) (hroom : Room k callerA)
    (hF : ∀ base : Heap, K.In base → base.Ns mainGlobals mg → (∀ p ∈ cs, LamX.TabB base mg p.1 p.2) → FnG P w K mg base k fa fd [x] sp) (hbi : ∀ (s : Shared) (u : Value), BindsTo s fd ⟨[u], []⟩ [(x, u)])
    (hsp : ∀ H : Hp, (∀ p ∈ cs, H p.2 = some (.tbl #[])) → SqL K H a (ns.map V.int) → sp [.ref a] H (fun v _ => v = .bl true) fun _ _ _ => False) :
    codeAny (model P w) callerA (.call (.ref fa) ⟨[.ref a], []⟩) (fun r s' => r = .ok (.ret (.bool true)) ∧ OldK s1.heap s'.heap ∧ s'.os = s1.os ∧ AllBare s'.gens) s1 := by
  have rv : Vals (ns.map V.int) vs := vals_ints hin
  have tAt : ∀ b ∈ cs.map (·.2), s1.heap.get? b = some { cls := .none, data := .fields #[] } := fun b hb => by
    obtain ⟨p, hp, rfl⟩ := List.mem_map.mp hb
    exact hT p hp
  have aNo : a ∉ cs.map (·.2) := fun z => by
    have q := tAt a z
    rw [hobj] at q
    exact nomatch (show Data.seq vs.toArray _ = Data.fields #[] from congrArg Obj.data (Option.some.inj q))
  have tMem : ∀ p ∈ cs, p.2 ∈ cs.map (·.2) := fun p hp => List.mem_map.mpr ⟨p, hp, rfl⟩
  obtain ⟨H, hH⟩ : ∃ H : Hp, H = fun b => if b = a ∧ K.lookup a = none then some (HO.frz { cls := .type "list", data := .seq vs.toArray } (.lst (ns.map V.int))) else if b ∈ cs.map (·.2) then some (.tbl #[]) else none := ⟨_, rfl⟩
  have hat : ∀ b o, H b = some o → (b = a ∧ K.lookup a = none ∧ o = .frz { cls := .type "list", data := .seq vs.toArray } (.lst (ns.map V.int))) ∨ (b ∈ cs.map (·.2) ∧ o = .tbl #[]) := fun b o q => by
    rw [hH] at q
    simp only at q
    split at q
    · rename_i z
      cases q
      exact .inl ⟨z.1, z.2, rfl⟩
    · split at q
      · rename_i z
        cases q
        exact .inr ⟨z, rfl⟩
      · cases q
  have hTb : ∀ p ∈ cs, H p.2 = some (.tbl #[]) := fun p hp => by
    rw [hH]
    show (if p.2 = a ∧ K.lookup a = none then _ else _) = _
    rw [if_neg (fun z => aNo (by rw [← z.1]; exact tMem p hp)), if_pos (tMem p hp)]
  have hlst : SqL K H a (ns.map V.int) := by
    cases q : K.lookup a with
    | none => exact .inl (.inr ⟨{ cls := .type "list", data := .seq vs.toArray }, by rw [hH]; exact if_pos ⟨rfl, q⟩⟩)
    | some o =>
      have z := hK a o q
      rw [hobj] at z
      cases z
      exact .inr ⟨_, vs.toArray, _, q, rfl, rfl, rfl, by rw [List.size_toArray, hin.length]; exact hlen, by simpa using rv⟩
  have hok : HOk P w H s1.heap := fun b o q => by
    rcases hat b o q with ⟨rfl, _, rfl⟩ | ⟨hm, rfl⟩
    · exact ⟨hobj, by rw [List.length_map]; exact hlen, vs, _, rv, hobj⟩
    · exact tAt b hm
  have bs : ∀ {b : Addr} {o : Obj}, s1.heap.get? b = some o → H b = none → (hidT s1.heap H).get? b = some o := fun q n => hidT_get q n
  have noD : ∀ {b : Addr} {o : Obj}, s1.heap.get? b = some o → (∀ vs n, o.data ≠ .seq vs n) → o.data ≠ .fields #[] → H b = none := fun {b o} e h1 h2 => by
    cases z : H b with
    | none => rfl
    | some u =>
      rcases hat b u z with ⟨rfl, _, _⟩ | ⟨hm, _⟩
      · rw [hobj] at e
        cases e
        exact (h1 _ _ rfl).elim
      · rw [tAt b hm] at e
        cases e
        exact (h2 rfl).elim
  have nd : ∀ {b : Addr} {o : Obj} {es : Array DictEntry} {ep : Nat}, s1.heap.get? b = some o → o.data = .dict es ep → H b = none := fun {b o es ep} q d =>
    noD q (fun vs n z => by rw [d] at z; cases z) (fun z => by rw [d] at z; cases z)
  have ns' : ∀ {b : Addr} {m : Str → Option Value}, s1.heap.Ns b m → (hidT s1.heap H).Ns b m := fun {b m} ⟨o, es, ep, q, d, r⟩ => ⟨o, es, ep, bs q (nd q d), d, r⟩
  have hKb : K.In (hidT s1.heap H) := fun b o q => bs (hK b o q) (by
    cases z : H b with
    | none => rfl
    | some u =>
      rcases hat b u z with ⟨rfl, z2, _⟩ | ⟨hm, _⟩
      · rw [z2] at q
        cases q
      · obtain ⟨p, hp, rfl⟩ := List.mem_map.mp hm
        rw [nT p hp] at q
        cases q)
  have mo : Mod K mg (hidT s1.heap H) := ⟨hKb, ns' hm, ⟨mb, ns' hb, hbb⟩, by obtain ⟨mc, q1, q2⟩ := hno; exact ⟨mc, ns' q1, q2⟩⟩
  have e0 : Env0 P w K mg (hidT s1.heap H) callerA [] s1 H := ⟨rfl, mo, fun b o q => of_hidT q, Nat.le_of_eq (hidT_size _ _), trivial, fun b q => by simp [frs] at q, hok, .of_eq hgen⟩
  have TB : ∀ p ∈ cs, LamX.TabB (hidT s1.heap H) mg p.1 p.2 := fun p hp => by
    have hTp := hT p hp
    refine ⟨?_, ?_, fun z => ?_⟩
    · obtain ⟨o, us, file, tf, flags, tg, inF, text, tt, e1, r1, r2, r3, r4, r5, r6, r7, r8, hne⟩ := Cd p hp
      refine ⟨o, us, file, tf, flags, tg, inF, text, tt, bs e1 (noD e1 (fun vs n z => ?_) fun z => ?_), r1, r2, r3, r4, r5, r6, r7, r8, hne⟩
      · rw [r2] at z
        cases z
      · rw [r2] at z
        cases z
        simp at r3
    · obtain ⟨bm, ob, b1, b2, b3, b4, b5, b6⟩ := hbm
      have nG : bm ≠ mainGlobals := fun q => by
        obtain ⟨o, es, ep, e, hd, _⟩ := hm
        rw [q, e] at b3
        cases b3
        rw [hd] at b6
        cases b6
      have nP : bm ≠ p.2 := fun q => by
        rw [q, hTp] at b3
        cases b3
        cases b6
      refine ⟨bm, ob, b1, b2, nG, nP, bs b3 (noD b3 (fun vs n z => ?_) fun z => ?_), b4, b5, b6⟩
      · rw [b6] at z
        cases z
      · rw [b6] at z
        cases z
    · obtain ⟨o, es, ep, e, hd, _⟩ := hm
      rw [z, hTp] at e
      cases e
      cases hd
  refine codeAny_mono ((hF _ hKb (ns' hm) TB).run callerA [] s1 H ⟨[.ref a], []⟩ [.ref a] [.ref a] _ _ rfl hroom e0 (hbi s1 (.ref a)) (.cons rfl .nil) (hsp H hTb hlst)) fun r s' q => ?_
  cases r with
  | error e =>
    obtain ⟨_, _, _, _, _, _, _, _, _, _, _, _, z⟩ := q
    exact z.elim
  | ok fl =>
    cases fl with
    | next => exact q.elim
    | brk => exact q.elim
    | cont => exact q.elim
    | ret u =>
      obtain ⟨v, H', q1, q2, q3, q4, q5, q6⟩ := q
      subst q6
      cases (show u = Value.bool true from q5)
      have key : ∀ b o, b ∉ cs.map (·.2) → s1.heap.get? b = some o → s'.heap.get? b = some o := fun b o nb e => by
        cases z : H b with
        | none => exact q3.keep b o e z (fun w => by simp [frs] at w) (by simp)
        | some u =>
          rcases hat b u z with ⟨rfl, _, rfl⟩ | ⟨hm, _⟩
          · have z2 := q3.frzs _ _ _ z
            obtain ⟨e2, _⟩ := q4 _ _ z2
            rw [hobj] at e
            cases e
            exact e2
          · exact (nb hm).elim
      have grown : ∀ p ∈ cs, ∃ more : Array Value, s'.heap.get? p.2 = some { cls := .none, data := .fields more } := fun p hp => by
        obtain ⟨more, z⟩ := q3.tbls p.2 #[] (hTb p hp)
        exact ⟨_, q4 p.2 _ z⟩
      refine ⟨rfl, ⟨fun b o e => ?_, fun b o e => ?_⟩, q1, q2⟩
      · by_cases hb : b ∈ cs.map (·.2)
        · obtain ⟨p, hp, ep⟩ := List.mem_map.mp hb
          obtain ⟨more, hm⟩ := grown p hp
          rw [← ep] at e ⊢
          rw [hT p hp] at e
          cases e
          exact .inr (.inl ⟨((Cd p hp).tab (hT p hp)).isCodeTable, rfl, #[], more, rfl, by rw [Array.empty_append]; exact hm⟩)
        · exact .inl (key b o hb e)
      · by_cases hb : b ∈ cs.map (·.2)
        · obtain ⟨p, hp, ep⟩ := List.mem_map.mp hb
          obtain ⟨more, hm⟩ := grown p hp
          rw [← ep]
          exact ⟨_, hm⟩
        · exact ⟨o, key b o hb e⟩
/-- THE END of a law -/
theorem law_walk {l : PySem.W.OpenLaw} {n k : Nat} {q : Program} {loose : List Str} {XP : (Str → Option Value) → Heap → Prop} {YP : World → Heap → Prop} {d : DefRec} {K : Params → PySem.W.Frag} {sp : PySem.W.Frag → Sp} {x : Str} {cs : PySem.W.Frag → List (Addr × Addr)}
    (hn : l.most = some n) (hn2 : n ≤ sizeLine) (hdf : d.params.defaults = []) (hr : Room k callerA) (hY : ∀ (w : World) (h : Heap), YP w h → (K w.params).In h)
    (hF : ∀ (w : World) (mg : Str → Option Value) (fa : Addr) (h : Heap), (K w.params).In h → h.Ns mainGlobals mg → mg d.name = some (.ref fa) →
      (∀ (x : Str) (d : DefRec) (c P : Addr), (recsOf q).find? (fun e => e.name == x) = some d → PySem.W.tabIn (K w.params) x = some (c, P) → PySem.W.CodeHd h c P ∧ h.get? P = some { cls := .none, data := .fields #[] }) →
      ∃ fd : FuncData, (∀ p ∈ cs (K w.params), h.get? p.2 = some { cls := .none, data := .fields #[] } ∧ (K w.params).lookup p.2 = none ∧ PySem.W.CodeHd h p.1 p.2) ∧ (∀ (s : Shared) (u : Value), BindsTo s fd ⟨[u], []⟩ [(x, u)]) ∧
        ∀ base : Heap, (K w.params).In base → base.Ns mainGlobals mg → (∀ p ∈ cs (K w.params), LamX.TabB base mg p.1 p.2) → FnG l.prog w (K w.params) mg base k fa fd [x] (sp (K w.params)))
    (hsp : ∀ (K : PySem.W.Frag) (H : Hp) (a : Addr) (ns : List Int), ns.length ≤ n → (∀ p ∈ cs K, H p.2 = some (.tbl #[])) → SqL K H a (ns.map V.int) → sp K [.ref a] H (fun v _ => v = .bl true) fun _ _ _ => False) :
    PySem.W.WalkO q loose XP YP l.row.toRowW d [] (fun f vs => PySem.call f vs) := by
  refine Att.attach_call hn hdf fun w s₀ s₁ mg mb fa o pm cd doc a vs ns G Y ho hd hcd hmg hobj hints hlen hg => ?_
  have hKX := hY w _ Y
  obtain ⟨fd, hT, hb, hf⟩ := hF w mg fa _ hKX G.T.g hmg fun x d c P h1 h2 => PySem.W.tab_of G.T hKX h1 h2
  exact law_run hKX G.T.g G.T.b G.T.builtins G.T.nolimit hg (fun p hp => (hT p hp).1) (fun p hp => (hT p hp).2.1) (fun p hp => (hT p hp).2.2) G.T.bmain hobj hints (Nat.le_trans hlen hn2) hr hf hb fun H hH hS => hsp _ H a ns hlen hH hS
/-- what is to be shown of the law: for each script the interpreter gives True -/
theorem law_sp {T : PySem.W.Frag → Tbl} {cs : PySem.W.Frag → List (Addr × Addr)} (hT : ∀ K, (T K).K = K) (hcs : ∀ K, ∀ p ∈ (T K).tt, ∃ q ∈ cs K, q.2 = p.1) {cl : CallF} {f : Nat} {n : Nat} (h : ∀ ns : List Int, ns.length ≤ n → ∃ outs, cl f [.fz (.kst (ns.map D.int))] = .ok (.d (.bl true)) outs)
    (K : PySem.W.Frag) (H : Hp) (a : Addr) (ns : List Int) (hl : ns.length ≤ n) (hH : ∀ p ∈ cs K, H p.2 = some (.tbl #[])) (hS : SqL K H a (ns.map V.int)) : spF (T K) cl f 1 [.ref a] H (fun v _ => v = .bl true) fun _ _ _ => False := by
  have hr : ∀ (G : Hp) (ns : List Int), RepAll (T K) G (ns.map D.int) (ns.map V.int) := fun G ns => by
    induction ns with
    | nil => simp [RepAll]
    | cons i r ih => simp only [List.map_cons, RepAll]; exact ⟨_, _, rfl, r_int _ _ _, ih⟩
  have hHt : ∀ p ∈ (T K).tt, H p.1 = some (.tbl #[]) := fun p hp => by
    obtain ⟨q, hq, e⟩ := hcs K p hp
    rw [← e]; exact hH q hq
  obtain ⟨G, hG⟩ : ∃ G : Hp, G = fun b => if b ∈ (T K).tt.map (·.1) then none else H b := ⟨_, rfl⟩
  have gE : Ext G H := fun b o e => by
    rw [hG] at e
    simp only at e
    split at e
    · cases e
    · exact e
  have gk : ∀ b, b ∉ (T K).tt.map (·.1) → G b = H b := fun b hb => by rw [hG]; exact if_neg hb
  have nt : ∀ {b : Addr} {u : HO}, H b = some u → (∀ ps, u ≠ .tbl ps) → b ∉ (T K).tt.map (·.1) := fun {b u} e n z => by
    obtain ⟨p, hp, rfl⟩ := List.mem_map.mp z
    rw [hHt p hp] at e
    exact n _ (Option.some.inj e).symm
  have hSG : SqL K G a (ns.map V.int) := by
    rcases hS with (e | ⟨o, e⟩) | e
    · exact .inl (.inl (by rw [gk a (nt e nofun)]; exact e))
    · exact .inl (.inr ⟨o, by rw [gk a (nt e nofun)]; exact e⟩)
    · exact .inr e
  refine ⟨G, [.fz (.kst (ns.map D.int))], gE, ⟨.ref a, [], rfl, ?_, rfl⟩, fun i j b hi => ?_, rfl, ⟨fun p hp => LamX.TabS.nil (hHt p hp), fun p hp => ?_⟩, ?_⟩
  · simp only [Rep]
    exact ⟨a, _, rfl, by rw [hT]; exact hSG, hr G ns⟩
  · cases i with
    | zero => simp [ioL] at hi
    | succ i => simp [ioL] at hi
  · rw [hG]
    exact if_pos (List.mem_map.mpr ⟨p, hp, rfl⟩)
  · obtain ⟨outs, q⟩ := h ns hl
    rw [q]
    intro v H0' H' _ hv _
    have hv' : Rep (T K) H0' (.bl true) v := hv
    simpa only [Rep] using hv'
end PP
end

section
set_option maxHeartbeats 1000000
namespace PP
open PySem PySem.Spec PyProof.Rows L2
section
variable {X : Cx} {C : Ctx} {W : WX} {cl : CallF} {e a b c : Expr} {es rest : List Expr} {e' a' b' c' : Ex} {es' : Exs} {pos : Pos} {st : Stmt}
theorem c_ife (hc : PT X c (tT C W cl c')) (ha : PE X a (tI C W cl a')) (hb : PE X b (tI C W cl b')) : PE X (.IfExp c a b pos) (tI C W cl (.ife c' a' b')) :=
  peI (pe_ifExp hc ha hb) fun σ H Q ⟨H0, env, S, q⟩ => by
    simp only [ev] at q
    have q' : RQ C W σ (KV C σ Q) H0 ((evT cl c' env).bind fun t env1 => match t with | true => ev cl a' env1 | false => ev cl b' env1) := by
      unfold evT
      cases z : ev cl c' env with
      | bad => simp only [z, R.bind_bad] at q ⊢; exact q
      | exc x env1 => simp only [z, R.bind_exc] at q ⊢; exact q
      | ok u env1 =>
        simp only [z, R.bind_ok] at q ⊢
        cases z1 : rdU env1 u with
        | none => simp only [z1, orBad_none] at q; exact q.elim
        | some d =>
          simp only [z1, orBad_some] at q ⊢
          cases z2 : truD d with
          | none => simp only [z2, orBad_none] at q; exact q.elim
          | some t => simp only [z2, orBad_some, R.bind_ok] at q ⊢; exact q
    refine seqT S q' fun t env1 H1 H1' e1 S1 q1 => ?_
    cases t with
    | true => rw [if_pos rfl]; exact ⟨H1, env1, S1, q1⟩
    | false => rw [if_neg Bool.false_ne_true]; exact ⟨H1, env1, S1, q1⟩
/-! tests -/
theorem evT_and (env : Env) : evT cl (.and a' b') env = (evT cl a' env).bind fun t env1 => match t with | true => evT cl b' env1 | false => .ok false env1 := by
  unfold evT
  simp only [ev]
  cases z : ev cl a' env with
  | bad => rfl
  | exc x env1 => rfl
  | ok u env1 =>
    simp only [R.bind_ok]
    cases z1 : rdU env1 u with
    | none => rfl
    | some d =>
      simp only [orBad_some]
      cases z2 : truD d with
      | none => rfl
      | some t =>
        simp only [orBad_some, R.bind_ok]
        cases t with
        | true => rfl
        | false =>
          have : rdU env1 (pend u) = some d := by cases u <;> exact z1
          simp only [R.bind_ok, this, orBad_some, z2]
theorem evT_or (env : Env) : evT cl (.or a' b') env = (evT cl a' env).bind fun t env1 => match t with | true => .ok true env1 | false => evT cl b' env1 := by
  unfold evT
  simp only [ev]
  cases z : ev cl a' env with
  | bad => rfl
  | exc x env1 => rfl
  | ok u env1 =>
    simp only [R.bind_ok]
    cases z1 : rdU env1 u with
    | none => rfl
    | some d =>
      simp only [orBad_some]
      cases z2 : truD d with
      | none => rfl
      | some t =>
        simp only [orBad_some, R.bind_ok]
        cases t with
        | false => rfl
        | true =>
          have : rdU env1 (pend u) = some d := by cases u <;> exact z1
          simp only [R.bind_ok, this, orBad_some, z2]
theorem evT_not (env : Env) : evT cl (.not a') env = (evT cl a' env).bind fun t env1 => .ok (!t) env1 := by
  unfold evT
  simp only [ev]
  cases z : ev cl a' env with
  | bad => rfl
  | exc x env1 => rfl
  | ok u env1 =>
    simp only [R.bind_ok]
    cases z1 : rdU env1 u with
    | none => rfl
    | some d =>
      simp only [orBad_some]
      cases z2 : truD d with
      | none => rfl
      | some t => simp only [orBad_some, R.bind_ok, rdU, truD]
def isCmp : O2 → Bool
  | .lt => true | .le => true | .gt => true | .ge => true | .eq => true | .ne => true | .is => true | .isnot => true | .isin => true | .notin => true | _ => false
theorem inD_bl {x d : D} {ys : List D} (h : inD x ys = some d) : ∃ p ps, toPy x = some p ∧ toPyAll ys = some ps ∧ SeqAt.shaped p = true ∧ SeqAt.shaped (.list ps) = true ∧ d = .bl (ps.any fun z => PyData.eqv z p) := by
  unfold inD at h
  split at h
  · rename_i p ps h1 h2
    split at h
    · rename_i z
      cases h
      rw [Bool.and_eq_true] at z
      exact ⟨p, ps, h1, h2, z.1, z.2, rfl⟩
    · cases h
  · cases h
theorem inS_bl {x y : Str} {d : D} (h : inS x y = some d) : ∃ c, x = ⟨#[c]⟩ ∧ d = .bl (decide (c ∈ y.cps.toList)) := by
  unfold inS at h
  split at h
  · rename_i c hc
    cases h
    refine ⟨c, ?_, rfl⟩
    obtain ⟨a⟩ := x
    have : a = #[c] := by apply Array.ext'; simpa using hc
    rw [this]
  · cases h
theorem isin_inv {x y d : D} (h : op2 .isin x y = some d) : (∃ ys, (y = .lst ys ∨ y = .kst ys) ∧ inD x ys = some d) ∨ ∃ a b, x = .str a ∧ y = .str b ∧ inS a b = some d := by
  cases y with
  | lst ys => exact .inl ⟨ys, .inl rfl, by cases x <;> exact h⟩
  | kst ys => exact .inl ⟨ys, .inr rfl, by cases x <;> exact h⟩
  | str b => cases x with
    | str a => exact .inr ⟨a, b, rfl, rfl, h⟩
    | _ => cases h
  | _ => cases x <;> cases h
theorem notin_inv {x y d : D} (h : op2 .notin x y = some d) : (∃ ys b, (y = .lst ys ∨ y = .kst ys) ∧ inD x ys = some (.bl b) ∧ d = .bl (!b)) ∨ ∃ a z b, x = .str a ∧ y = .str z ∧ inS a z = some (.bl b) ∧ d = .bl (!b) := by
  cases y with
  | lst ys =>
    have h' : ((inD x ys).map fun d => match d with | .bl b => .bl (!b) | d => d) = some d := by cases x <;> exact h
    rw [Option.map_eq_some_iff] at h'
    obtain ⟨z, hz, rfl⟩ := h'
    obtain ⟨_, _, _, _, _, _, rfl⟩ := inD_bl hz
    exact .inl ⟨ys, _, .inl rfl, hz, rfl⟩
  | kst ys =>
    have h' : ((inD x ys).map fun d => match d with | .bl b => .bl (!b) | d => d) = some d := by cases x <;> exact h
    rw [Option.map_eq_some_iff] at h'
    obtain ⟨z, hz, rfl⟩ := h'
    obtain ⟨_, _, _, _, _, _, rfl⟩ := inD_bl hz
    exact .inl ⟨ys, _, .inr rfl, hz, rfl⟩
  | str z => cases x with
    | str a =>
      have h' : ((inS a z).map fun d => match d with | .bl b => .bl (!b) | d => d) = some d := h
      rw [Option.map_eq_some_iff] at h'
      obtain ⟨w, hz, rfl⟩ := h'
      obtain ⟨_, _, rfl⟩ := inS_bl hz
      exact .inr ⟨a, z, _, rfl, rfl, hz, rfl⟩
    | _ => cases h
  | _ => cases x <;> cases h
theorem cmp_bl {o : O2} (h : isCmp o = true) {x y d : D} (q : op2 o x y = some d) : ∃ b, d = .bl b := by
  cases o <;> first | (cases h; done) | skip
  · cases x <;> first | (cases q; done) | (cases y <;> first | (cases q; done) | (cases q; exact ⟨_, rfl⟩))
  · cases x <;> first | (cases q; done) | (cases y <;> first | (cases q; done) | (cases q; exact ⟨_, rfl⟩))
  · cases x <;> first | (cases q; done) | (cases y <;> first | (cases q; done) | (cases q; exact ⟨_, rfl⟩))
  · cases x <;> first | (cases q; done) | (cases y <;> first | (cases q; done) | (cases q; exact ⟨_, rfl⟩))
  · have q' : (eqD x y).map D.bl = some d := by cases x <;> cases y <;> exact q
    rw [Option.map_eq_some_iff] at q'
    obtain ⟨b, _, rfl⟩ := q'
    exact ⟨b, rfl⟩
  · have q' : ((eqD x y).map fun b => D.bl (!b)) = some d := by cases x <;> cases y <;> exact q
    rw [Option.map_eq_some_iff] at q'
    obtain ⟨b, _, rfl⟩ := q'
    exact ⟨!b, rfl⟩
  · rcases isin_inv q with ⟨_, _, hz⟩ | ⟨_, _, _, _, hz⟩
    · obtain ⟨_, _, _, _, _, _, rfl⟩ := inD_bl hz; exact ⟨_, rfl⟩
    · obtain ⟨_, _, rfl⟩ := inS_bl hz; exact ⟨_, rfl⟩
  · rcases notin_inv q with ⟨_, b, _, _, rfl⟩ | ⟨_, _, b, _, _, _, rfl⟩ <;> exact ⟨_, rfl⟩
  · rcases is_inv q with ⟨_, rfl⟩ | ⟨_, _, r, rfl, _⟩ <;> exact ⟨_, rfl⟩
  · rcases isnot_inv q with ⟨_, rfl⟩ | ⟨_, _, r, rfl, _⟩ <;> exact ⟨_, rfl⟩
theorem RepG.bl {T : Tbl} {H0' H' H : Hp} {b : Bool} {v : V} (r : RepG T H0' H' H (.bl b) v) : v = .bl b := by simpa only [RepG, isMutD, Rep, Bool.false_eq_true, if_false] using r
theorem t_cmp {op : CmpOp} {o : O2} (ho : OpR X (compareOp op) (rD C.T (op2 o))) (ha : PE X a (tI C W cl a')) (hb : PE X b (tI C W cl b')) (hm : behindInMarks op b = false) (hc : isCmp o = true := by rfl) : PT X (.Compare a [op] [b] pos) (tT C W cl (.op2 o a' b')) :=
  ptI (pt_cmpR ho ha hb hm) fun σ H Q ⟨H0, env, S, q⟩ => by
    simp only [evT, ev] at q
    have q' : RQ C W σ (fun b _ _ H' => Q b H') H0 ((ev cl a' env).bind fun u env1 => (ev cl b' env1).bind fun w env2 => orBad (rdU env2 (pend u)) fun x => orBad (rdU env2 w) fun y => orBad (op2 o x y) fun z => orBad (truD z) fun t => .ok t env2) := by
      cases z : ev cl a' env with
      | bad => simp only [z, R.bind_bad] at q ⊢; exact q
      | exc x env1 => simp only [z, R.bind_exc] at q ⊢; exact q
      | ok u env1 =>
        simp only [z, R.bind_ok] at q ⊢
        cases z1 : ev cl b' env1 with
        | bad => simp only [z1, R.bind_bad] at q ⊢; exact q
        | exc x env1 => simp only [z1, R.bind_exc] at q ⊢; exact q
        | ok w env2 =>
          simp only [z1, R.bind_ok] at q ⊢
          cases z2 : rdU env2 (pend u) with
          | none => simp only [z2, orBad_none, R.bind_bad] at q; exact q.elim
          | some x =>
            cases z3 : rdU env2 w with
            | none => simp only [z2, z3, orBad_none, orBad_some, R.bind_bad] at q; exact q.elim
            | some y =>
              cases z4 : op2 o x y with
              | none => simp only [z2, z3, z4, orBad_none, orBad_some, R.bind_bad] at q; exact q.elim
              | some d => simp only [z2, z3, z4, orBad_some, R.bind_ok] at q ⊢; exact q
    refine seqI S q' fun u env1 x H1 H1' e1 S1 u1 q1 => ?_
    obtain ⟨H1f, e1f, S1f, u1f⟩ := S1.pend u1
    refine seqI S1f (RQ.mono e1f q1) fun w env2 y H2 H2' e2 S2 u2 q2 => ?_
    obtain ⟨dx, hx, q2⟩ := q2.orB
    obtain ⟨dy, hy, q2⟩ := q2.orB
    obtain ⟨z, hz, q2⟩ := q2.orB
    obtain ⟨t, ht, q2⟩ := q2.orB
    obtain ⟨bb, rfl⟩ := cmp_bl hc hz
    simp only [truD, Option.some.injEq] at ht
    subst ht
    refine ⟨H2, dx, dy, _, S2.ex, S2.rd (u1f.wait e2) hx, S2.rd u2 hy, hz, fun v H0' H' g r => ?_⟩
    exact ⟨bb, r.bl, q2 H0' H' g.e0 (S2.gr g)⟩
theorem t_chain {op op' : CmpOp} {o p : O2} (ho : OpR X (compareOp op) (rD C.T (op2 o))) (ho' : OpR X (compareOp op') (rD C.T (op2 p))) (ha : PE X a (tI C W cl a')) (hb : PE X b (tI C W cl b')) (hc : PE X c (tI C W cl c'))
    (hm : lastMarks [op, op'] [b, c] = false := by with_unfolding_all rfl) (hcm : isCmp p = true := by rfl) : PT X (.Compare a [op, op'] [b, c] pos) (tT C W cl (.chain o p a' b' c')) :=
  ⟨fun pins s σ H Q I ⟨H0, env, S, q⟩ => by
    -- by the value: it is a bool
    refine (pt_chain ho ho' ha hb hc hm).run pins s σ H Q I ?_
    simp only [evT, ev] at q
    have q' : RQ C W σ (fun b _ _ H' => Q b H') H0 ((ev cl a' env).bind fun u env1 => ((ev cl b' env1).bind fun w env2 => orBad (rdU env2 (pend u)) fun x => orBad (rdU env2 (pend w)) fun y => orBad (op2 o x y) fun z => match z with
        | .bl true => (ev cl c' env2).bind fun q env3 => orBad (rdU env3 (pend w)) fun y' => orBad (rdU env3 q) fun r => orBad (op2 p y' r) fun z' => .ok (.nw z') env3
        | .bl false => .ok (.nw (.bl false)) env2
        | _ => .bad).bind fun u env1 => orBad (rdU env1 u) fun x => orBad (truD x) fun t => .ok t env1) := by
      cases z : ev cl a' env with
      | bad => simp only [z, R.bind_bad] at q ⊢; exact q
      | exc x env1 => simp only [z, R.bind_exc] at q ⊢; exact q
      | ok u env1 => simp only [z, R.bind_ok] at q ⊢; exact q
    refine seqI S q' fun u env1 x H1 H1' e1 S1 u1 q1 => ?_
    obtain ⟨H1f, e1f, S1f, u1f⟩ := S1.pend u1
    have q1f := RQ.mono e1f q1
    have q1' : RQ C W σ (fun b _ _ H' => Q b H') H1f ((ev cl b' env1).bind fun w env2 => (orBad (rdU env2 (pend u)) fun x => orBad (rdU env2 (pend w)) fun y => orBad (op2 o x y) fun z => match z with
        | .bl true => (ev cl c' env2).bind fun q env3 => orBad (rdU env3 (pend w)) fun y' => orBad (rdU env3 q) fun r => orBad (op2 p y' r) fun z' => .ok (.nw z') env3
        | .bl false => .ok (.nw (.bl false)) env2
        | _ => .bad).bind fun u env1 => orBad (rdU env1 u) fun x => orBad (truD x) fun t => .ok t env1) := by
      cases z : ev cl b' env1 with
      | bad => simp only [z, R.bind_bad] at q1f ⊢; exact q1f
      | exc x env1 => simp only [z, R.bind_exc] at q1f ⊢; exact q1f
      | ok u env1 => simp only [z, R.bind_ok] at q1f ⊢; exact q1f
    refine seqI S1f q1' fun w env2 y H2 H2' e2 S2 u2 q2 => ?_
    obtain ⟨H2f, e2f, S2f, u2f⟩ := S2.pend u2
    have q2 := RQ.mono e2f q2
    cases hx : rdU env2 (pend u) with
    | none => simp only [hx, orBad_none, R.bind_bad] at q2; exact q2.elim
    | some dx =>
    cases hy : rdU env2 (pend w) with
    | none => simp only [hx, hy, orBad_none, orBad_some, R.bind_bad] at q2; exact q2.elim
    | some dy =>
    cases hz : op2 o dx dy with
    | none => simp only [hx, hy, hz, orBad_none, orBad_some, R.bind_bad] at q2; exact q2.elim
    | some z =>
    simp only [hx, hy, hz, orBad_some] at q2
    refine ⟨H2f, dx, dy, z, S2f.ex, S2f.rd (u1f.wait (e2.tr e2f)) hx, S2f.rd u2f hy, hz, fun v H0' H' g r => ?_⟩
    split at q2
    · cases r.bl
      refine ⟨true, rfl, ?_⟩
      rw [if_pos rfl]
      have S3 := S2f.gr g
      have q2g := RQ.mono g.e0 q2
      have q2' : RQ C W σ (fun b _ _ H' => Q b H') H0' ((ev cl c' env2).bind fun q env3 => orBad (rdU env3 (pend w)) fun y' => orBad (rdU env3 q) fun r => orBad (op2 p y' r) fun z' => orBad (truD z') fun t => .ok t env3) := by
        cases z : ev cl c' env2 with
        | bad => simp only [z, R.bind_bad] at q2g ⊢; exact q2g
        | exc x env1 => simp only [z, R.bind_exc] at q2g ⊢; exact q2g
        | ok q env3 =>
          simp only [z, R.bind_ok] at q2g ⊢
          cases z2 : rdU env3 (pend w) with
          | none => simp only [z2, orBad_none, R.bind_bad] at q2g; exact q2g.elim
          | some x =>
            cases z3 : rdU env3 q with
            | none => simp only [z2, z3, orBad_none, orBad_some, R.bind_bad] at q2g; exact q2g.elim
            | some y =>
              cases z4 : op2 p x y with
              | none => simp only [z2, z3, z4, orBad_none, orBad_some, R.bind_bad] at q2g; exact q2g.elim
              | some d => simp only [z2, z3, z4, orBad_some, R.bind_ok] at q2g ⊢; exact q2g
      refine seqI S3 q2' fun t env3 y3 H3 H3' e3 S4 u3 q3 => ?_
      obtain ⟨dy', hy', q3⟩ := q3.orB
      obtain ⟨dr, hr, q3⟩ := q3.orB
      obtain ⟨z', hz', q3⟩ := q3.orB
      obtain ⟨tt, ht, q3⟩ := q3.orB
      obtain ⟨bb, rfl⟩ := cmp_bl hcm hz'
      simp only [truD, Option.some.injEq] at ht
      subst ht
      exact ⟨H3, dy', dr, _, S4.ex, S4.rd (u2f.wait (g.e0.tr e3)) hy', S4.rd u3 hr, hz', fun v H0' H' g r => ⟨bb, r.bl, q3 H0' H' g.e0 (S4.gr g)⟩⟩
    · cases r.bl
      refine ⟨false, rfl, ?_⟩
      rw [if_neg Bool.false_ne_true]
      simp only [R.bind_ok, rdU, orBad_some, truD] at q2
      exact ⟨false, rfl, q2 H0' H' g.e0 (S2f.gr g)⟩
    · exact q2.elim⟩
theorem w_and1 {op : BoolOp} (ha : PT X a (tT C W cl a')) : PW X (.BoolOp .And [a] pos) (tT C W cl a') := pw_and1 ha
theorem w_or1 (ha : PT X a (tT C W cl a')) : PW X (.BoolOp .Or [a] pos) (tT C W cl a') := pw_or1 ha
theorem w_and (ha : PT X a (tT C W cl a')) (hb : PW X (.BoolOp .And (b :: rest) pos) (tT C W cl b')) : PW X (.BoolOp .And (a :: b :: rest) pos) (tT C W cl (.and a' b')) :=
  pwI (pw_and ha hb) fun σ H Q ⟨H0, env, S, q⟩ => by
    rw [evT_and] at q
    refine seqT S q fun t env1 H1 H1' e1 S1 q1 => ?_
    cases t with
    | true => rw [if_pos rfl]; exact ⟨H1, env1, S1, q1⟩
    | false => rw [if_neg Bool.false_ne_true]; exact q1 H1 H1' (Ext.rfl' _) S1
theorem w_or (ha : PT X a (tT C W cl a')) (hb : PW X (.BoolOp .Or (b :: rest) pos) (tT C W cl b')) : PW X (.BoolOp .Or (a :: b :: rest) pos) (tT C W cl (.or a' b')) :=
  pwI (pw_or ha hb) fun σ H Q ⟨H0, env, S, q⟩ => by
    rw [evT_or] at q
    refine seqT S q fun t env1 H1 H1' e1 S1 q1 => ?_
    cases t with
    | false => rw [if_neg Bool.false_ne_true]; exact ⟨H1, env1, S1, q1⟩
    | true => rw [if_pos rfl]; exact q1 H1 H1' (Ext.rfl' _) S1
theorem t_not (ha : PT X a (tT C W cl a')) : PT X (.UnaryOp .Not a pos) (tT C W cl (.not a')) :=
  ptI (pt_not ha) fun σ H Q ⟨H0, env, S, q⟩ => by
    rw [evT_not] at q
    exact seqT S q fun t env1 H1 H1' e1 S1 q1 => q1 H1 H1' (Ext.rfl' _) S1
theorem c_dic : PE X (.Dict [] [] pos) (tI C W cl .dic) := peI pe_dnewK fun σ H Q ⟨H0, env, S, q⟩ => by
  simp only [ev] at q
  intro p hp
  refine fin_nw S q (Gr.own S.ex hp) ?_
  show (if true = true then _ else _)
  rw [if_pos rfl]
  exact ⟨p, rfl, hp, p, [], rfl, S.ex.no hp, upd_same, rfl, rfl⟩
theorem s_never : PS X st (tS C W cl .never) := psI ps_never fun E σ H ⟨H0, env, S, q⟩ => q
/-! several names -/
/-- the targets of a tuple's parts -/
def gNs : List Nat → TGs
  | [] => gNil
  | i :: is => gCons (gName i) (gNs is)
theorem gNs_ok {is : List Nat} : ∀ {ds : List D} {vs : List V} {σ : L2.St} {H0 H : Hp} {env env2 : Env} {Q : L2.St → Hp → Prop}, Sim C σ H0 H env → RepAll C.T H0 ds vs → storeAll is ds env = some env2 → (∀ σ', Sim C σ' H0 H env2 → Q σ' H) → gNs is vs σ H Q := by
  induction is with
  | nil =>
    intro ds vs σ H0 H env env2 Q S hr h hq
    cases ds with
    | nil =>
      simp only [RepAll] at hr
      simp only [storeAll, Option.some.injEq] at h
      subst h
      exact ⟨hr, hq _ S⟩
    | cons _ _ => simp [storeAll] at h
  | cons i is ih =>
    intro ds vs σ H0 H env env2 Q S hr h hq
    cases ds with
    | nil => simp [storeAll] at h
    | cons d ds =>
      simp only [RepAll] at hr
      obtain ⟨v, r, rfl, h1, h2⟩ := hr
      simp only [storeAll] at h
      exact ⟨v, r, rfl, ih (S.store (s := .fz d) rfl ⟨_, rfl, h1⟩ fun _ _ z => by cases z) h2 h hq⟩
theorem Sim.two {σ : L2.St} {H0 H : Hp} {env env2 : Env} (S : Sim C σ H0 H env) {i j : Nat} {x y : V} {ds : List D} (hr : RepAll C.T H0 ds [x, y]) (h : storeAll [i, j] ds env = some env2) : Sim C ((σ.set i (some x)).set j (some y)) H0 H env2 := by
  have z : gNs [i, j] [x, y] σ H (fun σ' H' => Sim C σ' H0 H' env2) := gNs_ok S hr h fun σ' s => s
  obtain ⟨v1, r1, e1, v2, r2, e2, e3, q⟩ := z
  cases e1
  cases e2
  exact q
theorem Sim.three {σ : L2.St} {H0 H : Hp} {env env2 : Env} (S : Sim C σ H0 H env) {i j k : Nat} {x y w : V} {ds : List D} (hr : RepAll C.T H0 ds [x, y, w]) (h : storeAll [i, j, k] ds env = some env2) : Sim C (((σ.set i (some x)).set j (some y)).set k (some w)) H0 H env2 := by
  have z : gNs [i, j, k] [x, y, w] σ H (fun σ' H' => Sim C σ' H0 H' env2) := gNs_ok S hr h fun σ' s => s
  obtain ⟨v1, r1, e1, v2, r2, e2, v3, r3, e3, e4, q⟩ := z
  cases e1
  cases e2
  cases e3
  exact q
theorem storeAll_len : ∀ {is : List Nat} {ds : List D} {env env2 : Env}, storeAll is ds env = some env2 → ds.length = is.length
  | [], [], _, _, _ => rfl
  | _ :: is, _ :: ds, _, _, h => by simp only [storeAll] at h; simp [storeAll_len h]
  | [], _ :: _, _, _, h => by simp [storeAll] at h
  | _ :: _, [], _, _, h => by simp [storeAll] at h
theorem seqF {σ : L2.St} {H0 H : Hp} {env : Env} {E : Ends} {f : List D → Env → R Fl} (S : Sim C σ H0 H env) (h : RS C W E H0 ((evF cl es' env).bind f)) {Q : List V → Hp → Prop}
    (hQ : ∀ ds env1 vs H01 H1, Ext H0 H01 → Sim C σ H01 H1 env1 → RepAll C.T H01 ds vs → RS C W E H01 (f ds env1) → Q vs H1) : tAF C W cl es' σ H Q := by
  refine ⟨H0, env, S, ?_⟩
  cases q : evF cl es' env with
  | ok u env1 =>
    rw [q] at h
    exact fun H01 H1 e s vs hv => hQ u env1 vs H01 H1 e s hv (RS.mono e h)
  | exc x env1 =>
    rw [q] at h
    exact fun cls d H0' H' e s x => h σ cls d H0' H' e s x
  | bad => rw [q] at h; exact h
theorem s_par2 {i j : Nat} (h : PS X st (tPar i j (tAF C W cl es'))) : PS X st (tS C W cl (.par [i, j] es')) := psI h fun E σ H ⟨H0, env, S, q⟩ => by
  simp only [ex] at q
  refine seqF S q fun ds env1 vs H1 H1' e1 S1 hv q1 => ?_
  obtain ⟨env2, hs, q1⟩ := q1.orB
  have hl := hv.len
  rw [storeAll_len hs] at hl
  match vs, hl with
  | [x, y], _ => exact ⟨x, y, rfl, q1 _ H1 H1' (Ext.rfl' _) (S1.two hv hs)⟩
theorem s_par3 {i j k : Nat} (h : PS X st (tPar3 i j k (tAF C W cl es'))) : PS X st (tS C W cl (.par [i, j, k] es')) := psI h fun E σ H ⟨H0, env, S, q⟩ => by
  simp only [ex] at q
  refine seqF S q fun ds env1 vs H1 H1' e1 S1 hv q1 => ?_
  obtain ⟨env2, hs, q1⟩ := q1.orB
  have hl := hv.len
  rw [storeAll_len hs] at hl
  match vs, hl with
  | [x, y, z], _ => exact ⟨x, y, z, rfl, q1 _ H1 H1' (Ext.rfl' _) (S1.three hv hs)⟩
def gUn (K : PySem.W.Frag) (n : Nat) (t : TGs) : TG := fun v σ H Q => gTup K n t v σ H Q ∨ gUnl K n t v σ H Q
theorem pg_un {es : List Expr} {k : Nat} {t : TGs} {n : Nat} (hc : X.calm = true) (h : PGs X es t)
    (hn : (assignEach es X.env).length = n := by rfl) (hst : (assignEach es X.env).findIdx? (·.1) = none := by rfl) : PG X (.Tuple es k pos) (gUn X.K n t) :=
  ⟨fun pins s σ H v u Q I r hw => hw.elim (fun q => (pg_tup hc h hn hst).run pins s σ H v u Q I r q) fun q => (pg_unl hc h hn hst).run pins s σ H v u Q I r q⟩
theorem s_unp {is : List Nat} {n : Nat} (hn : is.length = n) (hK : X.K = C.T.K) (h : PS X st (tAsg (tI C W cl e') (gUn X.K n (gNs is)))) : PS X st (tS C W cl (.unp is e')) := psI h fun E σ H ⟨H0, env, S, q⟩ => by
  simp only [ex] at q
  refine seqE S q fun u env1 v H1 H1' e1 S1 u1 q1 => ?_
  obtain ⟨d, hd, q1⟩ := q1.orB
  split at q1
  · rename_i ds
    obtain ⟨env2, hs, q1⟩ := q1.orB
    obtain ⟨a, xs, rfl, h1, h2⟩ := rd_tup S1.ex (S1.rd u1 hd)
    exact .inl ⟨a, xs, rfl, hK ▸ h1, by rw [h2.len, storeAll_len hs, hn], gNs_ok S1 h2 hs fun σ' S' => q1 σ' H1 H1' (Ext.rfl' _) S'⟩
  · rename_i ds
    obtain ⟨env2, hs, q1⟩ := q1.orB
    obtain ⟨a, xs, rfl, h1, h2⟩ := rd_lst S1.ex (S1.rd u1 hd)
    exact .inr ⟨a, xs, rfl, .inl h1, by rw [h2.len, storeAll_len hs, hn], gNs_ok S1 h2 hs fun σ' S' => q1 σ' H1 H1' (Ext.rfl' _) S'⟩
  · rename_i ds
    obtain ⟨env2, hs, q1⟩ := q1.orB
    obtain ⟨a, xs, rfl, h1, h2⟩ := rd_kst S1.ex (S1.rd u1 hd)
    exact .inr ⟨a, xs, rfl, hK ▸ h1, by rw [h2.len, storeAll_len hs, hn], gNs_ok S1 h2 hs fun σ' S' => q1 σ' H1 H1' (Ext.rfl' _) S'⟩
  · exact q1.elim
/-! a call with keywords -/
theorem k_pk {kws : List Keyword} {ms : List Bool} {nm : Option Str} {kpos : Pos} {m : Bool} (ha : PE X e (tI C W cl e')) (hr : PK X kws (tAC C W cl ms es')) : PK X (⟨nm, e, kpos⟩ :: kws) (tAC C W cl (false :: ms) (.cons e' es')) :=
  ⟨fun pos pins s σ H Q I ⟨H0, env, S, q⟩ => (pk_cons ha hr).run pos pins s σ H Q I (by
    simp only [evC] at q
    refine seqI S q fun u env1 x H1 H1' e1 S1 u1 q1 => ?_
    obtain ⟨⟨d, env2⟩, hf, q1⟩ := q1.orB
    obtain ⟨H2, e2, S2, r2⟩ := S1.take u1 hf
    have q2 := RQ.mono e2 q1
    refine ⟨H2, env2, S2, ?_⟩
    cases z : evC cl ms es' env2 with
    | ok us env3 =>
      simp only [z] at q2
      exact fun H3 H3' e3 S3 vs hv => q2 H3 H3' e3 S3 (x :: vs) ⟨x, vs, rfl, Rep.mono e3 _ _ r2, hv⟩
    | exc x env3 => simp only [z] at q2; exact q2
    | bad => simp only [z] at q2; exact q2)⟩
theorem k_pk0 {ms : List Bool} : PK X [] (tAC C W cl ms .nil) := ⟨fun pos pins s σ H Q I ⟨H0, env, S, q⟩ => pk_nil.run pos pins s σ H Q I (by
  simp only [evC] at q
  exact q H0 H (Ext.rfl' _) S [] rfl)⟩
theorem UcOk.len {σ : L2.St} {H0 : Hp} : ∀ {us : List U} {vs : List V}, UcOk C σ H0 us vs → vs.length = us.length
  | [], _, h => by cases h; rfl
  | .d x :: us, _, h => by obtain ⟨v, r, rfl, h1, h2⟩ := h; simp [UcOk.len h2]
  | .sl i :: us, _, h => by obtain ⟨v, r, rfl, h1, h2⟩ := h; simp [UcOk.len h2]
  | .nw _ :: _, _, h => h.elim
theorem UcOk.at {σ : L2.St} {H0 : Hp} : ∀ {us : List U} {vs : List V} {i : Nat} {u : U}, UcOk C σ H0 us vs → us[i]? = some u → ∃ v, vs[i]? = some v ∧ UcOk C σ H0 [u] [v]
  | [], _, _, _, h, q => by simp at q
  | .d x :: us, _, 0, _, h, q => by obtain ⟨v, r, rfl, h1, h2⟩ := h; simp at q; subst q; exact ⟨v, rfl, v, [], rfl, h1, rfl⟩
  | .sl i :: us, _, 0, _, h, q => by obtain ⟨v, r, rfl, h1, h2⟩ := h; simp at q; subst q; exact ⟨v, rfl, v, [], rfl, h1, rfl⟩
  | .nw _ :: _, _, 0, _, h, q => h.elim
  | .d x :: us, _, n + 1, _, h, q => by obtain ⟨v, r, rfl, h1, h2⟩ := h; simpa using UcOk.at h2 (by simpa using q)
  | .sl i :: us, _, n + 1, _, h, q => by obtain ⟨v, r, rfl, h1, h2⟩ := h; simpa using UcOk.at h2 (by simpa using q)
  | .nw _ :: _, _, _ + 1, _, h, q => h.elim
theorem UcOk.cons {σ : L2.St} {H0 : Hp} {u : U} {v : V} {us : List U} {vs : List V} (h1 : UcOk C σ H0 [u] [v]) (h2 : UcOk C σ H0 us vs) : UcOk C σ H0 (u :: us) (v :: vs) := by
  cases u with
  | d x => obtain ⟨w, r, q, h3, _⟩ := h1; cases q; exact ⟨v, vs, rfl, h3, h2⟩
  | sl i => obtain ⟨w, r, q, h3, _⟩ := h1; cases q; exact ⟨v, vs, rfl, h3, h2⟩
  | nw x => exact h1.elim
theorem UcOk.perm {σ : L2.St} {H0 : Hp} {us : List U} {vs : List V} (h : UcOk C σ H0 us vs) : ∀ pm : List Nat, UcOk C σ H0 (permL pm us) (permL pm vs)
  | [] => rfl
  | i :: pm => by
    have ih := UcOk.perm h pm
    unfold permL at ih ⊢
    simp only [List.filterMap_cons]
    cases z : us[i]? with
    | none =>
      have zl : vs[i]? = none := by rw [List.getElem?_eq_none_iff] at z ⊢; rw [h.len]; exact z
      simp only [zl]
      exact ih
    | some u =>
      obtain ⟨v, hv, hu⟩ := h.at z
      simp only [hv]
      exact hu.cons ih
theorem vals_perm {vs : List V} {us : List Value} (h : Vals vs us) : ∀ pm : List Nat, Vals (permL pm vs) (permL pm us)
  | [] => .nil
  | i :: pm => by
    have ih := vals_perm h pm
    unfold permL at ih ⊢
    simp only [List.filterMap_cons]
    cases z : vs[i]? with
    | none => simp only [h.none_of z]; exact ih
    | some v =>
      obtain ⟨u, hu, r⟩ := h.get z
      simp only [hu]
      exact .cons r ih
/-- how a call by keywords alone binds -/
def KwBinds (fd : FuncData) (ps ks : List Str) (pm : List Nat) : Prop := ∀ (s : Shared) (ws : List Value), ws.length = ks.length → BindsTo s fd ⟨[], ks.zip ws⟩ (ps.zip (permL pm ws))
theorem c_callP {x : Str} {p : Pos} {k f n : Nat} {fa : Addr} {fd : FuncData} {ps ks : List Str} {ms : List Bool} {pm : List Nat} {kws : List Keyword} (F : FnG X.prog X.w X.K X.mg X.base k fa fd ps (spF C.T cl f n)) (hgd : X.A.guards = some []) (hr : Room k X.A) (tk : Takes X W)
    (hg : Gl X x) (hm : X.mg x = some (.ref fa)) (hk : PySem.W.keepIn X.K (.ref fa) = true) (hb : KwBinds fd ps ks pm) (ha : PK X kws (tAC C W cl (ms.map fun _ => false) es')) (hn : ms.length = n := by rfl) (hkn : ks.length = ms.length := by rfl)
    (hall : (backToKw pos (keywordEach kws X.env)).all (·.1.isSome) = true := by rfl) (hks : (backToKw pos (keywordEach kws X.env)).filterMap (·.1) = ks := by rfl) (hdb : (x == ("__debug__" : Str)) = false := by decide)
    (hpl : ((backTo pos (starEach [] X.env)).any (·.1) || (backToKw pos (keywordEach kws X.env)).any (·.1.isNone)) = false := by rfl) :
    PE X (.Call (.Name x p) [] kws pos) (tI C W cl (.callP f ms pm es')) := by
  refine ⟨fun pins s σ H Q I h => ?_⟩
  refine wpAny_Call_Name_kw (ld_glob I hg hm ?_ hdb)
  obtain ⟨H0, env, S, q⟩ := h
  simp only [ev] at q
  refine PySem.W.callWith_KW0 (h₀ := X.base) I.ok.mod.kin hk hall ?_ hpl
  have hread : tAC C W cl (ms.map fun _ => false) es' σ H fun vs H1 => vs.length = ms.length ∧ spF C.T cl f n (permL pm vs) H1 Q fun cls d H' => W cls d σ H' := by
    refine ⟨H0, env, S, ?_⟩
    cases z : evC cl (ms.map fun _ => false) es' env with
    | bad => rw [z] at q; exact q.elim
    | exc x env1 => rw [z] at q; exact q
    | ok us env1 =>
      rw [z] at q
      simp only [R.bind_ok] at q
      obtain ⟨as, ha', q⟩ := q.orB
      split at q
      rotate_left
      · exact q.elim
      rename_i hd
      rw [Bool.and_eq_true, decide_eq_true_eq] at hd
      intro H1 H1' e1 S1 vs hv0
      refine ⟨hv0.len.trans hd.2, ?_⟩
      have hv := hv0.perm pm
      obtain ⟨g1, g2, g3⟩ := args_ok S1 ha' hv
      refine ⟨H1, as, S1.ex, g1, io_nodup S1 ha' hv hd.1, g2.trans hn, S1.tb, ?_⟩
      cases zc : cl f as with
      | bad => simp only [zc] at q; exact q
      | exc x outs =>
        simp only [zc] at q
        intro cls d H0' H' g o hx
        exact q cls d H0' H' (e1.tr g.e0) (S1.call ha' hv hd.1 g o) hx
      | ok r outs =>
        simp only [zc] at q
        intro v H0' H' g hr o
        exact q H0' H' (e1.tr g.e0) (S1.call ha' hv hd.1 g o) v (ret_u S1 ha' hv hd.1 g o hr)
  refine thn (ha.run pos pins s σ H _ I hread) fun ws s1 hq => ?_
  obtain ⟨zs, H1, I1, rz, hl, q1⟩ := hq
  refine ⟨I1.kIn, ?_⟩
  rw [hks]
  exact F.goA (args := ⟨[], ks.zip ws⟩) hgd hr (hb s1 ws (by rw [← rz.length, hl, hkn])) tk (fun _ _ _ z => z) I1 (vals_perm rz pm) q1
end
end PP
end

section
set_option maxHeartbeats 1000000
namespace PP
open PySem PySem.Spec PyProof.Rows L2
theorem fn_zero {P : Program} {w : World} {K : PySem.W.Frag} {mg : Str → Option Value} {base : Heap} {f : Addr} {fd : FuncData} {ps : List Str} {T : Tbl} {fs : Nat → Option Fn} {i n : Nat} (hn : ps.length = n) : FnG P w K mg base (5 * 0) f fd ps (spF T (calls fs 0) i n) :=
  ⟨fun vs H Q E ⟨_, _, _, h, _, hl, _⟩ => by rw [h.len, hl, hn], fun A outer s H args us vs Q E _ _ _ _ _ h => by obtain ⟨_, _, _, _, _, _, _, z⟩ := h; exact z.elim⟩
/-- a def of the text does what its small-syntax term does -/
theorem def_ok {P : Program} {w : World} {K : PySem.W.Frag} {mg : Str → Option Value} {base : Heap} {x qual : Str} {st : Stmt} {f : Addr} {fd : FuncData} {N ps : List Str} {k i n : Nat} {F : Fn} {T : Tbl} {fs : Nat → Option Fn} (Fu : FunV K x qual st f fd) (S : FnScope N ps (defScope st))
    (hN : N.length = F.n) (hn : n ≤ F.n) (hp : ps.length = n) (hf : ∀ as, calls fs (k + 1) i as = runF (calls fs k) F as)
    (hb : ∀ {X : Cx} {C : Ctx} {W : WX}, X.K = C.T.K → X.A.units + 64 < cLine → X.A.units + 200 < cLine → X.A.guards = some [] → Room (5 * k + 4) X.A → Takes X W → PassesOwn (model X.prog X.w) X.A X.env X.xe →
      (∃ (qu : Str) (cdv : Value) (A : Around) (outer : List PySem.Env) (s : Shared) (H : Hp) (E : XK), X = cxOf (L2.CX P w) P w K mg base N qu (defScope st) f cdv A outer s H E ∧ C.T = T ∧ qu = qual ∧ fd.code = cdv) → PSs X (defBody st) (tSs C W (calls fs k) F.body)) (hK : K = T.K) :
    FnG P w K mg base (5 * (k + 1)) f fd ps (spF T (calls fs (k + 1)) i n) := by
  refine FnG.of (k := 5 * k + 4) Fu S (fun vs H Q E ⟨_, _, _, h, _, hl, _⟩ => by rw [h.len, hl, hp]) fun cdv hcd A outer s H vs Q E hg hr hsp => ?_
  refine body_ok hN hn hf (fun C hC => ?_) hsp
  exact hb (by rw [hC]; exact hK) hr.units (by have := hr.un; show A.units + 3 + 200 < cLine; have e : (A.deeper (envOfC qual (defScope st) s.heap.objs.size f cdv)).units = A.units + 3 := rfl; omega) hg hr (takes_of rfl rfl rfl rfl) (passes_of rfl) ⟨qual, cdv, A, outer, s, H, E, rfl, hC, rfl, hcd⟩
end PP
end

section
set_option maxHeartbeats 1000000
/-! Targets, what is walked, comprehensions, for. -/
namespace PP
open PySem PySem.Spec PyProof.Rows L2
/-! ### targets -/
def lenG : Tgs → Nat
  | .nil => 0 | .cons _ ts => lenG ts + 1
mutual
def rTg (K : PySem.W.Frag) : Tg → TG
  | .nm i => gName i
  | .tup ts => gTup K (lenG ts) (rTgs K ts)
def rTgs (K : PySem.W.Frag) : Tgs → TGs
  | .nil => gNil
  | .cons t ts => gCons (rTg K t) (rTgs K ts)
end
mutual
/-- all names of the target are among these slots -/
def tgIn (vs : List Nat) : Tg → Bool
  | .nm i => vs.contains i
  | .tup ts => tgsIn vs ts
def tgsIn (vs : List Nat) : Tgs → Bool
  | .nil => true
  | .cons t ts => tgIn vs t && tgsIn vs ts
end
theorem wipe_get (σ : L2.St) (j : Nat) : ∀ vs : List Nat, (wipe σ vs)[j]? = if j ∈ vs then (if j < σ.length then some none else none) else σ[j]?
  | [] => by simp [wipe]
  | v :: vs => by
    unfold wipe
    rw [List.getElem?_set, wipe_get σ j vs, wipe_length]
    by_cases h : v = j
    · subst h; simp
    · have h' : ¬ j = v := fun z => h z.symm
      simp [h, h']
theorem wipe_set {σ : L2.St} {i : Nat} {x : Option V} {vs : List Nat} (h : i ∈ vs) : wipe (σ.set i x) vs = wipe σ vs := by
  apply List.ext_getElem?
  intro j
  rw [wipe_get, wipe_get, List.length_set, List.getElem?_set]
  by_cases hj : j ∈ vs
  · simp [hj]
  · have : ¬ i = j := fun z => hj (z ▸ h)
    simp [hj, this]
theorem wipe_wipe {σ : L2.St} {vs : List Nat} : wipe (wipe σ vs) vs = wipe σ vs := by
  apply List.ext_getElem?
  intro j
  rw [wipe_get, wipe_get, wipe_length]
  by_cases hj : j ∈ vs <;> simp [hj]
theorem getS_wipe (j : Nat) : ∀ (vs : List Nat) (env : Env), getS (wipeE env vs) j = if j ∈ vs then .un else getS env j
  | [], env => by simp [wipeE]
  | v :: vs, env => by
    unfold wipeE
    rw [getS_wipe j vs, getS_set]
    by_cases h : v = j
    · subst h
      by_cases hv : v ∈ vs
      · simp [hv]
      · by_cases hl : v < env.length
        · simp [hv, hl]
        · have : getS env v = .un := by unfold getS; rw [List.getD_eq_getElem?_getD, List.getElem?_eq_none (by omega)]; rfl
          simp [hv, hl, this]
    · have h' : ¬ j = v := fun z => h z.symm
      simp [h, h']
theorem len_wipe : ∀ (vs : List Nat) (env : Env), (wipeE env vs).length = env.length
  | [], env => rfl
  | v :: vs, env => by unfold wipeE; rw [len_wipe vs]; simp
theorem getS_back (env0 : Env) (j : Nat) : ∀ (vs : List Nat) (env : Env), getS (backE env0 env vs) j = if j ∈ vs ∧ j < env.length then getS env0 j else getS env j
  | [], env => by simp [backE]
  | v :: vs, env => by
    unfold backE
    rw [getS_back env0 j vs, getS_set, List.length_set]
    by_cases h : v = j
    · subst h
      by_cases hl : v < env.length
      · by_cases hv : v ∈ vs <;> simp [hv, hl]
      · simp [hl]
    · have h' : ¬ j = v := fun z => h z.symm
      simp [h, h']
theorem len_back (env0 : Env) : ∀ (vs : List Nat) (env : Env), (backE env0 env vs).length = env.length
  | [], env => rfl
  | v :: vs, env => by unfold backE; rw [len_back env0 vs]; simp
theorem storeGs_len : ∀ (ts : Tgs) (ds : List D) (env env' : Env), storeGs ts ds env = some env' → ds.length = lenG ts
  | .nil, [], _, _, _ => rfl
  | .nil, _ :: _, _, _, h => by simp [storeGs] at h
  | .cons _ _, [], _, _, h => by simp [storeGs] at h
  | .cons t ts, d :: ds, env, env', h => by
    simp only [storeGs, Option.bind_eq_some_iff] at h
    obtain ⟨env1, _, h2⟩ := h
    simp [lenG, storeGs_len ts ds env1 env' h2]
section
variable {C : Ctx} {H0 H : Hp}
theorem Sim.wipe {σ : L2.St} {env : Env} (S : Sim C σ H0 H env) (vs : List Nat) : Sim C (wipe σ vs) H0 H (wipeE env vs) := by
  refine { ok := S.ok, ex := S.ex, ex0 := S.ex0, fresh := S.fresh, keep := S.keep, tabs := S.tabs, tno := S.tno, ioH := S.ioH, len := by rw [len_wipe, wipe_length]; exact S.len, slots := fun j => ?_, inj := fun j k a hjk hj hk ej ek => ?_ }
  · rw [getS_wipe, wipe_get]
    by_cases h : j ∈ vs
    · simp only [h, if_true]; trivial
    · simp only [h, if_false]; exact S.slots j
  · rw [getS_wipe] at hj hk
    rw [wipe_get] at ej ek
    by_cases h1 : j ∈ vs
    · simp only [h1, if_true] at hj; cases hj
    · by_cases h2 : k ∈ vs
      · simp only [h2, if_true] at hk; cases hk
      · simp only [h1, h2, if_false] at hj hk ej ek
        exact S.inj j k a hjk hj hk ej ek
mutual
theorem Sim.tg : ∀ (t : Tg) {σ : L2.St} {env env' : Env} {d : D} {v : V} {Q : L2.St → Hp → Prop}, Sim C σ H0 H env → Rep C.T H0 d v → storeG t d env = some env' →
    (∀ σ', Sim C σ' H0 H env' → (∀ vs, tgIn vs t = true → L2.wipe σ' vs = L2.wipe σ vs) → Q σ' H) → rTg C.T.K t v σ H Q
  | .nm i, σ, env, env', d, v, Q, S, r, hs, k => by
    simp only [storeG, Option.some.injEq] at hs
    subst hs
    show Q _ _
    refine k _ (S.store rfl ⟨v, rfl, r⟩ fun _ _ z => by cases z) fun vs hv => wipe_set (by simpa [tgIn] using hv)
  | .tup ts, σ, env, env', d, v, Q, S, r, hs, k => by
    cases d with
    | tup ds =>
      simp only [storeG] at hs
      have r' := r
      simp only [Rep] at r'
      obtain ⟨a, xs, rfl, r1, r2⟩ := r'
      have h := Sim.tgs ts (Q := Q) S r2 hs (fun σ' S' h => k σ' S' fun vs hv => h vs (by simpa [tgIn] using hv))
      exact ⟨a, xs, rfl, S.ex.sqT r1, h.1, h.2⟩
    | _ => simp [storeG] at hs
theorem Sim.tgs : ∀ (t : Tgs) {σ : L2.St} {env env' : Env} {ds : List D} {xs : List V} {Q : L2.St → Hp → Prop}, Sim C σ H0 H env → RepAll C.T H0 ds xs → storeGs t ds env = some env' →
    (∀ σ', Sim C σ' H0 H env' → (∀ vs, tgsIn vs t = true → L2.wipe σ' vs = L2.wipe σ vs) → Q σ' H) → xs.length = lenG t ∧ rTgs C.T.K t xs σ H Q
  | .nil, σ, env, env', ds, xs, Q, S, r, hs, k => by
    cases ds with
    | nil =>
      simp only [storeGs, Option.some.injEq] at hs
      subst hs
      simp only [RepAll] at r
      subst r
      exact ⟨rfl, rfl, k σ S fun _ _ => rfl⟩
    | cons d ds => simp [storeGs] at hs
  | .cons t ts, σ, env, env', ds, xs, Q, S, r, hs, k => by
    cases ds with
    | nil => simp [storeGs] at hs
    | cons d ds =>
      simp only [storeGs, Option.bind_eq_some_iff] at hs
      obtain ⟨env1, h1, h2⟩ := hs
      simp only [RepAll] at r
      obtain ⟨v, xr, rfl, r1, r2⟩ := r
      have hl : xr.length = lenG ts := by rw [r2.len]; exact storeGs_len ts _ _ _ h2
      exact ⟨by simp [lenG, hl], v, xr, rfl, Sim.tg t S r1 h1 fun σ' S' w' => (Sim.tgs ts S' r2 h2 fun σ'' S'' w'' => k σ'' S'' fun vs hv => by
        simp only [tgsIn, Bool.and_eq_true] at hv
        rw [w'' vs hv.2, w' vs hv.1]).2⟩
end
end
/-! ### what is walked -/
/-- a walk hands out these, one after another -/
def Wk (T : Tbl) (G : Hp) (ds : List D) (J : L2.It) : Prop :=
  (∀ i H0 H d, Ext G H0 → Ext H0 H → ds[i]? = some d → J.go i H ∧ ∀ x H', J.yld i H x H' → ∃ H0', Gr T H0 H H0' H' ∧ Rep T H0' d x) ∧ ∀ i H, Ext G H → ds.length ≤ i → J.stop i H
def tItr (C : Ctx) (W : WX) (cl : CallF) (it : It) : TI := fun σ H R => ∃ H0 env, Sim C σ H0 H env ∧ RQ C W σ (fun (ds : List D) _ H0' H' => ∀ J, Wk C.T H0' ds J → R J H') H0 (itD cl it env)
theorem wk_list {T : Tbl} {G : Hp} {ds : List D} {xs : List V} {a : Addr} (hs : SqL T.K G a xs) (hr : RepAll T G ds xs) : Wk T G ds (Itl T.K a) :=
  ⟨fun i H0 H d e0 e hd => by
    obtain ⟨v, hv, r⟩ := hr.get hd
    exact ⟨⟨xs, v, (e0.tr e).sqL hs, hv⟩, fun x H' ⟨hH, hx⟩ => by
      subst hH
      have := hx xs ((e0.tr e).sqL hs)
      rw [hv] at this; cases this
      exact ⟨H0, Gr.rfl' e, Rep.mono e0 _ _ r⟩⟩, fun i H e hi => ⟨xs, e.sqL hs, by rw [hr.len]; exact hi⟩⟩
theorem wk_tup {T : Tbl} {G : Hp} {ds : List D} {xs : List V} {a : Addr} (hs : SqT T.K G a xs) (hr : RepAll T G ds xs) : Wk T G ds (Itt T.K a) :=
  ⟨fun i H0 H d e0 e hd => by
    obtain ⟨v, hv, r⟩ := hr.get hd
    exact ⟨⟨xs, v, (e0.tr e).sqT hs, hv⟩, fun x H' ⟨hH, hx⟩ => by
      subst hH
      have := hx xs ((e0.tr e).sqT hs)
      rw [hv] at this; cases this
      exact ⟨H0, Gr.rfl' e, Rep.mono e0 _ _ r⟩⟩, fun i H e hi => ⟨xs, e.sqT hs, by rw [hr.len]; exact hi⟩⟩
section
variable {X : Cx} {C : Ctx} {W : WX} {cl : CallF} {tg l e a b : Expr} {es : List Expr} {l' e' a' b' : Ex} {pos : Pos}
theorem i_seq (hK : X.K = C.T.K) (h : PE X l (tI C W cl l')) : PI X tg l (tItr C W cl (.seq l')) := ⟨fun pins s σ H R I ⟨H0, env, S, q⟩ => by
  cases z : ev cl l' env with
  | bad => simp only [itD, z] at q; exact q.elim
  | exc x env1 => exact (pi_list h).run pins s σ H R I ⟨H0, env, S, by simp only [itD, z] at q ⊢; exact q⟩
  | ok u env1 =>
    simp only [itD, z, PP.R.bind_ok] at q
    obtain ⟨⟨d, env2⟩, hf, q⟩ := q.orB
    obtain ⟨xs, hx, q⟩ := q.orB
    have key : ∀ (Q : VK), (∀ H2 H1' v, Ext H0 H2 → Sim C σ H2 H1' env2 → Rep C.T H2 d v → Q v H1') → tI C W cl l' σ H Q := fun Q hQ => ⟨H0, env, S, by
      rw [z]
      intro H1 H1' e1 S1 v u1
      obtain ⟨H2, e2, S2, r2⟩ := S1.take u1 hf
      exact hQ H2 H1' v (e1.tr e2) S2 r2⟩
    cases d with
    | lst ds =>
      cases hx
      exact (pi_list h).run pins s σ H R I (key _ fun H2 H1' v e S2 r => by
        simp only [Rep] at r
        obtain ⟨a, xs, rfl, r1, r2⟩ := r
        exact ⟨a, rfl, ⟨xs, .inl (S2.ex.rd r1)⟩, hK ▸ (q H2 H1' e S2) _ (wk_list (.inl r1) r2)⟩)
    | kst ds =>
      cases hx
      exact (pi_list h).run pins s σ H R I (key _ fun H2 H1' v e S2 r => by
        simp only [Rep] at r
        obtain ⟨a, xs, rfl, r1, r2⟩ := r
        exact ⟨a, rfl, ⟨xs, hK ▸ S2.ex.sqL r1⟩, hK ▸ (q H2 H1' e S2) _ (wk_list r1 r2)⟩)
    | tup ds =>
      cases hx
      exact (pi_tup h).run pins s σ H R I (key _ fun H2 H1' v e S2 r => by
        simp only [Rep] at r
        obtain ⟨a, xs, rfl, r1, r2⟩ := r
        exact ⟨a, rfl, ⟨xs, hK ▸ S2.ex.sqT r1⟩, hK ▸ (q H2 H1' e S2) _ (wk_tup r1 r2)⟩)
    | _ => simp [itemsD] at hx⟩
theorem wk_rng {T : Tbl} {G : Hp} {m : Int} {n : Nat} : Wk T G ((List.range n).map fun (k : Nat) => D.int (m + k)) (Itr m n) :=
  ⟨fun i H0 H d e0 e hd => (by
    rw [List.getElem?_map] at hd
    by_cases hi : i < n
    · rw [List.getElem?_range hi] at hd
      cases hd
      exact ⟨hi, fun x H' ⟨hH, hx⟩ => ⟨H0, by subst hH; exact Gr.rfl' e, by rw [hx]; exact r_int _ _ _⟩⟩
    · rw [List.getElem?_eq_none (by simpa using hi)] at hd
      cases hd), fun i H e hi => (by simpa using hi : n ≤ i)⟩
theorem two_it {σ : L2.St} {H : Hp} {Q : List V → Hp → Prop} {H0 : Hp} {env : Env} {f : Int → Int → List D} {K : List D → Env → Hp → Hp → Prop} (S : Sim C σ H0 H env)
    (q : RQ C W σ K H0 ((ev cl a' env).bind fun u env1 => (ev cl b' env1).bind fun w env2 => orBad (rdU env2 (pend u)) fun x => orBad (rdU env2 w) fun y => match x, y with
      | .int m, .int n => if b40 m && b40 n then .ok (f m n) env2 else .bad
      | _, _ => .bad)) (hQ : ∀ m n env2 H2 H2', Ext H0 H2 → Sim C σ H2 H2' env2 → -(2 ^ 40) ≤ m → m < 2 ^ 40 → -(2 ^ 40) ≤ n → n < 2 ^ 40 → K (f m n) env2 H2 H2' → Q [.int m, .int n] H2') :
    tCons (tI C W cl a') (tCons (tI C W cl b') tNil) σ H Q := by
  refine seqI S q fun u env1 x H1 H1' e1 S1 u1 q1 => ?_
  obtain ⟨H1f, e1f, S1f, u1f⟩ := S1.pend u1
  refine seqI S1f (RQ.mono e1f q1) fun w env2 y H2 H2' e2 S2 u2 q2 => ?_
  obtain ⟨dx, hx, q3⟩ := q2.orB
  obtain ⟨dy, hy, q4⟩ := q3.orB
  clear q q1 q2 q3
  split at q4
  · rename_i m n
    split at q4
    · rename_i hb
      simp only [b40, Bool.and_eq_true, decide_eq_true_eq] at hb
      cases rd_int (S2.rd (u1f.wait e2) hx)
      cases rd_int (S2.rd u2 hy)
      exact hQ m n env2 H2 H2' ((e1.tr e1f).tr e2) S2 hb.1.1 hb.1.2 hb.2.1 hb.2.2 (q4 H2 H2' (Ext.rfl' _) S2)
    · exact q4.elim
  · exact q4.elim
theorem piI {it : Expr} {t t' : TI} (h : PI X tg it t) (i : ∀ σ H R, t' σ H R → t σ H R) : PI X tg it t' := ⟨fun pins s σ H R I q => h.run pins s σ H R I (i σ H R q)⟩
theorem i_rng2 {p : Pos} (hg : Gl X "range") (hm : X.mg "range" = none) (ha : PE X a (tI C W cl a')) (hb : PE X b (tI C W cl b')) (he : starEach [a, b] X.env = (false, eval a X.env) :: starEach [b] X.env := by rfl) (he2 : starEach [b] X.env = (false, eval b X.env) :: starEach [] X.env := by rfl)
    (hs : starEach [a, b] X.env = [(false, eval a X.env), (false, eval b X.env)] := by rfl) (hs2 : starEach [b] X.env = [(false, eval b X.env)] := by rfl) : PI X tg (.Call (.Name "range" p) [a, b] [] pos) (tItr C W cl (.rng a' b')) :=
  piI (pi_range2 hg hm (pa_cons ha (pa_cons hb pa_nil he2) he) hs hs2) fun σ H R ⟨H0, env, S, q⟩ => by
    simp only [itD] at q
    exact two_it S q fun m n env2 H2 H2' e S2 h1 h2 h3 h4 k => ⟨m, n, rfl, ⟨by omega, by omega, by omega, by omega⟩, k _ wk_rng⟩
theorem i_rng1 {p : Pos} (hg : Gl X "range") (hm : X.mg "range" = none) (hb : PE X b (tI C W cl b')) (he2 : starEach [b] X.env = (false, eval b X.env) :: starEach [] X.env := by rfl) (hs : starEach [b] X.env = [(false, eval b X.env)] := by rfl) :
    PI X tg (.Call (.Name "range" p) [b] [] pos) (tItr C W cl (.rng (.cst (.int 0)) b')) :=
  piI (pi_range1 hg hm (pa_cons hb pa_nil he2) hs) fun σ H R ⟨H0, env, S, q⟩ => by
    simp only [itD, ev, PP.R.bind_ok] at q
    refine seqI S q fun w env2 y H2 H2' e2 S2 u2 q2 => ?_
    obtain ⟨dx, hx, q2⟩ := q2.orB
    obtain ⟨dy, hy, q2⟩ := q2.orB
    have hx' : D.int 0 = dx := by simpa [pend, rdU] using hx
    subst hx'
    split at q2
    · rename_i m n hh
      cases hh
      split at q2
      · rename_i hb
        simp only [b40, Bool.and_eq_true, decide_eq_true_eq] at hb
        cases rd_int (S2.rd u2 hy)
        refine ⟨n, rfl, by omega, by omega, ?_⟩
        have k := q2 H2 H2' (Ext.rfl' _) S2
        have e : (n - 0).toNat = n.toNat := by rw [Int.sub_zero]
        rw [e] at k
        exact k _ wk_rng
      · exact q2.elim
    · exact q2.elim
theorem wk_down {T : Tbl} {G : Hp} {m : Int} {n : Nat} : Wk T G ((List.range n).map fun (k : Nat) => D.int (m - k)) (Itc m (-1) n) :=
  ⟨fun i H0 H d e0 e hd => (by
    rw [List.getElem?_map] at hd
    by_cases hi : i < n
    · rw [List.getElem?_range hi] at hd
      cases hd
      refine ⟨hi, fun x H' ⟨hH, hx⟩ => ⟨H0, by subst hH; exact Gr.rfl' e, ?_⟩⟩
      rw [hx, show m + ((i : Nat) : Int) * -1 = m - (i : Nat) by omega]
      exact r_int _ _ _
    · rw [List.getElem?_eq_none (by simpa using hi)] at hd
      cases hd), fun i H e hi => (by simpa using hi : n ≤ i)⟩
theorem i_down {p : Pos} {c : Expr} (hg : Gl X "range") (hm : X.mg "range" = none) (ha : PE X a (tI C W cl a')) (hb : PE X b (tI C W cl b')) (hc : PE X c (tC (.int (-1)))) (he : starEach [a, b, c] X.env = (false, eval a X.env) :: starEach [b, c] X.env := by rfl)
    (he1 : starEach [b, c] X.env = (false, eval b X.env) :: starEach [c] X.env := by rfl) (he2 : starEach [c] X.env = (false, eval c X.env) :: starEach [] X.env := by rfl) (hpl : (backTo pos (starEach [b, c] X.env)).any (·.1) = false := by rfl) :
    PI X tg (.Call (.Name "range" p) [a, b, c] [] pos) (tItr C W cl (.down a' b')) :=
  piI (pi_range3 hg hm (pa_cons ha (pa_cons hb (pa_cons hc pa_nil he2) he1) he) he hpl) fun σ H R ⟨H0, env, S, q⟩ => by
    simp only [itD] at q
    have := two_it (Q := fun vs H' => ∃ (i j c : Int) (n : Nat), vs ++ [V.int (-1)] = [.int i, .int j, .int c] ∧ RgC i j c n ∧ R (Itc i c n) H') S q fun m n env2 H2 H2' e S2 h1 h2 h3 h4 k =>
      ⟨m, n, -1, (m - n).toNat, rfl, RgC.neg (by omega) (by omega) (by omega) (by omega), k _ wk_down⟩
    exact this
theorem pe_neg1 {p1 p2 : Pos} {j : Nat} : PE X (.UnaryOp .USub (.Constant (.int 1) j p1) p2) (tC (.int (-1))) := peI (pe_un un_neg pe_int) fun σ H Q q => ⟨1, rfl, q⟩
theorem i_str (h : PE X l (tI C W cl l')) : PI X tg l (tItr C W cl (.str l')) :=
  piI (pi_str h) fun σ H R ⟨H0, env, S, q⟩ => by
    simp only [itD] at q
    refine seqI S q fun u env1 x H1 H1' e1 S1 u1 q1 => ?_
    obtain ⟨d, hd, q1⟩ := q1.orB
    split at q1
    · rename_i z
      cases rd_str (S1.rd u1 hd)
      refine ⟨z, rfl, q1 H1 H1' (Ext.rfl' _) S1 _ ⟨fun i H0 H d e0 e hd => ?_, fun i H e hi => (by simpa using hi : z.cps.size ≤ i)⟩⟩
      rw [List.getElem?_map] at hd
      cases hc : z.cps.toList[i]? with
      | none => rw [hc] at hd; cases hd
      | some c =>
        rw [hc] at hd
        cases hd
        have hi : i < z.cps.size := by simpa using (List.getElem?_eq_some_iff.mp hc).1
        refine ⟨hi, fun x H' ⟨hH, c', hc', hx⟩ => ⟨H0, by subst hH; exact Gr.rfl' e, ?_⟩⟩
        have : c' = c := by
          have z1 : z.cps.toList[i]? = some c' := by rw [Array.getElem?_toList]; exact hc'
          rw [hc] at z1; exact (Option.some.inj z1).symm
        subst this
        rw [hx]
        exact r_str _ _ _
    · exact q1.elim
end
/-! ### for, any target -/
section
variable {X : Cx} {C : Ctx} {W : WX} {cl : CallF} {st : Stmt}
def forGv (C : Ctx) (W : WX) (E : Ends) (G : Hp) (body : Env → R Fl) (tg : Tg) (items : List D) : Nat → L2.St → Hp → Prop := fun i σ H => i ≤ items.length ∧ ∃ H0 env, Ext G H0 ∧ Sim C σ H0 H env ∧ RS C W E H0 (forG body tg (items.drop i) env)
theorem s_fort {it' : It} {b : Ss} {tg : Tg} (hK : X.K = C.T.K) (h : PS X st (tFor (tItr C W cl it') (rTg X.K tg) (tSs C W cl b))) : PS X st (tS C W cl (.fort tg it' b)) := psI h fun E σ H ⟨H0, env, S, q⟩ => by
  simp only [ex] at q
  refine ⟨H0, env, S, ?_⟩
  cases z : itD cl it' env with
  | bad => rw [z] at q; exact q.elim
  | exc x env1 => rw [z] at q; exact fun cls d H0' H' e s x => q σ cls d H0' H' e s x
  | ok ds env1 =>
    rw [z] at q
    simp only [R.bind_ok] at q
    intro G G' e0 S1 J wk
    refine ⟨fun i m σ H => m = ds.length - i ∧ forGv C W E G (exs cl b) tg ds i σ H, ⟨ds.length, by simp, Nat.zero_le _, G, env1, Ext.rfl' _, S1, RS.mono e0 q⟩, ?_⟩
    rintro i m σ H ⟨rfl, hi, H1, env2, e1, S2, q2⟩
    by_cases hlt : i < ds.length
    · have hd : ds[i]? = some ds[i] := List.getElem?_eq_getElem hlt
      obtain ⟨g1, g2⟩ := wk.1 i H1 H _ e1 S2.ex hd
      refine .inr ⟨g1, forGv C W E G (exs cl b) tg ds (i + 1), fun σ' H' p => ⟨ds.length - (i + 1), by omega, rfl, p⟩, fun x H' hy => ?_⟩
      obtain ⟨H2, gr, rx⟩ := g2 x H' hy
      have S3 := S2.gr gr
      rw [List.drop_eq_getElem_cons hlt] at q2
      simp only [forG] at q2
      obtain ⟨env3, hst, q3⟩ := q2.orB
      rw [hK]
      refine Sim.tg tg S3 rx hst fun σ' S' _ => ?_
      refine ⟨H2, env3, S', ?_⟩
      have e2 := e1.tr gr.e0
      cases z : exs cl b env3 with
      | bad => rw [z] at q3; exact q3
      | exc x env4 => rw [z] at q3; exact RS.mono gr.e0 q3
      | ok fl env4 =>
        rw [z] at q3
        have q3 := RS.mono gr.e0 q3
        cases fl with
        | next => exact fun σ' H0' H' e' S' => ⟨hlt, H0', env4, e2.tr e', S', RS.mono e' q3⟩
        | cont => exact fun σ' H0' H' e' S' => ⟨hlt, H0', env4, e2.tr e', S', RS.mono e' q3⟩
        | brk => exact q3
        | ret u => exact q3
    · have hge : ds.length ≤ i := by omega
      refine .inl ⟨wk.2 i H (e1.tr S2.ex) hge, ?_⟩
      rw [List.drop_eq_nil_of_le hge] at q2
      exact q2 σ H1 H (Ext.rfl' _) S2
end
end PP
end

section
set_option maxHeartbeats 1000000
/-! List comprehensions. -/
namespace PP
open PySem PySem.Spec PyProof.Rows L2
/-- the context, a new list at D being filled -/
def Ctx.fill (C : Ctx) (D : Addr) (xs : List V) : Ctx := ⟨C.T, C.H0e, upd C.He D (.lst xs), C.ioAt, C.fa⟩
section
variable {C : Ctx} {σ : L2.St} {H0 H : Hp} {env : Env} {D : Addr} {xs ys : List V}
theorem sl_fill (hD : C.He D = none) (hio : ¬ C.io D) {i : Nat} {o : Option (Option V)} {s : Sl} : SlOk (C.fill D xs) H0 H i o s ↔ SlOk C H0 H i o s ∧ (ownS s = true → o ≠ some (some (.ref D))) := by
  cases s with
  | un => exact ⟨fun h => ⟨h, fun z => by cases z⟩, fun h => h.1⟩
  | fn => exact ⟨fun h => ⟨h, fun z => by cases z⟩, fun h => h.1⟩
  | fz d => exact ⟨fun h => ⟨h, fun z => by cases z⟩, fun h => h.1⟩
  | ow d =>
    constructor
    · rintro ⟨a, h1, h2, h3⟩
      have ne : a ≠ D := fun z => by subst z; rw [show (C.fill a xs).He a = some (.lst xs) from upd_same] at h2; cases h2
      refine ⟨⟨a, h1, ?_, h3⟩, fun _ z => ?_⟩
      · rw [← h2]; exact (upd_ne ne).symm
      · rw [h1] at z; cases z; exact ne rfl
    · rintro ⟨⟨a, h1, h2, h3⟩, h4⟩
      have ne : a ≠ D := fun z => h4 rfl (by rw [h1, z])
      exact ⟨a, h1, (upd_ne ne).trans h2, h3⟩
  | io d =>
    constructor
    · rintro ⟨a, h1, h2, h3⟩
      refine ⟨⟨a, h1, h2, h3⟩, fun _ z => ?_⟩
      rw [h1] at z; cases z
      exact hio (List.mem_of_getElem? h2)
    · exact fun h => h.1
/-- the new list is made -/
theorem Sim.fill0 (S : Sim C σ H0 H env) (hD : H D = none) : Sim (C.fill D []) σ H0 (upd H D (.lst [])) env := by
  have he : C.He D = none := S.he hD
  have hio : ¬ C.io D := fun z => S.ioH D z hD
  have h0e : C.H0e D = none := (S.ex0.tr S.ex).no hD
  refine { tabs := (ext_upd hD).tabs S.tabs, tno := S.tno, ok := ⟨fun a ha => ?_, fun a o h => ?_⟩, ex := S.ex.tr (ext_upd hD), ex0 := S.ex0, fresh := fun a h h' => ?_, keep := fun a o h z => ?_, ioH := fun a h => ?_, len := S.len, slots := fun i => ?_, inj := S.inj }
  · obtain ⟨h1, h2⟩ := S.ok.ioNo a ha
    refine ⟨h1, fun z => h2 ?_⟩
    have ne : a ≠ D := fun w => hio (w ▸ ha)
    exact (upd_ne ne).symm.trans z
  · have ne : a ≠ D := ne_of_none h h0e
    exact (upd_ne ne).trans (S.ok.ex _ _ h)
  · have ne : a ≠ D := fun w => by subst w; exact h' (S.ex.no hD)
    exact (upd_ne ne).trans (S.fresh a h h')
  · by_cases ne : a = D
    · subst ne
      rw [show (C.fill a []).He a = some (.lst []) from upd_same] at h
      cases h; exact .inl upd_same
    · rw [upd_ne ne]
      exact S.keep a o ((upd_ne ne).symm.trans h) z
  · have ne : a ≠ D := fun w => hio (w ▸ h)
    rw [upd_ne ne]; exact S.ioH a h
  · refine (sl_fill he hio).mpr ⟨(S.slots i).step (Ext.rfl' _) fun a ha e => ⟨(S.own ha e).1, upd_ne (fun w => by
      obtain ⟨_, o, z⟩ := S.own ha e
      rw [w, hD] at z; cases z)⟩, fun ha e => ?_⟩
    obtain ⟨_, o, z⟩ := S.own ha e
    rw [hD] at z; cases z
theorem Sim.fillAt (S : Sim (C.fill D xs) σ H0 H env) (hio : ¬ C.io D) : H D = some (.lst xs) := (S.keep D _ upd_same hio).at nofun
theorem Sim.fillNo (S : Sim (C.fill D xs) σ H0 H env) (h0e : C.H0e D = none) : H0 D = none := by
  cases z : H0 D with
  | none => rfl
  | some o =>
    have := S.fresh D h0e (by rw [z]; exact nofun)
    rw [show (C.fill D xs).He D = some (.lst xs) from upd_same] at this
    cases this
/-- it grows -/
theorem Sim.fill (S : Sim (C.fill D xs) σ H0 H env) (he : C.He D = none) (hio : ¬ C.io D) (h0e : C.H0e D = none) : Sim (C.fill D ys) σ H0 (upd H D (.lst ys)) env := by
  have hn := S.fillNo h0e
  have own : ∀ i, ownS (getS env i) = true → σ[i]? ≠ some (some (.ref D)) := fun i hi => ((sl_fill he hio).mp (S.slots i)).2 hi
  refine { tabs := tabs_upd (S.fillAt hio) nofun nofun S.tabs, tno := S.tno, ok := ⟨fun a ha => ?_, fun a o h => ?_⟩, ex := fun a o h => ?_, ex0 := S.ex0, fresh := fun a h h' => ?_, keep := fun a o h z => ?_, ioH := fun a h => ?_, len := S.len, slots := fun i => ?_, inj := S.inj }
  · obtain ⟨h1, h2⟩ := S.ok.ioNo a ha
    have ne : a ≠ D := fun w => hio (w ▸ ha)
    exact ⟨h1, fun z => h2 ((upd_ne ne).trans ((upd_ne ne).symm.trans z))⟩
  · have ne : a ≠ D := ne_of_none h h0e
    exact (upd_ne ne).trans ((upd_ne ne).symm.trans (S.ok.ex _ _ h))
  · rw [upd_ne (ne_of_none h hn)]; exact S.ex _ _ h
  · have ne : a ≠ D := fun w => by subst w; exact h' hn
    exact (upd_ne ne).trans ((upd_ne ne).symm.trans (S.fresh a h h'))
  · by_cases ne : a = D
    · subst ne
      rw [show (C.fill a ys).He a = some (.lst ys) from upd_same] at h
      cases h; exact .inl upd_same
    · rw [upd_ne ne]
      exact S.keep a o ((upd_ne ne).trans ((upd_ne ne).symm.trans h)) z
  · have ne : a ≠ D := fun w => hio (w ▸ h)
    rw [upd_ne ne]; exact S.ioH a h
  · refine (sl_fill he hio).mpr ⟨((sl_fill he hio).mp (S.slots i)).1.step (Ext.rfl' _) fun a ha e => ⟨(S.own ha e).1, upd_ne (fun w => own i ha (by rw [e, w]))⟩, own i⟩
/-- behind the comprehension -/
theorem Sim.fillBack {G G' : Hp} {env1 : Env} {vs : List Nat} (S : Sim (C.fill D xs) (L2.wipe σ vs) H0 H (wipeE env vs)) (S1 : Sim C σ G G' env1) (e : Ext G H0) (hD : G' D = none) (hc : (vs.all fun i => calmS (getS env1 i)) = true) : Sim C σ H0 H (backE env1 env vs) := by
  have he : C.He D = none := S1.he hD
  have hio : ¬ C.io D := fun z => S1.ioH D z hD
  have calm : ∀ i ∈ vs, ownS (getS env1 i) = false := fun i hi => by
    have := (List.all_eq_true.mp hc) i hi
    cases z : getS env1 i <;> simp_all [calmS, ownS]
  have hlen : env.length = σ.length := by have := S.len; rw [len_wipe, wipe_length] at this; exact this
  have notin : ∀ i, ownS (getS (backE env1 env vs) i) = true → i ∉ vs ∧ ownS (getS (wipeE env vs) i) = true ∧ (L2.wipe σ vs)[i]? = σ[i]? := fun i hi => by
    rw [getS_back] at hi
    by_cases h : i ∈ vs
    · by_cases hl : i < env.length
      · simp only [h, hl, and_self, if_true] at hi; rw [calm i h] at hi; cases hi
      · have z : getS env i = .un := by unfold getS; rw [List.getD_eq_getElem?_getD, List.getElem?_eq_none (by omega)]; rfl
        simp only [h, hl, and_false, if_false, z] at hi; cases hi
    · simp only [h, false_and, if_false] at hi
      exact ⟨h, by rw [getS_wipe]; simpa [h] using hi, by rw [wipe_get]; simp [h]⟩
  refine { tabs := S.tabs, tno := S.tno, ok := S1.ok, ex := S.ex, ex0 := S.ex0, fresh := fun a h h' => ?_, keep := fun a o h z => ?_, ioH := S.ioH, len := by rw [len_back]; exact hlen, slots := fun i => ?_, inj := fun i j a hij hi hj ei ej => ?_ }
  · have := S.fresh a h h'
    by_cases ne : a = D
    · subst ne; exact he
    · exact (upd_ne ne).symm.trans this
  · have ne : a ≠ D := ne_of_none h he
    exact S.keep a o ((upd_ne ne).trans h) z
  · rw [getS_back]
    by_cases h : i ∈ vs
    · by_cases hl : i < env.length
      · simp only [h, hl, and_self, if_true]
        have q := S1.slots i
        have cz := (List.all_eq_true.mp hc) i h
        cases z : getS env1 i with
        | un => trivial
        | fn => rw [z] at cz; cases cz
        | fz d => rw [z] at q; obtain ⟨v, q1, q2⟩ := q; exact ⟨v, q1, Rep.mono e _ _ q2⟩
        | ow d => rw [z] at cz; cases cz
        | io d => rw [z] at cz; cases cz
      · have z : getS env i = .un := by unfold getS; rw [List.getD_eq_getElem?_getD, List.getElem?_eq_none (by omega)]; rfl
        simp only [h, hl, and_false, if_false, z]; trivial
    · simp only [h, false_and, if_false]
      have q := ((sl_fill he hio).mp (S.slots i)).1
      rw [getS_wipe, wipe_get] at q
      simpa [h] using q
  · obtain ⟨h1, h2, h3⟩ := notin i hi
    obtain ⟨h4, h5, h6⟩ := notin j hj
    exact S.inj i j a hij h2 h5 (h3.trans ei) (h6.trans ej)
end
abbrev W0 : WX := fun _ _ _ _ => False
def tElt (T : Tbl) (cl : CallF) (e : Ex) : TE := fun σ H Q => ∃ (h0 he : Hp) (io : List (Option Addr)) (fa : Addr), tI ⟨T, h0, he, io, fa⟩ W0 cl e σ H Q
def tTst (T : Tbl) (cl : CallF) (hc : Bool) (e : Ex) : TT := fun σ H Q => match hc with
  | true => ∃ (h0 he : Hp) (io : List (Option Addr)) (fa : Addr), tT ⟨T, h0, he, io, fa⟩ W0 cl e σ H Q
  | false => Q true H
section
variable {X : Cx} {C : Ctx} {W : WX} {cl : CallF}
theorem pe_elt {T : Tbl} {elt : Expr} {e' : Ex} (h : ∀ (h0 he : Hp) (io : List (Option Addr)) (fa : Addr), PE X elt (tI ⟨T, h0, he, io, fa⟩ W0 cl e')) : PE X elt (tElt T cl e') := ⟨fun pins s σ H Q I ⟨h0, he, io, fa, q⟩ => (h h0 he io fa).run pins s σ H Q I q⟩
theorem pt_tst {T : Tbl} {c : Expr} {e' : Ex} (h : ∀ (h0 he : Hp) (io : List (Option Addr)) (fa : Addr), PT X c (tT ⟨T, h0, he, io, fa⟩ W0 cl e')) : PTs X [c] (tTst T cl true e') := pts_one ⟨fun pins s σ H Q I ⟨h0, he, io, fa, q⟩ => (h h0 he io fa).run pins s σ H Q I q⟩
theorem pt_tst0 {T : Tbl} {e' : Ex} : PTs X [] (tTst T cl false e') := pts_nil
theorem takesW0 {X : Cx} : Takes X W0 := fun u s' ⟨a, B, sI, pins, σ, H, cls, d, e, I, nb, up, sky, na, os, ag, w⟩ => w.elim
theorem lcAll_bad {vs : List Nat} {env1 : Env} {σ : L2.St} {K : U → Env → Hp → Hp → Prop} {H0 : Hp} {r : R (List D)} (h : RQ C W σ K H0 (lcAll vs env1 r)) : (vs.all fun i => calmS (getS env1 i)) = true ∧ ∃ ds env2, r = .ok ds env2 ∧ RQ C W σ K H0 (.ok (.nw (.lst ds)) (backE env1 env2 vs)) := by
  unfold lcAll at h
  split at h
  · exact h.elim
  · rename_i hc
    simp only [Bool.not_eq_true', Bool.not_eq_false] at hc
    split at h
    · rename_i ds env2
      exact ⟨hc, ds, env2, rfl, h⟩
    · exact h.elim
theorem readLc {σ : L2.St} {H : Hp} {Q : VK} {vs : List Nat} {tg : Tg} {it : It} {hc : Bool} {c e : Ex} (hK : X.K = C.T.K) (hv : tgIn vs tg = true) (h : tI C W cl (.lc vs tg it hc c e) σ H Q) :
    tLc (tItr C W cl it) (rTg X.K tg) (tTst C.T cl hc c) (tElt C.T cl e) vs σ H Q := by
  obtain ⟨H0, env, S, q⟩ := h
  simp only [ev] at q
  refine ⟨H0, env, S, ?_⟩
  cases z : itD cl it env with
  | bad => rw [z] at q; exact q.elim
  | exc x env1 => rw [z] at q; exact q
  | ok ds env1 =>
    rw [z] at q
    simp only [R.bind_ok] at q
    intro G G' e0 S1 J wk D hD
    have he : C.He D = none := S1.he hD
    have hio : ¬ C.io D := fun z => S1.ioH D z hD
    have h0e : C.H0e D = none := (S1.ex0.tr S1.ex).no hD
    let P : Nat → Hp → Prop := fun i H => i ≤ ds.length ∧ ∃ H0 env acc xs, Ext G H0 ∧ Sim (C.fill D xs) (wipe σ vs) H0 H (wipeE env vs) ∧ RepAll C.T H0 acc xs ∧
      RQ C W σ (KV C σ Q) H0 (lcAll vs env1 (lcD (lcTurn vs tg hc (ev cl c) (ev cl e)) (ds.drop i) env acc))
    refine ⟨fun i m H => m = ds.length - i ∧ P i H, ⟨ds.length, by simp, Nat.zero_le _, G, env1, [], [], Ext.rfl' _, (S1.fill0 hD).wipe vs, by simp [RepAll], by rw [List.drop_zero]; exact RQ.mono e0 q⟩, ?_⟩
    rintro i m H ⟨rfl, hi, H1, env2, acc, xs, e1, S2, ra, q2⟩
    by_cases hlt : i < ds.length
    · have hd : ds[i]? = some ds[i] := List.getElem?_eq_getElem hlt
      obtain ⟨g1, g2⟩ := wk.1 i H1 H _ e1 S2.ex hd
      refine .inr ⟨g1, P (i + 1), fun H' p => ⟨ds.length - (i + 1), by omega, rfl, p⟩, fun x H' hy => ?_⟩
      obtain ⟨H2, gr, rx⟩ := g2 x H' hy
      have S3 := S2.gr gr
      rw [List.drop_eq_getElem_cons hlt] at q2
      obtain ⟨hcalm, ds', env', hr, q2'⟩ := lcAll_bad q2
      -- the turn's own equation
      cases hst : storeG tg ds[i] (wipeE env2 vs) with
      | none => simp [lcD, lcTurn, hst] at hr
      | some env3 =>
        rw [hK]
        refine Sim.tg (C := C.fill D xs) tg S3 rx hst fun σ2 S4 hw => ⟨by rw [hw vs hv, wipe_wipe], ?_⟩
        have wσ : wipe σ2 vs = wipe σ vs := by rw [hw vs hv, wipe_wipe]
        have r2 : RepAll C.T H2 acc xs := RepAll.mono gr.e0 _ _ ra
        have hturnF : hc = false → lcTurn vs tg hc (ev cl c) (ev cl e) ds[i] env2 = ((ev cl e env3).bind fun u env3 => orBad (fzU env3 u) fun p => .ok (some p.1) p.2) := fun z => by
          subst z
          unfold lcTurn
          rw [hst]
          rfl
        have hturnT : hc = true → lcTurn vs tg hc (ev cl c) (ev cl e) ds[i] env2 = ((ev cl c env3).bind fun u env2 => orBad (rdU env2 u) fun x => orBad (truD x) fun t => match t with
              | true => (ev cl e env2).bind fun u env3 => orBad (fzU env3 u) fun p => .ok (some p.1) p.2
              | false => .ok none env2) := fun z => by
          subst z
          unfold lcTurn
          rw [hst]
          rfl
        -- behind the test: the element
        have elem : ∀ env4 H3 H3', Ext H2 H3 → Sim (C.fill D xs) σ2 H3 H3' env4 → lcTurn vs tg hc (ev cl c) (ev cl e) ds[i] env2 = ((ev cl e env4).bind fun u env3 => orBad (fzU env3 u) fun p => .ok (some p.1) p.2) →
            tElt C.T cl e σ2 H3' fun y H4 => ∃ acc, H4 D = some (.lst acc) ∧ acc.length < sizeLine ∧ P (i + 1) (upd H4 D (.lst (acc ++ [y]))) := by
          intro env4 H3 H3' e3 S5 ht
          unfold lcD at q2 hr
          rw [ht] at q2 hr
          refine ⟨C.H0e, upd C.He D (.lst xs), C.ioAt, C.fa, H3, env4, S5, ?_⟩
          cases zz : ev cl e env4 with
          | bad => rw [zz] at hr; cases hr
          | exc x env5 => rw [zz] at hr; cases hr
          | ok u env5 =>
            rw [zz] at q2 hr
            simp only [R.bind_ok] at q2 hr
            intro H4 H4' e4 S6 v hu
            cases zf : fzU env5 u with
            | none => rw [zf] at hr; cases hr
            | some p =>
              rw [zf] at q2 hr
              simp only [orBad_some] at q2 hr
              obtain ⟨H5, e5, S7, r7⟩ := S6.take hu zf
              by_cases hl : acc.length < LIM
              · rw [if_pos hl] at q2
                refine ⟨xs, S6.fillAt hio, by rw [r2.len]; exact Nat.lt_of_lt_of_le hl lim_line, hlt, H5, p.2, acc ++ [p.1], xs ++ [v], (((e1.tr gr.e0).tr e3).tr e4).tr e5, ?_, ?_, RQ.mono (((gr.e0.tr e3).tr e4).tr e5) q2⟩
                · have := (S7.fill (ys := xs ++ [v]) he hio h0e).wipe vs
                  rw [wσ] at this
                  exact this
                · exact (RepAll.mono ((e3.tr e4).tr e5) _ _ r2).app (by simp only [RepAll]; exact ⟨v, [], rfl, r7, rfl⟩)
              · rw [if_neg hl] at hr; cases hr
        cases hc with
        | false =>
          exact iteT (B := P (i + 1) H') (elem env3 H2 H' (Ext.rfl' _) S4 (hturnF rfl))
        | true =>
          refine ⟨C.H0e, upd C.He D (.lst xs), C.ioAt, C.fa, H2, env3, S4, ?_⟩
          have hturn := hturnT rfl
          have hr' := hr
          unfold lcD at hr'
          rw [hturn] at hr'
          unfold evT
          cases zc : ev cl c env3 with
          | bad => rw [zc] at hr'; cases hr'
          | exc x env5 => rw [zc] at hr'; cases hr'
          | ok u env5 =>
            rw [zc] at hr' hturn
            simp only [R.bind_ok] at hr' hturn ⊢
            cases zr : rdU env5 u with
            | none => rw [zr] at hr'; cases hr'
            | some d =>
              rw [zr] at hr' hturn
              simp only [orBad_some] at hr' hturn ⊢
              cases zt : truD d with
              | none => rw [zt] at hr'; cases hr'
              | some t =>
                rw [zt] at hr' hturn
                simp only [orBad_some] at hr' hturn ⊢
                intro H3 H3' e3 S5
                cases t with
                | true =>
                  rw [if_pos rfl]
                  exact elem env5 H3 H3' e3 S5 hturn
                | false =>
                  rw [if_neg Bool.false_ne_true]
                  have q3 := q2
                  unfold lcD at q3
                  rw [hturn] at q3
                  refine ⟨hlt, H3, env5, acc, xs, (e1.tr gr.e0).tr e3, ?_, RepAll.mono e3 _ _ r2, RQ.mono (gr.e0.tr e3) q3⟩
                  have := S5.wipe vs
                  rw [wσ] at this
                  exact this
    · have hge : ds.length ≤ i := by omega
      refine .inl ⟨wk.2 i H (e1.tr S2.ex) hge, ?_⟩
      rw [List.drop_eq_nil_of_le hge] at q2
      obtain ⟨hcalm, ds', env', hr, q3⟩ := lcAll_bad q2
      cases hr
      have S5 := S2.fillBack S1 e1 hD hcalm
      refine q3 H1 H (Ext.rfl' _) S5 (.ref D) ?_
      show RepN _ _ _ _ _ _ _
      unfold RepN
      rw [if_pos (show isMutD (PP.D.lst acc) = true from rfl)]
      refine ⟨D, rfl, he, ⟨D, xs, rfl, S2.fillNo h0e, S2.fillAt hio, ra⟩, fun j hj ej => ?_⟩
      rw [getS_back] at hj
      by_cases h : j ∈ vs
      · by_cases hl : j < env2.length
        · simp only [h, hl, and_self, if_true] at hj
          have cz := (List.all_eq_true.mp hcalm) j h
          cases z : getS env1 j <;> rw [z] at hj cz <;> first | (cases hj; done) | (cases cz; done)
        · have z : getS env2 j = .un := by unfold getS; rw [List.getD_eq_getElem?_getD, List.getElem?_eq_none (by omega)]; rfl
          simp only [h, hl, and_false, if_false, z] at hj; cases hj
      · simp only [h, false_and, if_false] at hj
        have q := ((sl_fill he hio).mp (S2.slots j)).2 (by rw [getS_wipe]; simpa [h] using hj)
        rw [wipe_get] at q
        simp only [h, if_false] at q
        exact q ej
theorem c_lc {elt tg iter : Expr} {ifs : List Expr} {scope : Scope} {own : List (Str × Nat)} {pos : Pos} {vs : List Nat} {tg' : Tg} {it' : It} {hc : Bool} {c' e' : Ex} (hK : X.K = C.T.K) (hcalm : X.calm = true) (hN : X.N.Nodup) (hi : PI X tg iter (tItr C W cl it')) (ok : BlkOk X.N X.env.scope scope own)
    (hg : ∀ (s : Shared) (H : Hp) (C : Addr) (cl : List (Str × Addr)) (fp : List Addr), PG (X.blk s H scope (compEnvC scope cl C X.env) fp) tg (rTg X.K tg'))
    (ht : ∀ (s : Shared) (H : Hp) (Ca : Addr) (ce : List (Str × Addr)) (fp : List Addr), PTs (X.blk s H scope (compEnvC scope ce Ca X.env) fp) ifs (tTst C.T cl hc c'))
    (he : ∀ (s : Shared) (H : Hp) (Ca : Addr) (ce : List (Str × Addr)) (fp : List Addr), PE (X.blk s H scope (compEnvC scope ce Ca X.env) fp) elt (tElt C.T cl e'))
    (hv : tgIn vs tg' = true := by decide) (hvs : own.map (·.2) = vs := by rfl) (hs : ∀ x, foldedSetIterable iter X.env x = pure x := by intro _; rfl) :
    PE X (.ListComp elt [⟨tg, iter, ifs, 0⟩] scope pos) (tI C W cl (.lc vs tg' it' hc c' e')) := by
  subst hvs
  exact peI (pe_lc hcalm hN hi ok hg ht he hs) fun σ H Q q => readLc hK hv q
/-- name = [..] on one line -/
theorem s_asgLc {i : Nat} {y : Str} {py : Pos} {elt tg iter : Expr} {ifs : List Expr} {scope : Scope} {own : List (Str × Nat)} {pos spos : Pos} {vs : List Nat} {tg' : Tg} {it' : It} {hc : Bool} {c' e' : Ex} (hK : X.K = C.T.K) (hcalm : X.calm = true) (hN : X.N.Nodup) (hy : X.N[i]? = some y) (hyl : X.env.scope.names.lookup y = some .local)
    (hsw : swapsWith (.ListComp elt [⟨tg, iter, ifs, 0⟩] scope pos) (some (.Name y py)) spos.line X.env = pure true) (hi : PI X tg iter (tItr C W cl it')) (ok : BlkOk X.N X.env.scope scope own)
    (hg : ∀ (s : Shared) (H : Hp) (C : Addr) (cl : List (Str × Addr)) (fp : List Addr), PG (X.blk s H scope (compEnvC scope cl C X.env) fp) tg (rTg X.K tg'))
    (ht : ∀ (s : Shared) (H : Hp) (Ca : Addr) (ce : List (Str × Addr)) (fp : List Addr), PTs (X.blk s H scope (compEnvC scope ce Ca X.env) fp) ifs (tTst C.T cl hc c'))
    (he : ∀ (s : Shared) (H : Hp) (Ca : Addr) (ce : List (Str × Addr)) (fp : List Addr), PE (X.blk s H scope (compEnvC scope ce Ca X.env) fp) elt (tElt C.T cl e'))
    (hv : tgIn vs tg' = true := by decide) (hvs : own.map (·.2) = vs := by rfl) (hs : ∀ x, foldedSetIterable iter X.env x = pure x := by intro _; rfl) :
    PS X (.Assign [.Name y py] (.ListComp elt [⟨tg, iter, ifs, 0⟩] scope pos) spos) (tS C W cl (.asg i (.lc vs tg' it' hc c' e'))) := by
  subst hvs
  refine psI (ps_setLc hcalm hN hy hyl hsw hi ok hg ht he hs) fun E σ H ⟨H0, env, S, q⟩ => ?_
  simp only [ex] at q
  exact readLc (Q := fun x H1 => gName i x σ H1 E.nx) hK hv (seqE S q fun u env1 v H1 H1' e1 S1 u1 q1 => by
    obtain ⟨env2, ha, q1⟩ := q1.orB
    obtain ⟨H2, e2, S2⟩ := S1.asg u1 ha
    exact q1 _ H2 H1' e2 S2)
end
end PP
end

section
set_option maxHeartbeats 1000000
/-! Texts and lists: built-in functions and methods. -/
namespace PP
open PySem PySem.Spec PyProof.Rows L2
section
variable {X : Cx} {C : Ctx} {W : WX} {cl : CallF} {e a b o : Expr} {es : List Expr} {e' a' b' o' : Ex} {es' : Exs} {pos : Pos}
/-! in, not in -/
theorem dp_lst {T : Tbl} {H0 H : Hp} {ys : List D} {ps : List PyData} {v : V} (hK : X.K = T.K) (e : Ext H0 H) (h : toPyAll ys = some ps) {dy : D} (hy : dy = .lst ys ∨ dy = .kst ys) (r : RdV T H0 H dy v) : Dp X.K H v (.list ps) := by
  rcases hy with rfl | rfl
  · exact dp_rd hK e (by simp only [toPy, h, Option.map_some]) r
  · exact dp_rd hK e (by simp only [toPy, h, Option.map_some]) r
theorem o_in {T : Tbl} (hK : X.K = T.K) (hu : X.A.units + 65 < cLine) : OpR X (compareOp .In) (rD T (op2 .isin)) := orI ((op_inD hu).or op_in_sign) fun x y H Q ⟨H0, dx, dy, d, e, hx, hy, hg, q⟩ => by
  rcases isin_inv hg with ⟨ys, h1, h2⟩ | ⟨u, z, rfl, rfl, h2⟩
  · obtain ⟨p, ps, h3, h4, h5, h6, rfl⟩ := inD_bl h2
    exact .inl ⟨p, ps, dp_rd hK e h3 hx, dp_lst hK e h4 h1 hy, h5, h6, q _ _ _ (Gr.rfl' e) (.flat rfl (r_bl _ _ _))⟩
  · obtain ⟨c, rfl, rfl⟩ := inS_bl h2
    exact .inr ⟨c, z, rd_str hx, rd_str hy, q _ _ _ (Gr.rfl' e) (.flat rfl (r_bl _ _ _))⟩
theorem o_notin {T : Tbl} (hK : X.K = T.K) (hu : X.A.units + 65 < cLine) : OpR X (compareOp .NotIn) (rD T (op2 .notin)) := orI ((op_notInD hu).or op_notIn_sign) fun x y H Q ⟨H0, dx, dy, d, e, hx, hy, hg, q⟩ => by
  rcases notin_inv hg with ⟨ys, b, h1, h2, rfl⟩ | ⟨u, z, b, rfl, rfl, h2, rfl⟩
  · obtain ⟨p, ps, h3, h4, h5, h6, hb⟩ := inD_bl h2
    cases hb
    exact .inl ⟨p, ps, dp_rd hK e h3 hx, dp_lst hK e h4 h1 hy, h5, h6, q _ _ _ (Gr.rfl' e) (.flat rfl (r_bl _ _ _))⟩
  · obtain ⟨c, rfl, hb⟩ := inS_bl h2
    cases hb
    exact .inr ⟨c, z, rd_str hx, rd_str hy, q _ _ _ (Gr.rfl' e) (.flat rfl (r_bl _ _ _))⟩
/-! functions -/
theorem b_tuple (hK : X.K = C.T.K) : CallR X (.type "tuple") (rDn C.T (biD .tuple)) := callI call_tuple_of fun xs H Q ⟨H0, ds, d, e, hr, hg, q⟩ => by
  have lst : ∀ {ys : List D} {a : Addr} {us : List V}, SqL X.K H a us → RepAll C.T H0 ys us → (∀ v H0' H', Gr C.T H0 H H0' H' → RepG C.T H0' H' H (.tup ys) v → Q v H') → SqL X.K H a us ∧ ∀ l, H l = none → Q (.ref l) (upd H l (.tup us)) := fun {ys a us} h1 h2 q =>
    ⟨h1, fun l hl => q _ _ _ (Gr.froz e hl) (.flat rfl (by simp only [Rep]; exact ⟨l, us, rfl, SqT.of upd_same, RepAll.mono (ext_upd (e.no hl)) _ _ h2⟩))⟩
  match ds, hg with
  | [.lst ys], hg =>
    cases hg
    obtain ⟨v, rfl, h1⟩ := rd1 hr
    obtain ⟨a, us, rfl, h2, h3⟩ := rd_lst e h1
    exact ⟨a, us, rfl, .inl (lst (.inl h2) h3 q)⟩
  | [.kst ys], hg =>
    cases hg
    obtain ⟨v, rfl, h1⟩ := rd1 hr
    obtain ⟨a, us, rfl, h2, h3⟩ := rd_kst e h1
    exact ⟨a, us, rfl, .inl (lst (hK ▸ h2) h3 q)⟩
  | [.tup ys], hg =>
    cases hg
    obtain ⟨v, rfl, h1⟩ := rd1 hr
    rcases h1 with h1 | h1
    · have h1' := h1
      simp only [Rep] at h1'
      obtain ⟨a, us, rfl, h2, h3⟩ := h1'
      exact ⟨a, us, rfl, .inr ⟨hK ▸ e.sqT h2, q _ _ _ (Gr.rfl' e) (.flat rfl h1)⟩⟩
    · exact h1.elim
theorem b_str : CallR X (.type "str") (rDn C.T (biD .str)) := callI call_str_int fun xs H Q ⟨H0, ds, d, e, hr, hg, q⟩ => by
  match ds, hg with
  | [.int i], hg =>
    simp only [biD] at hg
    split at hg
    · rename_i hl
      cases hg
      obtain ⟨v, rfl, h1⟩ := rd1 hr
      cases rd_int h1
      exact ⟨i, rfl, of_decide_eq_true hl, q _ _ _ (Gr.rfl' e) (.flat rfl (r_str _ _ _))⟩
    · cases hg
theorem bls_of {T : Tbl} {H : Hp} : ∀ {ds : List D} {bs : List Bool} {vs : List V}, blsD ds = some bs → RepAll T H ds vs → vs = bs.map V.bl
  | [], bs, vs, h, r => by cases h; simp only [RepAll] at r; subst r; rfl
  | d :: ds, bs, vs, h, r => by
    cases d with
    | bl c =>
      simp only [blsD, Option.map_eq_some_iff] at h
      obtain ⟨cs, h1, rfl⟩ := h
      simp only [RepAll, Rep] at r
      obtain ⟨v, r', rfl, rfl, r2⟩ := r
      rw [bls_of h1 r2]; rfl
    | _ => cases h
theorem ints_of {T : Tbl} {H : Hp} : ∀ {ds : List D} {bs : List Int} {vs : List V}, intsD ds = some bs → RepAll T H ds vs → vs = bs.map V.int
  | [], bs, vs, h, r => by cases h; simp only [RepAll] at r; subst r; rfl
  | d :: ds, bs, vs, h, r => by
    cases d with
    | int c =>
      simp only [intsD, Option.map_eq_some_iff] at h
      obtain ⟨cs, h1, rfl⟩ := h
      simp only [RepAll, Rep] at r
      obtain ⟨v, r', rfl, rfl, r2⟩ := r
      rw [ints_of h1 r2]; rfl
    | _ => cases h
theorem strs_of {T : Tbl} {H : Hp} : ∀ {ds : List D} {bs : List Str} {vs : List V}, strsD ds = some bs → RepAll T H ds vs → vs = bs.map V.str
  | [], bs, vs, h, r => by cases h; simp only [RepAll] at r; subst r; rfl
  | d :: ds, bs, vs, h, r => by
    cases d with
    | str c =>
      simp only [strsD, Option.map_eq_some_iff] at h
      obtain ⟨cs, h1, rfl⟩ := h
      simp only [RepAll, Rep] at r
      obtain ⟨v, r', rfl, rfl, r2⟩ := r
      rw [strs_of h1 r2]; rfl
    | _ => cases h
theorem b_all (hc : X.calm = true) : CallR X (.builtin "all") (rDn C.T (biD .all)) := callI (cr_all hc) fun xs H Q ⟨H0, ds, d, e, hr, hg, q⟩ => by
  match ds, hg with
  | [.lst ys], hg =>
    simp only [biD, Option.map_eq_some_iff] at hg
    obtain ⟨bs, hb, rfl⟩ := hg
    obtain ⟨v, rfl, h1⟩ := rd1 hr
    obtain ⟨a, us, rfl, h2, h3⟩ := rd_lst e h1
    exact ⟨a, bs, rfl, .inl (bls_of hb h3 ▸ h2), q _ _ _ (Gr.rfl' e) (.flat rfl (r_bl _ _ _))⟩
theorem b_any (hc : X.calm = true) : CallR X (.builtin "any") (rDn C.T (biD .any)) := callI (cr_any hc) fun xs H Q ⟨H0, ds, d, e, hr, hg, q⟩ => by
  match ds, hg with
  | [.lst ys], hg =>
    simp only [biD, Option.map_eq_some_iff] at hg
    obtain ⟨bs, hb, rfl⟩ := hg
    obtain ⟨v, rfl, h1⟩ := rd1 hr
    obtain ⟨a, us, rfl, h2, h3⟩ := rd_lst e h1
    exact ⟨a, bs, rfl, .inl (bls_of hb h3 ▸ h2), q _ _ _ (Gr.rfl' e) (.flat rfl (r_bl _ _ _))⟩
theorem b_sum (hc : X.calm = true) : CallR X (.builtin "sum") (rDn C.T (biD .sum)) := callI (cr_sum hc) fun xs H Q ⟨H0, ds, d, e, hr, hg, q⟩ => by
  match ds, hg with
  | [.lst ys], hg =>
    simp only [biD, Option.map_eq_some_iff] at hg
    obtain ⟨bs, hb, rfl⟩ := hg
    obtain ⟨v, rfl, h1⟩ := rd1 hr
    obtain ⟨a, us, rfl, h2, h3⟩ := rd_lst e h1
    exact ⟨a, bs, rfl, .inl (ints_of hb h3 ▸ h2), q _ _ _ (Gr.rfl' e) (.flat rfl (r_int _ _ _))⟩
theorem b_maxL (hc : X.calm = true) : CallR X (.builtin "max") (rDn C.T (biD .maxL)) := callI (cr_max hc) fun xs H Q ⟨H0, ds, d, e, hr, hg, q⟩ => by
  match ds, hg with
  | [.lst ys], hg =>
    simp only [biD, Option.bind_eq_some_iff, Option.map_eq_some_iff] at hg
    obtain ⟨bs, hb, m, hm, rfl⟩ := hg
    obtain ⟨v, rfl, h1⟩ := rd1 hr
    obtain ⟨a, us, rfl, h2, h3⟩ := rd_lst e h1
    have hm' := List.max?_eq_some_iff.mp hm
    refine ⟨a, bs, rfl, .inl (ints_of hb h3 ▸ h2), List.length_pos_of_mem hm'.1, fun k hk hk2 => ?_⟩
    have : k = m := Int.le_antisymm (hm'.2 k hk) (hk2 m hm'.1)
    subst this
    exact q _ _ _ (Gr.rfl' e) (.flat rfl (r_int _ _ _))
theorem b_minL (hc : X.calm = true) : CallR X (.builtin "min") (rDn C.T (biD .minL)) := callI (cr_min hc) fun xs H Q ⟨H0, ds, d, e, hr, hg, q⟩ => by
  match ds, hg with
  | [.lst ys], hg =>
    simp only [biD, Option.bind_eq_some_iff, Option.map_eq_some_iff] at hg
    obtain ⟨bs, hb, m, hm, rfl⟩ := hg
    obtain ⟨v, rfl, h1⟩ := rd1 hr
    obtain ⟨a, us, rfl, h2, h3⟩ := rd_lst e h1
    have hm' := List.min?_eq_some_iff.mp hm
    refine ⟨a, bs, rfl, .inl (ints_of hb h3 ▸ h2), List.length_pos_of_mem hm'.1, fun k hk hk2 => ?_⟩
    have : k = m := Int.le_antisymm (hk2 m hm'.1) (hm'.2 k hk)
    subst this
    exact q _ _ _ (Gr.rfl' e) (.flat rfl (r_int _ _ _))
/-! methods -/
def tyB : B → String
  | .index => "list" | _ => "str"
theorem rd_recv {T : Tbl} {H0 H : Hp} {B : B} {d : D} {v : V} {Ty : String} (hK : X.K = T.K) (e : Ext H0 H) (r : RdV T H0 H d v) (h : recvB B d = true) (hT : Ty = tyB B) : tyV X.K Ty v H := by
  subst hT
  cases B <;> cases d <;> first | (cases h; done) | skip
  · cases rd_str r; rfl
  · cases rd_str r; rfl
  · obtain ⟨a, xs, rfl, h1, _⟩ := rd_lst e r; exact .inl ⟨rfl, xs, .inl h1⟩
  · obtain ⟨a, xs, rfl, h1, _⟩ := rd_kst e r; exact .inl ⟨rfl, xs, hK ▸ h1⟩
/-- what a method gives, by the data -/
def rM1 (T : Tbl) (B : B) : V → List V → Hp → VK → Prop := fun x xs H Q => ∃ y, xs = [y] ∧ ∃ H0 dx dy d, Ext H0 H ∧ RdV T H0 H dx x ∧ RdV T H0 H dy y ∧ biD B [dx, dy] = some d ∧ ∀ v H0' H', Gr T H0 H H0' H' → RepG T H0' H' H d v → Q v H'
theorem c_bm {name : Str} {apos : Pos} {id Ty : String} {B : B} (hK : X.K = C.T.K) (pa : PlainAttrs Ty) (slot : Slot Ty name id) (hty : typeOf (.builtin id) = pure (.type "method_descriptor")) (hm : MtR X id (rM1 C.T B)) (hT : Ty = tyB B)
    (ho : PE X o (tI C W cl o')) (he : PE X e (tI C W cl e')) (hbase : attributeBase o name X.env (eval o X.env) = eval o X.env := by rfl)
    (hfew : ((backTo pos (starEach [e] X.env)).all (fun x => !x.1) && (backToKw pos (keywordEach [] X.env)).all (fun x => x.1.isSome)
      && decide (([e] : List Expr).length + ([] : List Keyword).length + (if ([] : List Keyword).isEmpty then 0 else 1) < 30)) = true := by rfl)
    (hline : (apos.endLine == pos.line) = true := by rfl) (hs : starEach [e] X.env = (false, eval e X.env) :: starEach [] X.env := by rfl) (hplain : (backTo pos (starEach [] X.env)).any (·.1) = false := by rfl) :
    PE X (.Call (.Attribute o name apos) [e] [] pos) (tI C W cl (.bm B o' e')) :=
  peI (pe_bm pa slot hty hm ho (pa_cons he pa_nil hs) hbase hfew hline hs hplain) fun σ H Q ⟨H0, env, S, q⟩ => by
    simp only [ev] at q
    refine seqI S q fun u env1 x H1 H1' e1 S1 u1 q1 => ?_
    obtain ⟨d0, hd0, q2⟩ := q1.orB
    split at q2
    · exact q2.elim
    rename_i hrc
    simp only [Bool.not_eq_true, Bool.not_eq_false'] at hrc
    refine ⟨rd_recv hK S1.ex (S1.rd u1 hd0) hrc hT, ?_⟩
    obtain ⟨H1f, e1f, S1f, u1f⟩ := S1.pend u1
    refine seqI S1f (RQ.mono e1f q2) fun w env2 y H2 H2' e2 S2 u2 q3 => ?_
    obtain ⟨dx, hx, q4⟩ := q3.orB
    obtain ⟨dy, hy, q5⟩ := q4.orB
    obtain ⟨z, hz, q6⟩ := q5.orB
    exact ⟨y, rfl, H2, dx, dy, z, S2.ex, S2.rd (u1f.wait e2) hx, S2.rd u2 hy, hz, fun v H0' H' g r => fin_nw S2 q6 g r⟩
theorem repAll_strs {T : Tbl} {H : Hp} : ∀ zs : List Str, RepAll T H (zs.map D.str) (zs.map V.str)
  | [] => by simp [RepAll]
  | z :: zs => by simp only [List.map_cons, RepAll, Rep]; exact ⟨_, _, rfl, rfl, repAll_strs zs⟩
theorem mtI {id : String} {r r' : V → List V → Hp → VK → Prop} (h : MtR X id r) (i : ∀ x xs H Q, r' x xs H Q → r x xs H Q) : MtR X id r' := fun pins s σ H x xs v us Q I rx rxs q => h pins s σ H x xs v us Q I rx rxs (i x xs H Q q)
theorem m_split : MtR X "str.split" (rM1 C.T .split) := mtI mt_split fun x xs H Q ⟨y, hxs, H0, dx, dy, d, e, hx, hy, hg, q⟩ => by
  cases dx with
  | str a =>
    cases dy with
    | str b =>
      simp only [biD] at hg
      split at hg
      · rename_i hl
        cases hg
        simp only [Bool.and_eq_true, decide_eq_true_eq, Bool.not_eq_true'] at hl
        refine ⟨a, b, rd_str hx, by rw [hxs, rd_str hy], hl.2, ?_, fun p hp => q _ _ _ (Gr.own e hp) (.lst e hp (repAll_strs _))⟩
        have h1 := hl.1
        have h2 : LIM + 2 ≤ sizeLine := by rw [PySem.sizeLine_eq]; decide
        omega
      · cases hg
    | _ => cases hg
  | _ => cases hg
theorem m_join (hK : X.K = C.T.K) : MtR X "str.join" (rM1 C.T .join) := mtI mt_join fun x xs H Q ⟨y, hxs, H0, dx, dy, d, e, hx, hy, hg, q⟩ => by
  cases dx with
  | str a =>
    cases dy with
    | lst ys =>
      simp only [biD, Option.bind_eq_some_iff] at hg
      obtain ⟨zs, hz, hg⟩ := hg
      split at hg
      · rename_i hl
        cases hg
        obtain ⟨p, us, rfl, h1, h2⟩ := rd_lst e hy
        refine ⟨a, p, zs, rd_str hx, hxs, .inl (.inl (strs_of hz h2 ▸ h1)), ?_, q _ _ _ (Gr.rfl' e) (.flat rfl (r_str _ _ _))⟩
        have h2 : LIM ≤ 16777216 := by decide
        omega
      · cases hg
    | _ => cases hg
  | _ => cases hg
end
end PP
end

section
set_option maxHeartbeats 1000000
/-! Objects of own classes: fields, making, methods, operators. -/
namespace PP
open PySem PySem.Spec PyProof.Rows L2
theorem Tbl.ck_some {T : Tbl} {c : Nat} {ks : List Nat} {C : Addr} (h : T.ck c ks = some C) : T.cn c = some C ∧ ∀ k ∈ ks, T.fo c k = true := by
  unfold Tbl.ck at h
  split at h
  · rename_i z
    exact ⟨h, List.all_eq_true.mp (Bool.and_eq_true_iff.mp z).2⟩
  · cases h
theorem Tbl.ck_ec {T : Tbl} {c : Nat} {ks : List Nat} {C : Addr} (h : T.ck c ks = some C) : T.ec c = false := by
  unfold Tbl.ck at h
  split at h
  · rename_i z
    simpa using (Bool.and_eq_true_iff.mp z).1
  · cases h
theorem Tbl.cx_some {T : Tbl} {c : Nat} {ks : List Nat} {C : Addr} (h : T.cx c ks = some C) : T.cn c = some C ∧ (∀ k ∈ ks, T.fo c k = true) ∧ T.ec c = true := by
  unfold Tbl.cx at h
  split at h
  · rename_i z
    exact ⟨h, List.all_eq_true.mp (Bool.and_eq_true_iff.mp z).2, (Bool.and_eq_true_iff.mp z).1⟩
  · cases h
section
variable {T : Tbl} {H0 H : Hp} {x : V}
theorem rd_obj (e : Ext H0 H) {c : Nat} {ks : List Nat} {ds : List D} (h : RdV T H0 H (.obj c ks ds) x) :
    ∃ a C dx xs, x = .ref a ∧ T.ck c ks = some C ∧ H a = some (.ins C dx ((ks.map T.fn).zip xs)) ∧ xs.length = ks.length ∧ RepAll T H0 ds xs := by
  rcases h with h | h
  · simp only [Rep] at h
    obtain ⟨a, C, dx, xs, h1, hc, h2, h3⟩ := h
    exact ⟨a, C, dx, xs, h1, hc, e _ _ h2, h3⟩
  · obtain ⟨a, C, dx, xs, h1, h0, hc, h2, h3⟩ := h
    exact ⟨a, C, dx, xs, h1, hc, h2, h3⟩
end
/-- a field's name among the names of a class's fields -/
structure FldOk (K : PySem.W.Frag) (T : Tbl) (k : Nat) (f : Str) : Prop where
  nm : T.fn k = f
  inj : ∀ c j, T.fo c k = true → T.fo c j = true → T.fn j = f → j = k
  ok : ∀ c C, T.cn c = some C → T.fo c k = true → T.ec c = false → Cls K C ∧ NoAttr K C f
  ex : ∀ c C, T.cn c = some C → T.fo c k = true → T.ec c = true → XfC K C ∧ NoAttr K C f
theorem fld_look {T : Tbl} {H : Hp} {f : Str} {k : Nat} (hn : T.fn k = f) : ∀ {ks : List Nat} {ds : List D} {xs : List V} {z : D}, (∀ j ∈ ks, T.fn j = f → j = k) → RepAll T H ds xs → xs.length = ks.length → fldD ks ds k = some z →
    ∃ v, ((ks.map T.fn).zip xs).lookup f = some v ∧ Rep T H z v ∧ k ∈ ks
  | [], _, _, _, _, _, _, h => by simp [fldD] at h
  | j :: ks, [], _, _, _, _, _, h => by simp [fldD] at h
  | j :: ks, d :: ds, xs, z, hi, hr, hl, h => by
    obtain ⟨v, r, rfl, h1, h2⟩ := (by simpa only [RepAll] using hr : ∃ v r, xs = v :: r ∧ Rep T H d v ∧ RepAll T H ds r)
    unfold fldD at h
    simp only [List.map_cons, List.zip_cons_cons, List.lookup_cons]
    by_cases e : j = k
    · rw [if_pos e] at h
      cases h
      subst e
      rw [show (f == T.fn j) = true by rw [hn]; exact beq_self_eq_true _]
      exact ⟨v, rfl, h1, List.mem_cons_self⟩
    · rw [if_neg e] at h
      rw [show (f == T.fn j) = false by
        rw [beq_eq_false_iff_ne]
        exact fun q => e (hi j List.mem_cons_self q.symm)]
      obtain ⟨v', q1, q2, q3⟩ := fld_look hn (fun i hm => hi i (List.mem_cons_of_mem _ hm)) h2 (by simpa using hl) h
      exact ⟨v', q1, q2, List.mem_cons_of_mem _ q3⟩
section
variable {X : Cx} {C : Ctx} {W : WX} {cl : CallF} {e a b c : Expr} {es : List Expr} {e' a' b' c' : Ex} {es' : Exs} {pos : Pos}
/-- e.f, of an object or an exception -/
theorem pe_fldX {f : Str} {te : TE} (he : PE X e te) (hb : attributeBase e f X.env (eval e X.env) = eval e X.env) : PE X (.Attribute e f pos) (fun σ H Q => te σ H fun x H1 =>
    (∃ a C dx fs v, x = .ref a ∧ H1 a = some (.ins C dx fs) ∧ Cls X.K C ∧ NoAttr X.K C f ∧ fs.lookup f = some v ∧ Q v H1) ∨
    ∃ a Ca dd fs v, x = .ref a ∧ H1 a = some (ErrO Ca (some dd) a) ∧ H1 dd = some (.xd fs) ∧ fs.lookup f = some v ∧ XfC X.K Ca ∧ NoAttr X.K Ca f ∧ Q v H1) := by
  refine ⟨fun pins s σ H Q I h => ?_⟩
  refine attr_of hb (thn (he.run pins s σ H _ I h) fun u s1 ⟨x, H1, I1, rx, hq⟩ => ?_)
  rcases hq with ⟨a, C, dx, fs, v, ex, ea, c, n, l, q⟩ | ⟨a, Ca, dd, fs, v, ex, ea, ed, l, T, hno, q⟩
  · subst ex
    obtain rfl : u = Value.ref a := rx
    exact getattr_ok I1 ea c n l fun u' s2 I2 ru => ⟨v, H1, I2, ru, q⟩
  · subst ex
    obtain rfl : u = Value.ref a := rx
    have ho : ObjOk X.prog X.w H1 s1.heap a (ErrO Ca (some dd) a) := I1.hok a _ ea
    unfold ErrO at ho
    obtain ⟨⟨oe, vs, hge, hz, hd⟩, _, _⟩ := ho
    have hx : ObjOk X.prog X.w H1 s1.heap dd (.xd fs) := I1.hok dd _ ed
    obtain ⟨mA, hns, hr⟩ := hx
    obtain ⟨od, ho, hl⟩ := lookIn_ns hns
    obtain ⟨u, hu, ru⟩ := RelO.some_of (v := v) (o := mA f) (by rw [← l]; exact hr f)
    have J : PySem.W.InstAt s1.heap a oe Ca (some od) := ⟨hge, hz.1, by unfold PySem.W.notCls; rw [hd] <;> rfl, by rw [hz.2]; exact ho⟩
    exact PySem.HandSPX.exc_get I1.kIn J T.ga T.gg T.exC (PySem.W.findObj_own T.hdC hno rfl (by rw [hl, hu])) (handed_of ru) ⟨v, H1, I1.tok _, ru, q⟩
theorem fldD_mem : ∀ {ks : List Nat} {vs : List D} {k : Nat} {z : D}, fldD ks vs k = some z → k ∈ ks := by
  intro ks
  induction ks with
  | nil => intro vs k z h; simp [fldD] at h
  | cons j ks ih =>
    intro vs k z h
    cases vs with
    | nil => simp [fldD] at h
    | cons v vs =>
      unfold fldD at h
      by_cases e : j = k
      · exact e ▸ List.mem_cons_self
      · rw [if_neg e] at h; exact List.mem_cons_of_mem _ (ih h)
theorem c_fld {f : Str} {k : Nat} (hK : X.K = C.T.K) (he : PE X e (tI C W cl e')) (F : FldOk X.K C.T k f) (hb : attributeBase e f X.env (eval e X.env) = eval e X.env := by rfl) : PE X (.Attribute e f pos) (tI C W cl (.fld e' k)) :=
  peI (pe_fldX he hb) fun σ H Q ⟨H0, env, S, q⟩ => by
    simp only [ev] at q
    refine seqI S q fun u env1 x H1 H1' e1 S1 u1 q1 => ?_
    obtain ⟨d, hd, q2⟩ := q1.orB
    obtain ⟨z, hz, q3⟩ := q2.orB
    have hr := S1.rd u1 hd
    clear q1 q2
    cases d with
    | obj c ks vs =>
      obtain ⟨p, Ca, dx, xs, rfl, hc, hp, hl, ha⟩ := rd_obj S1.ex hr
      obtain ⟨hc1, hc2⟩ := Tbl.ck_some hc
      have hk : k ∈ ks := by
        have : ∀ {ks : List Nat} {vs : List D} {z : D}, fldD ks vs k = some z → k ∈ ks := by
          intro ks
          induction ks with
          | nil => intro vs z h; simp [fldD] at h
          | cons j ks ih =>
            intro vs z h
            cases vs with
            | nil => simp [fldD] at h
            | cons v vs =>
              unfold fldD at h
              by_cases e : j = k
              · exact e ▸ List.mem_cons_self
              · rw [if_neg e] at h; exact List.mem_cons_of_mem _ (ih h)
        exact this hz
      obtain ⟨v, l1, l2, _⟩ := fld_look F.nm (fun j hj => F.inj c j (hc2 k hk) (hc2 j hj)) ha hl hz
      obtain ⟨o1, o2⟩ := F.ok c Ca hc1 (hc2 k hk) (Tbl.ck_ec hc)
      exact .inl ⟨p, Ca, dx, _, v, rfl, hp, o1, o2, l1, q3 H1 H1' (Ext.rfl' _) S1 v l2⟩
    | err c ks vs =>
      have hk := fldD_mem hz
      rcases hr with hr | hr
      · simp only [Rep] at hr
        obtain ⟨a, Ca, dx, rfl, hc, hp, hr⟩ := hr
        obtain ⟨hc1, hc2, hc3⟩ := Tbl.cx_some hc
        rcases hr with ⟨hr, _⟩ | ⟨dd, xs, rfl, hdd, hl, ha⟩
        · subst hr; cases hk
        · obtain ⟨v, l1, l2, _⟩ := fld_look F.nm (fun j hj => F.inj c j (hc2 k hk) (hc2 j hj)) ha hl hz
          obtain ⟨o1, o2⟩ := F.ex c Ca hc1 (hc2 k hk) hc3
          exact .inr ⟨a, Ca, dd, _, v, rfl, S1.ex _ _ hp, S1.ex _ _ hdd, l1, o1, o2, q3 H1 H1' (Ext.rfl' _) S1 v l2⟩
      · exact hr.elim
    | _ => cases hz
theorem put_zip {T : Tbl} {H : Hp} {f : Str} {k : Nat} (hn : T.fn k = f) {z : D} {v : V} (hz : Rep T H z v) : ∀ {ks : List Nat} {ds : List D} {xs : List V}, (∀ j ∈ ks, T.fn j = f → j = k) → RepAll T H ds xs → xs.length = ks.length → ds.length = ks.length →
    ∃ xs', putF f v ((ks.map T.fn).zip xs) = (((putD ks ds k z).1.map T.fn).zip xs') ∧ xs'.length = (putD ks ds k z).1.length ∧ RepAll T H (putD ks ds k z).2 xs' ∧ ∀ j ∈ (putD ks ds k z).1, j ∈ ks ∨ j = k
  | [], [], xs, _, hr, _, _ => by
    simp only [RepAll] at hr
    subst hr
    refine ⟨[v], ?_, rfl, ?_, ?_⟩
    · simp [putF, putD, hn]
    · simp only [putD, RepAll]; exact ⟨v, [], rfl, hz, rfl⟩
    · intro j hj; simp [putD] at hj; exact .inr hj
  | [], _ :: _, _, _, _, _, h => by simp at h
  | _ :: _, [], _, _, _, _, h => by simp at h
  | j :: ks, d :: ds, xs, hi, hr, hl, hd => by
    obtain ⟨w, r, rfl, h1, h2⟩ := (by simpa only [RepAll] using hr : ∃ v r, xs = v :: r ∧ Rep T H d v ∧ RepAll T H ds r)
    unfold putD
    simp only [List.map_cons, List.zip_cons_cons]
    by_cases e : j = k
    · subst e
      simp only [if_true]
      refine ⟨v :: r, ?_, by simpa using hl, ?_, fun i hi => .inl hi⟩
      · simp [putF, hn]
      · simp only [RepAll]; exact ⟨v, r, rfl, hz, h2⟩
    · have ne : T.fn j ≠ f := fun q => e (hi j List.mem_cons_self q)
      obtain ⟨xs', q1, q2, q3, q4⟩ := put_zip hn hz (fun i hm => hi i (List.mem_cons_of_mem _ hm)) h2 (by simpa using hl) (by simpa using hd)
      simp only [if_neg e]
      refine ⟨w :: xs', ?_, by simp [q2], ?_, ?_⟩
      · simp only [putF, if_neg ne, q1, List.map_cons, List.zip_cons_cons]
      · simp only [RepAll]; exact ⟨w, xs', rfl, h1, q3⟩
      · intro i hm
        simp only [List.mem_cons] at hm ⊢
        rcases hm with rfl | hm
        · exact .inl (.inl rfl)
        · rcases q4 i hm with z | z
          · exact .inl (.inr z)
          · exact .inr z
theorem RepAll.lenD {T : Tbl} {H : Hp} : ∀ {ds : List D} {xs : List V}, RepAll T H ds xs → ds.length = xs.length
  | [], _, h => by simp only [RepAll] at h; subst h; rfl
  | d :: ds, _, h => by
    simp only [RepAll] at h
    obtain ⟨v, r, rfl, _, h2⟩ := h
    simp [RepAll.lenD h2]
/-- an owned object at a slot -/
theorem Sim.ob (S : Sim C σ H0 H env) {i c : Nat} {ks : List Nat} {vs : List D} (h : getS env i = .ow (.obj c ks vs) ∨ getS env i = .io (.obj c ks vs)) :
    ∃ a, σ[i]? = some (some (.ref a)) ∧ ownS (getS env i) = true ∧ RepO C.T H0 H (.obj c ks vs) (.ref a) := by
  have hi := S.slots i
  rcases h with z | z
  · rw [z] at hi ⊢
    obtain ⟨a, h1, _, h3⟩ := hi
    exact ⟨a, h1, rfl, h3⟩
  · rw [z] at hi ⊢
    obtain ⟨a, h1, _, h3⟩ := hi
    exact ⟨a, h1, rfl, h3⟩
/-- name.f = value -/
theorem s_setF {st : Stmt} {i k : Nat} {f : Str} {cs : List Nat} {σ : L2.St} (hK : X.K = C.T.K) (F : FldOk X.K C.T k f) (hc : ∀ c ∈ cs, C.T.fo c k = true) (h : PS X st (sFld X.K (tVar i) (tI C W cl e') f)) : PS X st (tS C W cl (.setF i cs k e')) := psI h fun E σ H ⟨H0, env, S, q⟩ => by
  simp only [ex] at q
  refine seqE S q fun u env1 v H1 H1' e1 S1 u1 q1 => ?_
  obtain ⟨⟨d, env2⟩, hf, q2⟩ := q1.orB
  obtain ⟨H2, e2, S2, r2⟩ := S1.take u1 hf
  have fin : ∀ c ks vs, getS env2 i = .ow (.obj c ks vs) ∨ getS env2 i = .io (.obj c ks vs) → RS C W E H1 (if (decide (ks.length < 100) && decide (vs.length = ks.length) && cs.contains c) = true then .ok .next (env2.set i (setIO (getS env2 i) (.obj c (putD ks vs k d).1 (putD ks vs k d).2))) else .bad) →
      ∃ x H2, σ[i]? = some (some x) ∧ H2 = H1' ∧ ∃ a C dx fs, x = .ref a ∧ H2 a = some (.ins C dx fs) ∧ Cls X.K C ∧ NoAttr X.K C f ∧ fs.length < 1000 ∧ E.nx σ (upd H2 a (.ins C dx (putF f v fs))) := by
    intro c ks vs hg q4
    split at q4
    · rename_i hz
      simp only [Bool.and_eq_true, decide_eq_true_eq, List.contains_iff_mem] at hz
      obtain ⟨⟨hz1, hz2⟩, hz3⟩ := hz
      obtain ⟨a, ha, ho, hr⟩ := S2.ob hg
      obtain ⟨b, Ca, dx, xs, eb, hn, hck, hp, hl, hx⟩ := hr
      cases eb
      obtain ⟨hc1, hc2⟩ := Tbl.ck_some hck
      obtain ⟨o1, o2⟩ := F.ok c Ca hc1 (hc c hz3) (Tbl.ck_ec hck)
      obtain ⟨xs', p1, p2, p3, p4⟩ := put_zip F.nm r2 (fun j hj => F.inj c j (hc c hz3) (hc2 j hj)) hx hl hz2
      refine ⟨_, _, ha, rfl, a, Ca, dx, _, rfl, hp, o1, o2, ?_, ?_⟩
      · rw [List.length_zip, List.length_map]; omega
      · rw [p1]
        refine q4 _ H2 _ e2 (S2.mut ho ha ⟨a, Ca, dx, xs', rfl, hn, ?_, upd_same, p2, p3⟩)
        unfold Tbl.ck
        rw [if_pos (Bool.and_eq_true_iff.mpr ⟨by rw [Tbl.ck_ec hck]; rfl, List.all_eq_true.mpr fun j hj => (p4 j hj).elim (hc2 j) fun z => by rw [z]; exact hc c hz3⟩)]
        exact hc1
    · exact q4.elim
  split at q2
  · rename_i c ks vs hg
    obtain ⟨x, _, hx, rfl, r⟩ := fin c ks vs (.inl hg) (by rw [hg]; exact q2)
    exact ⟨x, hx, r⟩
  · rename_i c ks vs hg
    obtain ⟨x, _, hx, rfl, r⟩ := fin c ks vs (.inr hg) (by rw [hg]; exact q2)
    exact ⟨x, hx, r⟩
  · exact q2.elim
/-- constants behind the arguments -/
def CstOk (T : Tbl) : List D → List V → Prop := fun ds vs => ∀ H, RepAll T H ds vs
theorem UcOk.app {σ : L2.St} {H0 : Hp} {ds : List D} {dvs : List V} (hd : RepAll C.T H0 ds dvs) : ∀ {us : List U} {vs : List V}, UcOk C σ H0 us vs → UcOk C σ H0 (us ++ ds.map .d) (vs ++ dvs)
  | [], _, h => by
    cases h
    induction ds generalizing dvs with
    | nil => simp only [RepAll] at hd; subst hd; rfl
    | cons d ds ih =>
      simp only [RepAll] at hd
      obtain ⟨v, r, rfl, h1, h2⟩ := hd
      exact ⟨v, r, rfl, h1, ih h2⟩
  | .d x :: us, _, h => by obtain ⟨v, r, rfl, h1, h2⟩ := h; exact ⟨v, r ++ dvs, rfl, h1, UcOk.app hd h2⟩
  | .sl i :: us, _, h => by obtain ⟨v, r, rfl, h1, h2⟩ := h; exact ⟨v, r ++ dvs, rfl, h1, UcOk.app hd h2⟩
  | .nw _ :: _, _, h => h.elim
/-- a call, from the reading of its run -/
theorem read_run {σ : L2.St} {H1 H1' : Hp} {Q : VK} {env1 : Env} {f n : Nat} {ms : List Bool} {us : List U} {vs : List V} (S1 : Sim C σ H1 H1' env1) (hv : UcOk C σ H1 us vs) (hn : ms.length = n) (q : RQ C W σ (KV C σ Q) H1 (runC cl f ms us env1)) :
    spF C.T cl f n vs H1' Q fun cls d H' => W cls d σ H' := by
  unfold runC at q
  obtain ⟨as, ha, q⟩ := q.orB
  split at q
  rotate_left
  · exact q.elim
  rename_i hd
  obtain ⟨g1, g2, g3⟩ := args_ok S1 ha hv
  refine ⟨H1, as, S1.ex, g1, io_nodup S1 ha hv hd, g2.trans hn, S1.tb, ?_⟩
  cases zc : cl f as with
  | bad => simp only [zc] at q; exact q
  | exc x outs =>
    simp only [zc] at q
    intro cls d H0' H' g o hx
    exact q cls d H0' H' g.e0 (S1.call ha hv hd g o) hx
  | ok r outs =>
    simp only [zc] at q
    intro v H0' H' g hr o
    have S2 := S1.call ha hv hd g o
    exact q H0' H' g.e0 S2 v (ret_u S1 ha hv hd g o hr)
theorem tac_len {ms : List Bool} : ∀ {es : Exs} {env env1 : Env} {us : List U}, evC cl ms es env = .ok us env1 → True := fun _ => trivial
/-- f(..) with defaults behind -/
theorem c_callD {x : Str} {p : Pos} {k f n : Nat} {fa : Addr} {fd : FuncData} {ps : List Str} {ms : List Bool} {ds : List D} {dvs : List V} {dus : List Value} (F : FnG X.prog X.w X.K X.mg X.base k fa fd ps (spF C.T cl f n)) (hgd : X.A.guards = some []) (hr : Room k X.A) (tk : Takes X W)
    (hg : Gl X x) (hm : X.mg x = some (.ref fa)) (hk : PySem.W.keepIn X.K (.ref fa) = true) (hb : Binds X.K fd ps dus) (hdv : Vals dvs dus) (hds : CstOk C.T ds dvs) (ha : PA X (e :: es) (tAC C W cl ms es')) (hn : (ms ++ ds.map fun _ => false).length = n := by rfl) (hdb : (x == ("__debug__" : Str)) = false := by decide)
    (he : starEach (e :: es) X.env = (false, eval e X.env) :: starEach es X.env := by rfl) (hpl : (backTo pos (starEach es X.env)).any (·.1) = false := by rfl) : PE X (.Call (.Name x p) (e :: es) [] pos) (tI C W cl (.callD f ms es' ds)) := by
  refine peI (t := fun σ H Q => tAC C W cl ms es' σ H fun vs H1 => spF C.T cl f n (vs ++ dvs) H1 Q fun cls d H' => W cls d σ H') ⟨fun pins s σ H Q I h => ?_⟩ fun σ H Q q => ?_
  · refine wpAny_Call_Name_kw (ld_glob I hg hm ?_ hdb)
    refine PySem.W.callWith_K (h₀ := X.base) I.ok.mod.kin hk (thn (ha.run pos pins s σ H _ I h) fun us s1 hq => ?_) he hpl
    obtain ⟨vs, H1, I1, r, q⟩ := hq
    exact ⟨I1.kIn, F.go hgd hr hb hdv tk (fun _ _ _ z => z) I1 r q⟩
  · obtain ⟨H0, env, S, q⟩ := q
    simp only [ev] at q
    refine ⟨H0, env, S, ?_⟩
    cases z : evC cl ms es' env with
    | bad => rw [z] at q; exact q.elim
    | exc x env1 => rw [z] at q; exact q
    | ok us env1 =>
      rw [z] at q
      simp only [R.bind_ok] at q
      intro H1 H1' e1 S1 vs hv
      exact read_run S1 (hv.app (hds _)) hn (RQ.mono e1 q)
theorem c_callD0 {x : Str} {p : Pos} {k f n : Nat} {fa : Addr} {fd : FuncData} {ps : List Str} {ds : List D} {dvs : List V} {dus : List Value} (F : FnG X.prog X.w X.K X.mg X.base k fa fd ps (spF C.T cl f n)) (hgd : X.A.guards = some []) (hr : Room k X.A) (tk : Takes X W)
    (hg : Gl X x) (hm : X.mg x = some (.ref fa)) (hk : PySem.W.keepIn X.K (.ref fa) = true) (hb : Binds X.K fd ps dus) (hdv : Vals dvs dus) (hds : CstOk C.T ds dvs) (hn : (ds.map fun _ => false).length = n := by rfl) (hdb : (x == ("__debug__" : Str)) = false := by decide) : PE X (.Call (.Name x p) [] [] pos) (tI C W cl (.callD f [] .nil ds)) := by
  refine peI (t := fun σ H Q => spF C.T cl f n dvs H Q fun cls d H' => W cls d σ H') ⟨fun pins s σ H Q I h => ?_⟩ fun σ H Q q => ?_
  · refine wpAny_Call_Name_kw (ld_glob I hg hm ?_ hdb)
    exact PySem.W.callWith_K0 I.kIn hk (F.go (us := []) hgd hr hb hdv tk (fun _ _ _ z => z) I .nil h)
  · obtain ⟨H0, env, S, q⟩ := q
    simp only [ev, evC, R.bind_ok, List.nil_append] at q
    exact read_run (us := ds.map .d) (vs := dvs) S (UcOk.app (us := []) (vs := []) (hds _) rfl) hn q
/-- a method of the classes cs: where it stands, what it promises -/
def SpOk (X : Cx) (T : Tbl) (cl : CallF) (m : Nat) (nm : Str) (cs : List Nat) (n : Nat) (dvs : List V) : Prop :=
  ∀ c ∈ cs, ∀ C, T.cn c = some C → Cls X.K C ∧ (∀ j, T.fo c j = true → T.fn j ≠ nm) ∧ ∃ k f fd ps dus, Meth X.K C nm f ∧ FnG X.prog X.w X.K X.mg X.base k f fd ps (spF T cl (spec c m) n) ∧ Room k X.A ∧ Binds X.K fd ps dus ∧ Vals dvs dus
theorem look_none {T : Tbl} {nm : Str} : ∀ {ks : List Nat} {xs : List V}, (∀ j ∈ ks, T.fn j ≠ nm) → ((ks.map T.fn).zip xs).lookup nm = none
  | [], _, _ => rfl
  | _ :: _, [], _ => rfl
  | k :: ks, x :: xs, h => by
    simp only [List.map_cons, List.zip_cons_cons, List.lookup_cons]
    rw [show (nm == T.fn k) = false by rw [beq_eq_false_iff_ne]; exact fun q => h k List.mem_cons_self q.symm]
    exact look_none fun j hj => h j (List.mem_cons_of_mem _ hj)
/-- what is read of a method's call -/
def tMt (C : Ctx) (W : WX) (cl : CallF) (a' : Ex) (m : Nat) (nm : Str) (cs : List Nat) (n : Nat) (dvs : List V) (t : TA) : TE := fun σ H Q => tI C W cl a' σ H fun x H1 => ∃ p c Ca dx fs, x = .ref p ∧ H1 p = some (.ins Ca dx fs) ∧ c ∈ cs ∧ C.T.cn c = some Ca ∧
  ((∀ j, C.T.fo c j = true → C.T.fn j ≠ nm) → fs.lookup nm = none) ∧ t σ H1 fun vs H2 => spF C.T cl (spec c m) n (x :: (vs ++ dvs)) H2 Q fun cls d H' => W cls d σ H'
theorem readM {σ : L2.St} {H : Hp} {Q : VK} {io : Bool} {m n : Nat} {nm : Str} {cs : List Nat} {ms : List Bool} {ds : List D} {dvs : List V} (hds : CstOk C.T ds dvs) (hn : (io :: (ms ++ ds.map fun _ => false)).length = n)
    (h : tI C W cl (.mth io a' m cs ms es' ds) σ H Q) : tMt C W cl a' m nm cs n dvs (tAC C W cl ms es') σ H Q := by
  obtain ⟨H0, env, S, q⟩ := h
  simp only [ev] at q
  refine seqI S q fun u env1 x H1 H1' e1 S1 u1 q1 => ?_
  obtain ⟨⟨c, ur, env2⟩, hr, q2⟩ := q1.orB
  split at q2
  · exact q2.elim
  rename_i hcs
  simp only [Bool.not_eq_true, Bool.not_eq_false', List.contains_iff_mem] at hcs
  -- the one who is asked, and what stands behind
  have key : ∃ H2, Ext H1 H2 ∧ Sim C σ H2 H1' env2 ∧ (∃ p Ca dx ks xs, x = .ref p ∧ H1' p = some (.ins Ca dx ((ks.map C.T.fn).zip xs)) ∧ C.T.ck c ks = some Ca) ∧
      ∀ H3, Ext H2 H3 → ∀ {us : List U} {vs : List V}, UcOk C σ H3 us vs → UcOk C σ H3 (ur :: us) (x :: vs) := by
    unfold recvU at hr
    cases io with
    | true =>
      simp only at hr
      cases u with
      | d y => cases hr
      | nw y => cases hr
      | sl i =>
        simp only at hr
        split at hr
        · rename_i c' ks vs hg
          cases hr
          obtain ⟨a, ha, _, b, Ca, dx, xs, eb, _, hck, hp, hl, hx⟩ := S1.ob (.inl hg)
          cases eb
          have ex : x = .ref a := by
            have u1' : σ[i]? = some (some x) := u1
            rw [ha] at u1'; cases u1'; rfl
          exact ⟨H1, Ext.rfl' _, S1, ⟨a, Ca, dx, ks, xs, ex, hp, hck⟩, fun H3 e3 us vs hu => ⟨x, vs, rfl, u1, hu⟩⟩
        · rename_i c' ks vs hg
          cases hr
          obtain ⟨a, ha, _, b, Ca, dx, xs, eb, _, hck, hp, hl, hx⟩ := S1.ob (.inr hg)
          cases eb
          have ex : x = .ref a := by
            have u1' : σ[i]? = some (some x) := u1
            rw [ha] at u1'; cases u1'; rfl
          exact ⟨H1, Ext.rfl' _, S1, ⟨a, Ca, dx, ks, xs, ex, hp, hck⟩, fun H3 e3 us vs hu => ⟨x, vs, rfl, u1, hu⟩⟩
        · cases hr
    | false =>
      simp only at hr
      split at hr
      · rename_i c' ks vs env' hf
        cases hr
        obtain ⟨H2, e2, S2, r2⟩ := S1.take u1 hf
        have r3 := r2
        simp only [Rep] at r3
        obtain ⟨a, Ca, dx, xs, h1, hck, h2, _⟩ := r3
        exact ⟨H2, e2, S2, ⟨a, Ca, dx, ks, xs, h1, S2.ex _ _ h2, hck⟩, fun H3 e3 us vs hu => ⟨x, vs, rfl, Rep.mono e3 _ _ r2, hu⟩⟩
      · cases hr
  obtain ⟨H2, e2, S2, ⟨p, Ca, dx, ks, xs, hx, hp, hck⟩, hu⟩ := key
  obtain ⟨hc1, hc2⟩ := Tbl.ck_some hck
  have q3 := RQ.mono e2 q2
  refine ⟨p, c, Ca, dx, _, hx, hp, hcs, hc1, fun hno => look_none fun j hj => hno j (hc2 j hj), H2, env2, S2, ?_⟩
  cases z : evC cl ms es' env2 with
  | bad => rw [z] at q3; exact q3.elim
  | exc y env3 => rw [z] at q3; exact q3
  | ok us env3 =>
    rw [z] at q3
    simp only [R.bind_ok] at q3
    intro H3 H3' e3 S3 vs hv
    exact read_run S3 (hu H3 e3 (hv.app (hds _))) hn (RQ.mono e3 q3)
/-- o.m(e, ..) -/
theorem c_mth {o : Expr} {nm : Str} {apos : Pos} {io : Bool} {m n : Nat} {cs : List Nat} {ms : List Bool} {ds : List D} {dvs : List V} {pl : Sem Bool} (SP : SpOk X C.T cl m nm cs n dvs) (hds : CstOk C.T ds dvs) (hgd : X.A.guards = some []) (tk : Takes X W)
    (he : PE X o (tI C W cl a')) (ha : PA X (e :: es) (tAC C W cl ms es')) (hn : (io :: (ms ++ ds.map fun _ => false)).length = n := by rfl)
    (hst : starEach (e :: es) X.env = (false, eval e X.env) :: starEach es X.env := by rfl) (hpl : (backTo pos (starEach es X.env)).any (·.1) = false := by rfl)
    (ht : eval (.Call (.Attribute o nm apos) (e :: es) [] pos) X.env = (do
      let ov ← eval o X.env
      standAt apos.atName
      let (f, first) ← holding [ov] (getMethod ov nm pl)
      callWith pos f first (backTo pos (starEach (e :: es) X.env)) (backToKw pos (keywordEach [] X.env))) := by rfl) :
    PE X (.Call (.Attribute o nm apos) (e :: es) [] pos) (tI C W cl (.mth io a' m cs ms es' ds)) := by
  refine peI (t := tMt C W cl a' m nm cs n dvs (tAC C W cl ms es')) ⟨fun pins s σ H Q I h => ?_⟩ fun σ H Q q => readM hds hn q
  refine PySem.W.methodCall_KW (pl := pl) (thn (he.run pins s σ H _ I h) fun u s1 ⟨x, H1, I1, rx, p, c, Ca, dx, fs, ex, ea, hcs, hcn, l, q⟩ => ?_) ht
  subst ex
  obtain rfl : u = Value.ref p := rx
  obtain ⟨kc, hno, k, f, fd, ps, dus, hm, F, hr, hb, hd⟩ := SP c hcs Ca hcn
  refine getmeth_ok I1 ea kc hm (l hno) ?_
  refine PySem.W.callWith_K (first := [.ref p]) (h₀ := X.base) I.ok.mod.kin hm.kp (thn (ha.run pos pins s1 σ H1 _ I1 q) fun us s2 ⟨vs, H2, I2, r, q2⟩ => ⟨I2.kIn, ?_⟩) hst hpl
  exact F.go (us := .ref p :: us) (vs := .ref p :: vs) hgd hr hb hd tk (fun _ _ _ z => z) I2 (.cons rfl r) q2
theorem c_mth0 {o : Expr} {nm : Str} {apos : Pos} {io : Bool} {m n : Nat} {cs : List Nat} {ds : List D} {dvs : List V} {pl : Sem Bool} (SP : SpOk X C.T cl m nm cs n dvs) (hds : CstOk C.T ds dvs) (hgd : X.A.guards = some []) (tk : Takes X W)
    (he : PE X o (tI C W cl a')) (hn : (io :: (ds.map fun _ => false)).length = n := by rfl)
    (ht : eval (.Call (.Attribute o nm apos) [] [] pos) X.env = (do
      let ov ← eval o X.env
      standAt apos.atName
      let (f, first) ← holding [ov] (getMethod ov nm pl)
      callWith pos f first (backTo pos (starEach [] X.env)) (backToKw pos (keywordEach [] X.env))) := by rfl) :
    PE X (.Call (.Attribute o nm apos) [] [] pos) (tI C W cl (.mth io a' m cs [] .nil ds)) := by
  refine peI (t := tMt C W cl a' m nm cs n dvs (tAC C W cl [] .nil)) ⟨fun pins s σ H Q I h => ?_⟩ fun σ H Q q => readM hds hn q
  refine PySem.W.methodCall_KW (pl := pl) (thn (he.run pins s σ H _ I h) fun u s1 ⟨x, H1, I1, rx, p, c, Ca, dx, fs, ex, ea, hcs, hcn, l, q⟩ => ?_) ht
  subst ex
  obtain rfl : u = Value.ref p := rx
  obtain ⟨kc, hno, k, f, fd, ps, dus, hm, F, hr, hb, hd⟩ := SP c hcs Ca hcn
  refine getmeth_ok I1 ea kc hm (l hno) ?_
  obtain ⟨H0, env, S, q⟩ := q
  simp only [evC] at q
  exact PySem.W.callWith_K0 (first := [.ref p]) I1.kIn hm.kp (F.go (us := [.ref p]) (vs := [.ref p]) hgd hr hb hd tk (fun _ _ _ z => z) I1 (.cons rfl .nil) (q H0 H1 (Ext.rfl' _) S [] rfl))
end
end PP
end

section
set_option maxHeartbeats 2000000
/-! Exceptions as values: isinstance. -/
namespace PySem.W
open PySem PySem.Spec PySem.Calls PyProof.Rows
section
variable {prog : Program} {w : World} {A : Around} {E : Value → Shared → Prop} {s : Shared} {K : Frag} {x D : Addr} {ox : Obj} {od : Option Obj}
theorem pp_dataD {C : Addr} {name : Str} {a g : Value} (hc : (clsIn K C).isSome = true) (ha : findIn K (.ref C) name = some (some a)) (hg : specialIn K a "__get__" = some (some g)) (ht : takesIn K a = some true) : findObj K C od name = some (.bind g a) := by
  obtain ⟨cd, hc⟩ := Option.isSome_iff_exists.mp hc
  unfold findObj
  rw [hc, Option.bind_some, ha, Option.bind_some]
  simp [hg, ht]
theorem pp_classE {Q : Option Value → Shared → Prop} (hga : findIn K (.ref D) "__getattribute__" = some (some (.builtin "BaseException.__getattribute__"))) (hgt : findIn K (.ref D) "__getattr__" = some none) (hsub : subIn K (.ref D) (.type "BaseException") = some true)
    (hdct : hasDictIn K D = true) (ha : findIn K (.ref D) "__class__" = some (some (.builtin "object.__class__")))
    (hn : specialIn K (.builtin "object.__class__") "__get__" = some (some (.builtin "getset_descriptor.__get__"))) (htk : takesIn K (.builtin "object.__class__") = some true) (hm : mroIn K D (.type "object") = some true)
    (X : K.In s.heap) (I : InstAt s.heap x ox D od) (h : Q (some (.ref D)) { s with toks := s.toks + 1 }) : wpAny (model prog w) A (getAttr? (.ref x) "__class__") Q E s := by
  have hf : findObj K D od "__class__" = some (.bind (.builtin "getset_descriptor.__get__") (.builtin "object.__class__")) := pp_dataD (by obtain ⟨cd, hc, _⟩ := any_some hdct; rw [hc]; rfl) ha hn htk
  obtain ⟨hp, g, d, t, os⟩ := s
  have L0 := I.type (M := model prog w)
  have L1 := looks_findIn (M := model prog w) X hga
  have L2 := looks_findIn (M := model prog w) X hgt
  have L3 := looks_find (M := model prog w) X I hf
  have sub : Looks (model prog w) hp (isInstance (.ref x) (.type "BaseException")) true := L0.andThen (looks_subIn X hsub)
  have hx0 : (false && onTheHeap (Value.builtin "BaseException.__getattribute__")) = false := rfl
  have hx2 : (Value.builtin "BaseException.__getattribute__" == Value.builtin "object.__getattribute__") = false := by decide +kernel
  have hx1 : (onTheHeap (Value.ref D) && Value.builtin "BaseException.__getattribute__" == Value.builtin "object.__getattribute__") = false := by rw [hx2]; rfl
  unfold getAttr? getAttrBy? getAttrBy
  refine wpAny_bind (wpAny_mkText (wpAny_bind (wpAny_attempt (wpAny_holding (wpAny_bind (L0.at (wpAny_bind (L1.at ?_))))))))
  show wpAny _ _ (if (onTheHeap (Value.ref D) && Value.builtin "BaseException.__getattribute__" == Value.builtin "object.__getattribute__") = true then _ else _) _ _ _
  rw [hx1, if_neg Bool.false_ne_true]
  unfold getAttrByItsOwn hookBefore
  refine wpAny_bind ?_
  rw [if_pos (show onTheHeap (Value.ref D) = true from rfl)]
  refine L2.at ?_
  refine wpAny_bind (wpAny_attempt (wpAny_holding ?_))
  unfold callGetattribute
  rw [hx0, if_neg Bool.false_ne_true]
  unfold boundAndCalled
  rw [PySem.F.excAttr_ValueError.ga.bind (.ref x)]
  refine wpAny_bind (wpAny_pure ?_)
  show wpAny _ _ (call (.builtin "BaseException.__getattribute__") [.ref x, .str "__class__" t]) _ _ _
  refine wpAny_call (codeAny_call_builtin PySem.F.excAttr_ValueError.ga.plain PySem.F.entry_bexc_ga ?_)
  refine @check_slot (model prog w) _ _ ⟨hp, g, d, t + 1, os⟩ "BaseException.__getattribute__" "BaseException" "__getattribute__" (.ref x) [.str "__class__" t] [] _ (by decide +kernel) (by decide +kernel) sub (PySem.F.args_bexc_ga (.ref x) (.str "__class__" t)) ?_
  unfold Builtin.«object.__getattribute__»
  refine wpAny_bind (wpAny_of_eq (a := ((Value.ref x : Value), [Value.str "__class__" t])) (by first | rfl | (simp only [slotArgs]; rfl)) ?_)
  refine wpAny_bind (wpAny_pure (wpAny_bind (L0.at (wpAny_bind (L3.at ?_)))))
  show wpAny _ _ (holding [Value.builtin "object.__class__"] (call (.builtin "getset_descriptor.__get__") [.builtin "object.__class__", .ref x, .ref D]) >>= ret) _ _ _
  refine wpAny_bind (wpAny_holding (wpAny_call (class_get (s := ⟨hp, g, d, t + 1, os⟩) (ox := ox) (od := od) X I hm ?_)))
  refine wpAny_pure ?_
  show wpAny _ _ (handedOut (.ref D)) _ _ _
  rw [handedOut_of (v := .ref D) rfl]
  first
    | exact wpAny_pure (wpAny_pure h)
    | exact wpAny_pure h
    | exact wpAny_pure (wpAny_bind (wpAny_pure (wpAny_pure h)))
theorem pp_kitE (hga : findIn K (.ref D) "__getattribute__" = some (some (.builtin "BaseException.__getattribute__"))) (hgt : findIn K (.ref D) "__getattr__" = some none) (hsub : subIn K (.ref D) (.type "BaseException") = some true) (hdct : hasDictIn K D = true) (ha : findIn K (.ref D) "__class__" = some (some (.builtin "object.__class__")))
    (hn : specialIn K (.builtin "object.__class__") "__get__" = some (some (.builtin "getset_descriptor.__get__"))) (htk : takesIn K (.builtin "object.__class__") = some true) (hm : mroIn K D (.type "object") = some true) :
    KitX K (.ref x) (.ref D) (fun h => InstAt h x ox D od) where
  ty := fun _ _ _ I => I.type
  it := fun _ _ X _ => by
    obtain ⟨cdD, hcD, _⟩ := any_some hdct
    unfold clsIn at hcD
    split at hcD
    · rename_i c' d' cd' sl' ho
      intro A' Q' E' s' k q
      unfold isType loadHead
      exact wpAny_bind (wpAny_loadPart (k _ _ (X _ _ ho)) (wpAny_pure q))
    · cases hcD
  ne := fun h tp dd its n sl X htp => by
    obtain ⟨cdD, hcD, _⟩ := any_some hdct
    refine Bool.eq_false_iff.mpr fun q => ?_
    have e : D = tp := Value.ref.inj (beq_iff_eq.mp q)
    subst e
    unfold clsIn at hcD
    split at hcD
    · rename_i c' d' cd' sl' ho
      have z := (X _ _ ho).symm.trans htp
      cases z
    · cases hcD
  ca := fun X I k => pp_classE hga hgt hsub hdct ha hn htk hm X I k
end
end PySem.W
namespace PP
open PySem PySem.Spec PyProof.Rows L2
/-- an exception at a, as the heap tells of it -/
def ExcAt (H : Hp) (a Ca : Addr) : Prop := ∃ d, H a = some (ErrO Ca d a) ∧ (d = none ∨ ∃ dd fs, d = some dd ∧ H dd = some (.xd fs))
theorem exc_inst {X : Cx} {pins : List (Addr × Obj)} {σ : L2.St} {H : Hp} {s : Shared} {a Ca : Addr} (I : Inv X pins σ H s) (h : ExcAt H a Ca) : ∃ (oe : Obj) (od : Option Obj), PySem.W.InstAt s.heap a oe Ca od := by
  obtain ⟨d, ha, hd⟩ := h
  have ho : ObjOk X.prog X.w H s.heap a (ErrO Ca d a) := I.hok a _ ha
  unfold ErrO at ho
  obtain ⟨⟨oe, vs, hge, hz, hdt⟩, _, _⟩ := ho
  have nc : PySem.W.notCls oe = true := by unfold PySem.W.notCls; rw [hdt] <;> rfl
  rcases hd with rfl | ⟨dd, fs, rfl, hdd⟩
  · exact ⟨oe, none, hge, hz.1, nc, by rw [hz.2]; trivial⟩
  · have hx : ObjOk X.prog X.w H s.heap dd (.xd fs) := I.hok dd _ hdd
    obtain ⟨mA, ⟨od, es, ep, ho, _⟩, _⟩ := hx
    exact ⟨oe, some od, hge, hz.1, nc, by rw [hz.2]; exact ho⟩
/-- isinstance(e, c), e an exception that is tracked -/
def rIsX (K : PySem.W.Frag) : List V → Hp → VK → Prop := fun xs H Q => ∃ (a Ca : Addr) (c : V) (cv : Value) (b : Bool), xs = [.ref a, c] ∧ ExcAt H a Ca ∧ ExcC K Ca ∧ (∀ u, RelV c u → u = cv) ∧ PySem.W.kitOne K (.ref Ca) cv = some b ∧ Q (.bl b) H
theorem call_isX {X : Cx} : CallR X (.builtin "isinstance") (rIsX X.K) := by
  intro pins s σ H xs us Q I r h
  obtain ⟨a, Ca, c, cv, b, rfl, hx, C, hcv, e, q⟩ := h
  cases r with
  | cons rx rr =>
    cases rr with
    | cons rt rr =>
      cases rr
      cases rx
      have ec := hcv _ rt
      subst ec
      obtain ⟨oe, od, J⟩ := exc_inst I hx
      exact PySem.W.kia_one (PySem.W.pp_kitE C.hg C.hk C.hs C.hd C.ha C.hn C.ht C.hm) I.kIn J e (fun z => nomatch z) fun tk => ⟨.bl b, H, I.kept (t' := tk) fun _ _ z => z, rfl, q⟩
theorem rd_err {T : Tbl} {H0 H : Hp} (e : Ext H0 H) {c : Nat} {ks : List Nat} {vs : List D} {x : V} (h : RdV T H0 H (.err c ks vs) x) : ∃ a Ca, x = .ref a ∧ T.cn c = some Ca ∧ T.ec c = true ∧ ExcAt H a Ca := by
  rcases h with h | h
  · simp only [Rep] at h
    obtain ⟨a, Ca, d, rfl, hc, hp, hr⟩ := h
    obtain ⟨hc1, _, hc3⟩ := Tbl.cx_some hc
    refine ⟨a, Ca, rfl, hc1, hc3, d, e _ _ hp, ?_⟩
    rcases hr with ⟨_, rfl⟩ | ⟨dd, xs, rfl, hdd, _⟩
    · exact .inl rfl
    · exact .inr ⟨dd, _, rfl, e _ _ hdd⟩
  · exact h.elim
end PP
end

section
set_option maxHeartbeats 1000000
/-! Own operators of instances. -/
namespace PP
open PySem PySem.Spec PyProof.Rows L2
/-- what a comparison by an own def asks of the class -/
def NFs (K : PySem.W.Frag) (T : Tbl) (C : Addr) : Prop := (∀ t ∈ (["NoneType", "bool", "int", "str", "list", "tuple", "dict"] : List String), PySem.W.notFirst K C (.type t) = true) ∧ ∀ c' C', T.cn c' = some C' → PySem.W.notFirst K C (.ref C') = true
section
open PySem.W PySem.Calls
variable {prog : Program} {w : World} {A : Around} {E : Value → Shared → Prop} {s : Shared} {K : Frag} {x C L f : Addr} {h₀ : Heap} {m : Str → Option Value} {ox : Obj} {od : Option Obj} {T : String}
/-- x op b, x of an own class that has the operator, b of a built-in type -/
theorem bin_ty {op : Operator} {b : Value} {fo ro rc : Option Value} {Q : Value → Shared → Prop} (F : Fr h₀ L s.heap m) (X0 : K.In h₀) (I : InstAt s.heap x ox C od) (Lb : Looks (model prog w) s.heap (typeOf b) (.type T)) (self1 : selfFirst K C = true)
    (at1 : findIn K (.ref C) (PySem.dunder op.info.2) = some (some (.ref f))) (fn1 : isFn K (.ref f) = true) (at2 : findIn K (.ref C) (dunderR op.info.2) = some rc) (rc1 : rc = none ∨ ∃ g : Addr, rc = some (.ref g))
    (b1 : findIn K (.type T) (PySem.dunder op.info.2) = some fo) (b2 : findIn K (.type T) (dunderR op.info.2) = some ro) (sub1 : subIn K (.type T) (.ref C) = some false)
    (run : wpAny (model prog w) A (call (.ref f) [.ref x, b]) (W.CmpBack Q) E s) : wpAny (model prog w) A (binaryOp op (.ref x) b) Q E s := by
  have kin := X0.keeps F.keep
  obtain ⟨cd, rest, hcd, hm⟩ := ksp_first self1
  rcases oi : op.info with ⟨sy, nn⟩; rw [oi] at at1 at2 b1 b2; dsimp only at at1 at2 b1 b2
  have tried := ksp_try kin I at1 fn1 run
  obtain ⟨hh, gl, dd, tt, os⟩ := s
  have A1 : Looks (model prog w) hh (typeOf (.ref x)) (.ref C) := I.type
  have A3 := fills_K (M := model prog w) kin hcd hm at1; have A4 := ksp_fillsT (M := model prog w) kin b1 b2
  have A5 := looks_subIn (M := model prog w) kin sub1; have A6 := ksp_inPy (M := model prog w) kin at1 at2 rc1
  have A7 : Looks (model prog w) hh (numberSlotInPython (.type T) nn) false := Looks.of_pure rfl; have A8 := looks_findIn (M := model prog w) kin b2
  generalize ((fo.isSome && !isSeqSlot fo) || (ro.isSome && !isSeqSlot ro)) = rt at A4
  have nq : (Value.ref C == Value.type T) = false := Bool.eq_false_iff.mpr fun z => nomatch beq_iff_eq.mp z
  simp only [binaryOp, oi]
  refine wpAny_holding (wpAny_bind ?_); unfold binaryOp1
  refine wpAny_bind (A1.at (wpAny_bind (Lb.at (wpAny_bind (A3.at ?_))))); simp only [nq, Bool.false_eq_true, if_false]
  cases rt <;>
  · ksp_lk
    refine wpAny_mono tried (fun r s2 z => ?_) fun _ _ e => e
    obtain ⟨v, rfl, z⟩ := z
    ksp_lk
    exact z
end
section
variable {X : Cx} {C : Ctx} {W : WX} {cl : CallF} {a b : Expr} {a' b' : Ex} {pos : Pos}
/-- an operation whose left one may be an object of an own class, read -/
def rOw (C : Ctx) (W : WX) (cl : CallF) (o : O2) (cs ts : List Nat) (σ : L2.St) : R2 := fun x y H Q => (∃ H0 dx dy, Ext H0 H ∧ Rep C.T H0 dx x ∧ Rep C.T H0 dy y ∧ (∃ c ∈ cs, (∃ ks vs, dx = .obj c ks vs) ∧ okR o ts c dy = true ∧ spF C.T cl (spec c (opc o)) 2 [x, y] H Q fun cls d H' => W cls d σ H')) ∨ rD C.T (op2 o) x y H Q
theorem readO {σ : L2.St} {H : Hp} {Q : VK} {o : O2} {cs ts : List Nat} (hne : o ≠ .ne) (h : tI C W cl (.opo o cs ts a' b') σ H Q) : tOp (rOw C W cl o cs ts σ) (tI C W cl a') (tI C W cl b') σ H Q := by
  obtain ⟨H0, env, S, q⟩ := h
  simp only [ev] at q
  refine seqI S q fun u env1 x H1 H1' e1 S1 u1 q1 => ?_
  obtain ⟨⟨dx, env2⟩, hf, q2⟩ := q1.orB
  obtain ⟨H2, e2, S2, r2⟩ := S1.take u1 hf
  refine seqI S2 (RQ.mono e2 q2) fun w env3 y H3 H3' e3 S3 u3 q3 => ?_
  obtain ⟨⟨dy, env4⟩, hg, q4⟩ := q3.orB
  obtain ⟨H4, e4, S4, r4⟩ := S3.take u3 hg
  have rx : Rep C.T H4 dx x := Rep.mono (e3.tr e4) _ _ r2
  have q5 := RQ.mono e4 q4
  simp only at q5
  have plain : (∀ z, op2 o dx dy = some z → RQ C W σ (KV C σ Q) H4 (.ok (.nw z) env4)) → (∃ z, op2 o dx dy = some z) → rOw C W cl o cs ts σ x y H3' Q := fun k ⟨z, hz⟩ =>
    .inr ⟨H4, dx, dy, z, S4.ex, .inl rx, .inl r4, hz, fun v H0' H' g r => fin_nw S4 (k z hz) g r⟩
  cases dx with
  | obj c ks vs =>
    unfold ownOp at q5
    simp only at q5
    split at q5
    · exact q5.elim
    rename_i hcs
    simp only [Bool.not_eq_true, Bool.not_eq_false', Bool.and_eq_true, List.contains_iff_mem] at hcs
    refine .inl ⟨H4, _, dy, S4.ex, rx, r4, c, hcs.1, ⟨ks, vs, rfl⟩, hcs.2, H4, [.fz (.obj c ks vs), .fz dy], S4.ex, ⟨x, [y], rfl, rx, y, [], rfl, r4, rfl⟩, ?_, rfl, S4.tb, ?_⟩
    · intro i j p hi hj
      match i, hi with
      | 0, hi => simp [ioL] at hi
      | 1, hi => simp [ioL] at hi
      | _ + 2, hi => simp [ioL] at hi
    · cases zc : cl (spec c (opc o)) [.fz (.obj c ks vs), .fz dy] with
      | bad => simp only [zc] at q5; exact q5
      | exc z outs =>
        simp only [zc] at q5
        intro cls d H0' H' g _ hx
        refine q5 cls d H0' H' g.e0 (S4.gr ⟨g.e0, fun p o hp => g.keep p o (by simp [ioL]) hp, g.e01, g.new, g.tb⟩) hx
      | ok r outs =>
        simp only [zc] at q5
        intro v H0' H' g hr _
        have S5 := S4.gr ⟨g.e0, fun p o hp => g.keep p o (by simp [ioL]) hp, g.e01, g.new, g.tb⟩
        have q6 : RQ C W σ (KV C σ Q) H4 (.ok r env4) := by
          cases o <;> first | exact q5 | exact (hne rfl).elim
        refine q6 H0' H' g.e0 S5 v ?_
        cases r with
        | d z => exact hr
        | sl i => exact hr.elim
        | nw z => exact RepG.nw S4 hr
  | _ =>
    obtain ⟨z, hz, q6⟩ := RQ.orB (show RQ C W σ (KV C σ Q) H4 (orBad (op2 o _ dy) fun z => .ok (.nw z) env4) from q5)
    exact plain (fun z' hz' => by rw [hz] at hz'; cases hz'; exact q6) ⟨z, hz⟩
/-- the type of a value, looked at -/
theorem ty_looks {pins : List (Addr × Obj)} {σ : L2.St} {H0 H : Hp} {s : Shared} {d : D} {y : V} {u : Value} (hK : X.K = C.T.K) (I : Inv X pins σ H s) (e : Ext H0 H) (r : Rep C.T H0 d y) (ry : RelV y u) (hodd : oddD d = false) :
    (isObjD d = false ∧ PySem.W.Looks (model X.prog X.w) s.heap (typeOf u) (.type (tyN d))) ∨ (∃ c ks vs Ca, d = .obj c ks vs ∧ C.T.cn c = some Ca ∧ PySem.W.Looks (model X.prog X.w) s.heap (typeOf u) (.ref Ca)) := by
  cases hd : isObjD d with
  | false =>
    obtain ⟨P, Z, hp, _⟩ := kit_of I ry (tyx hK e (.inl r) hd)
    exact .inl ⟨rfl, Z.ty _ _ I.kIn hp⟩
  | true =>
    cases d with
    | obj c ks vs =>
      obtain ⟨p, Ca, dx, xs, rfl, hck, hp, _⟩ := rd_obj e (.inl r)
      obtain ⟨mA, O, _⟩ := ins_get I.hok hp
      obtain ⟨od, J, _⟩ := O.look
      cases (show u = Value.ref p from ry)
      exact .inr ⟨c, ks, vs, Ca, rfl, (Tbl.ck_some hck).1, J.type⟩
    | cls c => cases hodd
    | err c ks vs => cases hodd
    | _ => cases hd
theorem okR_odd {o : O2} {ts : List Nat} {c : Nat} {d : D} (h : okR o ts c d = true) : oddD d = false := by cases d <;> first | rfl | cases h
theorem c_cmpO {op : CmpOp} {o : O2} {cs ts : List Nat} {nm : Str} (hK : X.K = C.T.K) (hu : X.A.units < cLine) (hop : ∀ a b, compareOp op a b = richCompare op a b) (hnm : (cmpInfo op).2.1 = nm) (SP : SpOk X C.T cl (opc o) nm cs 2 []) (NF : ∀ c ∈ cs, ∀ Ca, C.T.cn c = some Ca → NFs X.K C.T Ca)
    (hgd : X.A.guards = some []) (tk : Takes X W) (ho : OpR X (compareOp op) (rD C.T (op2 o))) (ha : PE X a (tI C W cl a')) (hb : PE X b (tI C W cl b')) (hm : behindInMarks op b = false) (hne : o ≠ .ne) : PE X (.Compare a [op] [b] pos) (tI C W cl (.opo o cs ts a' b')) := by
  refine peI (t := fun σ H Q => tOp (rOw C W cl o cs ts σ) (tI C W cl a') (tI C W cl b') σ H Q) ⟨fun pins s σ H Q I h => wpAny_Compare1 (binT ha hb I h fun v u s2 x y H2 I2 rx ry q => ?_) hm⟩ fun σ H Q q => readO hne q
  rcases q with ⟨H0, dx, dy, e, r1, r2, c, hcs, ⟨ks, vs, rfl⟩, hkr, hsp⟩ | q
  · obtain ⟨p, Ca, dd, xs, rfl, hck, hp, _⟩ := rd_obj e (.inl r1)
    have hcn := (Tbl.ck_some hck).1
    obtain ⟨kc, hno, k, f, fd, ps, dus, hm, F, hr, hb, hd⟩ := SP c hcs Ca hcn
    obtain ⟨n1, n2⟩ := NF c hcs Ca hcn
    obtain ⟨mA, O, _⟩ := ins_get I2.hok hp
    obtain ⟨od, J, _⟩ := O.look
    obtain ⟨mm, hF⟩ := I2.fr
    cases (show v = Value.ref p from rx)
    rw [hop]
    have run : wpAny (model X.prog X.w) X.A (call (.ref f) [.ref p, u]) (PySem.W.CmpBack (EP X pins σ Q)) X.xe s2 := by
      refine wpAny_mono (F.go (us := [.ref p, u]) (vs := [.ref p, y]) hgd hr hb hd tk (fun _ _ _ z => z) I2 (.cons rfl (.cons ry .nil)) (by rw [List.append_nil]; exact hsp)) (fun w s' z => ?_) fun _ _ x => x
      obtain ⟨z', H', I', rz, qz⟩ := z
      exact SlX.cmpback rz ⟨z', H', I', rz, qz⟩
    have hs : PySem.W.findIn X.K (.ref Ca) (cmpInfo op).2.1 = some (some (.ref f)) := by rw [hnm]; exact hm.at_
    rcases ty_looks hK I2 e r2 ry (okR_odd hkr) with ⟨hod, L⟩ | ⟨c', ks', vs', Cb, rfl, hcn', L⟩
    · refine PySem.W.cmp_K (op := op) hu hF I2.ok.mod.kin J L (n1 _ ?_) hs hm.fn run
      cases dy <;> first | (cases hod; done) | (show tyN _ ∈ _; simp [tyN])
    · exact PySem.W.cmp_K (op := op) hu hF I2.ok.mod.kin J L (n2 c' Cb hcn') hs hm.fn run
  · exact ho pins s2 σ H2 x y v u Q I2 rx ry q
/-- what an own operator asks of the class, and of the built-in types at its right -/
structure BinC (K : PySem.W.Frag) (C : Addr) (op : Operator) (ts : List Nat) : Prop where
  first : PySem.W.selfFirst K C = true
  refl : ∃ rc : Option Value, PySem.W.findIn K (.ref C) (dunderR op.info.2) = some rc ∧ (rc = none ∨ ∃ g : Addr, rc = some (.ref g))
  ty : ∀ d : D, isObjD d = false → ts.contains (kdD d) = true → (∃ fo ro : Option Value, PySem.W.findIn K (.type (tyN d)) (PySem.dunder op.info.2) = some fo ∧ PySem.W.findIn K (.type (tyN d)) (dunderR op.info.2) = some ro) ∧ PySem.W.subIn K (.type (tyN d)) (.ref C) = some false
theorem c_binO {op : Operator} {o : O2} {cs ts : List Nat} {nm : Str} (hK : X.K = C.T.K) (hnm : PySem.dunder op.info.2 = nm) (SP : SpOk X C.T cl (opc o) nm cs 2 []) (BC : ∀ c ∈ cs, ∀ Ca, C.T.cn c = some Ca → BinC X.K Ca op ts)
    (hgd : X.A.guards = some []) (tk : Takes X W) (ho : OpR X (binaryOp op) (rD C.T (op2 o))) (ha : PE X a (tI C W cl a')) (hb : PE X b (tI C W cl b')) (hne : isCmpO o = false) : PE X (.BinOp a op b pos) (tI C W cl (.opo o cs ts a' b')) := by
  refine peI (t := fun σ H Q => tOp (rOw C W cl o cs ts σ) (tI C W cl a') (tI C W cl b') σ H Q) ⟨fun pins s σ H Q I h => wpAny_BinOp (binT ha hb I h fun v u s2 x y H2 I2 rx ry q => ?_)⟩ fun σ H Q q => readO (by rintro rfl; cases hne) q
  rcases q with ⟨H0, dx, dy, e, r1, r2, c, hcs, ⟨ks, vs, rfl⟩, hkr, hsp⟩ | q
  · obtain ⟨p, Ca, dd, xs, rfl, hck, hp, _⟩ := rd_obj e (.inl r1)
    have hcn := (Tbl.ck_some hck).1
    obtain ⟨kc, hno, k, f, fd, ps, dus, hm, F, hr, hb, hd⟩ := SP c hcs Ca hcn
    have B := BC c hcs Ca hcn
    obtain ⟨mA, O, _⟩ := ins_get I2.hok hp
    obtain ⟨od, J, _⟩ := O.look
    obtain ⟨mm, hF⟩ := I2.fr
    cases (show v = Value.ref p from rx)
    have run : wpAny (model X.prog X.w) X.A (call (.ref f) [.ref p, u]) (PySem.W.CmpBack (EP X pins σ Q)) X.xe s2 := by
      refine wpAny_mono (F.go (us := [.ref p, u]) (vs := [.ref p, y]) hgd hr hb hd tk (fun _ _ _ z => z) I2 (.cons rfl (.cons ry .nil)) (by rw [List.append_nil]; exact hsp)) (fun w s' z => ?_) fun _ _ x => x
      obtain ⟨z', H', I', rz, qz⟩ := z
      exact SlX.cmpback rz ⟨z', H', I', rz, qz⟩
    have hs : PySem.W.findIn X.K (.ref Ca) (PySem.dunder op.info.2) = some (some (.ref f)) := by rw [hnm]; exact hm.at_
    rcases ty_looks hK I2 e r2 ry (okR_odd hkr) with ⟨hod, L⟩ | ⟨c', ks', vs', Cb, rfl, hcn', L⟩
    · have hts : ts.contains (kdD dy) = true := by
        cases dy <;> first | (cases hod; done) | (simp only [okR, hne, Bool.false_or] at hkr; exact hkr)
      obtain ⟨⟨fo, ro, t1, t2⟩, t3⟩ := B.ty dy hod hts
      obtain ⟨rc, q1, q2⟩ := B.refl
      exact bin_ty hF I2.ok.mod.kin J L B.first hs hm.fn q1 q2 t1 t2 t3 run
    · simp only [okR, hne, Bool.false_or, beq_iff_eq] at hkr
      subst hkr
      rw [hcn] at hcn'; cases hcn'
      exact PySem.W.binop_K hF I2.ok.mod.kin J L B.first hs hm.fn run
  · exact ho pins s2 σ H2 x y v u Q I2 rx ry q
end
end PP
end

section
set_option maxHeartbeats 1000000
/-! Properties, making, isinstance of own classes, in and != by own defs. -/
namespace PP
open PySem PySem.Spec PyProof.Rows L2
section
variable {X : Cx} {C : Ctx} {W : WX} {cl : CallF} {e a b : Expr} {es : List Expr} {e' a' b' : Ex} {es' : Exs} {pos : Pos}
/-- a property of the classes cs -/
def SpP (X : Cx) (T : Tbl) (cl : CallF) (m : Nat) (nm : Str) (cs : List Nat) : Prop :=
  ∀ c ∈ cs, ∀ C, T.cn c = some C → Cls X.K C ∧ ∃ k p g fd ps, PropOf X.K C nm p g ∧ FnG X.prog X.w X.K X.mg X.base k g fd ps (spF T cl (spec c m) 1) ∧ Room (k + 1) X.A ∧ Binds X.K fd ps []
theorem prop_run {pins : List (Addr × Obj)} {σ : L2.St} {H : Hp} {s : Shared} {Q : VK} {fl : Bool} {E' : Value → Shared → Prop} {k : Nat} {Ca p g x dx : Addr} {fs : List (Str × V)} {f : Str} {fd : FuncData} {ps : List Str} {sp : Sp} (I : Inv X pins σ H s) (at1 : H x = some (.ins Ca dx fs)) (kc : Cls X.K Ca)
    (P : PropOf X.K Ca f p g) (F : FnG X.prog X.w X.K X.mg X.base k g fd ps sp) (hgd : X.A.guards = some []) (room : Room (k + 1) X.A) (bd : Binds X.K fd ps []) (q : sp [.ref x] H Q fun _ _ _ => False) : wpAny (model X.prog X.w) X.A (getAttr (.ref x) f fl) (EP X pins σ Q) E' s := by
  obtain ⟨mA, O, _⟩ := ins_get I.hok at1
  obtain ⟨od, J, _⟩ := O.look
  obtain ⟨rest, rcd⟩ := P.rec_
  have I1 := I.tok (s.toks + 1)
  have len1 : ([Value.ref x] ++ ([] : List Value)).length = ps.length := by rw [← F.len _ _ _ _ q]; rfl
  have some1 : (PySem.W.clsIn X.K Ca).isSome = true := by
    obtain ⟨cd, z, _⟩ := PySem.W.any_some kc.hd
    rw [z]; rfl
  refine PySem.W.get_bind I.kIn J (PySem.W.plainGet_of (kc.get f)).1 (PySem.W.findObj_data some1 P.at_ P.get P.tak) (PySem.W.plainGet_of (kc.get f)).2 (wpAny_call (PySem.W.prop_get (s := { s with toks := s.toks + 1 }) I.kIn rcd ?_))
  refine codeAny_mono (F.run X.A.in1 X.stack { s with toks := s.toks + 1 } H ⟨[.ref x], []⟩ [.ref x] [.ref x] Q _ hgd room.in1 I1.env0.in1 (bd _ [.ref x] I1.kIn len1) (.cons rfl .nil) q) fun r s' z => ?_
  cases r with
  | error er => obtain ⟨_, _, _, _, _, _, _, _, _, _, _, _, w⟩ := z; exact w.elim
  | ok fl =>
    cases fl with
    | ret u =>
      obtain ⟨v, H', I3, rv, q3⟩ := I1.after z
      show wpAny _ _ (handedOut u) _ _ _
      rw [PySem.W.handedOut_of (handed_of rv)]
      exact wpAny_pure ⟨v, H', I3, rv, q3⟩
    | _ => exact False.elim z
theorem c_prp {m : Nat} {nm : Str} {cs : List Nat} (SP : SpP X C.T cl m nm cs) (hgd : X.A.guards = some []) (he : PE X e (tI C W cl e')) (hab : attributeBase e nm X.env (eval e X.env) = eval e X.env := by rfl) : PE X (.Attribute e nm pos) (tI C W cl (.prp e' m cs)) := by
  refine peI (t := fun σ H Q => tI C W cl e' σ H fun x H1 => ∃ p c Ca dx fs, x = .ref p ∧ H1 p = some (.ins Ca dx fs) ∧ c ∈ cs ∧ C.T.cn c = some Ca ∧ spF C.T cl (spec c m) 1 [.ref p] H1 Q fun _ _ _ => False) ⟨fun pins s σ H Q I h => ?_⟩ fun σ H Q q => ?_
  · refine attr_of hab (thn (he.run pins s σ H _ I h) fun u s1 ⟨x, H1, I1, rx, p, c, Ca, dx, fs, ex, ea, hcs, hcn, q⟩ => ?_)
    subst ex
    obtain rfl : u = Value.ref p := rx
    obtain ⟨kc, k, pp, g, fd, ps, hp, F, hr, hb⟩ := SP c hcs Ca hcn
    exact prop_run I1 ea kc hp F hgd hr hb q
  · obtain ⟨H0, env, S, q⟩ := q
    simp only [ev] at q
    refine seqI S q fun u env1 x H1 H1' e1 S1 u1 q1 => ?_
    obtain ⟨⟨c, ur, env2⟩, hr, q2⟩ := q1.orB
    split at q2
    · exact q2.elim
    rename_i hcs
    simp only [Bool.not_eq_true, Bool.not_eq_false', List.contains_iff_mem] at hcs
    unfold recvU at hr
    simp only at hr
    split at hr
    · rename_i c' ks vs env' hf
      cases hr
      obtain ⟨H2, e2, S2, r2⟩ := S1.take u1 hf
      obtain ⟨z, hz, q3⟩ := (RQ.mono e2 q2).orB
      cases hz
      have r3 := r2
      simp only [Rep] at r3
      obtain ⟨p, Ca, dx, xs, rfl, hck, h2, _⟩ := r3
      refine ⟨p, c, Ca, dx, _, rfl, S2.ex _ _ h2, hcs, (Tbl.ck_some hck).1, H2, [.fz (.obj c ks vs)], S2.ex, ⟨.ref p, [], rfl, r2, rfl⟩, ?_, rfl, S2.tb, ?_⟩
      · intro i j y hi hj
        match i, hi with
        | 0, hi => simp [ioL] at hi
        | _ + 1, hi => simp [ioL] at hi
      · cases zc : cl (spec c m) [.fz (.obj c ks vs)] with
        | bad => simp only [zc] at q3; exact q3
        | exc z outs => simp only [zc] at q3; exact q3.elim
        | ok r outs =>
          simp only [zc] at q3
          intro v H0' H' g hr _
          have S5 := S2.gr ⟨g.e0, fun p o hp => g.keep p o (by simp [ioL]) hp, g.e01, g.new, g.tb⟩
          refine q3 H0' H' g.e0 S5 v ?_
          cases r with
          | d z => exact hr
          | sl i => exact hr.elim
          | nw z => exact RepG.nw S2 hr
    · cases hr
/-- what isinstance asks, for an own class u at T.cn k and each other one -/
structure IsO (X : Cx) (T : Tbl) (cs : List Nat) (u : Value) : Prop where
  ty : ∀ d : D, isObjD d = false → PySem.W.kitOne X.K (.type (tyN d)) u = some false
  ex : ∀ c C, T.cn c = some C → T.ec c = true → ExcC X.K C ∧ PySem.W.kitOne X.K (.ref C) u = some (cs.contains c)
  ob : ∀ c C, T.cn c = some C → T.ec c = false → PySem.W.kitOne X.K (.ref C) u = some (cs.contains c) ∧ Cls X.K C ∧ PySem.W.findIn X.K (.ref C) "__class__" = some (some (.builtin "object.__class__")) ∧ PySem.W.specialIn X.K (.builtin "object.__class__") "__get__" = some (some (.builtin "getset_descriptor.__get__")) ∧
    PySem.W.takesIn X.K (.builtin "object.__class__") = some true ∧ PySem.W.mroIn X.K C (.type "object") = some true
theorem c_isO {p : Pos} {cs : List Nat} {Cu : Addr} (hK : X.K = C.T.K) (IO : IsO X C.T cs (.ref Cu)) (hg : Gl X "isinstance") (hm : X.mg "isinstance" = none)
    (ha : PE X e (tI C W cl e')) (hb : PE X b (tC (.ref Cu))) (he : starEach [e, b] X.env = (false, eval e X.env) :: starEach [b] X.env := by rfl) (he2 : starEach [b] X.env = (false, eval b X.env) :: starEach [] X.env := by rfl)
    (hpl : (backTo pos (starEach [b] X.env)).any (·.1) = false := by rfl) : PE X (.Call (.Name "isinstance" p) [e, b] [] pos) (tI C W cl (.isObj cs e')) :=
  peI (pe_callB (call_isi.or call_isX) hg hm (by decide +kernel) (pa_cons ha (pa_cons hb pa_nil he2) he) (by decide) (by decide) he hpl) fun σ H Q ⟨H0, env, S, q⟩ => by
    simp only [ev] at q
    refine seqI S q fun u env1 v H1 H1' e1 S1 u1 q1 => ?_
    obtain ⟨d, hd, q2⟩ := q1.orB
    have r := S1.rd u1 hd
    cases hod : isObjD d with
    | false =>
      have eb : isObjOf cs d = false := by cases d <;> first | rfl | cases hod
      have ec : isClsD d = false := by cases d <;> first | rfl | cases hod
      rw [eb, ec] at q2
      exact .inl ⟨v, _, _, _, false, rfl, .own Cu, tyx hK S1.ex r hod, IO.ty d hod, fin_nw S1 q2 (Gr.rfl' S1.ex) (.flat rfl (r_bl _ _ _))⟩
    | true =>
      cases d with
      | obj c ks vs =>
        obtain ⟨pp, Ca, dx, xs, rfl, hck, hp, _⟩ := rd_obj S1.ex r
        obtain ⟨h1, h2, h3, h4, h5, h6⟩ := IO.ob c Ca (Tbl.ck_some hck).1 (Tbl.ck_ec hck)
        exact .inl ⟨_, _, _, _, cs.contains c, rfl, .own Cu, .base (.ins hp h2 h3 h4 h5 h6), h1, fin_nw S1 q2 (Gr.rfl' S1.ex) (.flat rfl (r_bl _ _ _))⟩
      | err c ks vs =>
        obtain ⟨a, Ca, rfl, hcn, hec, hx⟩ := rd_err S1.ex r
        obtain ⟨h1, h2⟩ := IO.ex c Ca hcn hec
        exact .inr ⟨a, Ca, _, _, cs.contains c, rfl, hx, h1, fun u hu => hu, h2, fin_nw S1 q2 (Gr.rfl' S1.ex) (.flat rfl (r_bl _ _ _))⟩
      | cls c => exact q2.elim
      | _ => cases hod
/-- what isinstance of a built-in type says of objects and exceptions -/
structure IsB (X : Cx) (T : Tbl) (u : Value) : Prop where
  ex : ∀ c C, T.cn c = some C → T.ec c = true → ExcC X.K C ∧ PySem.W.kitOne X.K (.ref C) u = some false
  ob : ∀ c C, T.cn c = some C → T.ec c = false → PySem.W.kitOne X.K (.ref C) u = some false ∧ Cls X.K C ∧ PySem.W.findIn X.K (.ref C) "__class__" = some (some (.builtin "object.__class__")) ∧ PySem.W.specialIn X.K (.builtin "object.__class__") "__get__" = some (some (.builtin "getset_descriptor.__get__")) ∧
    PySem.W.takesIn X.K (.builtin "object.__class__") = some true ∧ PySem.W.mroIn X.K C (.type "object") = some true
theorem isB_none {X : Cx} {T : Tbl} {u : Value} (h : ∀ c, T.cn c = none) : IsB X T u := ⟨fun c C e _ => (by rw [h c] at e; cases e), fun c C e _ => (by rw [h c] at e; cases e)⟩
/-- isinstance(e, T), T built-in -/
theorem c_isi {p : Pos} {B : B} {n : String} (hK : X.K = C.T.K) (hB : ∀ d z, biD B [d] = some z → ∃ r, z = .bl r ∧ ((isObjD d = false ∧ kitB (tyN d) n = some r) ∨ (isXD d = true ∧ r = false))) (IB : IsB X C.T (.type n)) (hg : Gl X "isinstance") (hm : X.mg "isinstance" = none)
    (ha : PE X e (tI C W cl e')) (hb : PE X b (tC (.ty n))) (he : starEach [e, b] X.env = (false, eval e X.env) :: starEach [b] X.env := by rfl) (he2 : starEach [b] X.env = (false, eval b X.env) :: starEach [] X.env := by rfl)
    (hpl : (backTo pos (starEach [b] X.env)).any (·.1) = false := by rfl) : PE X (.Call (.Name "isinstance" p) [e, b] [] pos) (tI C W cl (.bi B (.cons e' .nil))) :=
  peI (pe_callB (call_isi.or call_isX) hg hm (by decide +kernel) (pa_cons ha (pa_cons hb pa_nil he2) he) (by decide) (by decide) he hpl) fun σ H Q ⟨H0, env, S, q⟩ => by
    simp only [ev, evR] at q
    have q' : RQ C W σ (KV C σ Q) H0 ((ev cl e' env).bind fun u env1 => orBad (rdAll env1 [pend u]) fun ds => orBad (biD B ds) fun z => .ok (.nw z) env1) := by
      cases z : ev cl e' env <;> simp only [z, R.bind_ok, R.bind_exc, R.bind_bad] at q ⊢ <;> exact q
    refine seqI S q' fun u env1 v H1 H1' e1 S1 u1 q1 => ?_
    obtain ⟨H2, e2, S2, u2⟩ := S1.pend u1
    obtain ⟨ds, hd, q1⟩ := q1.orB
    obtain ⟨z, hz, q1⟩ := q1.orB
    unfold rdAll at hd
    split at hd
    · rename_i d ds' h1 h2
      cases h2
      cases hd
      obtain ⟨r, rfl, ho⟩ := hB d z hz
      have rr := S2.rd u2 h1
      have q9 := RQ.mono e2 q1
      rcases ho with ⟨ho, hk⟩ | ⟨hx, rfl⟩
      · exact .inl ⟨v, _, _, _, r, rfl, .ty n, tyx hK S2.ex rr ho, kit_ty hk, fin_nw S2 q9 (Gr.rfl' S2.ex) (.flat rfl (r_bl _ _ _))⟩
      · cases d with
        | obj c ks vs =>
          obtain ⟨pp, Ca, dx, xs, rfl, hck, hp, _⟩ := rd_obj S2.ex rr
          obtain ⟨h1, h2, h3, h4, h5, h6⟩ := IB.ob c Ca (Tbl.ck_some hck).1 (Tbl.ck_ec hck)
          exact .inl ⟨_, _, _, _, false, rfl, .ty n, .base (.ins hp h2 h3 h4 h5 h6), h1, fin_nw S2 q9 (Gr.rfl' S2.ex) (.flat rfl (r_bl _ _ _))⟩
        | err c ks vs =>
          obtain ⟨a, Ca, rfl, hcn, hec, hx⟩ := rd_err S2.ex rr
          obtain ⟨h1, h2⟩ := IB.ex c Ca hcn hec
          exact .inr ⟨a, Ca, _, _, false, rfl, hx, h1, fun u hu => hu, h2, fin_nw S2 q9 (Gr.rfl' S2.ex) (.flat rfl (r_bl _ _ _))⟩
        | _ => cases hx
    · cases hd
theorem fz_noIo {as : List Ar} {vs : List V} {T : Tbl} {H0 H : Hp} (h : allFz as = true) (hr : ArOk T H0 H as vs) : ∀ i : Nat, (ioL as vs)[i]? ≠ some (some (p : Addr)) := by
  induction as generalizing vs with
  | nil => intro i; cases hr; simp [ioL]
  | cons a as ih =>
    cases a with
    | io d => cases h
    | fz d =>
      obtain ⟨v, r, rfl, _, h2⟩ := hr
      intro i
      cases i with
      | zero => simp [ioL]
      | succ i => simpa [ioL] using ih (by simpa [allFz] using h) h2 i
theorem fz_outs {as : List Ar} {vs : List V} {T : Tbl} {H0 H Ha Hb : Hp} {ds : List D} (h : allFz as = true) (hr : ArOk T H0 H as vs) (ho : OutsOk T Ha Hb (ioL as vs) ds) : ds = [] := by
  induction as generalizing vs with
  | nil => cases hr; exact ho
  | cons a as ih =>
    cases a with
    | io d => cases h
    | fz d =>
      obtain ⟨v, r, rfl, _, h2⟩ := hr
      exact ih (by simpa [allFz] using h) h2 ho
theorem ArOk.grow {T : Tbl} {H0 H H' : Hp} : ∀ {as : List Ar} {vs : List V}, allFz as = true → ArOk T H0 H as vs → ArOk T H0 H' as vs
  | [], _, _, h => h
  | .fz d :: as, _, hz, h => by
    obtain ⟨v, r, rfl, h1, h2⟩ := h
    exact ⟨v, r, rfl, h1, ArOk.grow (by simpa [allFz] using hz) h2⟩
  | .io _ :: _, _, hz, _ => by cases hz
/-- a new object's reading -/
theorem read_mk {σ : L2.St} {H1 H1' : Hp} {Q : VK} {env1 : Env} {c n : Nat} {Ca x dx : Addr} {as : List Ar} {vs : List V} (S1 : Sim C σ H1 H1' env1) (hz : allFz as = true) (hr : ArOk C.T H1 H1' as vs) (hn : as.length + 1 = n) (hc : C.T.ck c [] = some Ca)
    (nx : H1' x = none) (nd : H1' dx = none) (ne : dx ≠ x) (q : RQ C W σ (KV C σ Q) H1 (makeO cl c as env1)) :
    spF C.T cl (spec c 0) n (.ref x :: vs) (upd (upd H1' dx (.own x)) x (.ins Ca dx [])) (fun v H2 => v = .non ∧ Q (.ref x) H2) fun cls d H' => W cls d σ H' := by
  have n1 : H1 x = none := S1.ex.no nx
  have n2 : H1 dx = none := S1.ex.no nd
  have E1 : Ext H1' (upd (upd H1' dx (.own x)) x (.ins Ca dx [])) := (ext_upd nd).tr (ext_upd (by rw [upd_ne ne.symm]; exact nx))
  refine ⟨H1, .io (.obj c [] []) :: as, S1.ex.tr E1, ⟨x, vs, rfl, ⟨x, Ca, dx, [], rfl, n1, hc, upd_same, rfl, rfl⟩, hr.grow hz⟩, ?_, hn, ⟨E1.tabs S1.tabs, S1.tno⟩, ?_⟩
  · intro i j a hi hj
    cases i with
    | zero => cases j with
      | zero => rfl
      | succ j => exact (fz_noIo hz hr j hj).elim
    | succ i => exact (fz_noIo hz hr i hi).elim
  · have grow : ∀ {H0' H' : Hp}, GrC C.T (some x :: ioL as vs) H1 (upd (upd H1' dx (.own x)) x (.ins Ca dx [])) H0' H' → Gr C.T H1 H1' H0' H' := fun g =>
      ⟨g.e0, fun a o ha => by
        have na : a ≠ x := ne_of_none ha nx
        refine g.keep a o (fun hm => ?_) (E1 a o ha)
        rcases List.mem_cons.mp hm with z | z
        · cases z; exact na rfl
        · obtain ⟨i, hi⟩ := List.mem_iff_getElem?.mp z
          exact fz_noIo hz hr i hi, g.e01, fun a h h' => by
        have := g.new a h h'
        exact E1.no this, fun t => g.tb (E1.tabs t)⟩
    unfold makeO at q
    cases zc : cl (spec c 0) (.io (.obj c [] []) :: as) with
    | bad => simp only [zc] at q; exact q
    | exc z outs =>
      simp only [zc] at q
      intro cls d H0' H' g o hx
      exact q cls d H0' H' g.e0 (S1.gr (grow g)) hx
    | ok r outs =>
      simp only [zc] at q
      split at q
      · rename_i hh
        intro v H0' H' g hr2 o
        cases hh
        obtain ⟨d, ds', e1, o1, o2⟩ := o
        have := fz_outs hz hr o2
        subst this
        cases e1
        refine ⟨by simpa only [RetOk, Rep] using hr2, ?_⟩
        refine q H0' H' g.e0 (S1.gr (grow g)) (.ref x) ?_
        show RepN _ _ _ _ _ _ _
        unfold RepN
        rw [if_pos (RepO.ref o1).1]
        refine ⟨x, rfl, S1.he nx, o1, fun i hi ei => ?_⟩
        obtain ⟨_, o, z⟩ := S1.own hi ei
        rw [nx] at z; cases z
      · rename_i hh
        cases hh
      · exact q.elim
theorem under_guards {A : Around} {Ca : Addr} {us : List Value} {kw : List (Str × Value)} (h : A.guards = some []) : (A.under (.builtin "type.__call__" ⟨.ref Ca :: us, kw⟩)).guards = some [] := by
  first
  | exact h
  | (simp [Around.under, h]; done)
  | (rw [Around.under_plainId (by decide +kernel)]; exact h)
theorem mk_run {k : Nat} {f Ca : Addr} {fd : FuncData} {ps : List Str} {sp : Sp} {ds : List Value} {dvs : List V} {pins : List (Addr × Obj)} {σ : L2.St} {H : Hp} {s : Shared} {Q : VK} {us : List Value} {vs : List V} {E : XK}
    (M : Mk X.K Ca f) (F : FnG X.prog X.w X.K X.mg X.base k f fd ps sp) (hgd : X.A.guards = some []) (room : Room (k + 1) X.A) (bd : Binds X.K fd ps ds) (hd : Vals dvs ds) (tk : Takes X W) (hE : ∀ cls d H', E cls d H' → W cls d σ H')
    (I : Inv X pins σ H s) (r : Vals vs us) (h : ∀ x dx, H x = none → H dx = none → dx ≠ x → sp (.ref x :: (vs ++ dvs)) (upd (upd H dx (.own x)) x (.ins Ca dx [])) (fun v H2 => v = .non ∧ Q (.ref x) H2) E) :
    wpAny (model X.prog X.w) X.A (call (.ref Ca) us) (EP X pins σ Q) X.xe s := by
  have q := h (s.heap.objs.size + 1) s.heap.objs.size (I.hok.fresh (Nat.le_succ _)) (I.hok.fresh (Nat.le_refl _)) (Nat.ne_of_lt (Nat.lt_succ_self _))
  have J := Inv.made (C := Ca) I
  have rr : Vals (V.ref (s.heap.objs.size + 1) :: (vs ++ dvs)) (Value.ref (s.heap.objs.size + 1) :: (us ++ ds)) := .cons rfl (r.append hd)
  have ll : (Value.ref (s.heap.objs.size + 1) :: us ++ ds).length = ps.length := by
    have z := rr.length
    rw [F.len _ _ _ _ q] at z; exact z.symm
  refine wpAny_call (make_map (f := f) I.kIn M.makes M.init (beq_iff_eq.mp M.fn) (codeAny_mono (F.run _ X.stack _ _ ⟨Value.ref (s.heap.objs.size + 1) :: us, []⟩ (Value.ref (s.heap.objs.size + 1) :: (us ++ ds)) _ _ E (under_guards hgd) (room.make Ca us []) (J.env0.make Ca us []) (bd _ (Value.ref (s.heap.objs.size + 1) :: us) J.kIn ll) rr q) fun r s' z => ?_))
  cases r with
  | error e => exact tk _ _ (XE.of_call J hE z)
  | ok fl =>
    cases fl with
    | ret u =>
      obtain ⟨v, H', I3, rv, ev, q3⟩ := J.after z
      subst ev
      exact ⟨rv, ⟨V.ref (s.heap.objs.size + 1), H', I3, rfl, q3⟩⟩
    | _ => exact False.elim z
/-- what is read of C(..) -/
def tMk (C : Ctx) (W : WX) (cl : CallF) (c n : Nat) (Ca : Addr) (dvs : List V) (t : TA) : TE := fun σ H Q => t σ H fun vs H1 => ∀ x dx, H1 x = none → H1 dx = none → dx ≠ x →
  spF C.T cl (spec c 0) n (.ref x :: (vs ++ dvs)) (upd (upd H1 dx (.own x)) x (.ins Ca dx [])) (fun v H2 => v = .non ∧ Q (.ref x) H2) fun cls d H' => W cls d σ H'
theorem readMk {σ : L2.St} {H : Hp} {Q : VK} {c n : Nat} {Ca : Addr} {ms : List Bool} {ds : List D} {dvs : List V} (hcn : C.T.ck c [] = some Ca) (hds : CstOk C.T ds dvs) (hn : (ms ++ ds.map fun _ => false).length + 1 = n) (h : tI C W cl (.mk c ms es' ds) σ H Q) :
    tMk C W cl c n Ca dvs (tAC C W cl ms es') σ H Q := by
  obtain ⟨H0, env, S, q⟩ := h
  simp only [ev] at q
  refine ⟨H0, env, S, ?_⟩
  cases z : evC cl ms es' env with
  | bad => rw [z] at q; exact q.elim
  | exc x env1 => rw [z] at q; exact q
  | ok us env1 =>
    rw [z] at q
    simp only [R.bind_ok] at q
    intro H1 H1' e1 S1 vs hv x dx nx nd ne
    obtain ⟨as, ha, q1⟩ := (RQ.mono e1 q).orB
    split at q1
    · rename_i hz
      obtain ⟨g1, g2, _⟩ := args_ok S1 ha (hv.app (hds _))
      exact read_mk S1 hz g1 (by rw [g2]; exact hn) hcn nx nd ne q1
    · exact q1.elim
theorem c_mk {x : Str} {p : Pos} {k c n : Nat} {f Ca : Addr} {fd : FuncData} {ps : List Str} {ms : List Bool} {ds : List D} {dvs : List V} {dus : List Value} (M : Mk X.K Ca f) (F : FnG X.prog X.w X.K X.mg X.base k f fd ps (spF C.T cl (spec c 0) n)) (hgd : X.A.guards = some []) (room : Room (k + 1) X.A)
    (tk : Takes X W) (hg : Gl X x) (hm : X.mg x = some (.ref Ca)) (hcn : C.T.ck c [] = some Ca) (bd : Binds X.K fd ps dus) (hdv : Vals dvs dus) (hds : CstOk C.T ds dvs) (ha : PA X (e :: es) (tAC C W cl ms es')) (hn : (ms ++ ds.map fun _ => false).length + 1 = n := by rfl)
    (hdb : (x == ("__debug__" : Str)) = false := by decide) (he : starEach (e :: es) X.env = (false, eval e X.env) :: starEach es X.env := by rfl) (hpl : (backTo pos (starEach es X.env)).any (·.1) = false := by rfl) : PE X (.Call (.Name x p) (e :: es) [] pos) (tI C W cl (.mk c ms es' ds)) := by
  refine peI (t := tMk C W cl c n Ca dvs (tAC C W cl ms es')) ⟨fun pins s σ H Q I h => ?_⟩ fun σ H Q q => readMk hcn hds hn q
  refine wpAny_Call_Name_kw (ld_glob I hg hm ?_ hdb)
  refine PySem.W.callWith_K (h₀ := X.base) I.ok.mod.kin M.kp (thn (ha.run pos pins s σ H _ I h) fun us s1 hq => ?_) he hpl
  obtain ⟨vs, H1, I1, r, q⟩ := hq
  exact ⟨I1.kIn, mk_run M F hgd room bd hdv tk (fun _ _ _ z => z) I1 r q⟩
theorem c_mk0 {x : Str} {p : Pos} {k c n : Nat} {f Ca : Addr} {fd : FuncData} {ps : List Str} {ds : List D} {dvs : List V} {dus : List Value} (M : Mk X.K Ca f) (F : FnG X.prog X.w X.K X.mg X.base k f fd ps (spF C.T cl (spec c 0) n)) (hgd : X.A.guards = some []) (room : Room (k + 1) X.A)
    (tk : Takes X W) (hg : Gl X x) (hm : X.mg x = some (.ref Ca)) (hcn : C.T.ck c [] = some Ca) (bd : Binds X.K fd ps dus) (hdv : Vals dvs dus) (hds : CstOk C.T ds dvs) (hn : (ds.map fun _ => false).length + 1 = n := by rfl)
    (hdb : (x == ("__debug__" : Str)) = false := by decide) : PE X (.Call (.Name x p) [] [] pos) (tI C W cl (.mk c [] .nil ds)) := by
  refine peI (t := tMk C W cl c n Ca dvs (tAC C W cl [] .nil)) ⟨fun pins s σ H Q I h => ?_⟩ fun σ H Q q => readMk hcn hds hn q
  refine wpAny_Call_Name_kw (ld_glob I hg hm ?_ hdb)
  obtain ⟨H0, env, S, q⟩ := h
  simp only [evC] at q
  exact PySem.W.callWith_K0 I.kIn M.kp (mk_run (us := []) M F hgd room bd hdv tk (fun _ _ _ z => z) I .nil (q H0 H (Ext.rfl' _) S [] rfl))
/-- a call of two frozen things -/
theorem own_two {σ : L2.St} {H4 H3' : Hp} {env4 : Env} {f : Nat} {dx dy : D} {x y : V} {g : U → R U} {Q Q' : VK} (S4 : Sim C σ H4 H3' env4) (rx : Rep C.T H4 dx x) (ry : Rep C.T H4 dy y)
    (q : match cl f [.fz dx, .fz dy] with
      | .ok r _ => RQ C W σ (KV C σ Q) H4 (g r)
      | .exc z _ => RQ C W σ (KV C σ Q) H4 (.exc z env4)
      | .bad => False)
    (k : ∀ r v H0' H', Gr C.T H4 H3' H0' H' → RetOk C.T H0' H' H3' r v → RQ C W σ (KV C σ Q) H4 (g r) → Q' v H') : spF C.T cl f 2 [x, y] H3' Q' fun cls d H' => W cls d σ H' := by
  refine ⟨H4, [.fz dx, .fz dy], S4.ex, ⟨x, [y], rfl, rx, y, [], rfl, ry, rfl⟩, ?_, rfl, S4.tb, ?_⟩
  · intro i j p hi hj
    match i, hi with
    | 0, hi => simp [ioL] at hi
    | 1, hi => simp [ioL] at hi
    | _ + 2, hi => simp [ioL] at hi
  · cases zc : cl f [.fz dx, .fz dy] with
    | bad => simp only [zc] at q
    | exc z outs =>
      simp only [zc] at q
      intro cls d H0' H' g _ hx
      exact q cls d H0' H' g.e0 (S4.gr ⟨g.e0, fun p o hp => g.keep p o (by simp [ioL]) hp, g.e01, g.new, g.tb⟩) hx
    | ok r outs =>
      simp only [zc] at q
      intro v H0' H' g hr _
      exact k r v H0' H' ⟨g.e0, fun p o hp => g.keep p o (by simp [ioL]) hp, g.e01, g.new, g.tb⟩ hr q
/-- x in y, y perhaps of an own class -/
def rIn (C : Ctx) (W : WX) (cl : CallF) (neg : Bool) (cs : List Nat) (σ : L2.St) : R2 := fun x y H Q => (∃ H0 dy c, Ext H0 H ∧ Rep C.T H0 dy y ∧ c ∈ cs ∧ (∃ ks vs, dy = .obj c ks vs) ∧
  spF C.T cl (spec c 17) 2 [y, x] H (fun v H' => ∃ t, v = .bl t ∧ Q (.bl (if neg then !t else t)) H') fun cls d H' => W cls d σ H') ∨ rD C.T (op2 (if neg then .notin else .isin)) x y H Q
theorem readIn {σ : L2.St} {H : Hp} {Q : VK} {neg : Bool} {cs : List Nat} (h : tI C W cl (.ino neg cs a' b') σ H Q) : tOp (rIn C W cl neg cs σ) (tI C W cl a') (tI C W cl b') σ H Q := by
  obtain ⟨H0, env, S, q⟩ := h
  simp only [ev] at q
  refine seqI S q fun u env1 x H1 H1' e1 S1 u1 q1 => ?_
  obtain ⟨⟨dx, env2⟩, hf, q2⟩ := q1.orB
  obtain ⟨H2, e2, S2, r2⟩ := S1.take u1 hf
  refine seqI S2 (RQ.mono e2 q2) fun w env3 y H3 H3' e3 S3 u3 q3 => ?_
  obtain ⟨⟨dy, env4⟩, hg, q4⟩ := q3.orB
  obtain ⟨H4, e4, S4, r4⟩ := S3.take u3 hg
  have rx : Rep C.T H4 dx x := Rep.mono (e3.tr e4) _ _ r2
  have q5 := RQ.mono e4 q4
  simp only at q5
  cases dy with
  | obj c ks vs =>
    unfold ownIn at q5
    simp only at q5
    split at q5
    · exact q5.elim
    rename_i hcs
    simp only [Bool.not_eq_true, Bool.not_eq_false', List.contains_iff_mem] at hcs
    refine .inl ⟨H4, _, c, S4.ex, r4, hcs, ⟨ks, vs, rfl⟩, own_two (Q := Q) (g := fun r => match r with | .d (.bl t) => .ok (.nw (.bl (if neg then !t else t))) env4 | _ => .bad) S4 r4 rx ?_ ?_⟩
    · cases zc : cl (spec c 17) [.fz (.obj c ks vs), .fz dx] with
      | bad => simp only [zc] at q5; exact q5
      | exc z outs => simp only [zc] at q5 ⊢; exact q5
      | ok r outs =>
        simp only [zc] at q5 ⊢
        split at q5
        · rename_i hh; cases hh; exact q5
        · rename_i hh; cases hh
        · exact q5.elim
    · intro r v H0' H' g hr q6
      split at q6
      · rename_i t
        have rv : v = .bl t := by simpa only [RetOk, Rep] using hr
        exact ⟨t, rv, q6 H0' H' g.e0 (S4.gr g) _ (RepG.nw S4 (.flat rfl (r_bl _ _ _)))⟩
      · exact q6.elim
  | _ =>
    obtain ⟨z, hz, q6⟩ := RQ.orB (show RQ C W σ (KV C σ Q) H4 (orBad (op2 (if neg then .notin else .isin) dx _) fun z => .ok (.nw z) env4) from q5)
    exact .inr ⟨H4, dx, _, z, S4.ex, .inl rx, .inl r4, hz, fun v H0' H' g r => fin_nw S4 q6 g r⟩
theorem c_inO {neg : Bool} {cs : List Nat} {op : CmpOp} (hop : op = if neg then .NotIn else .In) (SP : SpOk X C.T cl 17 "__contains__" cs 2 []) (hgd : X.A.guards = some []) (tk : Takes X W) (ho : OpR X (compareOp op) (rD C.T (op2 (if neg then .notin else .isin))))
    (ha : PE X a (tI C W cl a')) (hb : PE X b (tI C W cl b')) (hm : behindInMarks op b = false) : PE X (.Compare a [op] [b] pos) (tI C W cl (.ino neg cs a' b')) := by
  refine peI (t := fun σ H Q => tOp (rIn C W cl neg cs σ) (tI C W cl a') (tI C W cl b') σ H Q) ⟨fun pins s σ H Q I h => wpAny_Compare1 (binT ha hb I h fun v u s2 x y H2 I2 rx ry q => ?_) hm⟩ fun σ H Q q => readIn q
  rcases q with ⟨H0, dy, c, e, r2, hcs, ⟨ks, vs, rfl⟩, hsp⟩ | q
  · obtain ⟨p, Ca, dd, xs, rfl, hck, hp, _⟩ := rd_obj e (.inl r2)
    have hcn := (Tbl.ck_some hck).1
    obtain ⟨kc, hno, k, f, fd, ps, dus, hme, F, hr, hb, hd⟩ := SP c hcs Ca hcn
    obtain ⟨mA, O, _⟩ := ins_get I2.hok hp
    obtain ⟨od, J, _⟩ := O.look
    obtain ⟨mm, hF⟩ := I2.fr
    cases (show u = Value.ref p from ry)
    have run := F.go (Q := fun v H' => ∃ t, v = .bl t ∧ Q (.bl (if neg then !t else t)) H') (us := [.ref p, v]) (vs := [.ref p, x]) hgd hr hb hd tk (fun _ _ _ z => z) I2 (.cons rfl (.cons rx .nil)) (by rw [List.append_nil]; exact hsp)
    cases neg with
    | true =>
      subst hop
      refine PySem.W.notIn_K hF I2.ok.mod.kin J hme.at_ hme.fn (wpAny_mono run (fun w s' z => ?_) fun _ _ x => x)
      obtain ⟨z', H', I', rz, t, rfl, qz⟩ := z
      cases (show w = Value.bool t from rz)
      exact wpAny_truthy_bool ⟨.bl (!t), H', I', rfl, qz⟩
    | false =>
      subst hop
      refine PySem.W.in_K hF I2.ok.mod.kin J hme.at_ hme.fn (wpAny_mono run (fun w s' z => ?_) fun _ _ x => x)
      obtain ⟨z', H', I', rz, t, rfl, qz⟩ := z
      cases (show w = Value.bool t from rz)
      exact wpAny_truthy_bool ⟨.bl t, H', I', rfl, qz⟩
  · exact ho pins s2 σ H2 x y v u Q I2 rx ry q
end
end PP
end

section
set_option maxHeartbeats 1000000
/-! Properties, making, isinstance of own classes, in and != by own defs. -/
namespace PySem.W
open PySem PySem.Calls PyProof.Rows
section
variable {prog : Program} {w : World} {A : Around} {E : Value → Shared → Prop} {s : Shared} {K : Frag} {x C L f : Addr} {h₀ : Heap} {m : Str → Option Value} {ox : Obj} {od : Option Obj}
theorem ppne_bind (self : Value) : bindSpecial (.builtin "object.__ne__") self = pure (.builtin "object.__ne__", [self]) :=
  (Slot.of (T := "object") (name := "__ne__") (owner := "object") (n := "__ne__") (by rw [typeLookup_type, builtinLookup_eq_fast]; kernel_rfl) (by decide +kernel) (by decide +kernel) (by decide +kernel) (.inl (by decide +kernel)) (by rw [isSubtype_type]; kernel_rfl)).bind self
theorem ppne_plain : plainId "object.__ne__" = true := by decide +kernel
/-- x != b by the class's own == -/
theorem pp_ne {b tb : Value} {Q : Value → Shared → Prop} (hu : A.units + 1 < cLine) (F : Fr h₀ L s.heap m) (X0 : K.In h₀) (I : InstAt s.heap x ox C od) (hb : Looks (model prog w) s.heap (typeOf b) tb) (hn : notFirst K C tb = true)
    (he : findIn K (.ref C) "__eq__" = some (some (.ref f))) (hf : isFn K (.ref f) = true) (hne : findIn K (.ref C) "__ne__" = some (some (.builtin "object.__ne__"))) (hi : Looks (model prog w) s.heap (isInstance (.ref x) (.type "object")) true)
    (h : wpAny (model prog w) A.in1 (call (.ref f) [.ref x, b]) (fun v s' => ∃ t, v = .bool t ∧ Q (.bool (!t)) s') E s) : wpAny (model prog w) A (richCompare .NotEq (.ref x) b) Q E s := by
  have kin := X0.keeps F.keep
  have one : wpAny (model prog w) A (tryCompare (.ref x) "__ne__" b) (fun r s' => ∃ v, r = some v ∧ Q v s') E s := by
    unfold tryCompare
    simp only [callSpecialIfBound?, bindSpecialIfBound?]
    refine wpAny_bind (wpAny_holding (wpAny_bind (wpAny_bind (wpAny_bind (I.type.here ((looks_findIn kin hne).here ?_))))))
    refine wpAny_bind (wpAny_askSetting (wpAny_ite ?_))
    have inst : Looks (model prog w) s.heap (isInstance (.ref x) (.type "object")) true := hi
    have body : wpAny (model prog w) A.in1 (Builtin.«object.__ne__» ⟨[.ref x, b], []⟩) (fun fin s' => ∃ v, fin = .done (.ret v) ∧ (∃ t, v = Value.bool t) ∧ Q v s') E s := by
      unfold Builtin.«object.__ne__»
      have hs : slotArgs "__ne__" 1 ⟨[.ref x, b], []⟩ = pure (.ref x, [b]) := by kernel_rfl
      rw [hs]
      refine wpAny_bind (wpAny_pure ?_)
      refine wpAny_bind (wpAny_cRoomFor hu ?_)
      refine wpAny_bind (ifBound_K kin I he hf (wpAny_mono h (fun v s' z => ?_) fun _ _ e => e))
      obtain ⟨t, rfl, z⟩ := z
      refine wpAny_bind (wpAny_truthy_bool ?_)
      exact wpAny_pure ⟨_, rfl, ⟨_, rfl⟩, z⟩
    have run : wpAny (model prog w) A (call (.builtin "object.__ne__") ([.ref x] ++ [b])) (fun v s' => (∃ t, v = Value.bool t) ∧ Q v s') E s := by
      refine wpAny_call (codeAny_call_builtin ppne_plain PySem.F.cmpEntry_ne ?_)
      refine check_slot PySem.F.cmpKind_ne PySem.F.cmpSplit_ne inst (PySem.F.cmpArgs_ne _ _) ?_
      refine wpAny_mono body (fun z s' q => ?_) fun _ _ e => e
      obtain ⟨v, rfl, q⟩ := q
      exact q
    have fin : wpAny (model prog w) A (call (.builtin "object.__ne__") ([.ref x] ++ [b]) >>= fun v => pure (some v)) (fun r s' => ∃ v, r = some v ∧ (∃ t, v = Value.bool t) ∧ Q v s') E s := wpAny_bind (wpAny_mono run (fun v s' z => wpAny_pure ⟨v, rfl, z⟩) fun _ _ e => e)
    have fin2 : ∀ {m : Sem (Option (Value × List Value))}, wpAny (model prog w) A m (fun a s' => a = some (.builtin "object.__ne__", [.ref x]) ∧ s' = s) E s → wpAny (model prog w) A m (fun a s' => wpAny (model prog w) A (match a with
        | some (g, first) => do
          let v ← call g (first ++ [b])
          pure (some v)
        | x => pure none) (fun a s' => wpAny (model prog w) A (match a with
          | some Value.notImplemented => pure none
          | none => pure none
          | some v => pure (some v)) (fun r s' => ∃ v, r = some v ∧ Q v s') E s') E s') E s := fun hm => wpAny_mono hm (fun a s' z => by
        obtain ⟨rfl, rfl⟩ := z
        refine wpAny_mono fin (fun r s' z => ?_) fun _ _ e => e
        obtain ⟨v, rfl, ⟨t, rfl⟩, q⟩ := z
        exact wpAny_pure ⟨_, rfl, q⟩) fun _ _ e => e
    split
    · rw [ppne_bind]
      exact fin2 (wpAny_bind (wpAny_pure (wpAny_pure ⟨rfl, rfl⟩)))
    · rw [ppne_bind]
      exact fin2 (wpAny_tryCatch (wpAny_bind (wpAny_pure (wpAny_pure ⟨rfl, rfl⟩))))
  unfold richCompare
  simp only [oneThing_ref]
  refine wpAny_holding (wpAny_bind (wpAny_cRoomFor (Nat.lt_of_succ_lt hu) ?_)); rw [cmpInfo_NotEq]; dsimp only
  refine wpAny_bind (I.type.here (wpAny_bind (hb.here ?_))); split
  · rename_i q
    have e : subIn K tb (.ref C) = some false := by
      rcases Bool.or_eq_true_iff.mp hn with e | e
      · rw [beq_iff_eq.mp e] at q; simp at q
      · exact beq_iff_eq.mp e
    refine wpAny_bind ((looks_subIn kin e).here ?_); simp only [Bool.false_eq_true, if_false]
    refine wpAny_bind (wpAny_mono one (fun r s' z => ?_) fun _ _ e => e); obtain ⟨v, rfl, hq⟩ := z
    exact wpAny_pure hq
  · refine wpAny_bind (wpAny_pure ?_); simp only [Bool.false_eq_true, if_false]
    refine wpAny_bind (wpAny_mono one (fun r s' z => ?_) fun _ _ e => e); obtain ⟨v, rfl, hq⟩ := z
    exact wpAny_pure hq
end
end PySem.W
namespace PP
open PySem PySem.Spec PyProof.Rows L2
section
variable {X : Cx} {C : Ctx} {W : WX} {cl : CallF} {e a b : Expr} {es : List Expr} {e' a' b' : Ex} {es' : Exs} {pos : Pos}
theorem FnG.goIn {k : Nat} {f : Addr} {fd : FuncData} {ps : List Str} {sp : Sp} {ds : List Value} {dvs : List V} {pins : List (Addr × Obj)} {σ : L2.St} {H : Hp} {s : Shared} {Q : VK} {us : List Value} {vs : List V} {E : XK}
    (F : FnG X.prog X.w X.K X.mg X.base k f fd ps sp) (hgd : X.A.guards = some []) (hr : Room (k + 1) X.A) (hb : Binds X.K fd ps ds) (hd : Vals dvs ds) (tk : Takes X W) (hE : ∀ cls d H', E cls d H' → W cls d σ H')
    (I : Inv X pins σ H s) (r : Vals vs us) (h : sp (vs ++ dvs) H Q E) : wpAny (model X.prog X.w) X.A.in1 (call (.ref f) us) (EP X pins σ Q) X.xe s := by
  have r2 := r.append hd
  have hlen : (us ++ ds).length = ps.length := r2.length ▸ F.len _ _ _ _ h
  refine wpAny_call (codeAny_mono (F.run X.A.in1 X.stack s H ⟨us, []⟩ _ _ Q E hgd hr.in1 I.env0.in1 (hb s us I.kIn hlen) r2 h) fun res s' hq => ?_)
  cases res with
  | error ee => exact tk _ _ (XE.of_call I hE hq)
  | ok fl =>
    cases fl with
    | ret u => exact I.after hq
    | _ => exact hq.elim
/-- x != y, x perhaps of an own class with its own == -/
def rNe (C : Ctx) (W : WX) (cl : CallF) (cs : List Nat) (σ : L2.St) : R2 := fun x y H Q => (∃ H0 dx dy c, Ext H0 H ∧ Rep C.T H0 dx x ∧ Rep C.T H0 dy y ∧ c ∈ cs ∧ oddD dy = false ∧ (∃ ks vs, dx = .obj c ks vs) ∧
  spF C.T cl (spec c 16) 2 [x, y] H (fun v H' => ∃ t, v = .bl t ∧ Q (.bl (!t)) H') fun cls d H' => W cls d σ H') ∨ rD C.T (op2 .ne) x y H Q
theorem readNe {σ : L2.St} {H : Hp} {Q : VK} {cs : List Nat} (h : tI C W cl (.neo cs a' b') σ H Q) : tOp (rNe C W cl cs σ) (tI C W cl a') (tI C W cl b') σ H Q := by
  obtain ⟨H0, env, S, q⟩ := h
  simp only [ev] at q
  refine seqI S q fun u env1 x H1 H1' e1 S1 u1 q1 => ?_
  obtain ⟨⟨dx, env2⟩, hf, q2⟩ := q1.orB
  obtain ⟨H2, e2, S2, r2⟩ := S1.take u1 hf
  refine seqI S2 (RQ.mono e2 q2) fun w env3 y H3 H3' e3 S3 u3 q3 => ?_
  obtain ⟨⟨dy, env4⟩, hg, q4⟩ := q3.orB
  obtain ⟨H4, e4, S4, r4⟩ := S3.take u3 hg
  have rx : Rep C.T H4 dx x := Rep.mono (e3.tr e4) _ _ r2
  have q5 := RQ.mono e4 q4
  simp only at q5
  cases dx with
  | obj c ks vs =>
    unfold ownNe at q5
    simp only at q5
    split at q5
    · exact q5.elim
    rename_i hcs
    replace hcs : c ∈ cs ∧ oddD dy = false := by simpa [List.contains_iff_mem] using hcs
    refine .inl ⟨H4, _, dy, c, S4.ex, rx, r4, hcs.1, hcs.2, ⟨ks, vs, rfl⟩, own_two (Q := Q) (g := fun r => match r with | .d (.bl t) => .ok (.nw (.bl (!t))) env4 | _ => .bad) S4 rx r4 ?_ ?_⟩
    · cases zc : cl (spec c 16) [.fz (.obj c ks vs), .fz dy] with
      | bad => simp only [zc] at q5; exact q5
      | exc z outs => simp only [zc] at q5 ⊢; exact q5
      | ok r outs =>
        simp only [zc] at q5 ⊢
        split at q5
        · rename_i hh; cases hh; exact q5
        · rename_i hh; cases hh
        · exact q5.elim
    · intro r v H0' H' g hr q6
      split at q6
      · rename_i t
        have rv : v = .bl t := by simpa only [RetOk, Rep] using hr
        exact ⟨t, rv, q6 H0' H' g.e0 (S4.gr g) _ (RepG.nw S4 (.flat rfl (r_bl _ _ _)))⟩
      · exact q6.elim
  | _ =>
    simp only [ownNe] at q5
    obtain ⟨z, hz, q6⟩ := q5.orB
    exact .inr ⟨H4, _, dy, z, S4.ex, .inl rx, .inl r4, hz, fun v H0' H' g r => fin_nw S4 q6 g r⟩
/-- what != asks of the class, besides its own == -/
structure NeC (K : PySem.W.Frag) (C : Addr) : Prop where
  ne : PySem.W.findIn K (.ref C) "__ne__" = some (some (.builtin "object.__ne__"))
  top : PySem.W.mroIn K C (.type "object") = some true
def SpQ (X : Cx) (T : Tbl) (cl : CallF) (cs : List Nat) : Prop :=
  ∀ c ∈ cs, ∀ C, T.cn c = some C → Cls X.K C ∧ NeC X.K C ∧ NFs X.K T C ∧ ∃ k f fd ps dus, Meth X.K C "__eq__" f ∧ FnG X.prog X.w X.K X.mg X.base k f fd ps (spF T cl (spec c 16) 2) ∧ Room (k + 1) X.A ∧ Binds X.K fd ps dus ∧ Vals [] dus
theorem c_neO {cs : List Nat} (hK : X.K = C.T.K) (hu : X.A.units + 64 < cLine) (SP : SpQ X C.T cl cs) (hgd : X.A.guards = some []) (tk : Takes X W) (ho : OpR X (compareOp .NotEq) (rD C.T (op2 .ne)))
    (ha : PE X a (tI C W cl a')) (hb : PE X b (tI C W cl b')) (hm : behindInMarks .NotEq b = false) : PE X (.Compare a [.NotEq] [b] pos) (tI C W cl (.neo cs a' b')) := by
  refine peI (t := fun σ H Q => tOp (rNe C W cl cs σ) (tI C W cl a') (tI C W cl b') σ H Q) ⟨fun pins s σ H Q I h => wpAny_Compare1 (binT ha hb I h fun v u s2 x y H2 I2 rx ry q => ?_) hm⟩ fun σ H Q q => readNe q
  rcases q with ⟨H0, dx, dy, c, e, r1, r2, hcs, hodd, ⟨ks, vs, rfl⟩, hsp⟩ | q
  · obtain ⟨p, Ca, dd, xs, rfl, hck, hp, _⟩ := rd_obj e (.inl r1)
    have hcn := (Tbl.ck_some hck).1
    obtain ⟨kc, nc, ⟨n1, n2⟩, k, f, fd, ps, dus, hme, F, hr, hb, hd⟩ := SP c hcs Ca hcn
    obtain ⟨mA, O, _⟩ := ins_get I2.hok hp
    obtain ⟨od, J, _⟩ := O.look
    obtain ⟨mm, hF⟩ := I2.fr
    cases (show v = Value.ref p from rx)
    have run := F.goIn (Q := fun v H' => ∃ t, v = .bl t ∧ Q (.bl (!t)) H') (us := [.ref p, u]) (vs := [.ref p, y]) hgd hr hb hd tk (fun _ _ _ z => z) I2 (.cons rfl (.cons ry .nil)) (by rw [List.append_nil]; exact hsp)
    have run2 := wpAny_mono run (fun w s' z => (by
      obtain ⟨z', H', I', rz, t, rfl, qz⟩ := z
      cases (show w = Value.bool t from rz)
      exact ⟨t, rfl, .bl (!t), H', I', rfl, qz⟩ : ∃ t, w = Value.bool t ∧ EP X pins σ Q (.bool (!t)) s')) fun _ _ x => x
    have inst : PySem.W.Looks (model X.prog X.w) s2.heap (isInstance (.ref p) (.type "object")) true := J.type.andThen (PySem.W.looks_mroIn I2.kIn nc.top)
    rcases ty_looks hK I2 e r2 ry hodd with ⟨hod, L⟩ | ⟨c', ks', vs', Cb, rfl, hcn', L⟩
    · refine PySem.W.pp_ne (by omega) hF I2.ok.mod.kin J L (n1 _ ?_) hme.at_ hme.fn nc.ne inst run2
      cases dy <;> first | (cases hod; done) | (show tyN _ ∈ _; simp [tyN])
    · exact PySem.W.pp_ne (by omega) hF I2.ok.mod.kin J L (n2 c' Cb hcn') hme.at_ hme.fn nc.ne inst run2
  · exact ho pins s2 σ H2 x y v u Q I2 rx ry q
end
end PP
end

section
set_option maxHeartbeats 2000000
/-! Exceptions: made, raised, caught. -/
namespace PP
open PySem PySem.Spec PyProof.Rows L2
theorem RepAll.rev {T : Tbl} {H : Hp} : ∀ {ds : List D} {vs : List V}, RepAll T H ds vs → RepAll T H ds.reverse vs.reverse
  | [], _, h => by simp only [RepAll] at h; subst h; simp [RepAll]
  | d :: ds, _, h => by
    simp only [RepAll] at h
    obtain ⟨v, r, rfl, h2, h3⟩ := h
    rw [List.reverse_cons, List.reverse_cons]
    exact (RepAll.rev h3).app (by simp only [RepAll]; exact ⟨v, [], rfl, h2, rfl⟩)
theorem zip_rev {α β : Type} : ∀ {xs : List α} {ys : List β}, xs.length = ys.length → (xs.zip ys).reverse = xs.reverse.zip ys.reverse
  | [], [], _ => rfl
  | [], _ :: _, h => by simp at h
  | _ :: _, [], h => by simp at h
  | x :: xs, y :: ys, h => by
    rw [List.zip_cons_cons, List.reverse_cons, List.reverse_cons, List.reverse_cons, zip_rev (by simpa using h), List.zip_append (by simpa using h)]
    rfl
/-- what an exception's own __init__ keeps -/
def spI (Ca : Addr) (ns : List Str) : Sp := fun vs H Q _ => ∃ a ys, vs = .ref a :: ys ∧ ys.length = ns.length ∧ H a = some (exo a Ca none) ∧
  ∀ dx, H dx = none → dx ≠ a → Q .non (upd (upd H dx (exd dx ((ns.zip ys).reverse))) a (exo a Ca (some dx)))
theorem exc_fn1 {P : Program} {w : World} {K : PySem.W.Frag} {mg : Str → Option Value} {base : Heap} {x qual f1 : Str} {st : Stmt} {f Ca : Addr} {fd : FuncData} {N ps : List Str} {k : Nat} (Fu : FunV K x qual st f fd) (S : FnScope N ps (defScope st)) (hp : ps.length = 2)
    (T : OexC K Ca) (hno : PySem.W.findIn K (.ref Ca) f1 = some none)
    (hb : ∀ {X : Cx}, (∃ (cdv : Value) (A : Around) (outer : List PySem.Env) (s : Shared) (H : Hp) (E : XK), X = cxOf (L2.CX P w) P w K mg base N qual (defScope st) f cdv A outer s H E) → PSs X (defBody st) (tSeq (tOst K f1 (tVar 0) (tVar 1)) tNext)) :
    FnG P w K mg base (k + 1) f fd ps (spI Ca [f1]) := by
  refine FnG.of Fu S (fun vs H Q E ⟨a, ys, e, h, _⟩ => by rw [e, List.length_cons, h, hp]; rfl) fun cdv hcd A outer s H vs Q E hg hr hsp => ?_
  refine ⟨_, hb ⟨cdv, A, outer, s, H, E, rfl⟩, ?_⟩
  obtain ⟨a, ys, rfl, hl, ha, q⟩ := hsp
  match ys, hl with
  | [y], _ =>
    refine ⟨y, rfl, .ref a, rfl, a, Ca, rfl, T, hno, .inl ⟨ha, fun dx hd hne => ?_⟩⟩
    exact q dx hd hne
theorem exc_fn2 {P : Program} {w : World} {K : PySem.W.Frag} {mg : Str → Option Value} {base : Heap} {x qual f1 f2 : Str} {st : Stmt} {f Ca : Addr} {fd : FuncData} {N ps : List Str} {k : Nat} (Fu : FunV K x qual st f fd) (S : FnScope N ps (defScope st)) (hp : ps.length = 3)
    (T : OexC K Ca) (hno1 : PySem.W.findIn K (.ref Ca) f1 = some none) (hno2 : PySem.W.findIn K (.ref Ca) f2 = some none)
    (hb : ∀ {X : Cx}, (∃ (cdv : Value) (A : Around) (outer : List PySem.Env) (s : Shared) (H : Hp) (E : XK), X = cxOf (L2.CX P w) P w K mg base N qual (defScope st) f cdv A outer s H E) → PSs X (defBody st) (tSeq (tOst K f1 (tVar 0) (tVar 1)) (tSeq (tOst K f2 (tVar 0) (tVar 2)) tNext))) :
    FnG P w K mg base (k + 1) f fd ps (spI Ca [f1, f2]) := by
  refine FnG.of Fu S (fun vs H Q E ⟨a, ys, e, h, _⟩ => by rw [e, List.length_cons, h, hp]; rfl) fun cdv hcd A outer s H vs Q E hg hr hsp => ?_
  refine ⟨_, hb ⟨cdv, A, outer, s, H, E, rfl⟩, ?_⟩
  obtain ⟨a, ys, rfl, hl, ha, q⟩ := hsp
  match ys, hl with
  | [y, z], _ =>
    refine ⟨y, rfl, .ref a, rfl, a, Ca, rfl, T, hno1, .inl ⟨ha, fun dx hd hne => ?_⟩⟩
    refine ⟨z, rfl, .ref a, rfl, a, Ca, rfl, T, hno2, .inr ⟨dx, [(f1, y)], upd_same, by rw [upd_ne hne, upd_same], by simp, ?_⟩⟩
    have e : upd (upd (upd H dx (exd dx [(f1, y)])) a (exo a Ca (some dx))) dx (exd dx ((f2, z) :: [(f1, y)])) = upd (upd H dx (exd dx [(f2, z), (f1, y)])) a (exo a Ca (some dx)) := by
      funext b
      by_cases h1 : b = dx
      · subst h1; rw [upd_same, upd_ne hne, upd_same]
      · rw [upd_ne h1]
        by_cases h2 : b = a
        · subst h2; rw [upd_same, upd_same]
        · rw [upd_ne h2, upd_ne h2, upd_ne h1, upd_ne h1]
    rw [e]
    exact q dx hd hne
section
variable {X : Cx} {C : Ctx} {W : WX} {cl : CallF} {e a b c : Expr} {es : List Expr} {e' a' b' c' : Ex} {es' : Exs} {pos : Pos}
/-- C(e, ..), an exception is made -/
def tMkX (Ca : Addr) (ns : List Str) (ta : TA) : L2.St → Hp → XK → Prop := fun σ H Q => ta σ H fun vs H1 => vs.length = ns.length ∧ ∀ d, H1 d = none → Q (.ref Ca) (some d) (upd H1 d (.xd ((ns.zip vs).reverse)))
theorem pmk_X {x : Str} {Ca fI : Addr} {k : Nat} {fd : FuncData} {ps ns : List Str} {ta : TA} {p : Pos} (T : OexC X.K Ca) (iC : PySem.W.findIn X.K (.ref Ca) "__init__" = some (some (.ref fI))) (tI : PySem.W.typeIn X.K (.ref fI) = some (.type "function"))
    (F1 : FnG X.prog X.w X.K X.mg X.base k fI fd ps (spI Ca ns)) (hgd : X.A.guards = some []) (hr : Room (k + 1) X.A) (hb : Binds X.K fd ps []) (tk : Takes X W) (hlen : ns.length ≤ 100) (hg : Gl X x) (hm : X.mg x = some (.ref Ca)) (ha : PA X (e :: es) ta)
    (hdb : (x == ("__debug__" : Str)) = false := by decide) (he : starEach (e :: es) X.env = (false, eval e X.env) :: starEach es X.env := by rfl) (hpl : (backTo pos (starEach es X.env)).any (·.1) = false := by rfl) :
    PMk X (.Call (.Name x p) (e :: es) [] pos) (tMkX Ca ns ta) := by
  intro pins s σ H Q I h
  obtain ⟨nm, q, N, bs, bm, sn, sub, ab, col, dd, k0, k1, k2, k3, k5, hC, hbm⟩ := T.cls
  refine wpAny_Call_Name_kw (ld_glob I hg hm ?_ hdb)
  refine PySem.W.callWith_K (h₀ := X.base) I.ok.mod.kin T.kC (thn (ha.run pos pins s σ H _ I h) fun us s1 ⟨vs, H1, I1, r1, hz, q1⟩ => ⟨I1.kIn, ?_⟩) he hpl
  show wpAny _ _ (call (.ref Ca) us) _ _ _
  obtain ⟨hp, g, dr, tk1, os⟩ := s1
  have hsz : hp.objs.size ≤ hp.objs.size + 1 := Nat.le_succ _
  have hn : H1 (hp.objs.size + 1) = none := I1.hok.fresh hsz
  have kk : ∀ b o, hp.get? b = some o → ((hp.push (PySem.W.kdv_tup us)).push (PySem.HandSPX.excO Ca hp.objs.size)).get? b = some o := fun b o e => Heap.get?_push_of_some _ (Heap.get?_push_of_some _ e)
  have hget : ((hp.push (PySem.W.kdv_tup us)).push (PySem.HandSPX.excO Ca hp.objs.size)).get? (hp.objs.size + 1) = some (PySem.HandSPX.excO Ca hp.objs.size) := by heap_get
  have I2 : Inv X pins σ (upd H1 (hp.objs.size + 1) (exo (hp.objs.size + 1) Ca none)) ⟨(hp.push (PySem.W.kdv_tup us)).push (PySem.HandSPX.excO Ca hp.objs.size), g, dr, tk1, os⟩ :=
    I1.laid (t' := tk1) (a := hp.objs.size + 1) (o := exo (hp.objs.size + 1) Ca none) (h' := (hp.push (PySem.W.kdv_tup us)).push (PySem.HandSPX.excO Ca hp.objs.size)) kk hsz (exo_ok hget)
  have hq : spI Ca ns (.ref (hp.objs.size + 1) :: vs) (upd H1 (hp.objs.size + 1) (exo (hp.objs.size + 1) Ca none))
      (fun v H2 => v = .non ∧ ∃ (d : Addr) (fs : List (Str × V)), H2 (hp.objs.size + 1) = some (exo (hp.objs.size + 1) Ca (some d)) ∧ H2 d = some (exd d fs) ∧ H1 d = none ∧ Q (.ref Ca) (some d) (upd (del H2 (hp.objs.size + 1)) d (.xd fs))) (fun _ _ _ => False) := by
    refine ⟨_, vs, rfl, hz, upd_same, fun dx hd hne => ⟨rfl, dx, _, upd_same, by rw [upd_ne hne, upd_same], ?_, ?_⟩⟩
    · rw [upd_ne hne] at hd; exact hd
    · have hd1 : H1 dx = none := by rw [upd_ne hne] at hd; exact hd
      have ee : upd (del (upd (upd (upd H1 (hp.objs.size + 1) (exo (hp.objs.size + 1) Ca none)) dx (exd dx ((ns.zip vs).reverse))) (hp.objs.size + 1) (exo (hp.objs.size + 1) Ca (some dx))) (hp.objs.size + 1)) dx (.xd ((ns.zip vs).reverse)) = upd H1 dx (.xd ((ns.zip vs).reverse)) := by
        funext b
        by_cases h1 : b = dx
        · subst h1; rw [upd_same, upd_same]
        · rw [upd_ne h1, upd_ne h1]
          by_cases h2 : b = hp.objs.size + 1
          · subst h2; rw [del_same, hn]
          · rw [del_ne h2, upd_ne h2, upd_ne h1, upd_ne h2]
      rw [ee]
      exact q1 dx hd1
  have r2 : Vals (V.ref (hp.objs.size + 1) :: vs) (Value.ref (hp.objs.size + 1) :: us) := .cons rfl r1
  have hl : (Value.ref (hp.objs.size + 1) :: us ++ []).length = ps.length := by
    have e := r2.length
    rw [F1.len _ _ _ _ hq] at e
    rw [List.append_nil]
    exact e.symm
  have hus : us.length ≤ sizeLine := by
    rw [← Paired.length r1, hz, sizeLine_eq]
    omega
  have hb2 := hb ⟨(hp.push (PySem.W.kdv_tup us)).push (PySem.HandSPX.excO Ca hp.objs.size), g, dr, tk1, os⟩ (Value.ref (hp.objs.size + 1) :: us) I2.kIn hl
  refine wpAny_call (PySem.HandSPX.call_own F.excBase_ValueError (fun Y => PySem.HandSPX.refsVE_contains Y bm hbm) (I1.kIn _ _ hC) (PySem.W.looks_findIn I1.kIn iC) (fun self => PySem.W.bind_fn I1.kIn self tI) hus
    (codeAny_mono (F1.run _ X.stack _ _ ⟨Value.ref (hp.objs.size + 1) :: us, []⟩ (Value.ref (hp.objs.size + 1) :: us) _ _ (fun _ _ _ => False) hgd (hr.make Ca us []) (I2.env0.make Ca us []) (by simpa using hb2) r2 hq) fun r s' hq' => ?_))
  cases r with
  | error er => exact (passes_call (W := fun _ _ _ _ => False) (Takes.imp tk fun _ _ _ _ z => z.elim) (fun _ _ _ _ z => z)) pins σ _ _ er s' I2 hq'
  | ok fl =>
    cases fl with
    | ret u =>
      obtain ⟨v, H2, os2, bare2, un2, hok2, rv, ev, d, fs, ea, ed, hd1, q2⟩ := hq'
      subst ev
      obtain ⟨h2, g2, d2, t2, os'⟩ := s'
      exact ⟨rv, mk_end (raises_own T.exC T.tyC) I1 hsz kk un2 hok2 os2 bare2 ea ed hd1 q2⟩
    | next => exact False.elim hq'
    | brk => exact False.elim hq'
    | cont => exact False.elim hq'
/-- a made exception as a value -/
theorem pe_ofMk {t : L2.St → Hp → XK → Prop} (h : PMk X e t) : PE X e (fun σ H Q => t σ H fun cls d H' => ∃ Ca, cls = .ref Ca ∧ ∀ a, H' a = none → Q (.ref a) (upd H' a (ErrO Ca d a))) := by
  refine ⟨fun pins s σ H Q I hh => ?_⟩
  refine wpAny_mono (h pins s σ H _ I hh) (fun u s1 hu => ?_) fun _ _ x => x
  obtain ⟨a, oe, vs, sI, H', cls, d, rfl, J, k, hne, ha, hz, hd, h1, na, os, ag, r, Ca, rfl, q⟩ := hu
  have new : ObjOk X.prog X.w (upd H' a (ErrO Ca d a)) s1.heap a (ErrO Ca d a) := ⟨⟨oe, vs, ha, hz, hd⟩, ⟨oe, ha⟩, fun _ _ ⟨o, v, q, r⟩ k => ⟨o, v, k o q, r⟩⟩
  have K1 := J.call (ch := []) (h' := s1.heap) (g' := s1.gens) (t' := s1.toks) (d' := s1.drawn) (H' := upd H' a (ErrO Ca d a)) (Un.laidN k hne na) (J.hok.laidN k na new) ag (fun _ z => nomatch z)
  obtain ⟨a1, a2, a3, a4, a5⟩ := s1
  have e5 : a5 = sI.os := os
  subst e5
  exact ⟨.ref a, _, K1, rfl, q a na⟩
theorem made_rep {σ : L2.St} {H1 H1' : Hp} {env1 : Env} {ds : List D} {vs : List V} {c : Nat} {ks : List Nat} {ns : List Str} {Ca d a : Addr} (hcx : C.T.cx c ks = some Ca) (hns : ks.map C.T.fn = ns.reverse) (S1 : Sim C σ H1 H1' env1) (hv : RepAll C.T H1 ds vs) (hl : ds.length = ks.length)
    (hd : H1' d = none) (ha : upd H1' d (.xd ((ns.zip vs).reverse)) a = none) :
    Gr C.T H1 H1' (upd (upd H1 d (.xd ((ns.zip vs).reverse))) a (ErrO Ca (some d) a)) (upd (upd H1' d (.xd ((ns.zip vs).reverse))) a (ErrO Ca (some d) a)) ∧
      Rep C.T (upd (upd H1 d (.xd ((ns.zip vs).reverse))) a (ErrO Ca (some d) a)) (.err c ks ds.reverse) (.ref a) := by
  have g1 : Gr C.T H1 H1' (upd H1 d (.xd ((ns.zip vs).reverse))) (upd H1' d (.xd ((ns.zip vs).reverse))) := Gr.froz S1.ex hd
  have g2 : Gr C.T _ _ (upd (upd H1 d (.xd ((ns.zip vs).reverse))) a (ErrO Ca (some d) a)) (upd (upd H1' d (.xd ((ns.zip vs).reverse))) a (ErrO Ca (some d) a)) := Gr.froz g1.e01 ha
  have ne : d ≠ a := fun z => by subst z; rw [upd_same] at ha; cases ha
  have ln : ns.length = ks.length := by have := congrArg List.length hns; simpa using this.symm
  refine ⟨g1.tr g2, ?_⟩
  simp only [Rep]
  refine ⟨a, Ca, some d, rfl, hcx, upd_same, .inr ⟨d, vs.reverse, rfl, ?_, ?_, (RepAll.mono (g1.e0.tr g2.e0) _ _ hv).rev⟩⟩
  · rw [upd_ne ne, upd_same, zip_rev (by rw [hv.len, hl, ln]), hns]
  · rw [List.length_reverse, hv.len, hl]
theorem c_mkE {c : Nat} {ks : List Nat} {ns : List Str} {Ca : Addr} (hcx : C.T.cx c ks = some Ca) (hns : ks.map C.T.fn = ns.reverse) (hM : PMk X e (tMkX Ca ns (tAF C W cl es'))) : PE X e (tI C W cl (.mkE c ks es')) :=
  peI (pe_ofMk hM) fun σ H Q ⟨H0, env, S, q⟩ => by
    simp only [ev] at q
    refine ⟨H0, env, S, ?_⟩
    cases z : evF cl es' env with
    | bad => rw [z] at q; exact q
    | exc x env1 => rw [z] at q; exact q
    | ok ds env1 =>
      rw [z] at q
      simp only [R.bind_ok] at q
      split at q
      rotate_left
      · exact q.elim
      rename_i hl
      intro H1 H1' e1 S1 vs hv
      have ln : ns.length = ks.length := by have := congrArg List.length hns; simpa using this.symm
      refine ⟨by rw [hv.len, hl, ln], fun d hd => ⟨Ca, rfl, fun a ha => ?_⟩⟩
      obtain ⟨g, r⟩ := made_rep hcx hns S1 hv hl hd ha
      exact q _ _ (e1.tr g.e0) (S1.gr g) (.ref a) r
theorem s_raise {c : Nat} {ks : List Nat} {ns : List Str} {Ca : Addr} (hcx : C.T.cx c ks = some Ca) (hns : ks.map C.T.fn = ns.reverse) (hc : X.calm = true) (tk : Takes X W) (hM : PMk X e (tMkX Ca ns (tAF C W cl es'))) : PS X (.Raise (some e) none pos) (tS C W cl (.raise c ks es')) :=
  psI (ps_raise hc tk hM) fun E σ H ⟨H0, env, S, q⟩ => by
    simp only [ex] at q
    refine ⟨H0, env, S, ?_⟩
    cases z : evF cl es' env with
    | bad => rw [z] at q; exact q
    | exc x env1 => rw [z] at q; exact fun cls d H0' H' e' S' x => q σ cls d H0' H' e' S' x
    | ok ds env1 =>
      rw [z] at q
      simp only [R.bind_ok] at q
      split at q
      rotate_left
      · exact q.elim
      rename_i hl
      intro H1 H1' e1 S1 vs hv
      have ln : ns.length = ks.length := by have := congrArg List.length hns; simpa using this.symm
      refine ⟨by rw [hv.len, hl, ln], fun d hd => ?_⟩
      have g1 : Gr C.T H1 H1' (upd H1 d (.xd ((ns.zip vs).reverse))) (upd H1' d (.xd ((ns.zip vs).reverse))) := Gr.froz S1.ex hd
      refine q σ _ _ _ _ (e1.tr g1.e0) (S1.gr g1) ⟨Ca, hcx, rfl, .inr ⟨d, vs.reverse, rfl, ?_, ?_, (RepAll.mono g1.e0 _ _ hv).rev⟩⟩
      · rw [upd_same, zip_rev (by rw [hv.len, hl, ln]), hns]
      · rw [List.length_reverse, hv.len, hl]
end
end PP
end

section
set_option maxHeartbeats 4000000
/-! try .. except X as e: name = e. -/
namespace PP
open PySem PySem.Spec PyProof.Rows L2
/-- an exception that is at hand, its class any value -/
def ErrV (cls : Value) (d : Option Addr) (a : Addr) : HO := .ext fun h => ∃ (oe : Obj) (vs : Array Value), h.get? a = some oe ∧ Zc cls d oe ∧ oe.data = .fields vs
theorem errV {C : Addr} {d : Option Addr} {a : Addr} : ErrV (.ref C) d a = ErrO C d a := rfl
theorem errV_ok {P : Program} {w : World} {H : Hp} {h : Heap} {a : Addr} {cls : Value} {d : Option Addr} {oe : Obj} {vs : Array Value} (e : h.get? a = some oe) (z : Zc cls d oe) (hd : oe.data = .fields vs) : ObjOk P w H h a (ErrV cls d a) :=
  ⟨⟨oe, vs, e, z, hd⟩, ⟨oe, e⟩, fun _ _ ⟨o, v, q, r⟩ k => ⟨o, v, k o q, r⟩⟩
theorem inv_track {X : Cx} {pins : List (Addr × Obj)} {σ : L2.St} {H : Hp} {s : Shared} {a : Addr} {oe : Obj} {vs : Array Value} {φ : Heap → Prop} (I : L2.Inv X pins σ H s) (ha : s.heap.get? a = some oe) (hd : oe.data = .fields vs) (na : H a = none) (n0 : X.s_0.heap.get? a = none) (nL : a ≠ X.env.locals)
    (np : ∀ p ∈ X.pn ++ pins, p.1 ≠ a) (new : ObjOk X.prog X.w (upd H a (.ext φ)) s.heap a (.ext φ)) : L2.Inv X pins σ (upd H a (.ext φ)) s := by
  have hc : ∀ x c, X.env.cells.lookup x = some c → c ≠ a := fun x c e z => by
    obtain ⟨v, o, ho, hd2⟩ := I.cell x c e
    rw [z, ha] at ho
    cases ho
    rw [hd] at hd2
    cases hd2
  refine ⟨I.ok, I.os, I.bare, ⟨I.base.keep, I.base.slot, fun b o e n hx => ?_, I.base.there, fun b xs e => ?_, fun b o u e => ?_, fun b ps e => ?_⟩, I.loc, I.cell, ?_, fun x c e => ?_, fun p hp => ?_, fun b u e => ?_, I.len⟩
  · rw [upd_ne (fun z => by rw [z, n0] at e; cases e)]
    exact I.base.free b o e n hx
  · have q := I.base.tups b xs e
    rw [upd_ne (ne_of_none q na)]; exact q
  · have q := I.base.frzs b o u e
    rw [upd_ne (ne_of_none q na)]; exact q
  · obtain ⟨m, q⟩ := I.base.tbls b ps e
    exact ⟨m, by rw [upd_ne (ne_of_none q na)]; exact q⟩
  · rw [upd_ne (Ne.symm nL)]; exact I.free
  · rw [upd_ne (hc x c e)]; exact I.freeC x c e
  · obtain ⟨e, n, ne, nf, d⟩ := I.pin p hp
    exact ⟨e, by rw [upd_ne (np p hp)]; exact n, ne, nf, d⟩
  · by_cases hb : b = a
    · subst hb
      rw [upd_same] at e
      cases e
      exact new
    · rw [upd_ne hb] at e
      exact (I.hok b u e).stay (fun c v _ q => q) (fun c q => by rw [upd_ne (ne_of_none q na)]; exact q) fun c xs q => by rw [upd_ne (ne_of_none q na)]; exact q
/-- what 'except x as n' wishes of an exception of the body: it stays at hand -/
def wKeep (K : PySem.W.Frag) (c : Value) (i : Nat) (ts : Addr → Value → Option Addr → TS) (Wout : WX) (D : Ends) : WX := fun cls d σ H =>
  ∃ b, PySem.W.exmOne K cls c = some b ∧ (b = true → i < σ.length → ∀ a, H a = none → ts a cls d { nx := fun σ' H' => H' a = none → D.nx (σ'.set i none) (upd H' a (ErrV cls d a)), rt := fun _ _ => False, bk := fun _ _ => False, ct := fun _ _ => False } (σ.set i (some (.ref a))) H) ∧
    (b = false → Wout cls d σ H)
section
variable {X : Cx} {x n : Str} {c : Value} {i : Nat} {body suite : List Stmt} {b₀ : Stmt} {np pos pos' : Pos} {tb : WX → TS} {ts : Addr → Value → Option Addr → TS} {Wout : WX}
theorem ps_try_keep (hs : X.stack = X.env :: X.outer) (hf : X.env.frame = some X.env.locals) (hex : X.ex = []) (hN : X.N.Nodup) (hi : X.N[i]? = some n) (hln : X.env.kindOf n = some .local) (hc : Names X x c) (tk : Takes X Wout)
    (hb : ∀ (W : WX) (pn : List (Addr × Obj)) (xe : Value → Shared → Prop), Takes (X.tr pn xe) W → PassesOwn (model X.prog X.w) X.A X.env xe → PSs (X.tr pn xe) body (tb W))
    (hsu : ∀ (a : Addr) (oe : Obj) (cls : Value) (d : Option Addr) (pn : List (Addr × Obj)), Zc cls d oe → (∃ vs, oe.data = .fields vs) → PSs (X.suite a ((a, oe) :: pn)) (b₀ :: suite) (ts a cls d)) :
    PS X (.Try body [.ExceptHandler (some (.Name x np)) (some n) (b₀ :: suite) pos'] [] [] pos) (fun D σ H => tb (wKeep X.K c i ts Wout D) D σ H) := by
  refine ⟨fun pins s σ H D I h => ?_⟩
  have ok := I.ok
  have hfr : X.A.frames = some (X.env :: X.outer) := by rw [ok.frames, hs]
  have hloc : Loc X.env.scope n := .inl hln
  refine wpAny_Try_except ?_
  refine wpAny_mono ((hb (wKeep X.K c i ts Wout D) (X.pn ++ pins) (fun e s₁ => wpAny (model X.prog X.w) X.A (noteFrame e X.env) (fun _ s₂ => wpAny (model X.prog X.w) X.A (setFlight e none) (fun _ s₃ =>
    wpAny (model X.prog X.w) X.A (handleBy e X.env [.ExceptHandler (some (.Name x np)) (some n) (b₀ :: suite) pos']) (SP X pins D) X.xe s₃) X.xe s₂) X.xe s₁) (fun u s' xx => ?_) PassesOwn.looking).run [] s σ H D (I.toTry _) h) (fun f s1 hsp => ?_) (fun e s1 he => he)
  · -- the catch
    obtain ⟨a, B, sI, pins', σ', H', cls, d, rfl, J', nb, up, sky, na, os, ag, b, hb1, hyes, hno⟩ := xx
    have J : Inv X pins σ' H' sI := J'.ofTry ok
    have sky' : Sky B (X.env :: X.outer) a (Zc cls d) X.env.locals s'.heap := by rw [← hs]; exact sky
    show wpAny (model X.prog X.w) X.A (noteFrame (.ref a) X.env) _ _ _
    refine Sky.land Zc.steady hfr hf sky' fun h3 fl3 up3 => ?_
    have J3 : Inv X pins σ' H' { s' with heap := h3 } := J.landed nb fl3.1 (up.trans up3) os ag
    obtain ⟨oe3, vs3, he3, hz3, hd3⟩ := fl3.there
    have notFr : ∀ {h : Heap} {o : Obj} {vs : Array Value}, h.FunFrames B (X.env :: X.outer) → h.get? a = some o → o.data = .fields vs → a ∉ frs (X.env :: X.outer) := fun {h o vs} ff e dd hm => by
      obtain ⟨_, o', e', hnf⟩ := ff.mem hm
      rw [e] at e'; cases e'
      exact hnf _ dd
    have nfr := notFr fl3.2.2.1 he3 hd3
    have nL : a ≠ X.env.locals := fun z => nfr (List.mem_filterMap.mpr ⟨X.env, List.mem_cons_self, by rw [hf, z]⟩)
    have nF : a ∉ X.fs := fun hm => by
      obtain ⟨e, he, q⟩ := List.mem_filterMap.mp hm
      exact nfr (List.mem_filterMap.mpr ⟨e, List.mem_cons_of_mem _ he, q⟩)
    have nB : B.get? a = none := fl3.2.1
    have nI : sI.heap.get? a = none := by
      cases e : sI.heap.get? a with
      | none => rfl
      | some o =>
        have q := nb a o e (by rw [hs]; exact nfr)
        rw [nB] at q; cases q
    have n0 : X.s_0.heap.get? a = none := by
      cases e : X.s_0.heap.get? a with
      | none => rfl
      | some o =>
        obtain ⟨o', q⟩ := J.base.there a o e (by rw [hex]; exact fun z => nomatch z)
        rw [nI] at q; cases q
    have npin : ∀ p ∈ X.pn ++ pins, p.1 ≠ a := fun p hp z => by
      obtain ⟨e, _⟩ := J.pin p hp
      rw [z, nI] at e; cases e
    have S3 := J3.suite he3 hd3 na nL nF
    refine wpAny_handleBy_cons (codeAny_handlers_test ?_) (by intro q; cases q)
    have LT : PySem.W.Looks (model X.prog X.w) h3 (typeOf (.ref a)) cls := fun A Q E s k q => wpAny_typeOf_ref (k _ _ he3) (by rw [hz3.1]; exact q)
    have LM := PySem.W.exm_one (M := model X.prog X.w) (J3.kIn) LT hb1
    have test : ∀ {Q : Value → Shared → Prop} {E : Value → Shared → Prop}, Q c { s' with heap := h3 } → wpAny (model X.prog X.w) (X.A.mark (some (.ref a))) (eval (.Name x np) X.env) Q E { s' with heap := h3 } := fun {Q E} q => by
      obtain ⟨hg, hdbg, hm | ⟨hm, hv, hnn⟩⟩ := hc
      · exact ld_glob (X := X.suite a ((a, oe3) :: (X.pn ++ pins))) S3 hg hm q hdbg
      · exact ld_blt (X := X.suite a ((a, oe3) :: (X.pn ++ pins))) S3 hg hm hv q hnn hdbg
    refine test (LM.here ?_)
    cases b with
    | true =>
      refine codeAny_handlers_suite_as ?_
      refine HandSPX.lands_againZ fl3 fun h4 fl4 up4 => ?_
      have J4 : Inv X pins σ' H' { s' with heap := h4 } := J.landed nb fl4.1 ((up.trans up3).trans up4) os ag
      obtain ⟨oe4, vs4, he4, hz4, hd4⟩ := fl4.there
      have S4 := J4.suite he4 hd4 na nL nF
      refine store_ok (X := X.suite a ((a, oe4) :: (X.pn ++ pins))) (v := .ref a) S4 hN hi hloc rfl (fun s5 S5 => ?_) (.inr hln)
      refine wpAny_mono ((hsu a oe4 cls d (X.pn ++ pins) hz4 ⟨_, hd4⟩).run [] s5 _ H' _ S5 (hyes rfl (by rw [J.len]; exact (List.getElem?_eq_some_iff.mp hi).1) a na)) (fun f s6 hsp => ?_) (fun _ _ z => False.elim z)
      have end_ : ∀ {σ6 : L2.St} {H6 : Hp} {Q : Shared → Prop}, Inv (X.suite a ((a, oe4) :: (X.pn ++ pins))) [] σ6 H6 s6 → (H6 a = none → ∀ s7, Inv X pins (σ6.set i none) (upd H6 a (ErrV cls d a)) s7 → Q s7) →
          wpAny (model X.prog X.w) X.A (do bindName X.env n .none; unbindBehindTheSuite X.env n pos') (fun _ s7 => Q s7) X.xe s6 := fun {σ6 H6 Q} S6 hq => by
        obtain ⟨pa, pb, _⟩ := S6.pin (a, oe4) (List.mem_append_left _ List.mem_cons_self)
        exact gone_ok (inv_track (S6.unsuite ok) pa hd4 pb n0 nL npin (errV_ok pa hz4 hd4)) hN hi hln (hq pb)
      cases f with
      | next =>
        obtain ⟨σ6, H6, S6, q6⟩ := hsp
        exact end_ S6 fun na6 s7 J7 => ⟨_, _, J7, q6 na6⟩
      | brk =>
        obtain ⟨σ6, H6, S6, q6⟩ := hsp
        exact q6.elim
      | cont =>
        obtain ⟨σ6, H6, S6, q6⟩ := hsp
        exact q6.elim
      | ret u =>
        obtain ⟨v6, σ6, H6, S6, r6, q6⟩ := hsp
        exact q6.elim
    | false =>
      show wpAny _ X.A (handleBy (.ref a) X.env []) _ _ _
      refine wpAny_handleBy_nil ?_
      obtain ⟨k1, k2, k3, oe, vs, T, oT, ts', he, hz, hd, h1, hr⟩ := id fl3
      unfold PySem.passOn
      refine wpAny_bind (wpAny_field he hd h1 ?_)
      rw [if_neg (show ¬ ((Value.ref T == Value.none) = true) from by simp)]
      have fin : wpAny (model X.prog X.w) X.A (setFlight (.ref a) X.env.frame) (fun _ s4 => wpAny (model X.prog X.w) X.A (throw (.ref a) : Sem Flow) (SP X pins D) X.xe s4) X.xe { s' with heap := h3 } := by
        rw [hf]
        refine HandSPX.setFlight_upZ fl3 fun h4 hh4 up4 => wpAny_throw (tk _ _ ?_)
        exact ⟨a, B, sI, pins, σ', H', cls, d, rfl, J, nb, (up.trans up3).trans up4, .inr (.inr (by rw [hs]; exact hh4)), na, os, ag, hno rfl⟩
      first
        | exact wpAny_bind (wpAny_pure (wpAny_bind fin))
        | exact wpAny_bind fin
  · cases f with
    | next =>
      obtain ⟨σ', H', J', q⟩ := hsp
      exact wpAny_execs_nil ⟨σ', H', J'.ofTry ok, q⟩
    | brk =>
      obtain ⟨σ', H', J', q⟩ := hsp
      exact ⟨σ', H', J'.ofTry ok, q⟩
    | cont =>
      obtain ⟨σ', H', J', q⟩ := hsp
      exact ⟨σ', H', J'.ofTry ok, q⟩
    | ret u =>
      obtain ⟨v, σ', H', J', r, q⟩ := hsp
      exact ⟨v, σ', H', J'.ofTry ok, r, q⟩
end
theorem Sim.unset {C : Ctx} {σ : L2.St} {H0 H : Hp} {env : Env} (S : Sim C σ H0 H env) (i : Nat) : Sim C (σ.set i none) H0 H (env.set i .un) := by
  have old : ∀ j, ownS (getS (env.set i .un) j) = true → i ≠ j ∧ ownS (getS env j) = true := fun j h => by
    rw [getS_set] at h
    by_cases z : i = j
    · subst z
      by_cases l : i < env.length
      · simp only [l, and_self, if_true] at h; cases h
      · have e : getS env i = .un := by unfold getS; rw [List.getD_eq_getElem?_getD, List.getElem?_eq_none (by omega)]; rfl
        simp only [l, and_false, if_false, e] at h; cases h
    · simp only [z, false_and, if_false] at h; exact ⟨z, h⟩
  refine { tabs := S.tabs, tno := S.tno, ok := S.ok, ex := S.ex, ex0 := S.ex0, fresh := S.fresh, keep := S.keep, ioH := S.ioH, len := by simp only [List.length_set]; exact S.len, slots := fun j => ?_, inj := fun j k a hjk hj hk ej ek => ?_ }
  · rw [getS_set]
    by_cases z : i = j
    · subst z
      by_cases l : i < env.length
      · simp only [l, and_self, if_true]; trivial
      · have e : getS env i = .un := by unfold getS; rw [List.getD_eq_getElem?_getD, List.getElem?_eq_none (by omega)]; rfl
        simp only [l, and_false, if_false, e]; trivial
    · simp only [z, false_and, if_false]
      rw [List.getElem?_set_ne z]
      exact S.slots j
  · obtain ⟨n1, o1⟩ := old j hj
    obtain ⟨n2, o2⟩ := old k hk
    rw [List.getElem?_set_ne n1] at ej
    rw [List.getElem?_set_ne n2] at ek
    exact S.inj j k a hjk o1 o2 ej ek
section
variable {X : Cx} {C : Ctx} {W : WX} {cl : CallF} {x n : Str} {body : List Stmt} {np pos pos' p1 p2 p3 : Pos} {b' : Ss} {cs : List Nat} {i j : Nat} {CE : Addr} {m : Str}
/-- try: body, except x as n: m = n -/
theorem s_try (hs : X.stack = X.env :: X.outer) (hf : X.env.frame = some X.env.locals) (hex : X.ex = []) (hN : X.N.Nodup) (hi : X.N[i]? = some n) (hln : X.env.kindOf n = some .local) (hc : Names X x (.ref CE)) (tk : Takes X W)
    (hcs : ∀ c ∈ cs, ∀ Ca, C.T.cn c = some Ca → PySem.W.exmOne X.K (.ref Ca) (.ref CE) = some true) (hij : i ≠ j)
    (hb : ∀ (W : WX) (pn : List (Addr × Obj)) (xe : Value → Shared → Prop), Takes (X.tr pn xe) W → PassesOwn (model X.prog X.w) X.A X.env xe → PSs (X.tr pn xe) body (tSs C W cl b'))
    (hsu : ∀ (a : Addr) (oe : Obj) (pn : List (Addr × Obj)), PSs (X.suite a ((a, oe) :: pn)) [.Assign [.Name m p1] (.Name n p2) p3] (tSeq (tAsg (tVar i) (gName j)) tNext)) :
    PS X (.Try body [.ExceptHandler (some (.Name x np)) (some n) [.Assign [.Name m p1] (.Name n p2) p3] pos'] [] [] pos) (tS C W cl (.tryC b' cs i j)) := by
  refine psI (ps_try_keep (ts := fun _ _ _ => tSeq (tAsg (tVar i) (gName j)) tNext) hs hf hex hN hi hln hc tk hb fun a oe cls d pn _ _ => hsu a oe pn) fun E σ H ⟨H0, env, S, q⟩ => ?_
  refine ⟨H0, env, S, ?_⟩
  simp only [ex] at q
  cases z : exs cl b' env with
  | bad => rw [z] at q; exact q
  | ok fl env1 => rw [z] at q; cases fl <;> exact q
  | exc y env1 =>
    rw [z] at q
    simp only at q
    split at q
    rotate_left
    · exact q.elim
    rename_i hy
    intro σ1 cls d H1 H1' e1 S1 hx
    obtain ⟨Ca, hcx, rfl, hx⟩ := hx
    obtain ⟨hcn, _, hec⟩ := Tbl.cx_some hcx
    refine ⟨true, hcs y.1 (by simpa [List.contains_iff_mem] using hy) Ca hcn, fun _ hli a ha => ?_, fun z => by cases z⟩
    refine ⟨.ref a, by rw [List.getElem?_set_self hli], fun ha' => ?_⟩
    have g := Gr.froz (T := C.T) (o := ErrO Ca d a) S1.ex ha
    have S2 := S1.gr g
    have S3 := S2.store (i := i) (v := .ref a) (s := .un) rfl trivial (fun _ _ z => by cases z)
    have S4 := S3.store (i := j) (v := .ref a) (s := .fz (.err y.1 y.2.1 y.2.2)) rfl (by
      refine ⟨.ref a, rfl, ?_⟩
      simp only [Rep]
      refine ⟨a, Ca, d, rfl, hcx, upd_same, ?_⟩
      rcases hx with hx | ⟨dd, xs, rfl, hd, hl, hr⟩
      · exact .inl hx
      · exact .inr ⟨dd, xs, rfl, g.e0 _ _ hd, hl, RepAll.mono g.e0 _ _ hr⟩) (fun _ _ z => by cases z)
    exact q _ _ _ (e1.tr g.e0) (S4.unset i)
end
end PP
end

section
set_option maxHeartbeats 4000000
/-! a lambda without parameters, handed to a def that calls it. -/
namespace PP
open PySem PySem.Spec PyProof.Rows L2 LamX
section
variable {X : Cx} {pins : List (Addr × Obj)} {σ : L2.St} {H HZ : Hp} {s s1 : Shared}
/-- the lambda is made; all but its table stays -/
theorem lam_mk {T : List (Addr × Str)} {c P : Addr} {params : Arguments} {body : Expr} {scope : Scope} {pos : Pos} {E : Value → Shared → Prop} {Q : Value → Shared → Prop} (I : Inv X pins σ H s) (TB : TabB X.base X.mg c P) (hcode : X.env.code = .ref c)
    (hm : (P, X.env.qual ++ "<lambda>") ∈ T) (hu : ∀ p ∈ T, p.1 = P → p.2 = X.env.qual ++ "<lambda>") (hT : Tabs T H) (hdef : defaultsOf params X.env = ([], [])) (hfree : ∀ y ∈ scope.names, y.2 = .free → ∃ c, X.env.cells.lookup y.1 = some c)
    (h : ∀ (f c' : Addr) (pm ctv : Value) (H1 : Hp) (s' : Shared), Inv X pins σ H1 s' → (∀ b o, b ≠ P → H b = some o → H1 b = some o) → Tabs T H1 →
      s'.heap.get? f = some (PySem.W.kla_obj "<lambda>" (X.env.qual ++ "<lambda>") params body scope (cloFrom X.env.cells scope.names []) pm c' ctv) → H1 f = none → f ∉ frs X.stack → H1 c' = some (CodeO c' (X.env.qual ++ "<lambda>")) → Q (.ref f) s') :
    wpAny (model X.prog X.w) X.A (eval (.Lambda params body scope pos) X.env) Q E s := by
  obtain ⟨ps, hP, ht, ha⟩ := hT _ hm
  refine PySem.W.kla_eval hdef ?_
  have bP : s.heap.BuiltinsAt X.mg P := TB.bm.keeps I.bk
  have hP' : s.heap.get? P = some { cls := .none, data := .fields ps } := I.hok P _ hP
  have nofr : ∀ f, s.heap.objs.size ≤ f → f ∉ frs X.stack := fun f hf z => by
    rcases List.mem_cons.mp (I.stkSub _ z) with e | e
    · have h1 := I.lt
      rw [← e] at h1
      exact Nat.lt_irrefl _ (Nat.lt_of_lt_of_le h1 hf)
    · exact I.nofs hf e
  cases hc : codeAmong pos ps.toList with
  | none =>
    refine PySem.W.kla_makeFunction (mg := X.mg) (c := c) (P := P) (ps := ps) (closure_ok hfree) I.ok.glob (I.mod.glob.keeps I.bk) hcode (TB.code.keeps I.bk) hP' ht hc TB.gP bP fun c' ctv h' tk hx hge hlt hrec htb => ?_
    obtain ⟨c2, oc, vs, t, e2, hoc, hd, hv⟩ := hrec
    cases e2
    have hsz : s.heap.objs.size ≤ h'.objs.size := Nat.le_trans hge (Nat.le_of_lt hlt)
    have nC : H c' = none := I.hok.fresh hge
    have I1 := inv_table (t' := tk) (more := #[rawInt pos.line, rawInt pos.col, .ref c']) (h' := h'.push (PySem.W.kla_obj "<lambda>" (X.env.qual ++ "<lambda>") params body scope (cloFrom X.env.cells scope.names []) ((X.mg "__name__").getD .none) c' ctv)) I hP
      (fun b o hb e => Heap.get?_push_of_some _ (hx b o hb e)) (Heap.get?_push_of_some _ htb) hge ⟨oc, vs, t, Heap.get?_push_of_some _ hoc, hd, hv⟩
    have hE : ∀ b o, b ≠ P → H b = some o → upd (upd H P (.tbl (ps ++ #[rawInt pos.line, rawInt pos.col, .ref c']))) c' (CodeO c' (X.env.qual ++ "<lambda>")) b = some o := fun b o n e => by
      rw [upd_ne (ne_of_none e nC), upd_ne n]
      exact e
    have neP : ∀ b : Addr, ∀ q : Str, H b = some (CodeO b q) → b ≠ P := fun b q e z => by
      rw [z, hP] at e
      exact codeO_ne ps (Option.some.inj e).symm
    have eL : (ps ++ #[rawInt pos.line, rawInt pos.col, .ref c']).toList = ps.toList ++ [rawInt pos.line, rawInt pos.col, .ref c'] := by simp
    refine h h'.objs.size c' ((X.mg "__name__").getD .none) ctv _ _ I1 hE (fun p hp => ?_) (Heap.get?_push_size _ rfl) ?_ (nofr _ hsz) upd_same
    · by_cases hb : p.1 = P
      · rw [hu p hp hb, hb]
        refine ⟨_, by rw [upd_ne (ne_of_none hP nC), upd_same], by rw [eL]; exact PySem.TriplesOk_snoc _ _ _ _ ht, fun p' cv hcv => ?_⟩
        rw [eL] at hcv
        rcases among_app _ ht hcv with z | z
        · obtain ⟨c0, e1, e2⟩ := ha p' cv z
          exact ⟨c0, e1, hE _ _ (neP c0 _ e2) e2⟩
        · exact ⟨c', z, upd_same⟩
      · obtain ⟨ps', a1, a2, a3⟩ := hT p hp
        refine ⟨ps', by rw [upd_ne (ne_of_none a1 nC), upd_ne hb]; exact a1, a2, fun p' cv hcv => ?_⟩
        obtain ⟨c0, e1, e2⟩ := a3 p' cv hcv
        exact ⟨c0, e1, hE _ _ (neP c0 _ e2) e2⟩
    · have n1 : h'.objs.size ≠ c' := Nat.ne_of_gt hlt
      have n2 : h'.objs.size ≠ P := Nat.ne_of_gt (Nat.lt_of_lt_of_le (Heap.lt_size hP') hsz)
      rw [upd_ne n1, upd_ne n2]
      exact I.hok.fresh hsz
  | some cv =>
    obtain ⟨c', e, hco⟩ := ha pos cv hc
    subst e
    refine PySem.W.kla_makeFunctionHit (mg := X.mg) (c := c) (P := P) (ps := ps) (closure_ok hfree) I.ok.glob (I.mod.glob.keeps I.bk) hcode (TB.code.keeps I.bk) hP' ht hc bP fun ctv h' tk hx hsz => ?_
    have I1 : Inv X pins σ H { s with heap := h'.push (PySem.W.kla_obj "<lambda>" (X.env.qual ++ "<lambda>") params body scope (cloFrom X.env.cells scope.names []) ((X.mg "__name__").getD .none) c' ctv), toks := tk } := I.kept fun b o e => Heap.get?_push_of_some _ (hx b o e)
    exact h h'.objs.size c' ((X.mg "__name__").getD .none) ctv H _ I1 (fun b o _ e => e) hT (Heap.get?_push_size _ rfl) (I.hok.fresh hsz) (nofr _ hsz) hco
end
/-! ### the environment, frozen -/
section
variable {C : Ctx} {W : WX} {σ : L2.St} {cl : CallF} {H0 H H0' H' : Hp} {env : Env}
theorem Sim.frzAll : ∀ {vs : List Nat} {H0 : Hp} {env env1 : Env}, Sim C σ H0 H env → frzAll vs env = some env1 → ∃ H0', Ext H0 H0' ∧ Sim C σ H0' H env1
  | [], H0, env, env1, S, h => by cases h; exact ⟨H0, Ext.rfl' _, S⟩
  | i :: vs, H0, env, env1, S, h => by
    unfold PP.frzAll at h
    obtain ⟨⟨d, env2⟩, hf, h⟩ := Option.bind_eq_some_iff.mp h
    have hv : ∃ v, σ[i]? = some (some v) := by
      have q := S.slots i
      cases z : getS env i with
      | un => simp [fzU, z] at hf
      | fn => simp [fzU, z] at hf
      | io d => simp [fzU, z] at hf
      | fz d => rw [z] at q; obtain ⟨v, h1, _⟩ := q; exact ⟨v, h1⟩
      | ow d => rw [z] at q; obtain ⟨a, h1, _⟩ := q; exact ⟨_, h1⟩
    obtain ⟨v, hv⟩ := hv
    obtain ⟨H1, e1, S1, _⟩ := S.take (u := .sl i) hv hf
    obtain ⟨H2, e2, S2⟩ := Sim.frzAll S1 h
    exact ⟨H2, e1.tr e2, S2⟩
theorem Sim.frzAllK : ∀ {vs : List Nat} {H0 : Hp} {env env1 : Env}, Sim C σ H0 H env → PP.frzAll vs env = some env1 → ∃ H0', Ext H0 H0' ∧ Sim C σ H0' H env1 ∧ ∀ a, H0 a = none → ∀ o, H0' a = some o → (∀ ps, o ≠ .tup ps) ∧ ∀ x u, o ≠ .frz x u
  | [], H0, env, env1, S, h => by cases h; exact ⟨H0, Ext.rfl' _, S, fun a h o h' => by rw [h] at h'; cases h'⟩
  | i :: vs, H0, env, env1, S, h => by
    unfold PP.frzAll at h
    obtain ⟨⟨d, env2⟩, hf, h⟩ := Option.bind_eq_some_iff.mp h
    have hv : ∃ v, σ[i]? = some (some v) := by
      have q := S.slots i
      cases z : getS env i with
      | un => simp [fzU, z] at hf
      | fn => simp [fzU, z] at hf
      | io d => simp [fzU, z] at hf
      | fz d => rw [z] at q; obtain ⟨v, h1, _⟩ := q; exact ⟨v, h1⟩
      | ow d => rw [z] at q; obtain ⟨a, h1, _⟩ := q; exact ⟨_, h1⟩
    obtain ⟨v, hv⟩ := hv
    obtain ⟨H1, e1, S1, _, d1⟩ := S.takeK hv hf
    obtain ⟨H2, e2, S2, d2⟩ := Sim.frzAllK S1 h
    refine ⟨H2, e1.tr e2, S2, fun a ha o ho => ?_⟩
    cases q : H1 a with
    | none => exact d2 a q o ho
    | some o' =>
      have := e2 a o' q
      rw [ho] at this
      cases this
      exact d1 a ha o q
open Classical in
/-- without what was frozen for a while -/
noncomputable def minus (H0 H1 H : Hp) : Hp := fun a => if H0 a = none ∧ H1 a ≠ none then none else H a
mutual
theorem rep_minus {T : Tbl} {H0 H1 H : Hp} (e : Ext H1 H) (dif : ∀ a, H0 a = none → ∀ o, H1 a = some o → (∀ ps, o ≠ .tup ps) ∧ ∀ x u, o ≠ .frz x u) : ∀ (d : D) (v : V), noLst d = true → Rep T H d v → Rep T (minus H0 H1 H) d v
  | .non, _, _, h => by simpa only [Rep] using h
  | .bl _, _, _, h => by simpa only [Rep] using h
  | .int _, _, _, h => by simpa only [Rep] using h
  | .str _, _, _, h => by simpa only [Rep] using h
  | .tup ds, v, hn, h => by
    simp only [Rep] at h ⊢
    obtain ⟨a, xs, h1, h2, h3⟩ := h
    refine ⟨a, xs, h1, ?_, reps_minus e dif ds xs (by simpa only [noLst] using hn) h3⟩
    have key : ∀ o, H a = some o → ((∃ ps, o = .tup ps) ∨ ∃ x u, o = .frz x u) → minus H0 H1 H a = some o := fun o ho hk => by
      unfold minus
      rw [if_neg]
      · exact ho
      · rintro ⟨z1, z2⟩
        cases q : H1 a with
        | none => exact z2 q
        | some o' =>
          have := e a o' q
          rw [ho] at this
          cases this
          obtain ⟨k1, k2⟩ := dif a z1 o q
          rcases hk with ⟨ps, rfl⟩ | ⟨x, u, rfl⟩
          · exact k1 _ rfl
          · exact k2 _ _ rfl
    rcases h2 with (h2 | ⟨o, h2⟩) | h2
    · exact .inl (.inl (key _ h2 (.inl ⟨_, rfl⟩)))
    · exact .inl (.inr ⟨o, key _ h2 (.inr ⟨_, _, rfl⟩)⟩)
    · exact .inr h2
  | .lst _, _, hn, _ => by simp [noLst] at hn
  | .kst _, _, hn, _ => by simp [noLst] at hn
  | .dK _ _, _, hn, _ => by simp [noLst] at hn
  | .dT _ _, _, hn, _ => by simp [noLst] at hn
  | .obj _ _ _, _, hn, _ => by simp [noLst] at hn
  | .cls _, _, hn, _ => by simp [noLst] at hn
  | .err _ _ _, _, hn, _ => by simp [noLst] at hn
theorem reps_minus {T : Tbl} {H0 H1 H : Hp} (e : Ext H1 H) (dif : ∀ a, H0 a = none → ∀ o, H1 a = some o → (∀ ps, o ≠ .tup ps) ∧ ∀ x u, o ≠ .frz x u) : ∀ (ds : List D) (vs : List V), noLsts ds = true → RepAll T H ds vs → RepAll T (minus H0 H1 H) ds vs
  | [], vs, _, h => by simpa only [RepAll] using h
  | d :: ds, vs, hn, h => by
    simp only [noLsts, Bool.and_eq_true] at hn
    simp only [RepAll] at h ⊢
    obtain ⟨v, r, h1, h2, h3⟩ := h
    exact ⟨v, r, h1, rep_minus e dif d v hn.1 h2, reps_minus e dif ds r hn.2 h3⟩
end
theorem Gr.back {T : Tbl} {H0 H1 H H0' H' : Hp} (g : Gr T H1 H H0' H') (e1 : Ext H0 H1) (dif : ∀ a, H0 a = none → ∀ o, H1 a = some o → (∀ ps, o ≠ .tup ps) ∧ ∀ x u, o ≠ .frz x u) {d : D} {v : V} (hn : noLst d = true) (hv : Rep T H0' d v) : ∃ H5, Gr T H0 H H5 H' ∧ Rep T H5 d v := by
  refine ⟨minus H0 H1 H0', ⟨fun a o h => ?_, g.e, fun a o h => ?_, fun a h h' => ?_, g.tb⟩, rep_minus g.e0 dif d v hn hv⟩
  · unfold minus
    rw [if_neg (fun z => by rw [h] at z; cases z.1)]
    exact g.e0 a o (e1 a o h)
  · unfold minus at h
    split at h
    · cases h
    · exact g.e01 a o h
  · unfold minus at h'
    split at h'
    · exact absurd rfl h'
    · rename_i z
      have : H1 a = none := by
        cases q : H1 a with
        | none => rfl
        | some o => exact absurd ⟨h, by rw [q]; nofun⟩ z
      exact g.new a this h'
theorem getS_mask {i : Nat} : getS (maskE env) i = maskS (getS env i) := by
  unfold getS maskE
  simp only [List.getD_eq_getElem?_getD, List.getElem?_map]
  cases env[i]? <;> rfl
/-- the caller's own frozen names, at a later heap -/
theorem Sim.mask (S : Sim C σ H0 H env) (e0 : Ext H0 H0') (e01 : Ext H0' H') (t : LamX.Tabs C.T.tt H') (tn : ∀ p ∈ C.T.tt, H0' p.1 = none) : Sim ⟨C.T, H0', H', [], 0⟩ σ H0' H' (maskE env) where
  ok := ⟨fun a ha => absurd (show some a ∈ ([] : List (Option Addr)) from ha) (by simp), e01⟩
  ex := e01
  ex0 := Ext.rfl' _
  fresh := fun a h h' => (h' h).elim
  keep := fun a o h _ => .inl h
  ioH := fun a ha => absurd (show some a ∈ ([] : List (Option Addr)) from ha) (by simp)
  len := by unfold maskE; rw [List.length_map]; exact S.len
  slots := fun i => by
    rw [getS_mask]
    have q := S.slots i
    cases z : getS env i with
    | fz d => rw [z] at q; obtain ⟨v, h1, h2⟩ := q; exact ⟨v, h1, Rep.mono e0 _ _ h2⟩
    | un => trivial
    | fn => trivial
    | ow d => trivial
    | io d => trivial
  inj := fun i j a hij hi _ _ _ => by
    rw [getS_mask] at hi
    cases z : getS env i <;> (rw [z] at hi; cases hi)
  tabs := t
  tno := tn
theorem getS_lamE {n i : Nat} (hn : 0 < n) : getS (lamE n) i = if i = 0 then .fn else .un := by
  have hl : (startE n []).length = n := startE_len
  unfold lamE
  rw [getS_set, getS_start (Nat.zero_le _)]
  by_cases h : i = 0
  · subst h; simp [hl, hn]
  · simp [h, Ne.symm h]
/-- the def that asks begins -/
theorem sim_lam {T : Tbl} {N : List Str} {f : Addr} {n : Nat} (hN : N.length = n) (hn : 0 < n) (e : Ext H0 H) (tb : TbOk T H0 H) : Sim ⟨T, H0, H, [], f⟩ (L2.start N [.ref f]) H0 H (lamE n) where
  ok := ⟨fun a ha => absurd (show some a ∈ ([] : List (Option Addr)) from ha) (by simp), e⟩
  ex := e
  ex0 := Ext.rfl' _
  fresh := fun a h h' => (h' h).elim
  keep := fun a o h _ => .inl h
  ioH := fun a ha => absurd (show some a ∈ ([] : List (Option Addr)) from ha) (by simp)
  len := by
    unfold lamE L2.start
    rw [List.length_set, startE_len]
    simp only [List.length_append, List.length_map, List.length_replicate, List.length_cons, List.length_nil]
    omega
  slots := fun i => by
    rw [getS_lamE hn]
    split
    · rename_i z; subst z; rfl
    · trivial
  inj := fun i j a hij hi hj _ _ => by
    rw [getS_lamE hn] at hi
    split at hi <;> cases hi
  tabs := tb.1
  tno := tb.2
end
/-! ### the call -/
/-- what a lambda gave, as its call gives it -/
def outD (o : D) (env : Env) : R U := match o with
  | .tup [.non, d] => .ok (.d d) env
  | .err c ks vs => .exc (c, ks, vs) env
  | _ => .bad
theorem ask_out {o : D} {cl : CallF} {env : Env} : askR (askCl o cl 999 []) env = outD o env := by
  unfold askCl outD
  rw [if_pos rfl]
  split
  · rfl
  · rfl
  · rename_i h1 h2
    split
    · rename_i d; exact (h1 d rfl rfl).elim
    · rename_i c ks vs; exact (h2 c ks vs rfl rfl).elim
    · rfl
/-- a def that asks what it got -/
def HearG (P : Program) (w : World) (K : PySem.W.Frag) (mg : Str → Option Value) (base : Heap) (Ng : List Str) (x a : Str) (stg : Stmt) (g : Addr) (T : Tbl) (cl0 : CallF) (F : Fn) (j : Nat) : Prop :=
  ∀ {Z : Cx} {CZ : Ctx} {WZ : WX} {o : D}, Z.K = CZ.T.K → Z.A.units + 64 < cLine → Z.A.units + 200 < cLine → Z.A.guards = some [] → Room j Z.A → Takes Z WZ → PassesOwn (model Z.prog Z.w) Z.A Z.env Z.xe →
      (∃ (cdv : Value) (A : Around) (outer : List PySem.Env) (s : Shared) (H : Hp) (E : XK), Z = cxOf (L2.CX P w) P w K mg base Ng x (defScope stg) g cdv A outer s H E ∧ CZ.T = T) →
      (∀ (W : WX) (pn : List (Addr × Obj)) (xe : Value → Shared → Prop) (p1 p2 : Pos), Takes (Z.tr pn xe) W → PE (Z.tr pn xe) (.Call (.Name a p1) [] [] p2) (tI CZ W (askCl o cl0) (.ask 0))) → PSs Z (defBody stg) (tSs CZ WZ (askCl o cl0) F.body)
/-- what the asking def's end must serve -/
def tHR (C : Ctx) (W : WX) (σ : L2.St) (H1 H : Hp) (env1 : Env) (Q : VK) : RC → Prop
  | .ok r _ => ∀ H0' H', Gr C.T H1 H H0' H' → ∀ v, UOk C σ H0' H' env1 r v → Q v H'
  | .exc x _ => ∀ cls d H0' H', Gr C.T H1 H H0' H' → XOk C.T H0' H' x cls d → W cls d σ H'
  | .bad => False
def tHeard (C : Ctx) (W : WX) (cl : CallF) (f : Nat) (e' : Ex) : TE := fun σ H Q => ∃ env1 H1, Sim C σ H1 H env1 ∧ match ev cl e' (maskE env1) with
  | .ok u env2 => ∃ p, fzU env2 u = some p ∧ tHR C W σ H1 H env1 Q (cl f [.fz (.tup [.non, p.1])])
  | .exc x _ => tHR C W σ H1 H env1 Q (cl f [.fz (.err x.1 x.2.1 x.2.2)])
  | .bad => False
section
variable {X : Cx} {C : Ctx} {W : WX} {cl cl0 : CallF} {pos p lpos : Pos} {e' : Ex}
theorem c_heardG {x a : Str} {g c P : Addr} {f j : Nat} {stg : Stmt} {fdg : FuncData} {Ng : List Str} {F : Fn} {params : Arguments} {body : Expr} {scope : Scope}
    (hg : Gl X x) (hm : X.mg x = some (.ref g)) (Fg : Fun X.K x x stg g fdg) (Sg : FnScope Ng [a] (defScope stg)) (hNg : Ng[0]? = some a) (hva : Vis (defScope stg) a) (hln : Ng.length = F.n) (hb : Binds X.K fdg [a] [])
    (hf : ∀ o, cl f [.fz o] ≠ .bad → cl f [.fz o] = finR [] (exs (askCl o cl0) F.body (lamE F.n)))
    (hG : HearG X.prog X.w X.K X.mg X.base Ng x a stg g C.T cl0 F (j + 1))
    (TB : TabB X.base X.mg c P) (hcode : X.env.code = .ref c) (hmT : (P, X.env.qual ++ "<lambda>") ∈ C.T.tt) (hu : ∀ q ∈ C.T.tt, q.1 = P → q.2 = X.env.qual ++ "<lambda>")
    (hK : X.K = C.T.K) (hgd : X.A.guards = some []) (hr : Room (j + 2) X.A) (tk : Takes X W) (L : LamS X.env.scope scope) (hdef : defaultsOf params X.env = ([], []))
    (hbind : ∀ (q : Str) (cl : List (Str × Addr)) (pm cv ctv : Value), bindArgs (PySem.W.kla_fn "<lambda>" q params body scope cl pm cv ctv) ⟨[], []⟩ = pure [])
    (hbody : ∀ {Y : Cx} {CY : Ctx} {WY : WX}, Y.K = CY.T.K → Y.A.units + 64 < cLine → Y.A.units + 200 < cLine → Y.A.guards = some [] → Room j Y.A → Takes Y WY → PassesOwn (model Y.prog Y.w) Y.A Y.env Y.xe →
      (∃ (A : Around) (outer : List PySem.Env) (s : Shared) (H : Hp) (E : XK) (f c' : Addr), Y = lamCx X A outer s H E scope f c' ∧ CY.T = C.T) → PE Y body (tI CY WY cl e'))
    (hdb : (x == ("__debug__" : Str)) = false := by decide) (hd : (a == ("__debug__" : Str)) = false := by decide) (hcd : (a == ("__classdict__" : Str)) = false := by decide) :
    PE X (.Call (.Name x p) [.Lambda params body scope lpos] [] pos) (tHeard C W cl f e') := by
  obtain ⟨oc, od, kV, doc, pm, an, cdv, ct, osl, rfl, lk, hcdv⟩ := Fg.ex
  refine ⟨fun pins s σ H Q I h => ?_⟩
  obtain ⟨env1, H1, S1, q⟩ := h
  refine wpAny_Call_Name_kw (ld_glob I hg hm ?_ hdb)
  refine PySem.W.callWith_K (h₀ := X.base) I.ok.mod.kin Fg.kp ?_ (by rfl) (by rfl)
  show wpAny _ _ (spliced ((false, eval (.Lambda params body scope lpos) X.env) :: backTo pos (starEach [] X.env))) _ _ s
  refine Calls.spliced_cons (lam_mk I TB hcode hmT hu S1.tabs hdef (L.has I.ok) fun f' c' pm' ctv H1' s' I1 eN T1 hf' hfn hfr hco => ?_)
  refine Calls.spliced_nil ⟨I1.kIn, ?_⟩
  -- the caller's names at the new heap
  have neP : ∀ b o, H1 b = some o → b ≠ P := fun b o e z => by
    have := S1.tno _ hmT
    rw [← z, e] at this
    cases this
  have g1 : Gr C.T H1 H H1 H1' := ⟨Ext.rfl' _, fun b o e => by
    by_cases hbP : b = P
    · obtain ⟨ps, h1, _⟩ := S1.tabs _ hmT
      obtain ⟨ps', h2, _⟩ := T1 _ hmT
      subst hbP
      rw [h1] at e
      cases e
      exact .inr ⟨ps, ps', rfl, h2⟩
    · exact .inl (eN b o hbP e), fun b o e => eN b o (neP b o e) (S1.ex b o e), fun a h h' => (h' h).elim, fun _ => T1⟩
  have S2 := S1.gr g1
  -- what comes of the lambda
  obtain ⟨o, ho, qo⟩ : ∃ o, tHR C W σ H1 H env1 Q (cl f [.fz o]) ∧ ∀ (CZ : Ctx) (HZ0 HZ : Hp) (σZ : L2.St) (envz : Env) (WZ : WX) (QZ : VK), CZ.T = C.T → Ext H1 HZ0 → Ext HZ0 HZ → LamX.Tabs C.T.tt HZ → (∀ p ∈ C.T.tt, HZ0 p.1 = none) → Sim CZ σZ HZ0 HZ envz →
      RQ CZ WZ σZ (KV CZ σZ QZ) HZ0 (outD o envz) →
      tI ⟨C.T, HZ0, HZ, [], 0⟩ (fun cls d _ H' => WZ cls d σZ H') cl e' σ HZ QZ := by
    have grow : ∀ {CZ : Ctx} {HZ0 HZ : Hp} {env2 : Env} {H0' H' : Hp}, CZ.T = C.T → Ext HZ0 H0' → Sim ⟨C.T, HZ0, HZ, [], 0⟩ σ H0' H' env2 → Gr CZ.T HZ0 HZ H0' H' := fun hCZ e0 S3 => ⟨e0, fun b u e => S3.keep b u e (fun z => absurd (show some b ∈ ([] : List (Option Addr)) from z) (by simp)), S3.ex, S3.fresh, fun _ => by rw [hCZ]; exact S3.tabs⟩
    cases z : ev cl e' (maskE env1) with
    | bad => rw [z] at q; exact q.elim
    | exc x env2 =>
      rw [z] at q
      obtain ⟨xc, xk, xv⟩ := x
      refine ⟨_, q, fun CZ HZ0 HZ σZ envz WZ QZ hCZ eZ e01 t tn SZ qz => ⟨HZ0, maskE env1, S2.mask eZ e01 t tn, ?_⟩⟩
      rw [z]
      intro cls d H0' H' e0 S3 hx
      refine qz cls d H0' H' e0 (SZ.gr (grow hCZ e0 S3)) ?_
      rw [hCZ]
      exact hx
    | ok u env2 =>
      rw [z] at q
      obtain ⟨⟨d, env3⟩, hfu, q⟩ := q
      refine ⟨_, q, fun CZ HZ0 HZ σZ envz WZ QZ hCZ eZ e01 t tn SZ qz => ⟨HZ0, maskE env1, S2.mask eZ e01 t tn, ?_⟩⟩
      rw [z]
      intro H0' H' e0 S3 v hv
      obtain ⟨H4, e4, S4, r4⟩ := S3.take hv hfu
      have g4 := grow (CZ := CZ) hCZ (e0.tr e4) S4
      refine qz H4 H' (e0.tr e4) (SZ.gr g4) v ?_
      show Rep _ _ _ _
      rw [hCZ]
      exact r4
  -- the def that asks
  have run : codeAny (model X.prog X.w) X.A (.call (.ref g) ⟨[.ref f'], []⟩) (CR (L2.CX X.prog X.w) X.stack X.prog X.w H1' s' Q (fun cls d H' => W cls d σ H')) s' := by
    refine run_ofS (N := Ng) (ps := [a]) (us := [.ref f']) (vs := [.ref f']) lk hcdv Sg hr I1.env0 (hb s' [.ref f'] I1.kIn rfl) (.cons rfl .nil) rfl fun hr' => ?_
    have hask : ∀ (WZ : WX) (pn : List (Addr × Obj)) (xe : Value → Shared → Prop) (p1 p2 : Pos), Takes ((cxOf (L2.CX X.prog X.w) X.prog X.w X.K X.mg X.base Ng x (defScope stg) g cdv X.A X.stack s' H1' (fun cls d H' => W cls d σ H')).tr pn xe) WZ →
        PE ((cxOf (L2.CX X.prog X.w) X.prog X.w X.K X.mg X.base Ng x (defScope stg) g cdv X.A X.stack s' H1' (fun cls d H' => W cls d σ H')).tr pn xe) (.Call (.Name a p1) [] [] p2) (tI ⟨C.T, H1, H1', [], f'⟩ WZ (askCl o cl0) (.ask 0)) := by
      intro WZ pn xe p1 p2 tkZ
      refine ⟨fun pinsZ sZ σZ HZ QZ IZ ⟨HZ0, envz, SZ, qz⟩ => ?_⟩
      simp only [ev] at qz
      split at qz
      rotate_left
      · exact qz.elim
      rename_i hfn0
      have hs0 : σZ[0]? = some (some (.ref f')) := by
        have z := SZ.slots 0
        rw [hfn0] at z
        exact z
      have hcZ : HZ c' = some (CodeO c' (X.env.qual ++ "<lambda>")) := (SZ.keep c' _ hco (fun z => absurd (show some c' ∈ ([] : List (Option Addr)) from z) (by simp))).at fun ps z => codeO_ne ps z
      have qz' : RQ ⟨C.T, H1, H1', [], f'⟩ WZ σZ (KV ⟨C.T, H1, H1', [], f'⟩ σZ QZ) HZ0 (outD o envz) := by
        rw [ask_out] at qz
        exact qz
      have ht := qo ⟨C.T, H1, H1', [], f'⟩ HZ0 HZ σZ envz WZ QZ rfl SZ.ex0 SZ.ex SZ.tabs SZ.tno SZ qz'
      refine wpAny_Call_Name_kw (thn ((pe_var (pos := p1) (i := 0) hNg hva hd hcd).run pinsZ sZ σZ HZ (fun v H1 => v = .ref f' ∧ H1 = HZ) IZ ⟨.ref f', hs0, rfl, rfl⟩) fun u s1 ⟨v, H2, I2, r2, q2⟩ => ?_)
      obtain ⟨ev', eH⟩ := q2
      subst ev'
      rw [eH] at I2
      obtain rfl : u = Value.ref f' := r2
      have of1 : s1.heap.get? f' = some (PySem.W.kla_obj "<lambda>" (X.env.qual ++ "<lambda>") params body scope (cloFrom X.env.cells scope.names []) pm' c' ctv) := I2.base.keep f' _ hf' hfn hfr (fun z => nomatch (show f' ∈ ([] : List Addr) from z))
      refine PySem.W.callWith_F0 ⟨_, _, _, _, of1⟩ ?_
      have un : Un (frs X.stack) [] H1' HZ s'.heap s1.heap := I2.base
      obtain ⟨⟨oc, vs', t, hoc, hdc, hvc⟩, _, _⟩ := I2.hok c' _ hcZ
      have rc : codeAny (model X.prog X.w) (X.A.deeper (envOfC x (defScope stg) s'.heap.objs.size g cdv)) (.call (.ref f') ⟨[], []⟩) (CR (L2.CX X.prog X.w) (envOfC x (defScope stg) s'.heap.objs.size g cdv :: X.stack) X.prog X.w HZ s1 QZ (fun cls d H' => WZ cls d σZ H')) s1 := by
        refine PySem.W.kla_callFunE hr'.depth of1 rfl L.co L.gen rfl ⟨c', oc, vs', t, rfl, hoc, hdc, hvc⟩ ?_
        rw [hbind]
        refine wpAny_pure (wpAny_newFunctionEnv (fun y hy => (L.own y hy).2) (fun y hy => absurd hy (by simp)) (fun h₁ hns hsb => ⟨I2.nolimit.fresh _ hsb, ?_⟩) L.kind)
        show codeAny _ _ (.expr body (lamEnv X scope s1.heap.objs.size f' c')) _ _
        have kp : ∀ b o, s1.heap.get? b = some o → h₁.get? b = some o := fun b o e => hsb.extBut b o (Nat.ne_of_lt (Heap.lt_size e)) (Heap.get?_push_of_some _ e)
        have J : Inv (lamCx X (X.A.deeper (envOfC x (defScope stg) s'.heap.objs.size g cdv)) (envOfC x (defScope stg) s'.heap.objs.size g cdv :: X.stack) s1 HZ (fun cls d H' => WZ cls d σZ H') scope f' c') [] σ HZ { s1 with heap := h₁, toks := s1.toks + ([] : List (Str × Value)).length } :=
          lam_start2 I1 L I2.env0 hr'.hd un hns kp
        have hrl : Room j (lamCx X (X.A.deeper (envOfC x (defScope stg) s'.heap.objs.size g cdv)) (envOfC x (defScope stg) s'.heap.objs.size g cdv :: X.stack) s1 HZ (fun cls d H' => WZ cls d σZ H') scope f' c').A := hr'.deeper _
        have hpe := hbody (Y := lamCx X (X.A.deeper (envOfC x (defScope stg) s'.heap.objs.size g cdv)) (envOfC x (defScope stg) s'.heap.objs.size g cdv :: X.stack) s1 HZ (fun cls d H' => WZ cls d σZ H') scope f' c') (CY := ⟨C.T, HZ0, HZ, [], 0⟩) (WY := fun cls d _ H' => WZ cls d σZ H')
          hK (by have := hrl.un; omega) (by have := hrl.un; omega) hgd hrl (takes_of rfl rfl rfl rfl) (passes_of rfl) ⟨_, _, _, _, _, _, _, rfl, rfl⟩
        refine PySem.W.kla_codeExpr (wpAny_mono (hpe.run [] _ _ HZ QZ J ht) (fun v s' hq => ?_) fun e s' hq => hq)
        obtain ⟨w', H', J', rv, q⟩ := hq
        exact ⟨w', H', J'.os, J'.bare, J'.base, J'.hok, rv, q⟩
      refine wpAny_call (codeAny_mono rc fun r s2 hq => ?_)
      cases r with
      | error e => exact tkZ _ _ (XE.of_call I2 (fun _ _ _ z => z) hq)
      | ok fl =>
        cases fl with
        | ret u => exact I2.after hq
        | next => exact False.elim hq
        | brk => exact False.elim hq
        | cont => exact False.elim hq
    have hP := hG (Z := cxOf (L2.CX X.prog X.w) X.prog X.w X.K X.mg X.base Ng x (defScope stg) g cdv X.A X.stack s' H1' (fun cls d H' => W cls d σ H')) (CZ := ⟨C.T, H1, H1', [], f'⟩) (WZ := fun cls d _ H' => W cls d σ H') (o := o)
      hK (by have := hr'.un; exact (by omega : (X.A.deeper (envOfC x (defScope stg) s'.heap.objs.size g cdv)).units + 64 < cLine)) (by have := hr'.un; exact (by omega : (X.A.deeper (envOfC x (defScope stg) s'.heap.objs.size g cdv)).units + 200 < cLine)) hgd hr' (takes_of rfl rfl rfl rfl) (passes_of rfl) ⟨_, _, _, _, _, _, rfl, rfl⟩ hask
    refine ⟨_, hP, H1, lamE F.n, sim_lam hln (by rw [← hln]; exact (List.getElem?_eq_some_iff.mp hNg).1) S2.ex S2.tb, ?_⟩
    rw [hf o (fun z => by rw [z] at ho; exact ho)] at ho
    unfold finR at ho
    have back : ∀ {CZ : Ctx} {σZ : L2.St} {H0' H' : Hp} {envz : Env}, CZ = ⟨C.T, H1, H1', [], f'⟩ → Sim CZ σZ H0' H' envz → Gr C.T H1 H1' H0' H' := fun hCZ SZ => by
      subst hCZ
      exact ⟨SZ.ex0, fun b u e => SZ.keep b u e (fun z => absurd (show some b ∈ ([] : List (Option Addr)) from z) (by simp)), SZ.ex, SZ.fresh, fun _ => SZ.tabs⟩
    cases z : exs (askCl o cl0) F.body (lamE F.n) with
    | bad => simp only [z] at ho; exact ho
    | exc x env5 =>
      simp only [z, outsOf, finX] at ho
      intro σ5 cls d H0' H' _ S5 hx
      have g5 := back rfl S5
      exact ho cls d H0' H' (g1.tr g5) hx
    | ok fl env5 =>
      simp only [z, outsOf] at ho
      cases fl with
      | brk => exact ho.elim
      | cont => exact ho.elim
      | next =>
        intro σ5 H0' H' _ S5
        have g5 := back rfl S5
        exact ho H0' H' (g1.tr g5) .non (by show Rep _ _ _ _; simp only [Rep])
      | ret u =>
        intro σ5 H0' H' v _ S5 hv
        have g5 := back rfl S5
        cases u with
        | sl i => exact ho.elim
        | d y => exact ho H0' H' (g1.tr g5) v hv
        | nw y =>
          simp only [finO] at ho
          have h' : RepN ⟨C.T, H1, H1', [], f'⟩ σ5 H0' H' env5 y v := hv
          unfold RepN at h'
          unfold nrm at ho
          by_cases hmu : isMutD y = true
          · rw [if_pos hmu] at h' ho
            obtain ⟨b, rfl, hb1, hb2, _⟩ := h'
            refine ho H0' H' (g1.tr g5) _ ?_
            exact RepG.nw S2 (by unfold RepG; rw [if_pos hmu]; exact ⟨b, rfl, hb1, hb2⟩)
          · rw [if_neg hmu] at h' ho
            exact ho H0' H' (g1.tr g5) _ h'
  refine wpAny_call (codeAny_mono run fun r s2 hq => ?_)
  cases r with
  | error e => exact tk _ _ (XE.of_call I1 (fun _ _ _ z => z) hq)
  | ok fl =>
    cases fl with
    | ret u => exact I1.after hq
    | next => exact False.elim hq
    | brk => exact False.elim hq
    | cont => exact False.elim hq
theorem c_heard {x a : Str} {g c P : Addr} {f j : Nat} {stg : Stmt} {fdg : FuncData} {Ng : List Str} {F : Fn} {vs : List Nat} {params : Arguments} {body : Expr} {scope : Scope}
    (hg : Gl X x) (hm : X.mg x = some (.ref g)) (Fg : Fun X.K x x stg g fdg) (Sg : FnScope Ng [a] (defScope stg)) (hNg : Ng[0]? = some a) (hva : Vis (defScope stg) a) (hln : Ng.length = F.n) (hb : Binds X.K fdg [a] [])
    (hf : ∀ o, cl f [.fz o] ≠ .bad → cl f [.fz o] = finR [] (exs (askCl o cl0) F.body (lamE F.n)))
    (hG : HearG X.prog X.w X.K X.mg X.base Ng x a stg g C.T cl0 F (j + 1))
    (TB : TabB X.base X.mg c P) (hcode : X.env.code = .ref c) (hmT : (P, X.env.qual ++ "<lambda>") ∈ C.T.tt) (hu : ∀ q ∈ C.T.tt, q.1 = P → q.2 = X.env.qual ++ "<lambda>")
    (hK : X.K = C.T.K) (hgd : X.A.guards = some []) (hr : Room (j + 2) X.A) (tk : Takes X W) (L : LamS X.env.scope scope) (hdef : defaultsOf params X.env = ([], []))
    (hbind : ∀ (q : Str) (cl : List (Str × Addr)) (pm cv ctv : Value), bindArgs (PySem.W.kla_fn "<lambda>" q params body scope cl pm cv ctv) ⟨[], []⟩ = pure [])
    (hbody : ∀ {Y : Cx} {CY : Ctx} {WY : WX}, Y.K = CY.T.K → Y.A.units + 64 < cLine → Y.A.units + 200 < cLine → Y.A.guards = some [] → Room j Y.A → Takes Y WY → PassesOwn (model Y.prog Y.w) Y.A Y.env Y.xe →
      (∃ (A : Around) (outer : List PySem.Env) (s : Shared) (H : Hp) (E : XK) (f c' : Addr), Y = lamCx X A outer s H E scope f c' ∧ CY.T = C.T) → PE Y body (tI CY WY cl e'))
    (hdb : (x == ("__debug__" : Str)) = false := by decide) (hd : (a == ("__debug__" : Str)) = false := by decide) (hcd : (a == ("__classdict__" : Str)) = false := by decide) :
    PE X (.Call (.Name x p) [.Lambda params body scope lpos] [] pos) (tI C W cl (.heard f vs e')) :=
  peI (c_heardG hg hm Fg Sg hNg hva hln hb hf hG TB hcode hmT hu hK hgd hr tk L hdef hbind hbody hdb hd hcd) fun σ H Q ⟨H0, env, S, q⟩ => by
    simp only [ev] at q
    obtain ⟨env1, hfz, q⟩ := q.orB
    obtain ⟨H1, e1, S1⟩ := S.frzAll hfz
    have q := RQ.mono e1 q
    have key : ∀ o, RQ C W σ (KV C σ Q) H1 (hearC cl f o env1) → tHR C W σ H1 H env1 Q (cl f [.fz o]) := fun o ho => by
      unfold hearC at ho
      cases z : cl f [.fz o] with
      | bad => rw [z] at ho; exact ho
      | exc x outs => rw [z] at ho; exact fun cls d H0' H' g hx => ho cls d H0' H' g.e0 (S1.gr g) hx
      | ok r outs => rw [z] at ho; exact fun H0' H' g v hv => ho H0' H' g.e0 (S1.gr g) v hv
    refine ⟨env1, H1, S1, ?_⟩
    cases z : ev cl e' (maskE env1) with
    | bad => rw [z] at q; exact q
    | exc x env2 => rw [z] at q; exact key _ q
    | ok u env2 =>
      rw [z] at q
      simp only at q
      obtain ⟨p, hfu, q⟩ := q.orB
      exact ⟨p, hfu, key _ q⟩
/-- the names keep what they own -/
theorem c_heardK {x a : Str} {g c P : Addr} {f j : Nat} {stg : Stmt} {fdg : FuncData} {Ng : List Str} {F : Fn} {vs : List Nat} {params : Arguments} {body : Expr} {scope : Scope}
    (hg : Gl X x) (hm : X.mg x = some (.ref g)) (Fg : Fun X.K x x stg g fdg) (Sg : FnScope Ng [a] (defScope stg)) (hNg : Ng[0]? = some a) (hva : Vis (defScope stg) a) (hln : Ng.length = F.n) (hb : Binds X.K fdg [a] [])
    (hf : ∀ o, cl f [.fz o] ≠ .bad → cl f [.fz o] = finR [] (exs (askCl o cl0) F.body (lamE F.n)))
    (hG : HearG X.prog X.w X.K X.mg X.base Ng x a stg g C.T cl0 F (j + 1))
    (TB : TabB X.base X.mg c P) (hcode : X.env.code = .ref c) (hmT : (P, X.env.qual ++ "<lambda>") ∈ C.T.tt) (hu : ∀ q ∈ C.T.tt, q.1 = P → q.2 = X.env.qual ++ "<lambda>")
    (hK : X.K = C.T.K) (hgd : X.A.guards = some []) (hr : Room (j + 2) X.A) (tk : Takes X W) (L : LamS X.env.scope scope) (hdef : defaultsOf params X.env = ([], []))
    (hbind : ∀ (q : Str) (cl : List (Str × Addr)) (pm cv ctv : Value), bindArgs (PySem.W.kla_fn "<lambda>" q params body scope cl pm cv ctv) ⟨[], []⟩ = pure [])
    (hbody : ∀ {Y : Cx} {CY : Ctx} {WY : WX}, Y.K = CY.T.K → Y.A.units + 64 < cLine → Y.A.units + 200 < cLine → Y.A.guards = some [] → Room j Y.A → Takes Y WY → PassesOwn (model Y.prog Y.w) Y.A Y.env Y.xe →
      (∃ (A : Around) (outer : List PySem.Env) (s : Shared) (H : Hp) (E : XK) (f c' : Addr), Y = lamCx X A outer s H E scope f c' ∧ CY.T = C.T) → PE Y body (tI CY WY cl e'))
    (hdb : (x == ("__debug__" : Str)) = false := by decide) (hd : (a == ("__debug__" : Str)) = false := by decide) (hcd : (a == ("__classdict__" : Str)) = false := by decide) :
    PE X (.Call (.Name x p) [.Lambda params body scope lpos] [] pos) (tI C W cl (.heardK f vs e')) :=
  peI (c_heardG hg hm Fg Sg hNg hva hln hb hf hG TB hcode hmT hu hK hgd hr tk L hdef hbind hbody hdb hd hcd) fun σ H Q ⟨H0, env, S, q⟩ => by
    simp only [ev] at q
    obtain ⟨env1, hfz, q⟩ := q.orB
    obtain ⟨H1, e1, S1, dif⟩ := S.frzAllK hfz
    have key : ∀ o, RQ C W σ (KV C σ Q) H0 (keepC env (hearC cl f o env1)) → tHR C W σ H1 H env1 Q (cl f [.fz o]) := fun o ho => by
      unfold hearC at ho
      cases z : cl f [.fz o] with
      | bad => rw [z] at ho; exact ho
      | exc x outs => rw [z] at ho; exact ho.elim
      | ok r outs =>
        rw [z] at ho
        cases r with
        | sl i => exact ho.elim
        | nw y => exact ho.elim
        | d y =>
          simp only [keepC] at ho
          split at ho
          · rename_i hn
            intro H0' H' g v hv
            obtain ⟨H5, g5, r5⟩ := g.back e1 dif hn hv
            exact ho H5 H' g5.e0 (S.gr g5) v r5
          · exact ho.elim
    refine ⟨env1, H1, S1, ?_⟩
    cases z : ev cl e' (maskE env1) with
    | bad => rw [z] at q; exact q
    | exc x env2 => rw [z] at q; exact key _ q
    | ok u env2 =>
      rw [z] at q
      simp only at q
      obtain ⟨p, hfu, q⟩ := q.orB
      exact ⟨p, hfu, key _ q⟩
end
end PP
end

section
set_option maxHeartbeats 2000000
/-! f-strings, str of objects, static methods, making by keywords. -/
namespace PP
open PySem PySem.Spec PyProof.Rows L2
section
variable {X : Cx} {C : Ctx} {W : WX} {cl : CallF} {e a b : Expr} {es : List Expr} {e' a' b' : Ex} {es' : Exs} {pos : Pos}
/-! ### f-strings -/
def tPs (C : Ctx) (W : WX) (cl : CallF) : Exs → List TE
  | .nil => []
  | .cons e es => tFmt (tI C W cl e) :: tPs C W cl es
  | .star _ _ => []
theorem p_cst {s : Str} {j : Nat} {p : Pos} : PE X (.Constant (.str s) j p) (tFmt (tI C W cl (.cst (.str s)))) :=
  peI (c_cst (C := C) (W := W) (cl := cl) (d := .str s) pe_str (fun H => r_str _ H _)) fun σ H Q ⟨H0, env, S, q⟩ => ⟨H0, env, S, fun H1 H1' e1 S1 v hv => by
    have hv' : v = .str s := by simpa only [UOk, Rep] using hv
    subst hv'
    rcases q H1 H1' e1 S1 (.str s) hv with ⟨y, e2, _, q⟩ | ⟨i, e2, _⟩
    · cases e2; exact q
    · cases e2⟩
theorem joinsI {σ : L2.St} {Q : Str → Hp → Prop} : ∀ (es : Exs) (acc : Str) (H H0 : Hp) (env : Env), Sim C σ H0 H env → RQ C W σ (fun z _ _ H' => Q z H') H0 (evJ cl es acc env) → tJs (tPs C W cl es) acc σ H Q
  | .nil, acc, H, H0, env, S, q => q H0 H (Ext.rfl' _) S
  | .star _ _, acc, H, H0, env, S, q => q.elim
  | .cons e es, acc, H, H0, env, S, q => by
    simp only [evJ] at q
    refine seqI S q fun u env1 x H1 H1' e1 S1 u1 q1 => ?_
    obtain ⟨d, hd, q2⟩ := q1.orB
    obtain ⟨y, hy, q3⟩ := q2.orB
    have r := S1.rd u1 hd
    have key : (acc ++ y).length ≤ sizeLine ∧ tJs (tPs C W cl es) (acc ++ y) σ H1' Q := by
      split at q3
      · rename_i hl
        exact ⟨Nat.le_trans hl lim_line, joinsI es (acc ++ y) H1' H1 env1 S1 q3⟩
      · exact q3.elim
    unfold fmtD at hy
    split at hy
    · split at hy
      · rename_i hz
        cases hy
        cases rd_str r
        exact .inl ⟨_, rfl, Nat.le_trans hz lim_line, _, rfl, key⟩
      · cases hy
    · split at hy
      · rename_i hz
        cases hy
        cases rd_int r
        exact .inr ⟨_, rfl, hz, _, rfl, key⟩
      · cases hy
    · cases hy
theorem c_fstr {v1 v2 : Expr} {rest : List Expr} (h : PJ X (v1 :: v2 :: rest) (tPs C W cl es')) : PE X (.JoinedStr (v1 :: v2 :: rest) pos) (tI C W cl (.fstr es')) := peI (pe_joined h) fun σ H Q ⟨H0, env, S, q⟩ => by
  simp only [ev] at q
  refine joinsI (Q := fun out H1 => Q (.str out) H1) es' Str.empty H H0 env S ?_
  cases z : evJ cl es' Str.empty env with
  | bad => rw [z] at q; exact q
  | exc x env1 => rw [z] at q; exact q
  | ok y env1 =>
    rw [z] at q
    exact fun H0' H' e' S' => q H0' H' e' S' (.str y) (by show RepN _ _ _ _ _ _ _; unfold RepN; rw [if_neg (by simp [isMutD])]; simp only [Rep])
theorem str_empty_app (y : Str) : Str.empty ++ y = y := by
  refine TL.ext_tl ?_
  rw [TL.tl_append]
  rfl
theorem tI_mono {σ : L2.St} {H : Hp} {Q Q' : VK} (h : ∀ v H', Q v H' → Q' v H') (q : tI C W cl e' σ H Q) : tI C W cl e' σ H Q' := by
  obtain ⟨H0, env, S, q⟩ := q
  refine ⟨H0, env, S, ?_⟩
  cases z : ev cl e' env with
  | bad => rw [z] at q; exact q
  | exc x env1 => rw [z] at q; exact q
  | ok u env1 => rw [z] at q; exact fun H0' H' e1 S1 v hv => h v H' (q H0' H' e1 S1 v hv)
theorem c_fstr1 (h : PE X e (tFmt (tI C W cl e'))) : PE X (.JoinedStr [e] pos) (tI C W cl (.fstr (.cons e' .nil))) := peI (pe_joined1 h) fun σ H Q ⟨H0, env, S, q⟩ => by
  simp only [ev] at q
  have z := joinsI (C := C) (W := W) (cl := cl) (σ := σ) (Q := fun out H1 => Q (.str out) H1) (.cons e' .nil) Str.empty H H0 env S (by
    cases z : evJ cl (.cons e' .nil) Str.empty env with
    | bad => rw [z] at q; exact q
    | exc x env1 => rw [z] at q; exact q
    | ok y env1 =>
      rw [z] at q
      exact fun H0' H' e' S' => q H0' H' e' S' (.str y) (by show RepN _ _ _ _ _ _ _; unfold RepN; rw [if_neg (by simp [isMutD])]; simp only [Rep]))
  simp only [tPs, tJs] at z
  refine tI_mono (fun x H1 hx => ?_) z
  rcases hx with ⟨y, e1, h1, y', e2, _, q1⟩ | ⟨i, e1, h1, y', e2, _, q1⟩
  · cases e2
    rw [str_empty_app] at q1
    exact .inl ⟨y, e1, h1, q1⟩
  · cases e2
    rw [str_empty_app] at q1
    exact .inr ⟨i, e1, h1, q1⟩
/-! ### str(o), o of an own class -/
theorem FnG.goIn2 {k : Nat} {f : Addr} {fd : FuncData} {ps : List Str} {sp : Sp} {ds : List Value} {dvs : List V} {pins : List (Addr × Obj)} {σ : L2.St} {H : Hp} {s : Shared} {Q : VK} {us : List Value} {vs : List V} {E : XK}
    (F : FnG X.prog X.w X.K X.mg X.base k f fd ps sp) (hgd : X.A.guards = some []) (hr : Room (k + 2) X.A) (hb : Binds X.K fd ps ds) (hd : Vals dvs ds) (tk : Takes X W) (hE : ∀ cls d H', E cls d H' → W cls d σ H')
    (I : Inv X pins σ H s) (r : Vals vs us) (h : sp (vs ++ dvs) H Q E) : wpAny (model X.prog X.w) X.A.in1.in1 (call (.ref f) us) (EP X pins σ Q) X.xe s := by
  have r2 := r.append hd
  have hlen : (us ++ ds).length = ps.length := r2.length ▸ F.len _ _ _ _ h
  refine wpAny_call (codeAny_mono (F.run X.A.in1.in1 X.stack s H ⟨us, []⟩ _ _ Q E hgd hr.in1.in1 I.env0.in1.in1 (hb s us I.kIn hlen) r2 h) fun res s' hq => ?_)
  cases res with
  | error ee => exact tk _ _ (XE.of_call I hE hq)
  | ok fl =>
    cases fl with
    | ret u => exact I.after hq
    | _ => exact hq.elim
/-- what a method that is called by the machine needs -/
def SpM (X : Cx) (T : Tbl) (cl : CallF) (m : Nat) (nm : Str) (cs : List Nat) : Prop :=
  ∀ c ∈ cs, ∀ C, T.cn c = some C → ∃ k f fd ps, Meth X.K C nm f ∧ FnG X.prog X.w X.K X.mg X.base k f fd ps (spF T cl (spec c m) 1) ∧ Room (k + 2) X.A ∧ Binds X.K fd ps []
def rStrO (T : Tbl) (cl : CallF) (cs : List Nat) : List V → Hp → VK → Prop := fun xs H Q => ∃ p c Ca dx fs, xs = [.ref p] ∧ H p = some (.ins Ca dx fs) ∧ c ∈ cs ∧ T.cn c = some Ca ∧ spF T cl (spec c 21) 1 [.ref p] H (fun v H' => ∃ z, v = .str z ∧ Q (.str z) H') fun _ _ _ => False
theorem call_strO {cs : List Nat} (SP : SpM X C.T cl 21 "__str__" cs) (hgd : X.A.guards = some []) (tk : Takes X W) : CallR X (.type "str") (rStrO C.T cl cs) := by
  intro pins s σ H xs us Q I r h
  obtain ⟨p, c, Ca, dx, fs, rfl, ea, hcs, hcn, q⟩ := h
  cases r with
  | cons rx rr =>
    cases rr
    cases rx
    obtain ⟨k, f, fd, ps, hm, F, hr, hb⟩ := SP c hcs Ca hcn
    obtain ⟨mA, O, _⟩ := ins_get I.hok ea
    obtain ⟨od, J, _⟩ := O.look
    have run := F.goIn2 (W := W) (E := fun _ _ _ => False) (us := [.ref p]) (vs := [.ref p]) hgd hr hb .nil tk (fun _ _ _ z => False.elim z) I (.cons rfl .nil) (by rw [List.append_nil]; exact q)
    refine PySem.W.kso_call (by have := hr.un; show X.A.units + 1 + 1 < _; omega) I.kIn J hm.at_ hm.fn (wpAny_mono run (fun v s' hv => ?_) fun _ _ x => x)
    obtain ⟨v', H', I', rv, z, rfl, q'⟩ := hv
    obtain ⟨t, rfl⟩ := (show ∃ t, v = Value.str z t from rv)
    exact ⟨.str z, H', I', ⟨t, rfl⟩, q'⟩
theorem c_strO {p : Pos} {cs : List Nat} (SP : SpM X C.T cl 21 "__str__" cs) (hgd : X.A.guards = some []) (tk : Takes X W) (hg : Gl X "str") (hm : X.mg "str" = none) (ha : PE X e (tI C W cl e'))
    (he : starEach [e] X.env = (false, eval e X.env) :: starEach [] X.env := by rfl) (hpl : (backTo pos (starEach [] X.env)).any (·.1) = false := by rfl) : PE X (.Call (.Name "str" p) [e] [] pos) (tI C W cl (.strO cs e')) :=
  peI (pe_callTy (call_strO SP hgd tk) hg hm (by decide +kernel) (pa_cons ha pa_nil he) (by decide) (by decide) he hpl) fun σ H Q ⟨H0, env, S, q⟩ => by
    simp only [ev] at q
    refine seqI S q fun u env1 x H1 H1' e1 S1 u1 q1 => ?_
    obtain ⟨⟨c, ur, env2⟩, hr, q2⟩ := q1.orB
    split at q2
    · exact q2.elim
    rename_i hcs
    simp only [Bool.not_eq_true, Bool.not_eq_false', List.contains_iff_mem] at hcs
    unfold recvU at hr
    simp only at hr
    split at hr
    · rename_i c' ks vs env' hf
      cases hr
      obtain ⟨H2, e2, S2, r2⟩ := S1.take u1 hf
      obtain ⟨z, hz, q3⟩ := (RQ.mono e2 q2).orB
      cases hz
      have r3 := r2
      simp only [Rep] at r3
      obtain ⟨p, Ca, dx, xs, rfl, hck, h2, _⟩ := r3
      refine ⟨p, c, Ca, dx, _, rfl, S2.ex _ _ h2, hcs, (Tbl.ck_some hck).1, H2, [.fz (.obj c ks vs)], S2.ex, ⟨.ref p, [], rfl, r2, rfl⟩, ?_, rfl, S2.tb, ?_⟩
      · intro i j y hi hj
        match i, hi with
        | 0, hi => simp [ioL] at hi
        | _ + 1, hi => simp [ioL] at hi
      · cases zc : cl (spec c 21) [.fz (.obj c ks vs)] with
        | bad => simp only [zc] at q3; exact q3
        | exc z outs => simp only [zc] at q3; exact q3.elim
        | ok r outs =>
          simp only [zc] at q3
          split at q3
          · rename_i zz ww hh
            cases hh
            intro v H0' H' g hr _
            have hv : v = .str zz := by simpa only [RetOk, Rep] using hr
            have S5 := S2.gr ⟨g.e0, fun p o hp => g.keep p o (by simp [ioL]) hp, g.e01, g.new, g.tb⟩
            exact ⟨zz, hv, q3 H0' H' g.e0 S5 (.str zz) (by show RepN _ _ _ _ _ _ _; unfold RepN; rw [if_neg (by simp [isMutD])]; simp only [Rep])⟩
          · exact q3.elim
    · cases hr
/-! ### C.m(..), m a static method -/
structure StMet (K : PySem.W.Frag) (C : Addr) (mc : Value) (m : Str) (p g : Addr) : Prop where
  rd : ClX.CRead K C mc
  at_ : PySem.W.findCls K (.ref C) mc m = some (.get (.builtin "staticmethod.__get__") (.ref p) .none (.ref C))
  rc : ∃ rest, PySem.W.recIn K p "staticmethod" = some (.ref g :: rest)
  kp : PySem.W.keepIn K (.ref g) = true
theorem c_callS {x m : Str} {p1 apos : Pos} {k f n : Nat} {Ca p g : Addr} {mc : Value} {fd : FuncData} {ps : List Str} {ms : List Bool} {pl : Sem Bool} (F : FnG X.prog X.w X.K X.mg X.base k g fd ps (spF C.T cl f n)) (hgd : X.A.guards = some []) (hr : Room k X.A) (tk : Takes X W)
    (hg : Gl X x) (hm : X.mg x = some (.ref Ca)) (M : StMet X.K Ca mc m p g) (hb : Binds X.K fd ps []) (ha : PA X (e :: es) (tAC C W cl ms es')) (hn : ms.length = n := by rfl) (hdb : (x == ("__debug__" : Str)) = false := by decide)
    (he : starEach (e :: es) X.env = (false, eval e X.env) :: starEach es X.env := by rfl) (hpl : (backTo pos (starEach es X.env)).any (·.1) = false := by rfl)
    (ht : eval (.Call (.Attribute (.Name x p1) m apos) (e :: es) [] pos) X.env = (do
      let ov ← eval (.Name x p1) X.env
      standAt apos.atName
      let (f, first) ← holding [ov] (getMethod ov m pl)
      callWith pos f first (backTo pos (starEach (e :: es) X.env)) (backToKw pos (keywordEach [] X.env))) := by rfl) : PE X (.Call (.Attribute (.Name x p1) m apos) (e :: es) [] pos) (tI C W cl (.call f ms es')) := by
  refine peI (t := tCl C.T W cl f n (tAC C W cl ms es')) ⟨fun pins s σ H Q I h => ?_⟩ fun σ H Q q => readC hn q
  refine PySem.W.methodCall_KW (pl := pl) (ld_glob I hg hm ?_ hdb) ht
  obtain ⟨rest, hrc⟩ := M.rc
  refine PySem.W.method_cls I.kIn M.rd.ga (PySem.W.cls_bind I.kIn M.rd.rd M.at_ (wpAny_call (PySem.W.sm_get (s := { s with toks := s.toks + 1 }) I.kIn hrc (PySem.W.handed_on (by rfl) ?_))))
  have I0 := I.tok (s.toks + 1)
  refine PySem.W.callWith_K (h₀ := X.base) (first := []) I.ok.mod.kin M.kp (thn (ha.run pos pins _ σ H _ I0 h) fun us s1 hq => ?_) he hpl
  obtain ⟨vs, H1, I1, r, q⟩ := hq
  exact ⟨I1.kIn, F.go hgd hr hb .nil tk (fun _ _ _ z => z) I1 r (by rw [List.append_nil]; exact q)⟩
/-! ### C(k = v, ..) -/
def KwBindsS (K : PySem.W.Frag) (fd : FuncData) (ps ks : List Str) (pm : List Nat) : Prop := ∀ (s : Shared) (u : Value) (ws : List Value), K.In s.heap → ws.length = ks.length → BindsTo s fd ⟨[u], ks.zip ws⟩ (ps.zip (u :: permL pm ws))
theorem c_mkP {x : Str} {p : Pos} {k c n : Nat} {f Ca : Addr} {fd : FuncData} {ps ks : List Str} {pm : List Nat} {kws : List Keyword} (M : Mk X.K Ca f) (F : FnG X.prog X.w X.K X.mg X.base k f fd ps (spF C.T cl (spec c 0) n)) (hgd : X.A.guards = some []) (room : Room (k + 1) X.A)
    (tk : Takes X W) (hg : Gl X x) (hm : X.mg x = some (.ref Ca)) (hcn : C.T.ck c [] = some Ca) (hb : KwBindsS X.K fd ps ks pm) (ha : PK X kws (tAC C W cl (pm.map fun _ => false) es')) (hn : pm.length + 1 = n := by rfl) (hkn : ks.length = pm.length := by rfl)
    (hall : (backToKw pos (keywordEach kws X.env)).all (·.1.isSome) = true := by rfl) (hks : (backToKw pos (keywordEach kws X.env)).filterMap (·.1) = ks := by rfl) (hdb : (x == ("__debug__" : Str)) = false := by decide)
    (hpl : ((backTo pos (starEach [] X.env)).any (·.1) || (backToKw pos (keywordEach kws X.env)).any (·.1.isNone)) = false := by rfl) :
    PE X (.Call (.Name x p) [] kws pos) (tI C W cl (.mkP c pm es')) := by
  refine ⟨fun pins s σ H Q I h => ?_⟩
  refine wpAny_Call_Name_kw (ld_glob I hg hm ?_ hdb)
  obtain ⟨H0, env, S, q⟩ := h
  simp only [ev] at q
  refine PySem.W.callWith_KW0 (h₀ := X.base) I.ok.mod.kin M.kp hall ?_ hpl
  have hread : tAC C W cl (pm.map fun _ => false) es' σ H fun vs H1 => vs.length = pm.length ∧ ∀ x dx, H1 x = none → H1 dx = none → dx ≠ x →
      spF C.T cl (spec c 0) n (.ref x :: permL pm vs) (upd (upd H1 dx (.own x)) x (.ins Ca dx [])) (fun v H2 => v = .non ∧ Q (.ref x) H2) fun cls d H' => W cls d σ H' := by
    refine ⟨H0, env, S, ?_⟩
    cases z : evC cl (pm.map fun _ => false) es' env with
    | bad => rw [z] at q; exact q.elim
    | exc x env1 => rw [z] at q; exact q
    | ok us env1 =>
      rw [z] at q
      simp only [R.bind_ok] at q
      intro H1 H1' e1 S1 vs hv0
      obtain ⟨as, ha', q1⟩ := (RQ.mono e1 q).orB
      split at q1
      rotate_left
      · exact q1.elim
      rename_i hz
      rw [Bool.and_eq_true, decide_eq_true_eq] at hz
      refine ⟨hv0.len.trans hz.2, fun x dx nx nd ne => ?_⟩
      obtain ⟨g1, g2, _⟩ := args_ok S1 ha' (hv0.perm pm)
      exact read_mk S1 hz.1 g1 (by rw [g2, List.length_map]; exact hn) hcn nx nd ne q1
  refine thn (ha.run pos pins s σ H _ I hread) fun ws s1 hq => ?_
  obtain ⟨zs, H1, I1, rz, hl, q1⟩ := hq
  refine ⟨I1.kIn, ?_⟩
  rw [hks]
  have q2 := q1 (s1.heap.objs.size + 1) s1.heap.objs.size (I1.hok.fresh (Nat.le_succ _)) (I1.hok.fresh (Nat.le_refl _)) (Nat.ne_of_lt (Nat.lt_succ_self _))
  have J := Inv.made (C := Ca) I1
  have rr : Vals (V.ref (s1.heap.objs.size + 1) :: permL pm zs) (Value.ref (s1.heap.objs.size + 1) :: permL pm ws) := .cons rfl (vals_perm rz pm)
  refine wpAny_call (make_map (f := f) I1.kIn M.makes M.init (beq_iff_eq.mp M.fn) (codeAny_mono (F.run _ X.stack _ _ ⟨Value.ref (s1.heap.objs.size + 1) :: [], ks.zip ws⟩ (Value.ref (s1.heap.objs.size + 1) :: permL pm ws) _ _ _ (under_guards hgd) (room.make Ca [] (ks.zip ws)) (J.env0.make Ca [] (ks.zip ws))
    (hb _ (Value.ref (s1.heap.objs.size + 1)) ws J.kIn (by rw [← rz.length, hl, hkn])) rr q2) fun r s' z => ?_))
  cases r with
  | error e => exact tk _ _ (XE.of_call J (fun _ _ _ z => z) z)
  | ok fl =>
    cases fl with
    | ret u =>
      obtain ⟨v, H', I3, rv, ev, q3⟩ := J.after z
      subst ev
      exact ⟨rv, ⟨V.ref (s1.heap.objs.size + 1), H', I3, rfl, q3⟩⟩
    | _ => exact False.elim z
end
end PP
end

section
set_option maxHeartbeats 2000000
/-! Facts of classes, packed; the end of a law with its tables. -/
namespace PP
open PySem PySem.Spec PyProof.Rows L2
def tys : List String := ["NoneType", "bool", "int", "str", "list", "tuple", "dict"]
theorem tyN_tys {d : D} (h : isObjD d = false) : tyN d ∈ tys := by
  cases d <;> first | (cases h; done) | (show tyN _ ∈ tys; simp [tyN, tys])
/-- the address of a name of the main module -/
def adr (K : PySem.W.Frag) (x : Str) : Option Addr := match PySem.W.nsIn K mainGlobals x with
  | some (some (.ref C)) => some C
  | _ => none
theorem adr_of {K : PySem.W.Frag} {x : Str} {C : Addr} (h : PySem.W.nsIn K mainGlobals x = some (some (.ref C))) : adr K x = some C := by
  unfold adr
  rw [h]
def naB (K : PySem.W.Frag) (C : Addr) (fs : List Str) : Bool := fs.all fun f => decide (PySem.W.findIn K (.ref C) f = some none)
theorem na_of {K : PySem.W.Frag} {C : Addr} {fs : List Str} (h : naB K C fs = true) : ∀ f ∈ fs, NoAttr K C f := fun f hf => (of_decide_eq_true (List.all_eq_true.mp h f hf) : PySem.W.findIn K (.ref C) f = some none)
def clsB (K : PySem.W.Frag) (C : Addr) : Bool := PySem.W.plainGet K C Str.empty && (PySem.W.hasDictIn K C && (PySem.W.plainOver K C && (decide (PySem.W.findIn K (.ref C) "__setattr__" = some (some (.builtin "object.__setattr__"))))))
theorem cls_of {K : PySem.W.Frag} {C : Addr} (h : clsB K C = true) : Cls K C := by
  unfold clsB at h
  simp only [Bool.and_eq_true, decide_eq_true_eq] at h
  exact ⟨h.1, h.2.1, h.2.2.1, h.2.2.2⟩
/-- what is asked of __class__ -/
def cgB (K : PySem.W.Frag) (C : Addr) : Bool := decide (PySem.W.findIn K (.ref C) "__class__" = some (some (.builtin "object.__class__"))) && (decide (PySem.W.specialIn K (.builtin "object.__class__") "__get__" = some (some (.builtin "getset_descriptor.__get__"))) && (decide (PySem.W.takesIn K (.builtin "object.__class__") = some true) && decide (PySem.W.mroIn K C (.type "object") = some true)))
def xcB (K : PySem.W.Frag) (C : Addr) : Bool := xfB K C && cgB K C
theorem xf_of {K : PySem.W.Frag} {C : Addr} (h : xcB K C = true) : XfC K C := xfB_ok (Bool.and_eq_true_iff.mp h).1
theorem xc_of {K : PySem.W.Frag} {C : Addr} (h : xcB K C = true) : ExcC K C := by
  obtain ⟨h1, h2⟩ := Bool.and_eq_true_iff.mp h
  have x := xfB_ok h1
  unfold cgB at h2
  simp only [Bool.and_eq_true, decide_eq_true_eq] at h2
  exact ⟨x.ga, x.gg, x.exC, x.hdC, h2.1, h2.2.1, h2.2.2.1, h2.2.2.2⟩
/-- isinstance: the built-in types, then each class with its answer -/
def isoB (K : PySem.W.Frag) (u : Addr) (cs : List (Addr × Bool)) : Bool := (tys.all fun t => decide (PySem.W.kitOne K (.type t) (.ref u) = some false)) && cs.all fun p => decide (PySem.W.kitOne K (.ref p.1) (.ref u) = some p.2)
theorem iso_of {X : Cx} {T : Tbl} {cs : List Nat} {u : Addr} {l : List (Addr × Bool)} (h : isoB X.K u l = true) (hl : ∀ c C, T.cn c = some C → (C, cs.contains c) ∈ l ∧ (T.ec c = true → ExcC X.K C) ∧ (T.ec c = false → Cls X.K C ∧ cgB X.K C = true)) : IsO X T cs (.ref u) := by
  obtain ⟨h1, h2⟩ := Bool.and_eq_true_iff.mp h
  refine ⟨fun d hd => of_decide_eq_true (List.all_eq_true.mp h1 _ (tyN_tys hd)), fun c C hc he => ?_, fun c C hc he => ?_⟩
  · obtain ⟨m, x, _⟩ := hl c C hc
    exact ⟨x he, of_decide_eq_true (List.all_eq_true.mp h2 _ m)⟩
  · obtain ⟨m, _, x⟩ := hl c C hc
    obtain ⟨x1, x2⟩ := x he
    unfold cgB at x2
    simp only [Bool.and_eq_true, decide_eq_true_eq] at x2
    exact ⟨of_decide_eq_true (List.all_eq_true.mp h2 _ m), x1, x2.1, x2.2.1, x2.2.2.1, x2.2.2.2⟩
/-- < <= == ..: neither a built-in type nor a class goes first -/
def nfB (K : PySem.W.Frag) (C : Addr) (Cs : List Addr) : Bool := (tys.all fun t => PySem.W.notFirst K C (.type t)) && Cs.all fun D => PySem.W.notFirst K C (.ref D)
theorem nf_of {K : PySem.W.Frag} {T : Tbl} {C : Addr} {Cs : List Addr} (h : nfB K C Cs = true) (hl : ∀ c' C', T.cn c' = some C' → C' ∈ Cs) : NFs K T C := by
  obtain ⟨h1, h2⟩ := Bool.and_eq_true_iff.mp h
  exact ⟨fun t ht => List.all_eq_true.mp h1 t ht, fun c' C' hc => List.all_eq_true.mp h2 _ (hl c' C' hc)⟩
def refO : Option (Option Value) → Bool
  | some none => true | some (some (.ref _)) => true | _ => false
def bcB (K : PySem.W.Frag) (C : Addr) (op : Operator) : Bool := PySem.W.selfFirst K C && (refO (PySem.W.findIn K (.ref C) (dunderR op.info.2)) && tys.all fun t => (PySem.W.findIn K (.type t) (PySem.dunder op.info.2)).isSome && ((PySem.W.findIn K (.type t) (dunderR op.info.2)).isSome && decide (PySem.W.subIn K (.type t) (.ref C) = some false)))
theorem bc_of {K : PySem.W.Frag} {C : Addr} {op : Operator} {ts : List Nat} (h : bcB K C op = true) : BinC K C op ts := by
  unfold bcB at h
  rw [Bool.and_eq_true, Bool.and_eq_true] at h
  obtain ⟨h1, h2, h3⟩ := h
  refine ⟨h1, ?_, fun d hd _ => ?_⟩
  · cases z : PySem.W.findIn K (.ref C) (dunderR op.info.2) with
    | none => rw [z] at h2; cases h2
    | some r =>
      refine ⟨r, rfl, ?_⟩
      cases r with
      | none => exact .inl rfl
      | some v =>
        rw [z] at h2
        cases v <;> first | (cases h2; done) | exact .inr ⟨_, rfl⟩
  · have q := List.all_eq_true.mp h3 _ (tyN_tys hd)
    rw [Bool.and_eq_true, Bool.and_eq_true, decide_eq_true_eq] at q
    obtain ⟨q1, q2, q3⟩ := q
    obtain ⟨a, ha⟩ := Option.isSome_iff_exists.mp q1
    obtain ⟨b, hb⟩ := Option.isSome_iff_exists.mp q2
    exact ⟨⟨a, b, ha, hb⟩, q3⟩
def neB (K : PySem.W.Frag) (C : Addr) : Bool := decide (PySem.W.findIn K (.ref C) "__ne__" = some (some (.builtin "object.__ne__"))) && decide (PySem.W.mroIn K C (.type "object") = some true)
theorem ne_of' {K : PySem.W.Frag} {C : Addr} (h : neB K C = true) : NeC K C := by
  obtain ⟨h1, h2⟩ := Bool.and_eq_true_iff.mp h
  exact ⟨of_decide_eq_true h1, of_decide_eq_true h2⟩
/-- an except clause of the class at CE -/
def exmB (K : PySem.W.Frag) (CE : Addr) (Cs : List Addr) : Bool := Cs.all fun C => decide (PySem.W.exmOne K (.ref C) (.ref CE) = some true)
theorem exm_of {K : PySem.W.Frag} {CE : Addr} {Cs : List Addr} (h : exmB K CE Cs = true) {C : Addr} (hc : C ∈ Cs) : PySem.W.exmOne K (.ref C) (.ref CE) = some true := of_decide_eq_true (List.all_eq_true.mp h C hc)
/-- an exception class of one's own -/
theorem oex_of {K : PySem.W.Frag} {C : Addr} {nm q : Str} {N : Addr} {bs bm : List Value} {sn : List Str} {sub : List Value} {ab : Bool} {col : Option Bool} {dd : Option Addr} {k0 k1 k2 k3 k5 : Option Value} (h : K.lookup C = some (excClassObj nm q C N bs bm true sn sub ab col dd k0 k1 k2 k3 k5 "ValueError.__new__")) (hr : PySem.HandSPX.refsVE bm = true)
    (h2 : (decide (PySem.W.findIn K (.ref C) "__setattr__" = some (some (.builtin "object.__setattr__"))) && (decide (PySem.W.subIn K (.ref C) (.type "BaseException") = some true) && (decide (PySem.W.typeIn K (.ref C) = some (.type "type")) && PySem.W.keepIn K (.ref C)))) = true) : OexC K C := by
  simp only [Bool.and_eq_true, decide_eq_true_eq] at h2
  exact ⟨⟨_, _, _, _, _, _, _, _, _, _, _, _, _, _, _, h, hr⟩, h2.1, h2.2.1, h2.2.2.1, h2.2.2.2⟩
/-! ### tables -/
def ttOf (K : PySem.W.Frag) (names : List Str) : List (Addr × Str) := names.filterMap fun x => (PySem.W.tabIn K x).map fun p => (p.2, x ++ ".<locals>." ++ "<lambda>")
def csOf (names : List Str) (K : PySem.W.Frag) : List (Addr × Addr) := names.filterMap fun x => PySem.W.tabIn K x
theorem tt_mem {K : PySem.W.Frag} {names : List Str} {x : Str} {c P : Addr} (h : PySem.W.tabIn K x = some (c, P)) (hx : x ∈ names) : (P, x ++ ".<locals>." ++ "<lambda>") ∈ ttOf K names :=
  List.mem_filterMap.mpr ⟨x, hx, by rw [h]; rfl⟩
def ttB (K : PySem.W.Frag) (names : List Str) (P : Addr) (y : Str) : Bool := (ttOf K names).all fun q => !(q.1 == P) || decide (q.2 = y)
theorem tt_un {K : PySem.W.Frag} {names : List Str} {P : Addr} {y : Str} (h : ttB K names P y = true) : ∀ q ∈ ttOf K names, q.1 = P → q.2 = y := fun q hq e => by
  have z := List.all_eq_true.mp h q hq
  rw [e] at z
  simpa using z
theorem cs_tt {names : List Str} {K : PySem.W.Frag} : ∀ p ∈ ttOf K names, ∃ q ∈ csOf names K, q.2 = p.1 := fun p hp => by
  obtain ⟨x, hx, e⟩ := List.mem_filterMap.mp hp
  rw [Option.map_eq_some_iff] at e
  obtain ⟨q, hq, rfl⟩ := e
  exact ⟨q, List.mem_filterMap.mpr ⟨x, hx, hq⟩, rfl⟩
/-- THE END of a law in whose defs lambdas are made (names) -/
theorem law_walkN {l : PySem.W.OpenLaw} {n k : Nat} {q : Program} {loose : List Str} {XP : (Str → Option Value) → Heap → Prop} {YP : World → Heap → Prop} {d : DefRec} {K : Params → PySem.W.Frag} {sp : PySem.W.Frag → Sp} {x : Str} (names : List Str)
    (hn : l.most = some n) (hn2 : n ≤ sizeLine) (hdf : d.params.defaults = []) (hr : Room k callerA) (hY : ∀ (w : World) (h : Heap), YP w h → (K w.params).In h)
    (hq : (names.all fun x => ((recsOf q).find? fun e => e.name == x).isSome) = true)
    (hl : ∀ w : World, ((csOf names (K w.params)).all fun p => ((K w.params).lookup p.2).isNone) = true)
    (hF : ∀ (w : World) (mg : Str → Option Value) (fa : Addr) (h : Heap), (K w.params).In h → h.Ns mainGlobals mg → mg d.name = some (.ref fa) →
      ∃ fd : FuncData, (∀ (s : Shared) (u : Value), BindsTo s fd ⟨[u], []⟩ [(x, u)]) ∧
        ∀ base : Heap, (K w.params).In base → base.Ns mainGlobals mg → (∀ x ∈ names, ∀ c P, PySem.W.tabIn (K w.params) x = some (c, P) → LamX.TabB base mg c P) → FnG l.prog w (K w.params) mg base k fa fd [x] (sp (K w.params)))
    (hsp : ∀ (K : PySem.W.Frag) (H : Hp) (a : Addr) (ns : List Int), ns.length ≤ n → (∀ p ∈ csOf names K, H p.2 = some (.tbl #[])) → SqL K H a (ns.map V.int) → sp K [.ref a] H (fun v _ => v = .bl true) fun _ _ _ => False) :
    PySem.W.WalkO q loose XP YP l.row.toRowW d [] (fun f vs => PySem.call f vs) := by
  refine law_walk (x := x) (cs := csOf names) hn hn2 hdf hr hY (fun w mg fa h hK hm hf Tb => ?_) hsp
  obtain ⟨fd, hb, hF⟩ := hF w mg fa h hK hm hf
  refine ⟨fd, fun p hp => ?_, hb, fun base h1 h2 h3 => hF base h1 h2 fun x hx c P ht => h3 (c, P) (List.mem_filterMap.mpr ⟨x, hx, ht⟩)⟩
  have hnone := List.all_eq_true.mp (hl w) p hp
  obtain ⟨x, hx, e⟩ := List.mem_filterMap.mp hp
  obtain ⟨dd, hd⟩ := Option.isSome_iff_exists.mp (List.all_eq_true.mp hq x hx)
  obtain ⟨z1, z2⟩ := Tb x dd p.1 p.2 hd e
  exact ⟨z2, Option.isNone_iff_eq_none.mp hnone, z1⟩
/-- defaults -/
theorem binds_of {K : PySem.W.Frag} {x qual : Str} {st : Stmt} {dvs : List V} {f : Addr} {fd : FuncData} {ps : List Str} (F : FunD K x qual (defArgs st) (defBody st) (defScope st) dvs [] f fd) (n j : Nat) (hd : dvs ≠ []) (hn : n + (dvs.length - j) = ps.length)
    (h : ∀ (T : Addr) (kV doc pm : Value) (an : Option Addr) (cdv ct : Value) (us its : List Value), us.length = n → its.length = dvs.length →
      ∃ k, bindArgs (PySem.W.fnOf x qual (defArgs st) (defBody st) (defScope st) (.ref T) kV doc pm an cdv ct) ⟨us, []⟩ = seqItems? (.ref T) >>= k ∧ k (some its.toArray) = pure (ps.zip (us ++ its.drop j))) : ∃ ds, Vals (dvs.drop j) ds ∧ Binds K fd ps ds := F.binds1 n j hd hn h
theorem kbinds_of {K : PySem.W.Frag} {x qual : Str} {st : Stmt} {dvs : List V} {f : Addr} {fd : FuncData} {ps ks : List Str} {pm : List Nat} (F : FunD K x qual (defArgs st) (defBody st) (defScope st) dvs [] f fd) (hd : dvs ≠ [])
    (h : ∀ (T : Addr) (kV doc pm' : Value) (an : Option Addr) (cdv ct : Value) (u : Value) (its ws : List Value), its.length = dvs.length → ws.length = ks.length →
      ∃ k, bindArgs (PySem.W.fnOf x qual (defArgs st) (defBody st) (defScope st) (.ref T) kV doc pm' an cdv ct) ⟨[u], ks.zip ws⟩ = seqItems? (.ref T) >>= k ∧ k (some its.toArray) = pure (ps.zip (u :: permL pm ws))) : KwBindsS K fd ps ks pm := by
  obtain ⟨oc, od, dV, kV, doc, pm', an, cdv, ct, osl, rfl, lk, hcd, hD, hK⟩ := F.ex
  rcases hD with ⟨e, _⟩ | ⟨_, T, o, its, m, rfl, lT, oT, rT⟩
  · exact absurd e hd
  · intro s u ws X l2
    obtain ⟨k, e1, e2⟩ := h T kV doc pm' an cdv ct u its ws rT.length.symm l2
    refine BindsTo.of_looks fun M => ?_
    rw [e1]
    exact looks_items X lT oT (.of_pure e2)
theorem funD_V {K : PySem.W.Frag} {x qual : Str} {st : Stmt} {dvs : List V} {kws : List (Str × V)} {f : Addr} {fd : FuncData} (F : FunD K x qual (defArgs st) (defBody st) (defScope st) dvs kws f fd) : FunV K x qual st f fd := by
  obtain ⟨oc, od, dV, kV, doc, pm, an, cdv, ct, osl, e, l, c, _, _⟩ := F.ex
  exact ⟨⟨oc, od, dV, kV, doc, pm, an, cdv, ct, osl, e, l, c⟩, F.kp⟩
theorem hear_calls {fs : Nat → Option Fn} {F : Fn} {k f : Nat} {o : D} (hF : fs f = some F) (hl : F.lam = true) (h : calls fs k f [.fz o] ≠ .bad) : calls fs k f [.fz o] = finR [] (exs (askCl o (calls fs (k - 1))) F.body (lamE F.n)) := by
  cases k with
  | zero => exact absurd rfl h
  | succ k =>
    show (match fs f with | some F => _ | none => _) = _
    rw [hF]
    show (match F.lam with | false => _ | true => _) = _
    rw [hl]
    rfl
def isbB (K : PySem.W.Frag) (cs : List Addr) : Bool := tys.all fun t => cs.all fun C => decide (PySem.W.kitOne K (.ref C) (.type t) = some false)
theorem isb_of {X : Cx} {T : Tbl} {l : List Addr} {t : String} (h : isbB X.K l = true) (ht : t ∈ tys) (hl : ∀ c C, T.cn c = some C → C ∈ l ∧ (T.ec c = true → ExcC X.K C) ∧ (T.ec c = false → Cls X.K C ∧ cgB X.K C = true)) : IsB X T (.type t) := by
  have h2 := List.all_eq_true.mp h t ht
  refine ⟨fun c C hc he => ?_, fun c C hc he => ?_⟩
  · obtain ⟨m, x, _⟩ := hl c C hc
    exact ⟨x he, of_decide_eq_true (List.all_eq_true.mp h2 _ m)⟩
  · obtain ⟨m, _, x⟩ := hl c C hc
    obtain ⟨x1, x2⟩ := x he
    unfold cgB at x2
    simp only [Bool.and_eq_true, decide_eq_true_eq] at x2
    exact ⟨of_decide_eq_true (List.all_eq_true.mp h2 _ m), x1, x2.1, x2.2.1, x2.2.2.1, x2.2.2.2⟩
end PP
end

section
set_option maxHeartbeats 1000000
/-! More that is walked: enumerate, zip. -/
namespace PP
open PySem L2
theorem enumD_get : ∀ (i k : Nat) (ds : List D), (enumD k ds)[i]? = ds[i]?.map fun d => D.tup [.int ((k + i : Nat) : Int), d]
  | i, k, [] => by simp [enumD]
  | 0, k, d :: r => by simp [enumD]
  | i + 1, k, d :: r => by
    rw [enumD, List.getElem?_cons_succ, List.getElem?_cons_succ, enumD_get i (k + 1) r]
    rw [show k + 1 + i = k + (i + 1) by omega]
theorem enumD_len : ∀ (k : Nat) (ds : List D), (enumD k ds).length = ds.length
  | k, [] => rfl
  | k, d :: r => by rw [enumD, List.length_cons, enumD_len, List.length_cons]
theorem RepAll.get2 {T : Tbl} {H : Hp} : ∀ {ds : List D} {vs : List V} {i : Nat} {d : D}, RepAll T H ds vs → ds[i]? = some d → ∃ v, vs[i]? = some v ∧ Rep T H d v
  | [], _, _, _, _, h => by simp at h
  | d :: ds, vs, 0, e, hr, h => by
    simp only [RepAll] at hr
    obtain ⟨v, r, rfl, h1, _⟩ := hr
    simp only [List.getElem?_cons_zero, Option.some.injEq] at h
    subst h
    exact ⟨v, rfl, h1⟩
  | d :: ds, vs, i + 1, e, hr, h => by
    simp only [RepAll] at hr
    obtain ⟨v, r, rfl, _, h2⟩ := hr
    rw [List.getElem?_cons_succ] at h
    obtain ⟨w, hw, rw'⟩ := RepAll.get2 h2 h
    exact ⟨w, by rw [List.getElem?_cons_succ]; exact hw, rw'⟩
/-- a new pair stands -/
theorem rep_pair {T : Tbl} {G0 H H' : Hp} {b : Addr} {dx dy : D} {x y : V} (e : Ext G0 H) (hn : H b = none) (hH : H' = upd H b (.tup [x, y])) (hx : Rep T G0 dx x) (hy : Rep T G0 dy y) : Gr T G0 H (upd G0 b (.tup [x, y])) H' ∧ Rep T (upd G0 b (.tup [x, y])) (.tup [dx, dy]) (.ref b) := by
  subst hH
  have h0 : G0 b = none := e.no hn
  have g := Gr.froz (T := T) (o := .tup [x, y]) e hn
  refine ⟨g, ?_⟩
  simp only [Rep, RepAll]
  exact ⟨b, [x, y], rfl, .inl (.inl upd_same), x, [y], rfl, Rep.mono g.e0 _ _ hx, y, [], rfl, Rep.mono g.e0 _ _ hy, rfl⟩
theorem wk_enum {T : Tbl} {G : Hp} {ds : List D} {xs : List V} {a : Addr} (hs : SqL T.K G a xs) (hr : RepAll T G ds xs) : Wk T G (enumD 0 ds) (Ite T.K a) := by
  refine ⟨fun i H0 H d e0 e hd => ?_, fun i H e hi => ?_⟩
  · rw [enumD_get] at hd
    cases hq : ds[i]? with
    | none => rw [hq] at hd; cases hd
    | some d' =>
      rw [hq] at hd
      cases hd
      obtain ⟨x, hx, rx⟩ := RepAll.get2 hr hq
      have hsH : SqL T.K H a xs := (e0.tr e).sqL hs
      refine ⟨⟨xs, x, hsH, hx⟩, fun v H' hy => ?_⟩
      obtain ⟨b, x', rfl, hn, hH, hx'⟩ := hy
      have : x' = x := by have := hx' xs hsH; rw [hx] at this; exact (Option.some.inj this).symm
      subst this
      have z := rep_pair (T := T) (dx := .int ((0 + i : Nat) : Int)) (dy := d') e hn hH (by rw [Nat.zero_add]; exact r_int _ _ _) (Rep.mono e0 _ _ rx)
      exact ⟨_, z.1, z.2⟩
  · rw [enumD_len] at hi
    exact ⟨xs, e.sqL hs, by rw [hr.len]; exact hi⟩
/-- enumerate over a tuple: its pairs -/
def IteT (K : PySem.W.Frag) (a : Addr) : L2.It :=
  ⟨fun i H => ∃ (xs : List V) (x : V), SqT K H a xs ∧ xs[i]? = some x, fun i H v H' => ∃ T x, v = .ref T ∧ H T = none ∧ H' = upd H T (.tup [.int (i : Nat), x]) ∧ ∀ xs, SqT K H a xs → xs[i]? = some x, fun i H => ∃ xs : List V, SqT K H a xs ∧ xs.length ≤ i⟩
theorem wk_enumT {T : Tbl} {G : Hp} {ds : List D} {xs : List V} {a : Addr} (hs : SqT T.K G a xs) (hr : RepAll T G ds xs) : Wk T G (enumD 0 ds) (IteT T.K a) := by
  refine ⟨fun i H0 H d e0 e hd => ?_, fun i H e hi => ?_⟩
  · rw [enumD_get] at hd
    cases hq : ds[i]? with
    | none => rw [hq] at hd; cases hd
    | some d' =>
      rw [hq] at hd
      cases hd
      obtain ⟨x, hx, rx⟩ := RepAll.get2 hr hq
      have hsH : SqT T.K H a xs := (e0.tr e).sqT hs
      refine ⟨⟨xs, x, hsH, hx⟩, fun v H' hy => ?_⟩
      obtain ⟨b, x', rfl, hn, hH, hx'⟩ := hy
      have : x' = x := by have := hx' xs hsH; rw [hx] at this; exact (Option.some.inj this).symm
      subst this
      have z := rep_pair (T := T) (dx := .int ((0 + i : Nat) : Int)) (dy := d') e hn hH (by rw [Nat.zero_add]; exact r_int _ _ _) (Rep.mono e0 _ _ rx)
      exact ⟨_, z.1, z.2⟩
  · rw [enumD_len] at hi
    exact ⟨xs, e.sqT hs, by rw [hr.len]; exact hi⟩
open PySem.Spec PyProof.Rows in
theorem turn_enumT {P : Program} {w : World} {K : PySem.W.Frag} {elts : List Expr} {kk : Nat} {tpos : Pos} (a e it : Addr) :
    Turn P w K (.Tuple elts kk tpos) (IteT K a) [e, it] e (fun i h => (∃ old, IsEnum h e it ((i : Nat) : Int) old) ∧ h.IsTupleIter it a i ∧ e ≠ it) where
  mem := by simp
  obj := fun i h st b hb => by
    obtain ⟨⟨old, he⟩, ⟨o, ho, hc, hd⟩, _⟩ := st
    have e' : b = e ∨ b = it := by simpa using hb
    rcases e' with z | z
    · rw [z]; exact ⟨_, he, fun v q => nomatch q⟩
    · rw [z]; exact ⟨o, ho, fun v q => by rw [hd] at q; cases q⟩
  keep := fun i h h' st k => let ⟨⟨old, he⟩, hi, hne⟩ := st; ⟨⟨old, k e (by simp) _ he⟩, hi.at fun o q => k it (by simp) o q, hne⟩
  item := by
    intro X hP hw hK hc i pins s σ H E I hf st hg
    subst hP hw hK
    obtain ⟨⟨old, he⟩, hit, hne⟩ := st
    obtain ⟨xs, x, hq, hx⟩ := hg
    obtain ⟨its, rv, p, hz⟩ := I.tuple hq
    obtain ⟨u, hu, ru⟩ := rv.get hx
    have hel : e < s.heap.objs.size := Heap.lt_size he
    have hil : it < s.heap.objs.size := by obtain ⟨_, q, _⟩ := hit; exact Heap.lt_size q
    have hta : a ≠ it := fun z => by
      obtain ⟨o1, q1, q2, q3⟩ := hit
      obtain ⟨o2, r1, r2, n, r3⟩ := p
      rw [z, q1] at r1
      cases r1
      rw [q3] at r3
      cases r3
    have hea : e ≠ a := fun z => by
      obtain ⟨o2, r1, r2, n, r3⟩ := p
      have he' : s.heap.get? e = some _ := he
      rw [z, r1] at he'
      cases he'
      cases r3
    have hin1 : (X.A.in1).handled = none := I.ok.hd hc
    refine wpAny_pyNext_enum_itemD (Draws.tuple hin1 it a hta its.toArray) he ⟨hit, p⟩ (by have := (List.getElem?_eq_some_iff.mp hu).1; simpa using this) hne (by simp [hne, hea]) fun u' h' tk hu' ho st' hT hsz hk => ?_
    have : u' = u := by
      have z : its[i]? = some u' := by simpa using hu'
      rw [hu] at z; exact (Option.some.inj z).symm
    subst this
    refine ⟨_, rfl, wpAny_letOwnedTupleGo_enum (s := { s with heap := h', toks := tk + 1 }) ho fun h'' he' sb => ?_⟩
    have hT2 : h''.get? s.heap.objs.size = some { cls := .type "tuple", data := .seq #[.int i tk, u'] } := (sb.2 _ (Nat.ne_of_gt hel)).trans hT
    have new : ObjOk X.prog X.w (upd H s.heap.objs.size (.tup [.int (i : Nat), x])) h'' s.heap.objs.size (.tup [.int (i : Nat), x]) :=
      ⟨by show 2 ≤ sizeLine; decide, [.int i tk, u'], .cons ⟨_, rfl⟩ (.cons ru .nil), ⟨_, hT2, rfl, _, rfl⟩⟩
    have I1 : Inv X pins σ (upd H s.heap.objs.size (.tup [.int (i : Nat), x])) { s with heap := h'', toks := tk + 1 } :=
      I.turnedNew (ch := [e, it]) (fun b ob hb q => (sb.2 b (fun z => hb (by simp [z]))).trans (hk b ob (fun z => hb (by simp [z])) (fun z => hb (by simp [z])) q)) hf (Nat.le_refl _) new
    refine ⟨.ref s.heap.objs.size, _, I1, rfl, ⟨_, x, rfl, I.hok.fresh (Nat.le_refl _), rfl, fun ys hy => by rw [I.tuple_inj hy hq]; exact hx⟩, ⟨⟨u', ?_⟩, st'.1.at fun o q => (sb.2 it (Ne.symm hne)).trans q, hne⟩, fun b hb => ?_⟩
    · have e1 : ((i + 1 : Nat) : Int) = (i : Int) + 1 := by omega
      rw [e1]; exact he'
    · have hb' : b < s.heap.objs.size := by
        have e' : b = e ∨ b = it := by simpa using hb
        rcases e' with z | z
        · rw [z]; exact hel
        · rw [z]; exact hil
      rw [upd_ne (Nat.ne_of_lt hb')]
      exact (hf b hb).1
  done := by
    intro X hP hw hK hc i pins s σ H E I hf st hg
    subst hP hw hK
    obtain ⟨⟨old, he⟩, hit, hne⟩ := st
    obtain ⟨xs, hq, hx⟩ := hg
    obtain ⟨its, rv, p, hz⟩ := I.tuple hq
    obtain ⟨f0, f1, f2, f3, f4, f5⟩ := hf it (by simp)
    have hl := rv.length
    have hta : a ≠ it := fun z => by
      obtain ⟨o1, q1, q2, q3⟩ := hit
      obtain ⟨o2, r1, r2, n, r3⟩ := p
      rw [z, q1] at r1
      cases r1
      rw [q3] at r3
      cases r3
    have hin1 : (X.A.in1).handled = none := I.ok.hd hc
    have hT : s.TypeIs (.ref e) "enumerate" := ⟨_, he, rfl⟩
    unfold pyNext
    refine wpAny_bind (wpAny_attempt (wpAny_callSpecial?_slot (name := Str.ofString "__next__") hT F.slot_enumerate_next
      (wpAny_call_entry F.slot_enumerate_next hT F.entry_enumerate_next ?_ (F.args_enumerate_next_1 _))))
    show wpAny _ _ (field (.ref e) 2 >>= _) _ _ _
    refine wpAny_bind (wpAny_field he rfl (x := .ref it) rfl ?_)
    refine wpAny_bind (wpAny_nextOf_tuple_end hin1 hit p (by simp; omega) fun h' x he' hx' => ?_)
    obtain ⟨o, ho, hcx⟩ := hx'
    refine wpAny_bind (wpAny_isInstance (T := "StopIteration") (b := true) ⟨o, ho, hcx⟩ isSubtype_stop ?_)
    exact wpAny_pure ⟨rfl, I.turned (t' := s.toks) (fun b o hb q => he' b o hb q) f0 f1 f3 f4 f5⟩
  self := fun A i s Q E st h => let ⟨⟨_, he⟩, _⟩ := st; wpAny_pyIter_enum he h
open PySem.Spec PyProof.Rows in
/-- enumerate(t): its two new cells -/
theorem meets_enum_tup {t : Addr} : Meets (Builtin.«enumerate.__new__» ⟨[.type "enumerate", .ref t], []⟩) (fun _ R s => (∃ items, s.heap.IsTuple t items) ∧
      R (.ok (.ret (.ref (s.heap.push { cls := .type "tuple_iterator", data := .fields #[.ref t, .int 0 0] }).objs.size))) { s with heap := (s.heap.push { cls := .type "tuple_iterator", data := .fields #[.ref t, .int 0 0] }).push { cls := .type "enumerate", data := .fields #[.none, .bool false, .ref s.heap.objs.size, rawInt 0, .none, .none] } }) :=
  .of_wp fun prog w A R s h => by
    obtain ⟨hp, g, d, tk, os⟩ := s; obtain ⟨⟨items, h1⟩, h⟩ := h
    have hsub := sub_enumerate
    have q1 : ∀ {A' : Around} {E : Value → Shared → Prop} {Q : Value → Shared → Prop}, Q (.ref hp.objs.size) ⟨hp.push { cls := .type "tuple_iterator", data := .fields #[.ref t, .int 0 0] }, g, d, tk, os⟩ → wpAny (model prog w) A' (pyIter (.ref t)) Q E ⟨hp, g, d, tk, os⟩ :=
      fun q => wpAny_pyIter_tuple h1 q
    wp_walk using q1
    refine wpAny_stack_any fun st => wpAny_pure ?_
    split
    · rename_i c _ _ _ _ _
      cases (c == Value.type "enumerate")
      · wp_walk using q1
        exact ⟨_, rfl, h⟩
      · wp_walk using q1
        exact ⟨_, rfl, h⟩
    · wp_walk using q1
      exact ⟨_, rfl, h⟩
open PySem.Spec PyProof.Rows in
theorem call_enum_tup {prog : Program} {w : World} {A : Around} {E : Value → Shared → Prop} {s : Shared} {t : Addr} {items : Array Value} {Q : Value → Shared → Prop} (hL : s.heap.IsTuple t items)
    (h : ∀ h', IsEnum h' (s.heap.objs.size + 1) s.heap.objs.size 0 .none → h'.IsTupleIter s.heap.objs.size t 0 → h'.objs.size = s.heap.objs.size + 2 →
      (∀ b o, s.heap.get? b = some o → h'.get? b = some o) → Q (.ref (s.heap.objs.size + 1)) { s with heap := h' }) :
    wpAny (model prog w) A (call (.type "enumerate") [.ref t]) Q E s := by
  refine callType_new F.called_enumerate (by decide) (F.typeCall_enumerate_1 _) (F.newCall_enumerate_1 _) (fun obj => F.args_object_init_2 obj _) F.entry_enumerate_new
    meets_enum_tup ⟨⟨items, hL⟩, ?_⟩
  have hz : (s.heap.push { cls := .type "tuple_iterator", data := .fields #[.ref t, .int 0 0] }).objs.size = s.heap.objs.size + 1 := Heap.size_push ..
  show _ ∧ _
  rw [hz]
  have he : IsEnum ((s.heap.push { cls := .type "tuple_iterator", data := .fields #[.ref t, .int 0 0] }).push
      { cls := .type "enumerate", data := .fields #[.none, .bool false, .ref s.heap.objs.size, rawInt 0, .none, .none] }) (s.heap.objs.size + 1) s.heap.objs.size 0 .none := by
    have := Heap.get?_push_size (s.heap.push { cls := .type "tuple_iterator", data := .fields #[.ref t, .int 0 0] })
      (o := { cls := .type "enumerate", data := .fields #[.none, .bool false, .ref s.heap.objs.size, rawInt 0, .none, .none] }) rfl
    rw [hz] at this; exact this
  refine ⟨⟨_, he, rfl⟩, h _ he ⟨_, Heap.get?_push_of_some _ (Heap.get?_push_size _ rfl), rfl, rfl⟩ (by rw [Heap.size_push, hz]) fun b o x => Heap.get?_push_of_some _ (Heap.get?_push_of_some _ x)⟩
section
variable {X : Cx} {C : Ctx} {W : WX} {cl : CallF} {e e2 l : Expr} {e' e2' : Ex}
open PySem.Spec PyProof.Rows
def iEnumA (K : PySem.W.Frag) (ta : TA) : TI := fun σ H R => ta σ H fun vs H1 => ∃ a xs, vs = [.ref a] ∧ ((SqL K H1 a xs ∧ R (Ite K a) H1) ∨ (SqT K H1 a xs ∧ R (IteT K a) H1))
theorem pi_enumA {ta : TA} {p pos tpos : Pos} {elts : List Expr} {kk : Nat} (hg : Gl X "enumerate") (hm : X.mg "enumerate" = none) (ha : PA X [e] ta) (hs : starEach [e] X.env = [(false, eval e X.env)] := by rfl) :
    PI X (.Tuple elts kk tpos) (.Call (.Name "enumerate" p) [e] [] pos) (iEnumA X.K ta) := by
  refine ⟨fun pins s σ H R I h => ?_⟩
  refine Call_ (ld_blt I hg hm boot_enumerate (PyProof.Rows.callWith_type1 (thn (ha.run pos pins s σ H _ I h) fun us s1 ⟨vs, H1, I1, r1, q1⟩ => ?_) hs rfl))
  obtain ⟨a, xs, ex, q⟩ := q1
  subst ex
  cases r1 with
  | cons r rr =>
    cases rr
    cases r
    have fp : ∀ b ∈ [s1.heap.objs.size + 1, s1.heap.objs.size], FpOk X pins H1 b := fun b hb => by
      have hle : s1.heap.objs.size ≤ b := by
        have e' : b = s1.heap.objs.size + 1 ∨ b = s1.heap.objs.size := by simpa using hb
        rcases e' with z | z <;> omega
      exact I1.fpOk hle (I1.hok.fresh hle)
    rcases q with ⟨hq, q⟩ | ⟨hq, q⟩
    · obtain ⟨its, rv, p', hz⟩ := I1.list hq
      refine call_enumerate_list p'.isList fun h' he hit hsz hk => wpAny_pyIter_enum he ?_
      have I2 : Inv X pins σ H1 { s1 with heap := h' } := I1.kept (t' := s1.toks) hk
      exact ⟨s1.heap.objs.size + 1, [s1.heap.objs.size + 1, s1.heap.objs.size], _, _, H1, rfl, I2, turn_enum a (s1.heap.objs.size + 1) s1.heap.objs.size, ⟨⟨.none, he⟩, hit, Nat.succ_ne_self _⟩, fp, q⟩
    · obtain ⟨its, rv, p', hz⟩ := I1.tuple hq
      refine call_enum_tup p' fun h' he hit hsz hk => wpAny_pyIter_enum he ?_
      have I2 : Inv X pins σ H1 { s1 with heap := h' } := I1.kept (t' := s1.toks) hk
      exact ⟨s1.heap.objs.size + 1, [s1.heap.objs.size + 1, s1.heap.objs.size], _, _, H1, rfl, I2, turn_enumT a (s1.heap.objs.size + 1) s1.heap.objs.size, ⟨⟨.none, he⟩, hit, Nat.succ_ne_self _⟩, fp, q⟩
/-- enumerate(e) -/
theorem i_enum {p pos tpos : Pos} {elts : List Expr} {kk : Nat} (hK : X.K = C.T.K) (hg : Gl X "enumerate") (hm : X.mg "enumerate" = none) (h : PE X l (tI C W cl e')) (he : starEach [l] X.env = (false, eval l X.env) :: starEach [] X.env := by rfl) (hs : starEach [l] X.env = [(false, eval l X.env)] := by rfl) :
    PI X (.Tuple elts kk tpos) (.Call (.Name "enumerate" p) [l] [] pos) (tItr C W cl (.enum e')) :=
  piI (pi_enumA hg hm (pa_cons h pa_nil he) hs) fun σ H R ⟨H0, env, S, q⟩ => by
    simp only [itD] at q
    refine seqI S q fun u env1 x H1 H1' e1 S1 u1 q1 => ?_
    obtain ⟨⟨d, env2⟩, hf, q1⟩ := q1.orB
    obtain ⟨xs, hx, q2⟩ := q1.orB
    obtain ⟨H2, e2, S2, r⟩ := S1.take u1 hf
    have k := q2 H2 H1' e2 S2
    cases d with
    | lst ds =>
      cases hx
      simp only [Rep] at r
      obtain ⟨a, ys, rfl, r1, r2⟩ := r
      exact ⟨a, ys, rfl, .inl ⟨.inl (S2.ex.rd r1), hK ▸ k _ (wk_enum (.inl r1) r2)⟩⟩
    | kst ds =>
      cases hx
      simp only [Rep] at r
      obtain ⟨a, ys, rfl, r1, r2⟩ := r
      exact ⟨a, ys, rfl, .inl ⟨hK ▸ S2.ex.sqL r1, hK ▸ k _ (wk_enum r1 r2)⟩⟩
    | tup ds =>
      cases hx
      simp only [Rep] at r
      obtain ⟨a, ys, rfl, r1, r2⟩ := r
      exact ⟨a, ys, rfl, .inr ⟨hK ▸ S2.ex.sqT r1, hK ▸ k _ (wk_enumT r1 r2)⟩⟩
    | _ => simp [itemsD] at hx
/-! ### zip -/
theorem zip_get {α : Type} : ∀ (ds es : List α) (i : Nat) (p : α × α), (ds.zip es)[i]? = some p → ds[i]? = some p.1 ∧ es[i]? = some p.2 := fun ds es i p h => by
  rw [List.getElem?_zip_eq_some] at h
  exact h
theorem wk_zip {T : Tbl} {G : Hp} {ds es : List D} {xs ys : List V} {a b : Addr} (hs : SqL T.K G a xs) (hr : RepAll T G ds xs) (hs' : SqL T.K G b ys) (hr' : RepAll T G es ys) : Wk T G ((ds.zip es).map fun p => D.tup [p.1, p.2]) (Itz T.K a b) := by
  refine ⟨fun i H0 H d e0 e hd => ?_, fun i H e hi => ?_⟩
  · rw [List.getElem?_map] at hd
    cases hq : (ds.zip es)[i]? with
    | none => rw [hq] at hd; cases hd
    | some p =>
      rw [hq] at hd
      cases hd
      obtain ⟨h1, h2⟩ := zip_get _ _ _ _ hq
      obtain ⟨x, hx, rx⟩ := RepAll.get2 hr h1
      obtain ⟨y, hy, ry⟩ := RepAll.get2 hr' h2
      have hsH : SqL T.K H a xs := (e0.tr e).sqL hs
      have hsH' : SqL T.K H b ys := (e0.tr e).sqL hs'
      refine ⟨⟨xs, ys, x, y, hsH, hsH', hx, hy⟩, fun v H' hv => ?_⟩
      obtain ⟨b', x', y', rfl, hn, hH, hx', hy'⟩ := hv
      have ex : x' = x := by have := hx' xs hsH; rw [hx] at this; exact (Option.some.inj this).symm
      have ey : y' = y := by have := hy' ys hsH'; rw [hy] at this; exact (Option.some.inj this).symm
      subst ex ey
      have z := rep_pair (T := T) (dx := p.1) (dy := p.2) e hn hH (Rep.mono e0 _ _ rx) (Rep.mono e0 _ _ ry)
      exact ⟨_, z.1, z.2⟩
  · rw [List.length_map, List.length_zip] at hi
    exact ⟨xs, ys, e.sqL hs, e.sqL hs', by rw [hr.len, hr'.len]; omega⟩
theorem wk_zipT {T : Tbl} {G : Hp} {ds es : List D} {xs ys : List V} {a b : Addr} (hs : SqT T.K G a xs) (hr : RepAll T G ds xs) (hs' : SqT T.K G b ys) (hr' : RepAll T G es ys) : Wk T G ((ds.zip es).map fun p => D.tup [p.1, p.2]) (RZ.ItzT T.K a b) := by
  refine ⟨fun i H0 H d e0 e hd => ?_, fun i H e hi => ?_⟩
  · rw [List.getElem?_map] at hd
    cases hq : (ds.zip es)[i]? with
    | none => rw [hq] at hd; cases hd
    | some p =>
      rw [hq] at hd
      cases hd
      obtain ⟨h1, h2⟩ := zip_get _ _ _ _ hq
      obtain ⟨x, hx, rx⟩ := RepAll.get2 hr h1
      obtain ⟨y, hy, ry⟩ := RepAll.get2 hr' h2
      have hsH : SqT T.K H a xs := (e0.tr e).sqT hs
      have hsH' : SqT T.K H b ys := (e0.tr e).sqT hs'
      refine ⟨⟨xs, ys, x, y, hsH, hsH', hx, hy⟩, fun v H' hv => ?_⟩
      obtain ⟨b', x', y', rfl, hn, hH, hx', hy'⟩ := hv
      have ex : x' = x := by have := hx' xs hsH; rw [hx] at this; exact (Option.some.inj this).symm
      have ey : y' = y := by have := hy' ys hsH'; rw [hy] at this; exact (Option.some.inj this).symm
      subst ex ey
      have z := rep_pair (T := T) (dx := p.1) (dy := p.2) e hn hH (Rep.mono e0 _ _ rx) (Rep.mono e0 _ _ ry)
      exact ⟨_, z.1, z.2⟩
  · rw [List.length_map, List.length_zip] at hi
    exact ⟨xs, ys, e.sqT hs, e.sqT hs', by rw [hr.len, hr'.len]; omega⟩
theorem i_zip {e1 : Expr} {a' b' : Ex} {p pos tpos : Pos} {elts : List Expr} {kk : Nat} (hK : X.K = C.T.K) (hg : Gl X "zip") (hm : X.mg "zip" = none) (h1 : PE X l (tI C W cl a')) (h2 : PE X e1 (tI C W cl b'))
    (he : starEach [l, e1] X.env = (false, eval l X.env) :: starEach [e1] X.env := by rfl) (he2 : starEach [e1] X.env = (false, eval e1 X.env) :: starEach [] X.env := by rfl) (hpl : (backTo pos (starEach [e1] X.env)).any (·.1) = false := by rfl) :
    PI X (.Tuple elts kk tpos) (.Call (.Name "zip" p) [l, e1] [] pos) (tItr C W cl (.zip a' b')) :=
  piI (RZ.pi_zipA hg hm (pa_cons h1 (pa_cons h2 pa_nil he2) he) he hpl) fun σ H R ⟨H0, env, S, q⟩ => by
    simp only [itD] at q
    refine seqI S q fun u env1 x H1 H1' e1 S1 u1 q1 => ?_
    obtain ⟨⟨d, env2⟩, hf, q1⟩ := q1.orB
    obtain ⟨H2, e2, S2, r⟩ := S1.take u1 hf
    refine seqI S2 (RQ.mono e2 q1) fun w env3 y H3 H3' e3 S3 u3 q3 => ?_
    obtain ⟨⟨d', env4⟩, hf', q3⟩ := q3.orB
    obtain ⟨xs, hx, q4⟩ := q3.orB
    obtain ⟨H4, e4, S4, r'⟩ := S3.take u3 hf'
    have k := q4 H4 H3' e4 S4
    have r := Rep.mono (e3.tr e4) _ _ r
    have lists : ∀ {xs ys : List D}, listD d = some xs → listD d' = some ys → (∀ J, Wk C.T H4 ((xs.zip ys).map fun p => D.tup [p.1, p.2]) J → R J H3') → ∃ a b vs ws, [x, y] = [V.ref a, V.ref b] ∧ ((SqL X.K H3' a vs ∧ SqL X.K H3' b ws ∧ R (Itz X.K a b) H3') ∨ (SqT X.K H3' a vs ∧ SqT X.K H3' b ws ∧ R (RZ.ItzT X.K a b) H3')) := by
      intro xs ys h h' kk
      have sq : ∀ {d : D} {xs : List D} {v : V}, listD d = some xs → Rep C.T H4 d v → ∃ a vs, v = .ref a ∧ SqL C.T.K H4 a vs ∧ RepAll C.T H4 xs vs := by
        intro d xs v h r
        cases d with
        | lst ds => cases h; simp only [Rep] at r; obtain ⟨a, ys, rfl, r1, r2⟩ := r; exact ⟨a, ys, rfl, .inl r1, r2⟩
        | kst ds => cases h; simp only [Rep] at r; obtain ⟨a, ys, rfl, r1, r2⟩ := r; exact ⟨a, ys, rfl, r1, r2⟩
        | _ => cases h
      obtain ⟨a, vs, rfl, s1, t1⟩ := sq h r
      obtain ⟨b, ws, rfl, s2, t2⟩ := sq h' r'
      exact ⟨a, b, vs, ws, rfl, .inl ⟨hK ▸ S4.ex.sqL s1, hK ▸ S4.ex.sqL s2, hK ▸ kk _ (wk_zip s1 t1 s2 t2)⟩⟩
    by_cases ht : ∃ ds es, d = .tup ds ∧ d' = .tup es
    · obtain ⟨ds, es, rfl, rfl⟩ := ht
      cases hx
      simp only [Rep] at r r'
      obtain ⟨a, vs, rfl, s1, t1⟩ := r
      obtain ⟨b, ws, rfl, s2, t2⟩ := r'
      exact ⟨a, b, vs, ws, rfl, .inr ⟨hK ▸ S4.ex.sqT s1, hK ▸ S4.ex.sqT s2, hK ▸ k _ (wk_zipT s1 t1 s2 t2)⟩⟩
    · have hz : zipD d d' = (match listD d, listD d' with | some xs, some ys => some ((xs.zip ys).map fun p => D.tup [p.1, p.2]) | _, _ => none) := by
        cases d <;> cases d' <;> first | rfl | exact absurd ⟨_, _, rfl, rfl⟩ ht
      simp only [hz] at hx
      cases h : listD d with
      | none => rw [h] at hx; cases hx
      | some xs1 =>
        cases h' : listD d' with
        | none => rw [h, h'] at hx; cases hx
        | some ys1 =>
          rw [h, h'] at hx
          cases hx
          exact lists h h' k
end
end PP
end

section
set_option maxHeartbeats 1000000
/-! Stars: displays, calls, defs with *args. -/
namespace PP
open PySem L2
section
variable {X : Cx} {C : Ctx} {W : WX} {cl : CallF} {e a b c : Expr} {es : List Expr} {e' a' b' c' : Ex} {es' : Exs} {pos p : Pos}
theorem f_star (hK : X.K = C.T.K) (ha : PE X e (tI C W cl e')) (hr : PA X es (tAF C W cl es')) (hs : starEach (.Starred e p :: es) X.env = (true, eval e X.env) :: starEach es X.env := by rfl) : PA X (.Starred e p :: es) (tAF C W cl (.star e' es')) :=
  paI (StX.pa_star ha hr hs) fun σ H Q ⟨H0, env, S, q⟩ => by
    simp only [evF] at q
    refine seqI S q fun u env1 x H1 H1' e1 S1 u1 q1 => ?_
    obtain ⟨⟨d, env2⟩, hf, q1⟩ := q1.orB
    obtain ⟨xs, hx, q1⟩ := q1.orB
    obtain ⟨H2, e2, S2, r2⟩ := S1.take u1 hf
    have it : ∃ a ys, x = .ref a ∧ (SqT X.K H1' a ys ∨ SqL X.K H1' a ys) ∧ RepAll C.T H2 xs ys := by
      cases d with
      | lst ds => cases hx; simp only [Rep] at r2; obtain ⟨a, ys, rfl, r1, r2⟩ := r2; exact ⟨a, ys, rfl, .inr (.inl (S2.ex.rd r1)), r2⟩
      | kst ds => cases hx; simp only [Rep] at r2; obtain ⟨a, ys, rfl, r1, r2⟩ := r2; exact ⟨a, ys, rfl, .inr (hK ▸ S2.ex.sqL r1), r2⟩
      | tup ds => cases hx; simp only [Rep] at r2; obtain ⟨a, ys, rfl, r1, r2⟩ := r2; exact ⟨a, ys, rfl, .inl (hK ▸ S2.ex.sqT r1), r2⟩
      | _ => simp [itemsD] at hx
    obtain ⟨a, ys, rfl, hq, rr⟩ := it
    refine ⟨a, ys, rfl, hq, ?_⟩
    have q2 := RQ.mono e2 q1
    refine ⟨H2, env2, S2, ?_⟩
    cases z : evF cl es' env2 with
    | ok ds env3 =>
      simp only [z] at q2
      exact fun H3 H3' e3 S3 vs hv => q2 H3 H3' e3 S3 (ys ++ vs) (RepAll.app (RepAll.mono e3 _ _ rr) hv)
    | exc x env3 => simp only [z] at q2; exact q2
    | bad => simp only [z] at q2; exact q2
end
/-! ### a def that takes any number of arguments -/
def FnGS (P : Program) (w : World) (K : PySem.W.Frag) (mg : Str → Option Value) (base : Heap) (k : Nat) (f : Addr) (sp : Sp) : Prop :=
  ∀ (A : Around) (outer : List PySem.Env) (s : Shared) (H : Hp) (us : List Value) (vs : List V) (Q : VK) (E : XK), A.guards = some [] → Room k A → Env0 P w K mg base A outer s H → Vals vs us → sp vs H Q E →
    codeAny (model P w) A (.call (.ref f) ⟨us, []⟩) (CR (L2.CX P w) outer P w H s Q E) s
def spS (T : Tbl) (cl : CallF) (f : Nat) : Sp := fun vs H Q E => ∃ n, spF T cl f n vs H Q E
theorem FnGS.up {P : Program} {w : World} {K : PySem.W.Frag} {mg : Str → Option Value} {base : Heap} {j k : Nat} {f : Addr} {sp : Sp} (F : FnGS P w K mg base j f sp) (h : j ≤ k) : FnGS P w K mg base k f sp :=
  fun A outer s H us vs Q E hg hr => F A outer s H us vs Q E hg (hr.mono h)
theorem arOk_fz {T : Tbl} {H0 H : Hp} : ∀ {ds : List D} {vs : List V}, RepAll T H0 ds vs → ArOk T H0 H (ds.map .fz) vs
  | [], vs, h => by simp only [RepAll] at h; exact h
  | d :: ds, vs, h => by
    simp only [RepAll] at h
    obtain ⟨v, r, rfl, h1, h2⟩ := h
    exact ⟨v, r, rfl, h1, arOk_fz h2⟩
theorem allFz_map : ∀ ds : List D, allFz (ds.map .fz) = true
  | [] => rfl
  | d :: ds => allFz_map ds
theorem args_fz (env : Env) : ∀ ds : List D, argsOf env (ds.map fun _ => false) (ds.map .d) = some (ds.map .fz)
  | [] => rfl
  | d :: ds => by simp only [List.map_cons, argsOf, args_fz env ds, Option.map_some]
theorem io_fz : ∀ ds : List D, ioSlots (ds.map U.d) = []
  | [] => rfl
  | d :: ds => io_fz ds
theorem run_fz (cl : CallF) (f : Nat) (ds : List D) (env : Env) : runC cl f (ds.map fun _ => false) (ds.map .d) env = match cl f (ds.map .fz) with
  | .ok r _ => .ok r env
  | .exc x _ => .exc x env
  | .bad => .bad := by
  unfold runC
  rw [args_fz]
  simp only [orBad_some, io_fz, dupFree, if_true]
  cases cl f (ds.map .fz) with
  | ok r outs => cases outs <;> rfl
  | exc x outs => cases outs <;> rfl
  | bad => rfl
section
variable {X : Cx} {C : Ctx} {W : WX} {cl : CallF} {e : Expr} {es : List Expr} {es' : Exs} {pos p : Pos}
theorem FnGS.go {k : Nat} {f : Addr} {sp : Sp} {pins : List (Addr × Obj)} {σ : L2.St} {H : Hp} {s : Shared} {Q : VK} {us : List Value} {vs : List V} {E : XK}
    (F : FnGS X.prog X.w X.K X.mg X.base k f sp) (hgd : X.A.guards = some []) (hr : Room k X.A) (tk : Takes X W) (hE : ∀ cls d H', E cls d H' → W cls d σ H')
    (I : Inv X pins σ H s) (r : Vals vs us) (h : sp vs H Q E) : wpAny (model X.prog X.w) X.A (call (.ref f) us) (EP X pins σ Q) X.xe s := by
  refine wpAny_call (codeAny_mono (F X.A X.stack s H us vs Q E hgd hr I.env0 r h) fun res s' hq => ?_)
  cases res with
  | error ee => exact tk _ _ (XE.of_call I hE hq)
  | ok fl =>
    cases fl with
    | ret u => exact I.after hq
    | next => exact hq.elim
    | brk => exact hq.elim
    | cont => exact hq.elim
theorem readV {σ : L2.St} {H : Hp} {Q : VK} {f : Nat} (h : tI C W cl (.callS f es') σ H Q) : tAF C W cl es' σ H fun vs H1 => spS C.T cl f vs H1 Q fun cls d H' => W cls d σ H' := by
  obtain ⟨H0, env, S, q⟩ := h
  simp only [ev] at q
  refine ⟨H0, env, S, ?_⟩
  cases z : evF cl es' env with
  | bad => rw [z] at q; exact q.elim
  | exc x env1 => rw [z] at q; exact q
  | ok ds env1 =>
    rw [z] at q
    simp only [R.bind_ok] at q
    intro H1 H1' e1 S1 vs hv
    refine ⟨ds.length, read_run (us := ds.map .d) (ms := ds.map fun _ => false) S1 (UcOk.app (us := []) (vs := []) hv rfl) (by simp) ?_⟩
    rw [run_fz]
    exact RQ.mono e1 q
/-- f(.., *e) -/
theorem c_callV2 {x : Str} {k f : Nat} {fa : Addr} (F : FnGS X.prog X.w X.K X.mg X.base k fa (spS C.T cl f)) (hgd : X.A.guards = some []) (hr : Room k X.A) (tk : Takes X W)
    (hg : Gl X x) (hm : X.mg x = some (.ref fa)) (hk : PySem.W.keepIn X.K (.ref fa) = true) (ha : PA X (e :: es) (tAF C W cl es')) (hdb : (x == ("__debug__" : Str)) = false := by decide)
    (he : starEach (e :: es) X.env = (false, eval e X.env) :: starEach es X.env := by rfl) (hst : (backTo pos (starEach es X.env)).any (·.1) = true := by rfl) : PE X (.Call (.Name x p) (e :: es) [] pos) (tI C W cl (.callS f es')) := by
  refine peI (t := fun σ H Q => tAF C W cl es' σ H fun vs H1 => spS C.T cl f vs H1 Q fun cls d H' => W cls d σ H') ⟨fun pins s σ H Q I h => ?_⟩ fun σ H Q q => readV q
  refine wpAny_Call_Name_kw (ld_glob I hg hm ?_ hdb)
  refine PySem.W.callWith_S2 (h₀ := X.base) I.ok.mod.kin hk (thn (ha.run pos pins s σ H _ I h) fun us s1 ⟨vs, H1, I1, r, q⟩ => ⟨I1.kIn, ?_⟩) he hst
  exact F.go hgd hr tk (fun _ _ _ z => z) I1 r q
/-- f(a, ..), no star among them, f a def with *args -/
theorem c_callV {x : Str} {k f : Nat} {fa : Addr} (F : FnGS X.prog X.w X.K X.mg X.base k fa (spS C.T cl f)) (hgd : X.A.guards = some []) (hr : Room k X.A) (tk : Takes X W)
    (hg : Gl X x) (hm : X.mg x = some (.ref fa)) (hk : PySem.W.keepIn X.K (.ref fa) = true) (ha : PA X (e :: es) (tAF C W cl es')) (hdb : (x == ("__debug__" : Str)) = false := by decide)
    (he : starEach (e :: es) X.env = (false, eval e X.env) :: starEach es X.env := by rfl) (hpl : (backTo pos (starEach es X.env)).any (·.1) = false := by rfl) : PE X (.Call (.Name x p) (e :: es) [] pos) (tI C W cl (.callS f es')) := by
  refine peI (t := fun σ H Q => tAF C W cl es' σ H fun vs H1 => spS C.T cl f vs H1 Q fun cls d H' => W cls d σ H') ⟨fun pins s σ H Q I h => ?_⟩ fun σ H Q q => readV q
  refine wpAny_Call_Name_kw (ld_glob I hg hm ?_ hdb)
  refine PySem.W.callWith_K (h₀ := X.base) I.ok.mod.kin hk (thn (ha.run pos pins s σ H _ I h) fun us s1 ⟨vs, H1, I1, r, q⟩ => ⟨I1.kIn, ?_⟩) he hpl
  exact F.go hgd hr tk (fun _ _ _ z => z) I1 r q
/-- star first, more behind -/
theorem evalArgs_plain2 {M : Model} {A : Around} {E : Value → Shared → Prop} {s : Shared} {f : Value} {x : Sem Value} {y : Bool × Sem Value} {rest : List (Bool × Sem Value)} {Q : Args → Shared → Prop}
    (h : wpAny M A (spliced ((true, x) :: y :: rest)) (fun vs s' => Q ⟨vs, []⟩ s') E s) : wpAny M A (evalArgs f true ((true, x) :: y :: rest) []) Q E s := by
  unfold evalArgs
  show wpAny M A (spliced ((true, x) :: y :: rest) >>= _) Q E s
  refine wpAny_bind (wpAny_mono h (fun vs s' h' => ?_) fun _ _ x => x)
  refine wpAny_holding ?_
  exact wpAny_bind (wpAny_pure (wpAny_bind (wpAny_pure (wpAny_pure h'))))
theorem callWith_S3 {M : Model} {A : Around} {E : Value → Shared → Prop} {s : Shared} {K : PySem.W.Frag} {env : PySem.Env} {pos : Pos} {f : Value} {first : List Value} {Q : Value → Shared → Prop} {h₀ : Heap} {e e2 : Expr} {rest : List Expr} (_X : K.In h₀) (hk : PySem.W.keepIn K f = true)
    (h : wpAny M A (spliced (backTo pos (starEach (.Starred e p :: e2 :: rest) env))) (fun vs s₁ => K.In s₁.heap ∧ wpAny M A (call f (first ++ vs)) Q E s₁) E s) {y : Bool × Sem Value} {ys : List (Bool × Sem Value)}
    (he : starEach (.Starred e p :: e2 :: rest) env = (true, eval e env) :: y :: ys := by rfl) :
    wpAny M A (callWith pos f first (backTo pos (starEach (.Starred e p :: e2 :: rest) env)) []) Q E s := by
  rw [he] at h ⊢
  exact PySem.W.ks_call rfl (PySem.W.keeps_K hk) (evalArgs_plain2 h)
def tLone (C : Ctx) (W : WX) (cl : CallF) (e' : Ex) (t : L2.St → List V → Hp → VK → Prop) : TE := fun σ H Q => tI C W cl e' σ H fun y H1 => ∃ a xs, y = V.ref a ∧ (SqT C.T.K H1 a xs ∨ SqL C.T.K H1 a xs) ∧ t σ xs H1 Q
theorem readLone {σ : L2.St} {H : Hp} {Q : List V → Hp → Prop} {e' : Ex} (h : tAF C W cl (.star e' .nil) σ H Q) : tI C W cl e' σ H fun y H1 => ∃ a xs, y = V.ref a ∧ (SqT C.T.K H1 a xs ∨ SqL C.T.K H1 a xs) ∧ Q xs H1 := by
  obtain ⟨H0, env, S, q⟩ := h
  simp only [evF] at q
  refine seqI S q fun u env1 x H1 H1' e1 S1 u1 q1 => ?_
  obtain ⟨⟨d, env2⟩, hf, q1⟩ := q1.orB
  obtain ⟨xs, hx, q1⟩ := q1.orB
  obtain ⟨H2, e2, S2, r2⟩ := S1.take u1 hf
  simp only [R.bind_ok, List.append_nil] at q1
  have it : ∃ a ys, x = .ref a ∧ (SqT C.T.K H1' a ys ∨ SqL C.T.K H1' a ys) ∧ RepAll C.T H2 xs ys := by
    cases d with
    | lst ds => cases hx; simp only [Rep] at r2; obtain ⟨a, ys, rfl, r1, r2⟩ := r2; exact ⟨a, ys, rfl, .inr (.inl (S2.ex.rd r1)), r2⟩
    | kst ds => cases hx; simp only [Rep] at r2; obtain ⟨a, ys, rfl, r1, r2⟩ := r2; exact ⟨a, ys, rfl, .inr (S2.ex.sqL r1), r2⟩
    | tup ds => cases hx; simp only [Rep] at r2; obtain ⟨a, ys, rfl, r1, r2⟩ := r2; exact ⟨a, ys, rfl, .inl (S2.ex.sqT r1), r2⟩
    | _ => simp [itemsD] at hx
  obtain ⟨a, ys, rfl, hq, rr⟩ := it
  exact ⟨a, ys, rfl, hq, q1 H2 H1' e2 S2 ys rr⟩
/-- f(*e) -/
theorem c_callV1 {x : Str} {k f : Nat} {fa : Addr} {sp : Pos} {e' : Ex} (hK : X.K = C.T.K) (F : FnGS X.prog X.w X.K X.mg X.base k fa (spS C.T cl f)) (hgd : X.A.guards = some []) (hr : Room k X.A) (tk : Takes X W)
    (hg : Gl X x) (hm : X.mg x = some (.ref fa)) (hk : PySem.W.keepIn X.K (.ref fa) = true) (ha : PE X e (tI C W cl e')) (hdb : (x == ("__debug__" : Str)) = false := by decide)
    (hst : starEach [.Starred e sp] X.env = [(true, eval e X.env)] := by rfl) : PE X (.Call (.Name x p) [.Starred e sp] [] pos) (tI C W cl (.callS f (.star e' .nil))) := by
  refine peI (t := tLone C W cl e' fun σ vs H1 Q => spS C.T cl f vs H1 Q fun cls d H' => W cls d σ H') ⟨fun pins s σ H Q I h => ?_⟩ fun σ H Q q => readLone (readV q)
  refine wpAny_Call_Name_kw (ld_glob I hg hm ?_ hdb)
  refine PySem.W.callWith_S (h₀ := X.base) I.ok.mod.kin hk (thn (ha.run pins s σ H _ I h) fun v s1 ⟨y, H1, I1, ry, a, xs, ey, hxs, q⟩ => ?_) hst
  subst ey
  obtain rfl : v = Value.ref a := ry
  exact StX.star_any I1 (hK ▸ hxs) fun us s2 I2 rv => ⟨I2.kIn, F.go hgd hr tk (fun _ _ _ z => z) I2 rv q⟩
/-- f(*e, .., ..) -/
theorem c_callV3 {x : Str} {k f : Nat} {fa : Addr} {sp : Pos} {e2 : Expr} (F : FnGS X.prog X.w X.K X.mg X.base k fa (spS C.T cl f)) (hgd : X.A.guards = some []) (hr : Room k X.A) (tk : Takes X W)
    (hg : Gl X x) (hm : X.mg x = some (.ref fa)) (hk : PySem.W.keepIn X.K (.ref fa) = true) (ha : PA X (.Starred e sp :: e2 :: es) (tAF C W cl es')) (hdb : (x == ("__debug__" : Str)) = false := by decide) {y : Bool × Sem Value} {ys : List (Bool × Sem Value)}
    (he : starEach (.Starred e sp :: e2 :: es) X.env = (true, eval e X.env) :: y :: ys := by rfl) : PE X (.Call (.Name x p) (.Starred e sp :: e2 :: es) [] pos) (tI C W cl (.callS f es')) := by
  refine peI (t := fun σ H Q => tAF C W cl es' σ H fun vs H1 => spS C.T cl f vs H1 Q fun cls d H' => W cls d σ H') ⟨fun pins s σ H Q I h => ?_⟩ fun σ H Q q => readV q
  refine wpAny_Call_Name_kw (ld_glob I hg hm ?_ hdb)
  refine callWith_S3 (h₀ := X.base) I.ok.mod.kin hk (thn (ha.run pos pins s σ H _ I h) fun us s1 ⟨vs, H1, I1, r, q⟩ => ⟨I1.kIn, ?_⟩) he
  exact F.go hgd hr tk (fun _ _ _ z => z) I1 r q
/-! ### making -/
def tMkS (C : Ctx) (W : WX) (cl : CallF) (c : Nat) (Ca : Addr) (σ : L2.St) (vs : List V) (H1 : Hp) (Q : VK) : Prop := ∀ x dx, H1 x = none → H1 dx = none → dx ≠ x →
  spS C.T cl (spec c 0) (.ref x :: vs) (upd (upd H1 dx (.own x)) x (.ins Ca dx [])) (fun v H2 => v = .non ∧ Q (.ref x) H2) fun cls d H' => W cls d σ H'
theorem readMkS {σ : L2.St} {H : Hp} {Q : VK} {c : Nat} {Ca : Addr} (hcn : C.T.ck c [] = some Ca) (h : tI C W cl (.mkS c es') σ H Q) : tAF C W cl es' σ H fun vs H1 => tMkS C W cl c Ca σ vs H1 Q := by
  obtain ⟨H0, env, S, q⟩ := h
  simp only [ev] at q
  refine ⟨H0, env, S, ?_⟩
  cases z : evF cl es' env with
  | bad => rw [z] at q; exact q.elim
  | exc x env1 => rw [z] at q; exact q
  | ok ds env1 =>
    rw [z] at q
    simp only [R.bind_ok] at q
    intro H1 H1' e1 S1 vs hv x dx nx nd ne
    exact ⟨_, read_mk S1 (allFz_map ds) (arOk_fz hv) rfl hcn nx nd ne (RQ.mono e1 q)⟩
theorem mkS_run {k : Nat} {f Ca : Addr} {sp : Sp} {pins : List (Addr × Obj)} {σ : L2.St} {H : Hp} {s : Shared} {Q : VK} {us : List Value} {vs : List V} {E : XK}
    (M : Mk X.K Ca f) (F : FnGS X.prog X.w X.K X.mg X.base k f sp) (hgd : X.A.guards = some []) (room : Room (k + 1) X.A) (tk : Takes X W) (hE : ∀ cls d H', E cls d H' → W cls d σ H')
    (I : Inv X pins σ H s) (r : Vals vs us) (h : ∀ x dx, H x = none → H dx = none → dx ≠ x → sp (.ref x :: vs) (upd (upd H dx (.own x)) x (.ins Ca dx [])) (fun v H2 => v = .non ∧ Q (.ref x) H2) E) :
    wpAny (model X.prog X.w) X.A (call (.ref Ca) us) (EP X pins σ Q) X.xe s := by
  have q := h (s.heap.objs.size + 1) s.heap.objs.size (I.hok.fresh (Nat.le_succ _)) (I.hok.fresh (Nat.le_refl _)) (Nat.ne_of_lt (Nat.lt_succ_self _))
  have J := Inv.made (C := Ca) I
  have rr : Vals (V.ref (s.heap.objs.size + 1) :: vs) (Value.ref (s.heap.objs.size + 1) :: us) := .cons rfl r
  refine wpAny_call (make_map (f := f) I.kIn M.makes M.init (beq_iff_eq.mp M.fn) (codeAny_mono (F _ X.stack _ _ (Value.ref (s.heap.objs.size + 1) :: us) _ _ E (under_guards hgd) (room.make Ca us []) (J.env0.make Ca us []) rr q) fun r s' z => ?_))
  cases r with
  | error e => exact tk _ _ (XE.of_call J hE z)
  | ok fl =>
    cases fl with
    | ret u =>
      obtain ⟨v, H', I3, rv, ev, q3⟩ := J.after z
      subst ev
      exact ⟨rv, ⟨V.ref (s.heap.objs.size + 1), H', I3, rfl, q3⟩⟩
    | _ => exact False.elim z
/-- C(a, ..), no star among them -/
theorem c_mkV {x : Str} {k c : Nat} {f Ca : Addr} (M : Mk X.K Ca f) (F : FnGS X.prog X.w X.K X.mg X.base k f (spS C.T cl (spec c 0))) (hgd : X.A.guards = some []) (room : Room (k + 1) X.A) (tk : Takes X W)
    (hg : Gl X x) (hm : X.mg x = some (.ref Ca)) (hcn : C.T.ck c [] = some Ca) (ha : PA X (e :: es) (tAF C W cl es')) (hdb : (x == ("__debug__" : Str)) = false := by decide)
    (he : starEach (e :: es) X.env = (false, eval e X.env) :: starEach es X.env := by rfl) (hpl : (backTo pos (starEach es X.env)).any (·.1) = false := by rfl) : PE X (.Call (.Name x p) (e :: es) [] pos) (tI C W cl (.mkS c es')) := by
  refine peI (t := fun σ H Q => tAF C W cl es' σ H fun vs H1 => tMkS C W cl c Ca σ vs H1 Q) ⟨fun pins s σ H Q I h => ?_⟩ fun σ H Q q => readMkS hcn q
  refine wpAny_Call_Name_kw (ld_glob I hg hm ?_ hdb)
  refine PySem.W.callWith_K (h₀ := X.base) I.ok.mod.kin M.kp (thn (ha.run pos pins s σ H _ I h) fun us s1 ⟨vs, H1, I1, r, q⟩ => ⟨I1.kIn, ?_⟩) he hpl
  exact mkS_run M F hgd room tk (fun _ _ _ z => z) I1 r q
/-- C() -/
theorem c_mkV0 {x : Str} {k c : Nat} {f Ca : Addr} (M : Mk X.K Ca f) (F : FnGS X.prog X.w X.K X.mg X.base k f (spS C.T cl (spec c 0))) (hgd : X.A.guards = some []) (room : Room (k + 1) X.A) (tk : Takes X W)
    (hg : Gl X x) (hm : X.mg x = some (.ref Ca)) (hcn : C.T.ck c [] = some Ca) (hdb : (x == ("__debug__" : Str)) = false := by decide) : PE X (.Call (.Name x p) [] [] pos) (tI C W cl (.mkS c .nil)) := by
  refine peI (t := fun σ H Q => tMkS C W cl c Ca σ [] H Q) ⟨fun pins s σ H Q I h => ?_⟩ fun σ H Q q => ?_
  · refine wpAny_Call_Name_kw (ld_glob I hg hm ?_ hdb)
    exact PySem.W.callWith_K0 I.kIn M.kp (mkS_run M F hgd room tk (fun _ _ _ z => z) I .nil h)
  · obtain ⟨H0, env, S, q⟩ := readMkS hcn q
    exact q H0 H (Ext.rfl' _) S [] (by simp only [RepAll])
/-- C(a, .., *e) -/
theorem c_mkV2 {x : Str} {k c : Nat} {f Ca : Addr} (M : Mk X.K Ca f) (F : FnGS X.prog X.w X.K X.mg X.base k f (spS C.T cl (spec c 0))) (hgd : X.A.guards = some []) (room : Room (k + 1) X.A) (tk : Takes X W)
    (hg : Gl X x) (hm : X.mg x = some (.ref Ca)) (hcn : C.T.ck c [] = some Ca) (ha : PA X (e :: es) (tAF C W cl es')) (hdb : (x == ("__debug__" : Str)) = false := by decide)
    (he : starEach (e :: es) X.env = (false, eval e X.env) :: starEach es X.env := by rfl) (hst : (backTo pos (starEach es X.env)).any (·.1) = true := by rfl) : PE X (.Call (.Name x p) (e :: es) [] pos) (tI C W cl (.mkS c es')) := by
  refine peI (t := fun σ H Q => tAF C W cl es' σ H fun vs H1 => tMkS C W cl c Ca σ vs H1 Q) ⟨fun pins s σ H Q I h => ?_⟩ fun σ H Q q => readMkS hcn q
  refine wpAny_Call_Name_kw (ld_glob I hg hm ?_ hdb)
  refine PySem.W.callWith_S2 (h₀ := X.base) I.ok.mod.kin M.kp (thn (ha.run pos pins s σ H _ I h) fun us s1 ⟨vs, H1, I1, r, q⟩ => ⟨I1.kIn, ?_⟩) he hst
  exact mkS_run M F hgd room tk (fun _ _ _ z => z) I1 r q
/-- C(*e, .., ..) -/
theorem c_mkV3 {x : Str} {k c : Nat} {f Ca : Addr} {sp : Pos} {e2 : Expr} (M : Mk X.K Ca f) (F : FnGS X.prog X.w X.K X.mg X.base k f (spS C.T cl (spec c 0))) (hgd : X.A.guards = some []) (room : Room (k + 1) X.A) (tk : Takes X W)
    (hg : Gl X x) (hm : X.mg x = some (.ref Ca)) (hcn : C.T.ck c [] = some Ca) (ha : PA X (.Starred e sp :: e2 :: es) (tAF C W cl es')) (hdb : (x == ("__debug__" : Str)) = false := by decide) {y : Bool × Sem Value} {ys : List (Bool × Sem Value)}
    (he : starEach (.Starred e sp :: e2 :: es) X.env = (true, eval e X.env) :: y :: ys := by rfl) : PE X (.Call (.Name x p) (.Starred e sp :: e2 :: es) [] pos) (tI C W cl (.mkS c es')) := by
  refine peI (t := fun σ H Q => tAF C W cl es' σ H fun vs H1 => tMkS C W cl c Ca σ vs H1 Q) ⟨fun pins s σ H Q I h => ?_⟩ fun σ H Q q => readMkS hcn q
  refine wpAny_Call_Name_kw (ld_glob I hg hm ?_ hdb)
  refine callWith_S3 (h₀ := X.base) I.ok.mod.kin M.kp (thn (ha.run pos pins s σ H _ I h) fun us s1 ⟨vs, H1, I1, r, q⟩ => ⟨I1.kIn, ?_⟩) he
  exact mkS_run M F hgd room tk (fun _ _ _ z => z) I1 r q
/-- C(*e) -/
theorem c_mkV1 {x : Str} {k c : Nat} {f Ca : Addr} {sp : Pos} {e' : Ex} (hK : X.K = C.T.K) (M : Mk X.K Ca f) (F : FnGS X.prog X.w X.K X.mg X.base k f (spS C.T cl (spec c 0))) (hgd : X.A.guards = some []) (room : Room (k + 1) X.A) (tk : Takes X W)
    (hg : Gl X x) (hm : X.mg x = some (.ref Ca)) (hcn : C.T.ck c [] = some Ca) (ha : PE X e (tI C W cl e')) (hdb : (x == ("__debug__" : Str)) = false := by decide)
    (hst : starEach [.Starred e sp] X.env = [(true, eval e X.env)] := by rfl) : PE X (.Call (.Name x p) [.Starred e sp] [] pos) (tI C W cl (.mkS c (.star e' .nil))) := by
  refine peI (t := tLone C W cl e' fun σ vs H1 Q => tMkS C W cl c Ca σ vs H1 Q) ⟨fun pins s σ H Q I h => ?_⟩ fun σ H Q q => readLone (readMkS hcn q)
  refine wpAny_Call_Name_kw (ld_glob I hg hm ?_ hdb)
  refine PySem.W.callWith_S (h₀ := X.base) I.ok.mod.kin M.kp (thn (ha.run pins s σ H _ I h) fun v s1 ⟨y, H1, I1, ry, a, xs, ey, hxs, q⟩ => ?_) hst
  subst ey
  obtain rfl : v = Value.ref a := ry
  exact StX.star_any I1 (hK ▸ hxs) fun us s2 I2 rv => ⟨I2.kIn, mkS_run M F hgd room tk (fun _ _ _ z => z) I2 rv q⟩
end
end PP
end

section
set_option maxHeartbeats 1000000
/-! A def with *args does what its small-syntax term does. -/
namespace PP
open PySem PySem.Spec PyProof.Rows L2
theorem restD_map : ∀ {as : List Ar} {ds : List D}, restD as = some ds → as = ds.map .fz
  | [], ds, h => by cases h; rfl
  | .fz d :: r, ds, h => by
    simp only [restD, Option.map_eq_some_iff] at h
    obtain ⟨es, h1, rfl⟩ := h
    rw [restD_map h1]; rfl
  | .io _ :: _, ds, h => by cases h
theorem repAll_of_ar {T : Tbl} {H0 H : Hp} : ∀ {ds : List D} {vs : List V}, ArOk T H0 H (ds.map .fz) vs → RepAll T H0 ds vs
  | [], vs, h => by simp only [RepAll]; exact h
  | d :: ds, vs, h => by
    obtain ⟨v, r, rfl, h1, h2⟩ := h
    simp only [RepAll]
    exact ⟨v, r, rfl, h1, repAll_of_ar h2⟩
theorem ioL_fz : ∀ (ds : List D) (vs : List V), vs.length = ds.length → ioL (ds.map .fz) vs = List.replicate ds.length none
  | [], [], _ => rfl
  | d :: ds, v :: vs, h => by
    simp only [List.length_cons, Nat.add_right_cancel_iff] at h
    rw [List.map_cons, ioL, ioL_fz ds vs h, List.length_cons, List.replicate_succ]
    all_goals nofun
theorem pack_ok {T : Tbl} {H0 H : Hp} (e : Ext H0 H) : ∀ (m : Nat) {as bs : List Ar} {vs : List V}, packA m as = some bs → ArOk T H0 H as vs → ∃ (ws rest : List V) (L : List (Option Addr)) (j : Nat), vs = ws ++ rest ∧ ws.length = m ∧ rest.length ≤ LIM ∧ bs.length = m + 1 ∧ ioL as vs = L ++ List.replicate j none ∧
    ∀ p, H p = none → ArOk T (upd H0 p (.tup rest)) (upd H p (.tup rest)) bs (ws ++ [.ref p]) ∧ ioL bs (ws ++ [.ref p]) = L ++ [none]
  | 0, as, bs, vs, h, hA => by
    simp only [packA, Option.bind_eq_some_iff] at h
    obtain ⟨ds, h1, h2⟩ := h
    split at h2
    · rename_i hl
      cases h2
      have := restD_map h1
      subst this
      have hr := repAll_of_ar hA
      refine ⟨[], vs, [], ds.length, rfl, rfl, by rw [hr.len]; exact hl, rfl, ioL_fz _ _ hr.len, fun p hp => ⟨?_, rfl⟩⟩
      have h0 : H0 p = none := e.no hp
      refine ⟨.ref p, [], rfl, ?_, rfl⟩
      simp only [Rep]
      exact ⟨p, vs, rfl, .inl (.inl upd_same), RepAll.mono (ext_upd h0) _ _ hr⟩
    · cases h2
  | m + 1, [], bs, vs, h, hA => by simp [packA] at h
  | m + 1, .fz d :: as, bs, vs, h, hA => by
    simp only [packA, Option.map_eq_some_iff] at h
    obtain ⟨bs', h1, rfl⟩ := h
    obtain ⟨v, r, rfl, hv, hA⟩ := hA
    obtain ⟨ws, rest, L, j, rfl, hl, hz, hb, hi, hp⟩ := pack_ok e m h1 hA
    refine ⟨v :: ws, rest, none :: L, j, rfl, by simp [hl], hz, by simp [hb], by rw [ioL, hi]; rfl; all_goals nofun, fun p hpn => ?_⟩
    obtain ⟨q1, q2⟩ := hp p hpn
    refine ⟨⟨v, _, rfl, Rep.mono (ext_upd (e.no hpn)) _ _ hv, q1⟩, ?_⟩
    show ioL (.fz d :: bs') (v :: (ws ++ [.ref p])) = _
    rw [ioL, q2]; rfl; all_goals nofun
  | m + 1, .io d :: as, bs, vs, h, hA => by
    simp only [packA, Option.map_eq_some_iff] at h
    obtain ⟨bs', h1, rfl⟩ := h
    obtain ⟨a, r, rfl, hv, hA⟩ := hA
    obtain ⟨ws, rest, L, j, rfl, hl, hz, hb, hi, hp⟩ := pack_ok e m h1 hA
    refine ⟨.ref a :: ws, rest, some a :: L, j, rfl, by simp [hl], hz, by simp [hb], by show some a :: ioL as (ws ++ rest) = _; rw [hi]; rfl, fun p hpn => ?_⟩
    obtain ⟨q1, q2⟩ := hp p hpn
    obtain ⟨h0, o, ho⟩ := hv.some
    have ne : a ≠ p := fun z => by rw [z, hpn] at ho; cases ho
    refine ⟨⟨a, _, rfl, RepO.keep (ext_upd (e.no hpn)) (by rw [upd_ne ne]; exact h0) (upd_ne ne) hv, q1⟩, ?_⟩
    show some a :: ioL bs' (ws ++ [.ref p]) = _
    rw [q2]; rfl
theorem outsOk_none {T : Tbl} {H0 H : Hp} : ∀ (L : List (Option Addr)) (j : Nat) (ds : List D), OutsOk T H0 H (L ++ List.replicate j none) ds ↔ OutsOk T H0 H L ds
  | [], 0, ds => Iff.rfl
  | [], j + 1, ds => by
    rw [List.replicate_succ]
    exact outsOk_none [] j ds
  | none :: L, j, ds => outsOk_none L j ds
  | some a :: L, j, ds => by
    show (∃ d ds', ds = d :: ds' ∧ _ ∧ OutsOk T H0 H (L ++ List.replicate j none) ds') ↔ (∃ d ds', ds = d :: ds' ∧ _ ∧ OutsOk T H0 H L ds')
    constructor
    · rintro ⟨d, ds', h1, h2, h3⟩; exact ⟨d, ds', h1, h2, (outsOk_none L j ds').mp h3⟩
    · rintro ⟨d, ds', h1, h2, h3⟩; exact ⟨d, ds', h1, h2, (outsOk_none L j ds').mpr h3⟩
theorem get_rep {L : List (Option Addr)} {j i : Nat} {a : Addr} : (L ++ List.replicate j none)[i]? = some (some a) ↔ L[i]? = some (some a) := by
  rw [List.getElem?_append]
  split
  · exact Iff.rfl
  · rename_i h
    rw [List.getElem?_eq_none (by omega : L.length ≤ i), List.getElem?_replicate]
    constructor
    · intro z; split at z <;> cases z
    · intro z; cases z
theorem mem_rep {L : List (Option Addr)} {j : Nat} {a : Addr} : some a ∈ (L ++ List.replicate j none) ↔ some a ∈ L := by
  simp [List.mem_replicate]
theorem upd_none {H : Hp} {p a : Addr} {o : HO} (h : upd H p o a = none) : H a = none := by
  by_cases z : a = p
  · subst z; rw [upd_same] at h; cases h
  · rwa [upd_ne z] at h
theorem spF_pack {T : Tbl} {cl cl1 : CallF} {f m n : Nat} {vs : List V} {H : Hp} {Q : VK} {E : XK} (hc : ∀ as, cl f as = match packA m as with | some bs => cl1 f bs | none => .bad) (h : spF T cl f n vs H Q E) :
    ∃ ws rest, vs = ws ++ rest ∧ ws.length = m ∧ rest.length ≤ LIM ∧ ∀ p, H p = none → spF T cl1 f (m + 1) (ws ++ [.ref p]) (upd H p (.tup rest)) Q E := by
  obtain ⟨H0, as, e, hA, nd, hl, tb, h⟩ := h
  rw [hc] at h
  cases zp : packA m as with
  | none => rw [zp] at h; exact h.elim
  | some bs =>
    rw [zp] at h
    obtain ⟨ws, rest, L, j, rfl, hw, hz, hb, hi, hp⟩ := pack_ok e m zp hA
    refine ⟨ws, rest, rfl, hw, hz, fun p hpn => ?_⟩
    obtain ⟨q1, q2⟩ := hp p hpn
    have q2 : ioL bs (ws ++ [.ref p]) = L ++ List.replicate 1 none := q2
    have g := Gr.froz (T := T) (o := .tup rest) e hpn
    have gc : ∀ {H0' H' : Hp}, GrC T (ioL bs (ws ++ [.ref p])) (upd H0 p (.tup rest)) (upd H p (.tup rest)) H0' H' → GrC T (ioL as (ws ++ rest)) H0 H H0' H' := fun {H0' H'} k => ⟨g.e0.tr k.e0, k.e01, fun a h1 h2 => by
        by_cases z : a = p
        · rw [z]; exact hpn
        · exact upd_none (k.new a (by rw [upd_ne z]; exact h1) h2), fun a o h1 h2 => by
        have ne : a ≠ p := fun z => by rw [z, hpn] at h2; cases h2
        exact k.keep a o (fun z => h1 (by rw [hi]; rw [q2] at z; exact mem_rep.mpr (mem_rep.mp z))) (by rw [upd_ne ne]; exact h2), fun t => k.tb (g.tb t)⟩
    have oc : ∀ {H0' H' : Hp} {outs : List D}, OutsOk T H0' H' (ioL bs (ws ++ [.ref p])) outs → OutsOk T H0' H' (ioL as (ws ++ rest)) outs := fun k => by
      rw [q2] at k
      rw [hi]
      exact (outsOk_none L j _).mpr ((outsOk_none L 1 _).mp k)
    refine ⟨upd H0 p (.tup rest), bs, g.e01, q1, fun i i' a h1 h2 => ?_, hb, ⟨g.tb tb.1, fun p' hp' => ?_⟩, ?_⟩
    · rw [q2] at h1 h2
      exact nd i i' a (by rw [hi]; exact get_rep.mpr (get_rep.mp h1)) (by rw [hi]; exact get_rep.mpr (get_rep.mp h2))
    · obtain ⟨ps, z1, _⟩ := tb.1 p' hp'
      rw [upd_ne (fun z => by rw [z, hpn] at z1; cases z1)]
      exact tb.2 p' hp'
    · dsimp only at h
      cases zc : cl1 f bs with
      | bad => rw [zc] at h; exact h
      | exc x outs =>
        rw [zc] at h
        exact fun cls d H0' H' k o hx => h cls d H0' H' (gc k) (oc o) hx
      | ok r outs =>
        rw [zc] at h
        intro v H0' H' k hr o
        refine h v H0' H' (gc k) ?_ (oc o)
        cases r with
        | d x => exact hr
        | sl i => exact hr
        | nw x =>
          have hr' : RepG T H0' H' (upd H p (.tup rest)) x v := hr
          show RepG T H0' H' H x v
          unfold RepG at hr' ⊢
          split at hr'
          · rename_i hm
            rw [if_pos hm]
            obtain ⟨a, h1, h2, h3⟩ := hr'
            exact ⟨a, h1, upd_none h2, h3⟩
          · rename_i hm
            rw [if_neg hm]
            exact hr'
theorem fnS_zero {P : Program} {w : World} {K : PySem.W.Frag} {mg : Str → Option Value} {base : Heap} {f : Addr} {T : Tbl} {fs : Nat → Option Fn} {i : Nat} : FnGS P w K mg base (5 * 0) f (spS T (calls fs 0) i) :=
  fun A outer s H us vs Q E _ _ _ _ h => by obtain ⟨_, _, _, _, _, _, _, _, z⟩ := h; exact z.elim
/-- a def with *args of the text does what its small-syntax term does -/
theorem def_okS {P : Program} {w : World} {K : PySem.W.Frag} {mg : Str → Option Value} {base : Heap} {x qual pv : Str} {st : Stmt} {f : Addr} {fd : FuncData} {N ps : List Str} {k i m : Nat} {F : Fn} {T : Tbl} {fs : Nat → Option Fn} (Fu : FunV K x qual st f fd) (S : FnScope N (ps ++ [pv]) (defScope st))
    (hN : N.length = F.n) (hn : m + 1 ≤ F.n) (hp : ps.length = m) (hf : ∀ as, calls fs (k + 1) i as = match packA m as with | some bs => runF (calls fs k) F bs | none => .bad)
    (hbi : ∀ us rest : List Value, us.length = ps.length → bindArgs fd ⟨us ++ rest, []⟩ = (newTuple rest >>= fun t => pure (ps.zip us ++ [(pv, t)])))
    (hb : ∀ {X : Cx} {C : Ctx} {W : WX}, X.K = C.T.K → X.A.units + 64 < cLine → X.A.units + 200 < cLine → X.A.guards = some [] → Room (5 * k + 4) X.A → Takes X W → PassesOwn (model X.prog X.w) X.A X.env X.xe →
      (∃ (qu : Str) (cdv : Value) (A : Around) (outer : List PySem.Env) (s : Shared) (H : Hp) (E : XK), X = cxOf (L2.CX P w) P w K mg base N qu (defScope st) f cdv A outer s H E ∧ C.T = T ∧ qu = qual ∧ fd.code = cdv) → PSs X (defBody st) (tSs C W (calls fs k) F.body)) (hK : K = T.K) :
    FnGS P w K mg base (5 * (k + 1)) f (spS T (calls fs (k + 1)) i) := by
  intro A outer s H us vs Q E hgd hr e0 r hsp
  obtain ⟨n, hsp⟩ := hsp
  obtain ⟨oc, od, dV, kV, doc, pm, an, cdv, ct, osl, rfl, lk, hcd⟩ := Fu.ex
  obtain ⟨ws, rest, rfl, hl, hz, hq⟩ := spF_pack (cl1 := fun _ bs => runF (calls fs k) F bs) hf hsp
  obtain ⟨u1, u2, eu, r1, r2⟩ := StX.vals_split r
  subst eu
  have hn0 : H s.heap.objs.size = none := e0.hok.fresh (Nat.le_refl _)
  have hl1 : u1.length = ps.length := by rw [← r1.length, hp]; exact hl
  have hlim : rest.length ≤ sizeLine := Nat.le_trans hz (by show 100000 ≤ sizeLine; rw [sizeLine_eq]; decide)
  have hl2 : u2.length ≤ sizeLine := by rw [← r2.length]; exact hlim
  refine StX.run_bnd (k := 5 * k + 4) lk hcd S hr e0 (G := fun xs H2 => ∃ p, H p = none ∧ xs = ws ++ [V.ref p] ∧ H2 = upd H p (.tup rest)) (fun A' Ex Q' h => ?_) fun s2 H2 xs ⟨p, hpn, ex, eH⟩ hr' => ?_
  · rw [hbi u1 u2 hl1]
    refine wpAny_bind (wpAny_newTuple (wpAny_pure ?_) hl2)
    have new : ObjOk P w (upd H s.heap.objs.size (.tup rest)) (s.heap.push ({ cls := .type "tuple", data := .seq u2.toArray } : Obj)) s.heap.objs.size (.tup rest) := ⟨hlim, u2, r2, ⟨_, Heap.get?_push_size _ rfl, rfl, _, rfl⟩⟩
    have un := StX.un_laid (fs := frs outer) (s := s) (o := ({ cls := .type "tuple", data := .seq u2.toArray } : Obj)) (u := .tup rest) hn0
    have z := h _ _ (ws ++ [V.ref s.heap.objs.size]) (u1 ++ [Value.ref s.heap.objs.size]) (StX.env0_laid e0 new) un rfl (fun e s' => StX.cxUp outer s H _ _ E e s' un (fun b o q => Heap.get?_push_of_some _ q) rfl) (r1.append (.cons rfl .nil))
      (by rw [List.length_append, List.length_append, hl, hp] <;> rfl) ⟨_, hn0, rfl, rfl⟩
    rw [List.zip_append hl1.symm] at z
    exact z
  · subst ex eH
    refine body_ok (fs := fun _ bs => runF (calls fs k) F bs) (cl := calls fs k) hN hn (fun _ => rfl) (fun C hC => ?_) (hq p hpn)
    exact hb (by rw [hC]; exact hK) hr'.units (by have := hr'.un; exact (by omega : (A.deeper (envOfC qual (defScope st) s2.heap.objs.size f cdv)).units + 200 < cLine)) hgd hr' (takes_of rfl rfl rfl rfl) (passes_of rfl) ⟨qual, cdv, A, outer, s2, _, E, rfl, hC, rfl, rfl⟩
end PP
end

section
set_option maxHeartbeats 1000000
/-! o[i], o(..), len(o) by own defs; l.index(x), l.pop(i), isinstance of two types. -/
namespace PP
open PySem PySem.Spec PyProof.Rows L2
section
variable {X : Cx} {C : Ctx} {W : WX} {cl : CallF} {a b e : Expr} {es : List Expr} {a' b' e' : Ex} {es' : Exs} {pos p : Pos}
/-- a method that an operator calls -/
def SpG (X : Cx) (T : Tbl) (cl : CallF) (m : Nat) (nm : Str) (cs : List Nat) (n : Nat) : Prop :=
  ∀ c ∈ cs, ∀ C, T.cn c = some C → ∃ k f fd ps, Meth X.K C nm f ∧ PySem.W.fnIn X.K f = true ∧ FnG X.prog X.w X.K X.mg X.base k f fd ps (spF T cl (spec c m) n) ∧ Room (k + 1) X.A ∧ Binds X.K fd ps []
def rGet (C : Ctx) (W : WX) (cl : CallF) (cs : List Nat) (σ : L2.St) : R2 := fun x y H Q => ∃ H0 dx c, Ext H0 H ∧ Rep C.T H0 dx x ∧ c ∈ cs ∧ (∃ ks vs, dx = .obj c ks vs) ∧ spF C.T cl (spec c 18) 2 [x, y] H Q fun cls d H' => W cls d σ H'
theorem readGet {σ : L2.St} {H : Hp} {Q : VK} {cs : List Nat} (h : tI C W cl (.getO cs a' b') σ H Q) : tOp (rGet C W cl cs σ) (tI C W cl a') (tI C W cl b') σ H Q := by
  obtain ⟨H0, env, S, q⟩ := h
  simp only [ev] at q
  refine seqI S q fun u env1 x H1 H1' e1 S1 u1 q1 => ?_
  obtain ⟨⟨dx, env2⟩, hf, q2⟩ := q1.orB
  obtain ⟨H2, e2, S2, r2⟩ := S1.take u1 hf
  refine seqI S2 (RQ.mono e2 q2) fun w env3 y H3 H3' e3 S3 u3 q3 => ?_
  obtain ⟨⟨dy, env4⟩, hg, q4⟩ := q3.orB
  obtain ⟨H4, e4, S4, r4⟩ := S3.take u3 hg
  have rx : Rep C.T H4 dx x := Rep.mono (e3.tr e4) _ _ r2
  have q5 := RQ.mono e4 q4
  simp only at q5
  cases dx with
  | obj c ks vs =>
    unfold ownGet at q5
    simp only at q5
    split at q5
    · exact q5.elim
    rename_i hcs
    simp only [Bool.not_eq_true, Bool.not_eq_false', List.contains_iff_mem] at hcs
    refine ⟨H4, _, c, S4.ex, rx, hcs, ⟨ks, vs, rfl⟩, own_two (Q := Q) (g := fun r => .ok r env4) S4 rx r4 ?_ ?_⟩
    · cases zc : cl (spec c 18) [.fz (.obj c ks vs), .fz dy] with
      | bad => simp only [zc] at q5; exact q5
      | exc z outs => simp only [zc] at q5 ⊢; exact q5
      | ok r outs => simp only [zc] at q5 ⊢; exact q5
    · intro r v H0' H' g hr q6
      refine q6 H0' H' g.e0 (S4.gr g) v ?_
      cases r with
      | d x => exact hr
      | sl i => exact hr.elim
      | nw x => exact RepG.nw S4 hr
  | _ => exact q5.elim
/-- x[y], x of a class with its own __getitem__ -/
theorem c_getO {cs : List Nat} (SP : SpG X C.T cl 18 "__getitem__" cs 2) (hgd : X.A.guards = some []) (tk : Takes X W) (ha : PE X a (tI C W cl a')) (hb : PE X b (tI C W cl b'))
    (hs : ∀ o i, subscripted b true o i = runValue (.builtin "lifetime.subscript" ⟨[o, i], []⟩) := by exact fun _ _ => rfl) : PE X (.Subscript a b pos) (tI C W cl (.getO cs a' b')) := by
  refine peI (t := fun σ H Q => tOp (rGet C W cl cs σ) (tI C W cl a') (tI C W cl b') σ H Q) ⟨fun pins s σ H Q I h => ?_⟩ fun σ H Q q => readGet q
  refine Subscript_ (binT ha hb I h fun v u s2 x y H2 I2 rx ry q => ?_)
  obtain ⟨H0, dx, c, e, r1, hcs, ⟨ks, vs, rfl⟩, hsp⟩ := q
  obtain ⟨p, Ca, dd, xs, rfl, hck, hp, _⟩ := rd_obj e (.inl r1)
  have hcn := (Tbl.ck_some hck).1
  obtain ⟨k, f, fd, ps, hme, hfi, F, hr, hbi⟩ := SP c hcs Ca hcn
  obtain ⟨mA, O, _⟩ := ins_get I2.hok hp
  obtain ⟨od, J, _⟩ := O.look
  obtain ⟨mm, hF⟩ := I2.fr
  cases (show v = Value.ref p from rx)
  have run := F.goIn (us := [.ref p, u]) (vs := [.ref p, y]) hgd hr hbi .nil tk (fun _ _ _ z => z) I2 (.cons rfl (.cons ry .nil)) (by rw [List.append_nil]; exact hsp)
  exact PySem.W.sub_K hF I2.ok.mod.kin J hme.at_ hfi hme.fn run (hs _ _)
/-- len(x), x of a class with its own __len__ -/
def rLenO (T : Tbl) (cl : CallF) (cs : List Nat) : List V → Hp → VK → Prop := fun xs H Q => ∃ p c Ca dx fs, xs = [.ref p] ∧ H p = some (.ins Ca dx fs) ∧ c ∈ cs ∧ T.cn c = some Ca ∧ spF T cl (spec c 19) 1 [.ref p] H (fun v H' => ∃ n : Int, v = .int n ∧ 0 ≤ n ∧ n < 2 ^ 40 ∧ Q (.int n) H') fun _ _ _ => False
theorem call_lenO {cs : List Nat} (SP : SpG X C.T cl 19 "__len__" cs 1) (hgd : X.A.guards = some []) (tk : Takes X W) : CallR X (.builtin "len") (rLenO C.T cl cs) := by
  intro pins s σ H xs us Q I r h
  obtain ⟨p, c, Ca, dx, fs, rfl, hp, hcs, hcn, hsp⟩ := h
  obtain ⟨k, f, fd, ps, hme, hfi, F, hr, hbi⟩ := SP c hcs Ca hcn
  obtain ⟨mA, O, _⟩ := ins_get I.hok hp
  obtain ⟨od, J, _⟩ := O.look
  obtain ⟨mm, hF⟩ := I.fr
  cases r with
  | cons r0 rr =>
    cases rr
    cases r0
    have run := F.goIn (E := fun _ _ _ => False) (Q := fun v H' => ∃ n : Int, v = .int n ∧ 0 ≤ n ∧ n < 2 ^ 40 ∧ Q (.int n) H') (us := [.ref p]) (vs := [.ref p]) hgd hr hbi .nil tk (fun _ _ _ z => False.elim z) I (.cons rfl .nil) (by rw [List.append_nil]; exact hsp)
    refine PySem.W.len_K hF I.ok.mod.kin J hme.at_ hme.fn (wpAny_mono run (fun w s' z => ?_) fun _ _ x => x)
    obtain ⟨v, H', I', rz, n, rfl, h0, h1, qz⟩ := z
    obtain ⟨t, rfl⟩ := rz
    exact ⟨⟨h0, Int.lt_trans h1 (by decide)⟩, .int n, H', I'.tok _, ⟨_, rfl⟩, qz⟩
theorem c_lenO {cs : List Nat} (SP : SpG X C.T cl 19 "__len__" cs 1) (hgd : X.A.guards = some []) (tk : Takes X W) (hg : Gl X "len") (hm : X.mg "len" = none) (ha : PE X e (tI C W cl a'))
    (he : starEach [e] X.env = (false, eval e X.env) :: starEach [] X.env := by rfl) : PE X (.Call (.Name "len" p) [e] [] pos) (tI C W cl (.lenO cs a')) :=
  peI (pe_callB (call_lenO SP hgd tk) hg hm (by decide +kernel) (pa_cons ha pa_nil he) (by decide) (by decide) he (by rfl)) fun σ H Q ⟨H0, env, S, q⟩ => by
    simp only [ev] at q
    refine seqI S q fun u env1 x H1 H1' e1 S1 u1 q1 => ?_
    obtain ⟨⟨c, w, env2⟩, hf, q2⟩ := q1.orB
    simp only at q2
    have hx : ∃ ks vs, fzU env1 u = some (.obj c ks vs, env2) ∧ w = .d (.obj c ks vs) := by
      unfold recvU at hf
      simp only at hf
      split at hf
      · rename_i c' ks vs env' hz
        cases hf
        exact ⟨ks, vs, hz, rfl⟩
      · cases hf
    obtain ⟨ks, vs, hz, rfl⟩ := hx
    obtain ⟨H2, e2, S2, r2⟩ := S1.take u1 hz
    split at q2
    · exact q2.elim
    rename_i hcs
    simp only [Bool.not_eq_true, Bool.not_eq_false', List.contains_iff_mem] at hcs
    obtain ⟨dx, hd, q3⟩ := (RQ.mono e2 q2).orB
    simp only [rdU, Option.some.injEq] at hd
    subst hd
    obtain ⟨pp, Ca, dd, xs, rfl, hck, hp, _⟩ := rd_obj S2.ex (.inl r2)
    refine ⟨pp, c, Ca, dd, _, rfl, hp, hcs, (Tbl.ck_some hck).1, ?_⟩
    refine ⟨H2, [.fz (.obj c ks vs)], S2.ex, ⟨_, [], rfl, r2, rfl⟩, ?_, rfl, S2.tb, ?_⟩
    · intro i j a hi hj
      match i, hi with
      | 0, hi => simp [ioL] at hi
      | _ + 1, hi => simp [ioL] at hi
    · cases zc : cl (spec c 19) [.fz (.obj c ks vs)] with
      | bad => simp only [zc] at q3; exact q3
      | exc z outs => simp only [zc] at q3; exact q3.elim
      | ok r outs =>
        simp only [zc] at q3
        intro v H0' H' g hr _
        split at q3
        · rename_i n outs' hh
          cases hh
          split at q3
          · rename_i hn
            simp only [Bool.and_eq_true, decide_eq_true_eq] at hn
            have rv : v = .int n := by simpa only [RetOk, Rep] using hr
            have g' : Gr C.T H2 H1' H0' H' := ⟨g.e0, fun p o hp => g.keep p o (by simp [ioL]) hp, g.e01, g.new, g.tb⟩
            exact ⟨n, rv, hn.1, hn.2, q3 H0' H' g'.e0 (S2.gr g') _ (RepG.nw S2 (.flat rfl (r_int _ _ _)))⟩
          · exact q3.elim
        · exact q3.elim
/-! ### o(..) -/
def tCal (C : Ctx) (W : WX) (cl : CallF) (cs : List Nat) (n : Nat) (a' : Ex) (es' : Exs) : TE := fun σ H Q => tI C W cl a' σ H fun x H1 => ∃ p, x = .ref p ∧ tAF C W cl es' σ H1 fun vs H2 => ∃ c Ca dx fs, H2 p = some (.ins Ca dx fs) ∧ c ∈ cs ∧ C.T.cn c = some Ca ∧
  spF C.T cl (spec c 20) (n + 1) (.ref p :: vs) H2 Q fun cls d H' => W cls d σ H'
theorem readCal {σ : L2.St} {H : Hp} {Q : VK} {cs : List Nat} {n : Nat} (h : tI C W cl (.calO cs n a' es') σ H Q) : tCal C W cl cs n a' es' σ H Q := by
  obtain ⟨H0, env, S, q⟩ := h
  simp only [ev] at q
  refine seqI S q fun u env1 x H1 H1' e1 S1 u1 q1 => ?_
  obtain ⟨⟨dx, env2⟩, hf, q2⟩ := q1.orB
  obtain ⟨H2, e2, S2, r2⟩ := S1.take u1 hf
  have q3 := RQ.mono e2 q2
  simp only at q3
  split at q3
  · exact q3.elim
  rename_i hob
  cases z : evF cl es' env2 with
  | bad => rw [z] at q3; exact q3.elim
  | exc y env3 =>
    rw [z] at q3
    cases dx with
    | obj c ks vs =>
      obtain ⟨pp, Ca, dd, xs, rfl, hck, hp, _⟩ := rd_obj S2.ex (.inl r2)
      refine ⟨pp, rfl, H2, env2, S2, ?_⟩
      rw [z]
      exact q3
    | _ => exact absurd rfl hob
  | ok ds env3 =>
    rw [z] at q3
    simp only [R.bind_ok] at q3
    split at q3
    · rename_i hn
      cases dx with
      | obj c ks vs =>
        unfold ownCal at q3
        simp only at q3
        split at q3
        · exact q3.elim
        rename_i hcs
        simp only [Bool.not_eq_true, Bool.not_eq_false', List.contains_iff_mem] at hcs
        obtain ⟨pp, Ca, dd, xs, rfl, hck, hp, _⟩ := rd_obj S2.ex (.inl r2)
        refine ⟨pp, rfl, H2, env2, S2, ?_⟩
        rw [z]
        intro H3 H3' e3 S3 ws hw
        obtain ⟨pp', Ca', dd', xs', hpp, hck', hp', _⟩ := rd_obj S3.ex (.inl (Rep.mono e3 _ _ r2))
        cases hpp
        refine ⟨c, Ca', dd', _, hp', hcs, (Tbl.ck_some hck').1, H3, (.obj c ks vs :: ds).map .fz, S3.ex, arOk_fz (by simp only [RepAll]; exact ⟨_, _, rfl, Rep.mono e3 _ _ r2, hw⟩), ?_, by simp [hn], S3.tb, ?_⟩
        · rw [ioL_fz _ _ (by simp [hw.len])]
          intro i j a h1 _
          rw [List.getElem?_replicate] at h1
          split at h1 <;> cases h1
        · have q4 := RQ.mono e3 q3
          cases zc : cl (spec c 20) ((.obj c ks vs :: ds).map .fz) with
          | bad => rw [zc] at q4; exact q4
          | exc y outs =>
            rw [zc] at q4
            intro cls d H0' H' g _ hx
            have g' : Gr C.T H3 H3' H0' H' := ⟨g.e0, fun p o hp => g.keep p o (by rw [ioL_fz _ _ (by simp [hw.len])]; simp [List.mem_replicate]) hp, g.e01, g.new, g.tb⟩
            exact q4 cls d H0' H' g'.e0 (S3.gr g') hx
          | ok r outs =>
            rw [zc] at q4
            intro v H0' H' g hr _
            have g' : Gr C.T H3 H3' H0' H' := ⟨g.e0, fun p o hp => g.keep p o (by rw [ioL_fz _ _ (by simp [hw.len])]; simp [List.mem_replicate]) hp, g.e01, g.new, g.tb⟩
            refine q4 H0' H' g'.e0 (S3.gr g') v ?_
            cases r with
            | d x => exact hr
            | sl i => exact hr.elim
            | nw x => exact RepG.nw S3 hr
      | _ => exact q3.elim
    · exact q3.elim
theorem c_calO {fe : Expr} {cs : List Nat} {n : Nat} (SP : SpG X C.T cl 20 "__call__" cs (n + 1)) (hgd : X.A.guards = some []) (tk : Takes X W) (hf : PE X fe (tI C W cl a')) (ha : PA X (e :: es) (tAF C W cl es'))
    (ht : eval (.Call fe (e :: es) [] pos) X.env = (do callWith pos (← eval fe X.env) [] (backTo pos (starEach (e :: es) X.env)) (backToKw pos (keywordEach [] X.env))) := by rfl)
    (he : starEach (e :: es) X.env = (false, eval e X.env) :: starEach es X.env := by rfl) (hpl : (backTo pos (starEach es X.env)).any (·.1) = false := by rfl) : PE X (.Call fe (e :: es) [] pos) (tI C W cl (.calO cs n a' es')) := by
  refine peI (t := tCal C W cl cs n a' es') ⟨fun pins s σ H Q I h => ?_⟩ fun σ H Q q => readCal q
  refine Call_ (thn (hf.run pins s σ H _ I h) fun u s1 ⟨y, H1, I1, ry, pp, ey, q⟩ => ?_) ht
  subst ey
  obtain rfl : u = Value.ref pp := ry
  refine StX.callO_with (thn (ha.run pos pins s1 σ H1 _ I1 q) fun us s2 ⟨vs, H2, I2, r, c, Ca, dx, fs, hp, hcs, hcn, hsp⟩ => ?_) he hpl
  obtain ⟨k, f, fd, ps, hme, hfi, F, hr, hbi⟩ := SP c hcs Ca hcn
  obtain ⟨mA, O, _⟩ := ins_get I2.hok hp
  obtain ⟨od, J, _⟩ := O.look
  refine ⟨⟨_, _, _, J, rfl⟩, wpAny_call (PySem.W.kco_code I2.kIn J rfl hme.at_ hme.fn hfi ?_)⟩
  have hlen : (Value.ref pp :: us).length = ps.length := by
    have z := F.len _ _ _ _ hsp
    have z2 : (Value.ref pp :: us).length = (V.ref pp :: vs).length := by simp only [List.length_cons]; rw [r.length]
    rw [z2]; exact z
  have hb2 := hbi s2 (.ref pp :: us) I2.kIn (by simpa using hlen)
  refine codeAny_mono (F.run X.A X.stack s2 H2 ⟨.ref pp :: us, []⟩ (.ref pp :: us) (.ref pp :: vs) Q _ hgd (hr.mono (by omega)) I2.env0 (by simpa using hb2) (.cons rfl r) hsp) fun res s' hq => ?_
  cases res with
  | error ee => exact tk _ _ (XE.of_call I2 (fun _ _ _ z => z) hq)
  | ok fl =>
    cases fl with
    | ret u => exact I2.after hq
    | next => exact hq.elim
    | brk => exact hq.elim
    | cont => exact hq.elim
end
end PP
end

section
set_option maxHeartbeats 1000000
/-! l.index(x), l.pop(i), isinstance of two types. -/
namespace PP
open PySem PySem.Spec PyProof.Rows L2
theorem RepAll.erase {T : Tbl} {H : Hp} : ∀ {ds : List D} {vs : List V} (j : Nat), RepAll T H ds vs → RepAll T H (ds.eraseIdx j) (vs.eraseIdx j)
  | [], vs, j, h => by simp only [RepAll] at h; subst h; simp [RepAll]
  | d :: ds, vs, 0, h => by simp only [RepAll] at h; obtain ⟨v, r, rfl, _, h2⟩ := h; exact h2
  | d :: ds, vs, j + 1, h => by
    simp only [RepAll] at h
    obtain ⟨v, r, rfl, h1, h2⟩ := h
    simp only [List.eraseIdx_cons_succ, RepAll]
    exact ⟨v, _, rfl, h1, RepAll.erase j h2⟩
theorem indexP_at {p : PyData} : ∀ {l : List PyData} {k j : Nat}, indexP p l k = some j → ∃ m z, j = k + m ∧ l[m]? = some z ∧ PyData.eqv z p = true ∧ ∀ m' z', m' < m → l[m']? = some z' → PyData.eqv z' p = false
  | [], k, j, h => by simp [indexP] at h
  | y :: r, k, j, h => by
    simp only [indexP] at h
    split at h
    · rename_i hy
      cases h
      exact ⟨0, y, rfl, rfl, hy, fun m' z' hm => absurd hm (Nat.not_lt_zero _)⟩
    · rename_i hy
      obtain ⟨m, z, h1, h2, h3, h4⟩ := indexP_at h
      refine ⟨m + 1, z, by omega, h2, h3, fun m' z' hm hz => ?_⟩
      cases m' with
      | zero => cases hz; simpa using hy
      | succ m' => exact h4 m' z' (by omega) hz
theorem indexD_inv {x d : D} {ys : List D} (h : indexD x ys = some d) : ∃ p ps j z, toPy x = some p ∧ toPyAll ys = some ps ∧ SeqAt.shaped p = true ∧ SeqAt.shaped (.list ps) = true ∧ d = .int (j : Nat) ∧ ps[j]? = some z ∧ PyData.eqv z p = true ∧ ∀ m z', m < j → ps[m]? = some z' → PyData.eqv z' p = false := by
  unfold indexD at h
  split at h
  · rename_i p ps h1 h2
    split at h
    · rename_i hs
      rw [Bool.and_eq_true] at hs
      simp only [Option.map_eq_some_iff] at h
      obtain ⟨j, hj, rfl⟩ := h
      obtain ⟨m, z, e, h3, h4, h5⟩ := indexP_at hj
      rw [Nat.zero_add] at e
      subst e
      exact ⟨p, ps, j, z, h1, h2, hs.1, hs.2, rfl, h3, h4, h5⟩
    · cases h
  · cases h
section
variable {X : Cx} {C : Ctx} {W : WX} {cl : CallF} {a b e o : Expr} {es : List Expr} {a' b' e' o' : Ex} {es' : Exs} {pos p apos : Pos}
theorem m_index (hK : X.K = C.T.K) (hu : X.A.units + 65 < cLine) : MtR X "list.index" (rM1 C.T .index) := mtI (mt_indexD hu) fun x xs H Q ⟨y, hxs, H0, dx, dy, d, e, hx, hy, hg, q⟩ => by
  have key : ∀ ys, (dx = .lst ys ∨ dx = .kst ys) → indexD dy ys = some d → rIndexD X.K x xs H Q := fun ys hd h => by
    obtain ⟨pp, ps, j, z, h1, h2, h3, h4, rfl, h5, h6, h7⟩ := indexD_inv h
    have hl := dp_lst hK e h2 hd hx
    have hrf : ∃ a, x = .ref a := by
      rcases hd with rfl | rfl
      · rcases hx with hx | hx
        · simp only [Rep] at hx; obtain ⟨a, _, rfl, _⟩ := hx; exact ⟨a, rfl⟩
        · obtain ⟨a, _, rfl, _⟩ := hx; exact ⟨a, rfl⟩
      · rcases hx with hx | hx
        · simp only [Rep] at hx; obtain ⟨a, _, rfl, _⟩ := hx; exact ⟨a, rfl⟩
        · exact hx.elim
    obtain ⟨a, rfl⟩ := hrf
    exact ⟨a, y, pp, ps, j, z, rfl, hxs, hl, dp_rd hK e h1 hy, h4, h3, h5, h6, h7, q _ _ _ (Gr.rfl' e) (.flat rfl (r_int _ _ _))⟩
  cases dx with
  | lst ys => exact key ys (.inl rfl) hg
  | kst ys => exact key ys (.inr rfl) hg
  | _ => cases dy <;> cases hg
/-- name.pop(e) -/
theorem c_popI {i : Nat} (h : PE X e (tBM X.K "list" rPopAt (tVar i) (tCons (tI C W cl e') tNil))) : PE X e (tI C W cl (.popI i e')) := peI h fun σ H Q ⟨H0, env, S, q⟩ => by
  simp only [ev] at q
  split at q
  · exact q.elim
  rename_i hl
  simp only [Bool.not_eq_true, Bool.not_eq_false'] at hl
  obtain ⟨a, ds, ha, hs, ho, b, us, eb, hn, hu, hr⟩ := S.ls hl
  cases eb
  refine ⟨.ref a, ha, .inl ⟨rfl, us, SqL.of hu⟩, seqI S q fun u env1 v H1 H1' e1 S1 u1 q1 => ?_⟩
  obtain ⟨dk, hk, q1⟩ := q1.orB
  have fin : ∀ xs n, dk = .int n → isLs (getS env1 i) = true → rdS (getS env1 i) = some (.lst xs) → RQ C W σ (KV C σ Q) H1 (orBad (popD xs n) fun p => .ok (.d p.1) (env1.set i (setIO (getS env1 i) (.lst p.2)))) → rPopAt (.ref a) [v] H1' Q := by
    intro xs n hdk hg hx q4
    subst hdk
    obtain ⟨⟨y, ys⟩, hp, q4⟩ := q4.orB
    unfold popD at hp
    split at hp
    rotate_left
    · cases hp
    rename_i hlm
    simp only [Option.bind_eq_some_iff, Option.map_eq_some_iff, Prod.mk.injEq] at hp
    obtain ⟨j, hj, z, hz, rfl, rfl⟩ := hp
    obtain ⟨b, ds3, hb, hs3, ho3, hr3⟩ := S1.ls hg
    rw [ha] at hb; cases hb
    rw [hs3] at hx; cases hx
    obtain ⟨b, us3, eb, hn3, hu3, hr3⟩ := hr3
    cases eb
    obtain ⟨w, hw, rw'⟩ := RepAll.get2 hr3 hz
    obtain ⟨s1, s2, s3, s4⟩ := ixN_seq hj
    cases rd_int (S1.rd u1 hk)
    have hlen : us3.length = xs.length := hr3.len
    have hlim : xs.length ≤ 100000 := hlm
    refine ⟨a, us3, n, j, w, rfl, rfl, hu3, by omega, by omega, by rw [hlen]; exact s1, hw, ?_⟩
    refine q4 H1 _ (Ext.rfl' _) (S1.mut ho3 ha ⟨a, _, rfl, hn3, upd_same, hr3.erase j⟩) w rw'
  split at q1
  · rename_i xs n hg; exact fin xs n rfl (by rw [hg]; rfl) (by rw [hg]; rfl) (by rw [hg]; exact q1)
  · rename_i xs n hg; exact fin xs n rfl (by rw [hg]; rfl) (by rw [hg]; rfl) (by rw [hg]; exact q1)
  · exact q1.elim
end
end PP
end

section
set_option maxHeartbeats 1000000
/-! Class constants, classmethods, cls(..), isinstance of two types. -/
namespace PP
open PySem PySem.Spec PyProof.Rows L2
section
variable {X : Cx} {C : Ctx} {W : WX} {cl : CallF} {a b e o : Expr} {es : List Expr} {a' b' e' o' : Ex} {es' : Exs} {pos p apos : Pos}
/-- x.f, x a class, f a constant of it -/
theorem pe_cconst {x f : Str} {Ca : Addr} {mc u : Value} {v : V} {p1 : Pos} (hg : Gl X x) (hm : X.mg x = some (.ref Ca)) (r : ClX.CRead X.K Ca mc) (k : ClX.CVal X.K Ca mc f v u) (hb : attributeBase (.Name x p1) f X.env (eval (.Name x p1) X.env) = eval (.Name x p1) X.env := by rfl) (hdb : (x == ("__debug__" : Str)) = false := by decide) :
    PE X (.Attribute (.Name x p1) f pos) (tC v) :=
  peI (ClX.pe_cval (pe_glob (v := .ref Ca) hg hm rfl (hd := hdb)) hb) fun σ H Q q => ⟨Ca, mc, v, u, rfl, r, k, q⟩
/-- C.m(..), m a classmethod -/
theorem readCmt {σ : L2.St} {H : Hp} {Q : VK} {c m n : Nat} {Ca : Addr} (hcn : C.T.cn c = some Ca) (h : tI C W cl (.cmt c m n es') σ H Q) : tAF C W cl es' σ H fun vs H1 => spF C.T cl (spec c m) (n + 1) (.ref Ca :: vs) H1 Q fun cls d H' => W cls d σ H' := by
  obtain ⟨H0, env, S, q⟩ := h
  simp only [ev] at q
  refine ⟨H0, env, S, ?_⟩
  cases z : evF cl es' env with
  | bad => rw [z] at q; exact q.elim
  | exc x env1 => rw [z] at q; exact q
  | ok ds env1 =>
    rw [z] at q
    simp only [R.bind_ok] at q
    split at q
    · rename_i hn
      intro H1 H1' e1 S1 vs hv
      have hv2 : RepAll C.T H1 (.cls c :: ds) (.ref Ca :: vs) := by
        simp only [RepAll]
        exact ⟨_, _, rfl, by simp only [Rep]; exact ⟨Ca, hcn, rfl⟩, hv⟩
      have z2 := read_run (us := (D.cls c :: ds).map .d) (ms := (D.cls c :: ds).map fun _ => false) (n := n + 1) (Q := Q) S1 (UcOk.app (us := []) (vs := []) hv2 rfl) (by simp [hn]) (f := spec c m) (cl := cl) (by
        rw [run_fz]
        exact RQ.mono e1 q)
      exact z2
    · exact q.elim
theorem c_cmt {x mn : Str} {p1 apos : Pos} {k c m n : Nat} {Ca pp g : Addr} {mc : Value} {fd : FuncData} {ps : List Str} {pl : Sem Bool} (F : FnG X.prog X.w X.K X.mg X.base k g fd ps (spF C.T cl (spec c m) (n + 1))) (hgd : X.A.guards = some []) (hr : Room k X.A) (tk : Takes X W)
    (hg : Gl X x) (hm : X.mg x = some (.ref Ca)) (hcn : C.T.cn c = some Ca) (r : ClX.CRead X.K Ca mc) (M : ClX.CMet X.K Ca mc mn pp g) (hb : Binds X.K fd ps []) (ha : PA X (e :: es) (tAF C W cl es')) (hdb : (x == ("__debug__" : Str)) = false := by decide)
    (he : starEach (e :: es) X.env = (false, eval e X.env) :: starEach es X.env := by rfl) (hpl : (backTo pos (starEach es X.env)).any (·.1) = false := by rfl)
    (ht : eval (.Call (.Attribute (.Name x p1) mn apos) (e :: es) [] pos) X.env = (do
      let ov ← eval (.Name x p1) X.env
      standAt apos.atName
      let (f, first) ← holding [ov] (getMethod ov mn pl)
      callWith pos f first (backTo pos (starEach (e :: es) X.env)) (backToKw pos (keywordEach [] X.env))) := by rfl) : PE X (.Call (.Attribute (.Name x p1) mn apos) (e :: es) [] pos) (tI C W cl (.cmt c m n es')) := by
  refine peI (t := fun σ H Q => tAF C W cl es' σ H fun vs H1 => spF C.T cl (spec c m) (n + 1) (.ref Ca :: vs) H1 Q fun cls d H' => W cls d σ H') ⟨fun pins s σ H Q I h => ?_⟩ fun σ H Q q => readCmt hcn q
  refine PySem.W.methodCall_KW (pl := pl) (ld_glob I hg hm ?_ hdb) ht
  refine ClX.getmethcm_ok I r M fun s2 I2 => ?_
  refine ClX.callwith_cm I2 (ClX.base_none I (Nat.le_refl _)) M.fi (thn (ha.run pos _ s2 σ H _ I2 h) fun us s3 ⟨vs, H2, I3, rv, q2⟩ => ⟨⟨ClX.pin_at I3, I3.kIn⟩, ?_⟩) he hpl
  have hlen : (Value.ref Ca :: us).length = ps.length := by
    have z := F.len _ _ _ _ q2
    have z2 : (Value.ref Ca :: us).length = (V.ref Ca :: vs).length := by simp only [List.length_cons]; rw [rv.length]
    rw [z2]; exact z
  have hb2 := hb s3 (.ref Ca :: us) I3.kIn (by simpa using hlen)
  have z : wpAny (model X.prog X.w) X.A (call (.ref _) us) (EP X (_ :: pins) σ Q) X.xe s3 :=
    wpAny_call (PySem.W.method_call (ClX.pin_at I3) (codeAny_mono (F.run X.A X.stack s3 H2 ⟨.ref Ca :: us, []⟩ (.ref Ca :: us) (.ref Ca :: vs) Q _ hgd hr I3.env0 (by simpa using hb2) (.cons rfl rv) q2) fun res s' hq => (by
      cases res with
      | error ee => exact tk _ _ (XE.of_call I3 (fun _ _ _ z => z) hq)
      | ok fl =>
        cases fl with
        | ret u => exact I3.after hq
        | next => exact hq.elim
        | brk => exact hq.elim
        | cont => exact hq.elim)))
  exact thn z fun _ _ y => ClX.unpinE y
/-- cls(..): a name that holds the class -/
def tMkL (C : Ctx) (W : WX) (cl : CallF) (i c n : Nat) (Ca : Addr) (es' : Exs) : TE := fun σ H Q => σ[i]? = some (some (.ref Ca)) ∧ tAF C W cl es' σ H fun vs H1 => ∀ x dx, H1 x = none → H1 dx = none → dx ≠ x →
  spF C.T cl (spec c 0) (n + 1) (.ref x :: (vs ++ [])) (upd (upd H1 dx (.own x)) x (.ins Ca dx [])) (fun v H2 => v = .non ∧ Q (.ref x) H2) fun cls d H' => W cls d σ H'
theorem cls_slot {σ : L2.St} {H0 H : Hp} {env : Env} {i c : Nat} {Ca : Addr} (S : Sim C σ H0 H env) (hcn : C.T.cn c = some Ca) (h : isClsN c (getS env i) = true) : σ[i]? = some (some (.ref Ca)) := by
  have q := S.slots i
  cases z : getS env i with
  | fz d =>
    rw [z] at q h
    cases d with
    | cls c' =>
      have hc : c = c' := by simpa [isClsN] using h
      subst hc
      obtain ⟨v, h1, h2⟩ := q
      simp only [Rep] at h2
      obtain ⟨Cb, h3, rfl⟩ := h2
      rw [hcn] at h3
      cases h3
      exact h1
    | _ => simp [isClsN] at h
  | _ => rw [z] at h; simp [isClsN] at h
theorem readMkL {σ : L2.St} {H : Hp} {Q : VK} {i c n : Nat} {Ca : Addr} (hck : C.T.ck c [] = some Ca) (h : tI C W cl (.mkL i c n es') σ H Q) : tMkL C W cl i c n Ca es' σ H Q := by
  obtain ⟨H0, env, S, q⟩ := h
  simp only [ev] at q
  split at q
  · exact q.elim
  rename_i hcl
  simp only [Bool.not_eq_true, Bool.not_eq_false'] at hcl
  refine ⟨cls_slot S (Tbl.ck_some hck).1 hcl, H0, env, S, ?_⟩
  cases z : evF cl es' env with
  | bad => rw [z] at q; exact q.elim
  | exc x env1 => rw [z] at q; exact q
  | ok ds env1 =>
    rw [z] at q
    simp only [R.bind_ok] at q
    split at q
    · rename_i hn
      intro H1 H1' e1 S1 vs hv x dx nx nd ne
      rw [List.append_nil]
      exact read_mk S1 (allFz_map ds) (arOk_fz hv) (by simp [hn]) hck nx nd ne (RQ.mono e1 q)
    · exact q.elim
theorem c_mkL {y : Str} {k i c n : Nat} {f Ca : Addr} {fd : FuncData} {ps : List Str} (M : Mk X.K Ca f) (F : FnG X.prog X.w X.K X.mg X.base k f fd ps (spF C.T cl (spec c 0) (n + 1))) (hgd : X.A.guards = some []) (room : Room (k + 1) X.A)
    (tk : Takes X W) (hN : X.N[i]? = some y) (hv : Vis X.env.scope y) (hck : C.T.ck c [] = some Ca) (bd : Binds X.K fd ps []) (ha : PA X (e :: es) (tAF C W cl es'))
    (hdb : (y == ("__debug__" : Str)) = false := by decide) (hcd : (y == ("__classdict__" : Str)) = false := by decide) (he : starEach (e :: es) X.env = (false, eval e X.env) :: starEach es X.env := by rfl) (hpl : (backTo pos (starEach es X.env)).any (·.1) = false := by rfl) : PE X (.Call (.Name y p) (e :: es) [] pos) (tI C W cl (.mkL i c n es')) := by
  refine peI (t := tMkL C W cl i c n Ca es') ⟨fun pins s σ H Q I ⟨hs, h⟩ => ?_⟩ fun σ H Q q => readMkL hck q
  refine wpAny_Call_Name_kw (thn ((pe_var (pos := p) (i := i) hN hv hdb hcd).run pins s σ H (fun v H1 => v = .ref Ca ∧ H1 = H) I ⟨.ref Ca, hs, rfl, rfl⟩) fun u s1 ⟨v, H1, I1, r1, q1⟩ => ?_)
  obtain ⟨ev', eH⟩ := q1
  subst ev' eH
  obtain rfl : u = Value.ref Ca := r1
  refine PySem.W.callWith_K (h₀ := X.base) I1.ok.mod.kin M.kp (thn (ha.run pos pins s1 σ _ _ I1 h) fun us s2 hq => ?_) he hpl
  obtain ⟨vs, H2, I2, r, q⟩ := hq
  exact ⟨I2.kIn, mk_run M F hgd room bd .nil tk (fun _ _ _ z => z) I2 r q⟩
/-- cls(*e) -/
theorem readMkLS {σ : L2.St} {H : Hp} {Q : VK} {i c : Nat} {Ca : Addr} (hck : C.T.ck c [] = some Ca) (h : tI C W cl (.mkLS i c es') σ H Q) : σ[i]? = some (some (.ref Ca)) ∧ tAF C W cl es' σ H fun vs H1 => tMkS C W cl c Ca σ vs H1 Q := by
  obtain ⟨H0, env, S, q⟩ := h
  simp only [ev] at q
  split at q
  · exact q.elim
  rename_i hcl
  simp only [Bool.not_eq_true, Bool.not_eq_false'] at hcl
  refine ⟨cls_slot S (Tbl.ck_some hck).1 hcl, readMkS hck ⟨H0, env, S, ?_⟩⟩
  simp only [ev]
  exact q
theorem c_mkLS {y : Str} {k i c : Nat} {f Ca : Addr} {sp : Pos} (hK : X.K = C.T.K) (M : Mk X.K Ca f) (F : FnGS X.prog X.w X.K X.mg X.base k f (spS C.T cl (spec c 0))) (hgd : X.A.guards = some []) (room : Room (k + 1) X.A)
    (tk : Takes X W) (hN : X.N[i]? = some y) (hv : Vis X.env.scope y) (hck : C.T.ck c [] = some Ca) (ha : PE X e (tI C W cl e'))
    (hdb : (y == ("__debug__" : Str)) = false := by decide) (hcd : (y == ("__classdict__" : Str)) = false := by decide) (hst : starEach [.Starred e sp] X.env = [(true, eval e X.env)] := by rfl) : PE X (.Call (.Name y p) [.Starred e sp] [] pos) (tI C W cl (.mkLS i c (.star e' .nil))) := by
  refine peI (t := fun σ H Q => σ[i]? = some (some (.ref Ca)) ∧ tLone C W cl e' (fun σ vs H1 Q => tMkS C W cl c Ca σ vs H1 Q) σ H Q) ⟨fun pins s σ H Q I ⟨hs, h⟩ => ?_⟩ fun σ H Q q => ⟨(readMkLS hck q).1, readLone (readMkLS hck q).2⟩
  refine wpAny_Call_Name_kw (thn ((pe_var (pos := p) (i := i) hN hv hdb hcd).run pins s σ H (fun v H1 => v = .ref Ca ∧ H1 = H) I ⟨.ref Ca, hs, rfl, rfl⟩) fun u s1 ⟨v, H1, I1, r1, q1⟩ => ?_)
  obtain ⟨ev', eH⟩ := q1
  subst ev' eH
  obtain rfl : u = Value.ref Ca := r1
  refine PySem.W.callWith_S (h₀ := X.base) I1.ok.mod.kin M.kp (thn (ha.run pins s1 σ _ _ I1 h) fun v s2 ⟨y, H2, I2, ry, a, xs, ey, hxs, q⟩ => ?_) hst
  subst ey
  obtain rfl : v = Value.ref a := ry
  exact StX.star_any I2 (hK ▸ hxs) fun us s3 I3 rv => ⟨I3.kIn, mkS_run M F hgd room tk (fun _ _ _ z => z) I3 rv q⟩
end
end PP
end

section
set_option maxHeartbeats 1000000
/-! Classmethods called by keywords in the parameters' order. -/
namespace PP
open PySem PySem.Spec PyProof.Rows L2
section
variable {X : Cx} {C : Ctx} {W : WX} {cl : CallF} {a b e o : Expr} {es : List Expr} {a' b' e' o' : Ex} {es' : Exs} {pos p apos : Pos}
theorem f_pk {kws : List Keyword} {nm : Option Str} {kpos : Pos} (ha : PE X e (tI C W cl e')) (hr : PK X kws (tAF C W cl es')) : PK X (⟨nm, e, kpos⟩ :: kws) (tAF C W cl (.cons e' es')) :=
  ⟨fun pos pins s σ H Q I ⟨H0, env, S, q⟩ => (pk_cons ha hr).run pos pins s σ H Q I (by
    simp only [evF] at q
    refine seqI S q fun u env1 x H1 H1' e1 S1 u1 q1 => ?_
    obtain ⟨⟨d, env2⟩, hf, q1⟩ := q1.orB
    obtain ⟨H2, e2, S2, r2⟩ := S1.take u1 hf
    have q2 := RQ.mono e2 q1
    refine ⟨H2, env2, S2, ?_⟩
    cases z : evF cl es' env2 with
    | ok ds env3 =>
      simp only [z] at q2
      exact fun H3 H3' e3 S3 vs hv => q2 H3 H3' e3 S3 (x :: vs) (by simp only [RepAll]; exact ⟨x, vs, rfl, Rep.mono e3 _ _ r2, hv⟩)
    | exc x env3 => simp only [z] at q2; exact q2
    | bad => simp only [z] at q2; exact q2)⟩
theorem f_pk0 : PK X [] (tAF C W cl .nil) := ⟨fun pos pins s σ H Q I ⟨H0, env, S, q⟩ => pk_nil.run pos pins s σ H Q I (by
  simp only [evF] at q
  exact q H0 H (Ext.rfl' _) S [] (by simp only [RepAll]))⟩
/-- how a bound call by keywords in the parameters' order binds -/
def KwBindsC (fd : FuncData) (ps ks : List Str) : Prop := ∀ (s : Shared) (u : Value) (ws : List Value), ws.length = ks.length → BindsTo s fd ⟨[u], ks.zip ws⟩ (ps.zip (u :: ws))
theorem c_cmtP {x mn : Str} {p1 apos : Pos} {k c m n : Nat} {Ca pp g : Addr} {mc : Value} {fd : FuncData} {ps ks : List Str} {pl : Sem Bool} {kws : List Keyword} (F : FnG X.prog X.w X.K X.mg X.base k g fd ps (spF C.T cl (spec c m) (n + 1))) (hgd : X.A.guards = some []) (hr : Room k X.A) (tk : Takes X W)
    (hg : Gl X x) (hm : X.mg x = some (.ref Ca)) (hcn : C.T.cn c = some Ca) (r : ClX.CRead X.K Ca mc) (M : ClX.CMet X.K Ca mc mn pp g) (hb : KwBindsC fd ps ks) (ha : PK X kws (tAF C W cl es')) (hkn : ps.length = ks.length + 1 := by rfl) (hdb : (x == ("__debug__" : Str)) = false := by decide)
    (hall : (backToKw pos (keywordEach kws X.env)).all (·.1.isSome) = true := by rfl) (hks : (backToKw pos (keywordEach kws X.env)).filterMap (·.1) = ks := by rfl)
    (hpl : ((backTo pos (starEach [] X.env)).any (·.1) || (backToKw pos (keywordEach kws X.env)).any (·.1.isNone)) = false := by rfl)
    (ht : eval (.Call (.Attribute (.Name x p1) mn apos) [] kws pos) X.env = (do
      let ov ← eval (.Name x p1) X.env
      standAt apos.atName
      let (f, first) ← holding [ov] (getMethod ov mn pl)
      callWith pos f first (backTo pos (starEach [] X.env)) (backToKw pos (keywordEach kws X.env))) := by rfl) : PE X (.Call (.Attribute (.Name x p1) mn apos) [] kws pos) (tI C W cl (.cmt c m n es')) := by
  refine peI (t := fun σ H Q => tAF C W cl es' σ H fun vs H1 => spF C.T cl (spec c m) (n + 1) (.ref Ca :: vs) H1 Q fun cls d H' => W cls d σ H') ⟨fun pins s σ H Q I h => ?_⟩ fun σ H Q q => readCmt hcn q
  refine PySem.W.methodCall_KW (pl := pl) (ld_glob I hg hm ?_ hdb) ht
  refine ClX.getmethcm_ok I r M fun s2 I2 => ?_
  have hq := ClX.pin_at I2
  have hX : PySem.W.MethP X.K _ g (.ref Ca) s2.heap := ⟨hq, I2.kIn⟩
  refine PySem.W.callWith_of hpl (PySem.W.keeps_M M.fi) (evalArgs_kw2_nil hall (thn (ha.run pos _ s2 σ H _ I2 h) fun us s3 ⟨vs, H2, I3, rv, q2⟩ => ⟨⟨ClX.pin_at I3, I3.kIn⟩, ?_⟩))
  rw [hks]
  have hlen : (Value.ref Ca :: us).length = ps.length := by
    have z := F.len _ _ _ _ q2
    have z2 : (Value.ref Ca :: us).length = (V.ref Ca :: vs).length := by simp only [List.length_cons]; rw [rv.length]
    rw [z2]; exact z
  have hb2 := hb s3 (.ref Ca) us (by simp only [List.length_cons] at hlen; omega)
  have z : wpAny (model X.prog X.w) X.A (call (.ref _) [] (ks.zip us)) (EP X (_ :: pins) σ Q) X.xe s3 :=
    wpAny_call (PySem.W.method_call (ClX.pin_at I3) (codeAny_mono (F.run X.A X.stack s3 H2 ⟨[.ref Ca], ks.zip us⟩ (.ref Ca :: us) (.ref Ca :: vs) Q _ hgd hr I3.env0 hb2 (.cons rfl rv) q2) fun res s' hq => (by
      cases res with
      | error ee => exact tk _ _ (XE.of_call I3 (fun _ _ _ z => z) hq)
      | ok fl =>
        cases fl with
        | ret u => exact I3.after hq
        | next => exact hq.elim
        | brk => exact hq.elim
        | cont => exact hq.elim)))
  exact thn z fun _ _ y => ClX.unpinE y
end
end PP
end

section
namespace PP
open PySem L2
/-- is_integer(value): 0 value -/
def F_is_integer : Fn := { n := 1, body := (.cons (.ret (.and (.bi .isInt (.cons (.var 0) .nil)) (.not (.bi .isBool (.cons (.var 0) .nil))))) .nil) }
/-- is_between(value, least, most): 0 value 1 least 2 most -/
def F_is_between : Fn := { n := 3, body := (.cons (.ret (.and (.call 0 [false] (.cons (.var 0) .nil)) (.chain .le .le (.var 1) (.var 0) (.var 2)))) .nil) }
/-- is_level(value): 0 value -/
def F_is_level : Fn := { n := 1, body := (.cons (.ret (.call 1 [false, false, false] (.cons (.var 0) (.cons (.cst (.int 0)) (.cons (.cst (.int 100)) .nil))))) .nil) }
/-- is_pair(value): 0 value -/
def F_is_pair : Fn := { n := 1, body := (.cons (.ret (.and (.bi .isTuple (.cons (.var 0) .nil)) (.and (.op2 .eq (.bi .len (.cons (.var 0) .nil)) (.cst (.int 2))) (.and (.call 0 [false] (.cons (.ix (.var 0) (.cst (.int 0))) .nil)) (.call 0 [false] (.cons (.ix (.var 0) (.cst (.int 1))) .nil)))))) .nil) }
/-- need_box(other): 0 other -/
def F_need_box : Fn := { n := 1, body := (.cons (.iff (.not (.isObj [5] (.var 0))) (.cons (.raise 3 [1] (.cons (.cst (.str "other")) .nil)) .nil) .nil) .nil) }
/-- moved_by(box, move, sign): 0 box 1 move 2 sign -/
def F_moved_by : Fn := { n := 3, body := (.cons (.iff (.not (.call 3 [false] (.cons (.var 1) .nil))) (.cons (.raise 3 [1] (.cons (.cst (.str "move")) .nil)) .nil) .nil) (.cons (.ret (.mk 5 [false, false, false, false] (.cons (.op2 .add (.fld (.var 0) 2) (.op2 .mul (.var 2) (.ix (.var 1) (.cst (.int 0))))) (.cons (.op2 .add (.fld (.var 0) 3) (.op2 .mul (.var 2) (.ix (.var 1) (.cst (.int 1))))) (.cons (.fld (.var 0) 4) (.cons (.fld (.var 0) 5) .nil)))) [])) .nil)) }
/-- need_shift(n): 0 n -/
def F_need_shift : Fn := { n := 1, body := (.cons (.iff (.not (.call 1 [false, false, false] (.cons (.var 0) (.cons (.cst (.int 0)) (.cons (.cst (.int 100)) .nil))))) (.cons (.raise 4 [0] (.cons (.var 0) .nil)) .nil) .nil) .nil) }
/-- is_within(one, other): 0 one 1 other -/
def F_is_within : Fn := { n := 2, body := (.cons (.iff (.or (.op2 .lt (.fld (.var 0) 2) (.fld (.var 1) 2)) (.op2 .lt (.fld (.var 0) 3) (.fld (.var 1) 3))) (.cons (.ret (.cst (.bl false))) .nil) .nil) (.cons (.ret (.and (.op2 .le (.op2 .add (.fld (.var 0) 2) (.fld (.var 0) 4)) (.op2 .add (.fld (.var 1) 2) (.fld (.var 1) 4))) (.op2 .le (.op2 .add (.fld (.var 0) 3) (.fld (.var 0) 5)) (.op2 .add (.fld (.var 1) 3) (.fld (.var 1) 5))))) .nil)) }
/-- common_box(one, other): 0 one 1 other 2 left 3 low 4 right 5 top -/
def F_common_box : Fn := { n := 6, body := (.cons (.par [2, 3] (.cons (.bi .max2 (.cons (.bi .int (.cons (.fld (.var 0) 2) .nil)) (.cons (.bi .int (.cons (.fld (.var 1) 2) .nil)) .nil))) (.cons (.bi .max2 (.cons (.bi .int (.cons (.fld (.var 0) 3) .nil)) (.cons (.bi .int (.cons (.fld (.var 1) 3) .nil)) .nil))) .nil))) (.cons (.asg 4 (.bi .min2 (.cons (.bi .int (.cons (.op2 .add (.fld (.var 0) 2) (.fld (.var 0) 4)) .nil)) (.cons (.bi .int (.cons (.op2 .add (.fld (.var 1) 2) (.fld (.var 1) 4)) .nil)) .nil)))) (.cons (.asg 5 (.bi .min2 (.cons (.bi .int (.cons (.op2 .add (.fld (.var 0) 3) (.fld (.var 0) 5)) .nil)) (.cons (.bi .int (.cons (.op2 .add (.fld (.var 1) 3) (.fld (.var 1) 5)) .nil)) .nil)))) (.cons (.ret (.ife (.and (.op2 .lt (.var 2) (.var 4)) (.op2 .lt (.var 3) (.var 5))) (.mk 5 [false, false, false, false] (.cons (.var 2) (.cons (.var 3) (.cons (.op2 .sub (.var 4) (.var 2)) (.cons (.op2 .sub (.var 5) (.var 3)) .nil)))) []) (.cst .non))) .nil)))) }
/-- least_box(one, other): 0 one 1 other 2 left 3 low 4 right 5 top -/
def F_least_box : Fn := { n := 6, body := (.cons (.par [2, 3] (.cons (.bi .min2 (.cons (.bi .int (.cons (.fld (.var 0) 2) .nil)) (.cons (.bi .int (.cons (.fld (.var 1) 2) .nil)) .nil))) (.cons (.bi .min2 (.cons (.bi .int (.cons (.fld (.var 0) 3) .nil)) (.cons (.bi .int (.cons (.fld (.var 1) 3) .nil)) .nil))) .nil))) (.cons (.asg 4 (.bi .max2 (.cons (.bi .int (.cons (.op2 .add (.fld (.var 0) 2) (.fld (.var 0) 4)) .nil)) (.cons (.bi .int (.cons (.op2 .add (.fld (.var 1) 2) (.fld (.var 1) 4)) .nil)) .nil)))) (.cons (.asg 5 (.bi .max2 (.cons (.bi .int (.cons (.op2 .add (.fld (.var 0) 3) (.fld (.var 0) 5)) .nil)) (.cons (.bi .int (.cons (.op2 .add (.fld (.var 1) 3) (.fld (.var 1) 5)) .nil)) .nil)))) (.cons (.ret (.mk 5 [false, false, false, false] (.cons (.var 2) (.cons (.var 3) (.cons (.op2 .sub (.var 4) (.var 2)) (.cons (.op2 .sub (.var 5) (.var 3)) .nil)))) [])) .nil)))) }
/-- Box.__init__(self, x, y, width, height): 0 self 1 x 2 y 3 width 4 height -/
def F_Box__init__ : Fn := { n := 5, body := (.cons (.iff (.not (.call 1 [false, false, false] (.cons (.var 1) (.cons (.cst (.int 0)) (.cons (.op2 .sub (.cst (.int 1267650600228229401496703205376)) (.cst (.int 1))) .nil))))) (.cons (.raise 3 [1] (.cons (.cst (.str "x")) .nil)) .nil) .nil) (.cons (.iff (.not (.call 1 [false, false, false] (.cons (.var 2) (.cons (.cst (.int 0)) (.cons (.op2 .sub (.cst (.int 1267650600228229401496703205376)) (.cst (.int 1))) .nil))))) (.cons (.raise 3 [1] (.cons (.cst (.str "y")) .nil)) .nil) .nil) (.cons (.iff (.not (.call 1 [false, false, false] (.cons (.var 3) (.cons (.cst (.int 1)) (.cons (.cst (.int 1267650600228229401496703205376)) .nil))))) (.cons (.raise 3 [1] (.cons (.cst (.str "width")) .nil)) .nil) .nil) (.cons (.iff (.not (.call 1 [false, false, false] (.cons (.var 4) (.cons (.cst (.int 1)) (.cons (.cst (.int 1267650600228229401496703205376)) .nil))))) (.cons (.raise 3 [1] (.cons (.cst (.str "height")) .nil)) .nil) .nil) (.cons (.setF 0 [5] 2 (.var 1)) (.cons (.setF 0 [5] 3 (.var 2)) (.cons (.setF 0 [5] 4 (.var 3)) (.cons (.setF 0 [5] 5 (.var 4)) .nil)))))))) }
/-- Box.square(level): 0 level -/
def F_Box_square : Fn := { n := 1, body := (.cons (.iff (.not (.call 2 [false] (.cons (.var 0) .nil))) (.cons (.raise 2 [0] (.cons (.var 0) .nil)) .nil) .nil) (.cons (.ret (.mk 5 [false, false, false, false] (.cons (.cst (.int 0)) (.cons (.cst (.int 0)) (.cons (.op2 .shl (.cst (.int 1)) (.var 0)) (.cons (.op2 .shl (.cst (.int 1)) (.var 0)) .nil)))) [])) .nil)) }
/-- Box.__and__(self, other): 0 self 1 other -/
def F_Box__and__ : Fn := { n := 2, body := (.cons (.ex (.call 4 [false] (.cons (.var 1) .nil))) (.cons (.ret (.call 8 [false, false] (.cons (.var 0) (.cons (.var 1) .nil)))) .nil)) }
/-- Box.__or__(self, other): 0 self 1 other -/
def F_Box__or__ : Fn := { n := 2, body := (.cons (.ex (.call 4 [false] (.cons (.var 1) .nil))) (.cons (.ret (.call 9 [false, false] (.cons (.var 0) (.cons (.var 1) .nil)))) .nil)) }
/-- Box.__add__(self, move): 0 self 1 move -/
def F_Box__add__ : Fn := { n := 2, body := (.cons (.ret (.call 5 [false, false, false] (.cons (.var 0) (.cons (.var 1) (.cons (.cst (.int 1)) .nil))))) .nil) }
/-- Box.__sub__(self, move): 0 self 1 move -/
def F_Box__sub__ : Fn := { n := 2, body := (.cons (.ret (.call 5 [false, false, false] (.cons (.var 0) (.cons (.var 1) (.cons (.op1 .neg (.cst (.int 1))) .nil))))) .nil) }
/-- Box.__rshift__(self, n): 0 self 1 n 2 left 3 low 4 right 5 top -/
def F_Box__rshift__ : Fn := { n := 6, body := (.cons (.ex (.call 6 [false] (.cons (.var 1) .nil))) (.cons (.par [2, 3] (.cons (.op2 .shr (.fld (.var 0) 2) (.var 1)) (.cons (.op2 .shr (.fld (.var 0) 3) (.var 1)) .nil))) (.cons (.par [4, 5] (.cons (.op2 .shr (.op2 .sub (.op2 .add (.fld (.var 0) 2) (.fld (.var 0) 4)) (.cst (.int 1))) (.var 1)) (.cons (.op2 .shr (.op2 .sub (.op2 .add (.fld (.var 0) 3) (.fld (.var 0) 5)) (.cst (.int 1))) (.var 1)) .nil))) (.cons (.ret (.mk 5 [false, false, false, false] (.cons (.var 2) (.cons (.var 3) (.cons (.op2 .add (.op2 .sub (.var 4) (.var 2)) (.cst (.int 1))) (.cons (.op2 .add (.op2 .sub (.var 5) (.var 3)) (.cst (.int 1))) .nil)))) [])) .nil)))) }
/-- Box.__lshift__(self, n): 0 self 1 n -/
def F_Box__lshift__ : Fn := { n := 2, body := (.cons (.ex (.call 6 [false] (.cons (.var 1) .nil))) (.cons (.ret (.mk 5 [false, false, false, false] (.cons (.op2 .shl (.fld (.var 0) 2) (.var 1)) (.cons (.op2 .shl (.fld (.var 0) 3) (.var 1)) (.cons (.op2 .shl (.fld (.var 0) 4) (.var 1)) (.cons (.op2 .shl (.fld (.var 0) 5) (.var 1)) .nil)))) [])) .nil)) }
/-- Box.__le__(self, other): 0 self 1 other -/
def F_Box__le__ : Fn := { n := 2, body := (.cons (.ex (.call 4 [false] (.cons (.var 1) .nil))) (.cons (.ret (.call 7 [false, false] (.cons (.var 0) (.cons (.var 1) .nil)))) .nil)) }
/-- Box.__lt__(self, other): 0 self 1 other -/
def F_Box__lt__ : Fn := { n := 2, body := (.cons (.ex (.call 4 [false] (.cons (.var 1) .nil))) (.cons (.ret (.and (.call 7 [false, false] (.cons (.var 0) (.cons (.var 1) .nil))) (.not (.call 7 [false, false] (.cons (.var 1) (.cons (.var 0) .nil)))))) .nil)) }
/-- Box.__ge__(self, other): 0 self 1 other -/
def F_Box__ge__ : Fn := { n := 2, body := (.cons (.ex (.call 4 [false] (.cons (.var 1) .nil))) (.cons (.ret (.call 7 [false, false] (.cons (.var 1) (.cons (.var 0) .nil)))) .nil)) }
/-- Box.__gt__(self, other): 0 self 1 other -/
def F_Box__gt__ : Fn := { n := 2, body := (.cons (.ex (.call 4 [false] (.cons (.var 1) .nil))) (.cons (.ret (.and (.call 7 [false, false] (.cons (.var 1) (.cons (.var 0) .nil))) (.not (.call 7 [false, false] (.cons (.var 0) (.cons (.var 1) .nil)))))) .nil)) }
/-- Box.__str__(self): 0 self -/
def F_Box__str__ : Fn := { n := 1, body := (.cons (.ret (.fstr (.cons (.fld (.var 0) 2) (.cons (.cst (.str " ")) (.cons (.fld (.var 0) 3) (.cons (.cst (.str " ")) (.cons (.fld (.var 0) 4) (.cons (.cst (.str " ")) (.cons (.fld (.var 0) 5) .nil))))))))) .nil) }
/-- number_in(word, least, most): 0 word 1 least 2 most 3 sign -/
def F_number_in : Fn := { n := 4, body := (.cons (.iff (.or (.op2 .eq (.var 0) (.cst (.str ""))) (.or (.op2 .gt (.bi .len (.cons (.var 0) .nil)) (.bi .len (.cons (.fstr (.cons (.var 2) .nil)) .nil))) (.not (.bi .all (.cons (.lc [3] (.nm 3) (.str (.var 0)) false (.cst .non) (.op2 .isin (.var 3) (.cst (.str "0123456789")))) .nil))))) (.cons (.ret (.cst .non)) .nil) .nil) (.cons (.iff (.or (.and (.op2 .eq (.ix (.var 0) (.cst (.int 0))) (.cst (.str "0"))) (.op2 .ne (.var 0) (.cst (.str "0")))) (.not (.chain .le .le (.var 1) (.bi .int (.cons (.var 0) .nil)) (.var 2)))) (.cons (.ret (.cst .non)) .nil) .nil) (.cons (.ret (.bi .int (.cons (.var 0) .nil))) .nil))) }
/-- Box.read(cls, text): 0 cls 1 text 2 words 3 x 4 y 5 width 6 height -/
def F_Box_read : Fn := { n := 7, body := (.cons (.iff (.not (.bi .isStr (.cons (.var 1) .nil))) (.cons (.raise 6 [7, 6] (.cons (.cst (.int 0)) (.cons (.cst (.int 0)) .nil))) .nil) .nil) (.cons (.asg 2 (.bm .split (.var 1) (.cst (.str " ")))) (.cons (.unp [3, 4, 5, 6] (.callD 11 [false] (.cons (.var 2) .nil) [(.int 0), (.int 0)])) (.cons (.iff (.op2 .gt (.bi .len (.cons (.var 2) .nil)) (.cst (.int 4))) (.cons (.raise 6 [7, 6] (.cons (.cst (.int 0)) (.cons (.cst (.int 4)) .nil))) .nil) .nil) (.cons (.ret (.mkL 0 5 4 (.cons (.var 3) (.cons (.var 4) (.cons (.var 5) (.cons (.var 6) .nil)))))) .nil))))) }
/-- box_numbers(words, begin, line): 0 words 1 begin 2 line 3 found 4 at 5 word 6 told -/
def F_box_numbers : Fn := { n := 7, body := (.cons (.asg 3 (.lst .nil)) (.cons (.forr 4 (.cst (.int 4)) (.cons (.asg 5 (.ife (.op2 .lt (.op2 .add (.var 1) (.var 4)) (.bi .len (.cons (.var 0) .nil))) (.ix (.var 0) (.op2 .add (.var 1) (.var 4))) (.cst (.str "")))) (.cons (.asg 6 (.ife (.op2 .lt (.var 4) (.cst (.int 2))) (.call 10 [false, false, false] (.cons (.var 5) (.cons (.cst (.int 0)) (.cons (.op2 .sub (.cst (.int 1267650600228229401496703205376)) (.cst (.int 1))) .nil)))) (.call 10 [false, false, false] (.cons (.var 5) (.cons (.cst (.int 1)) (.cons (.cst (.int 1267650600228229401496703205376)) .nil)))))) (.cons (.iff (.op2 .is (.var 6) (.cst .non)) (.cons (.raise 6 [7, 6] (.cons (.var 2) (.cons (.op2 .add (.var 1) (.var 4)) .nil))) .nil) .nil) (.cons (.app 3 (.var 6)) .nil))))) (.cons (.ret (.var 3)) .nil))) }
end PP
end

section
namespace PP
open PySem L2
theorem ev_w0 {cl : CallF} {i} {s0 : Sl} {r0 : Env} : ev cl (.var i) (s0 :: r0) = (match getS (s0 :: r0) i with
    | .un => .bad
    | .fz d => .ok (.d d) (s0 :: r0)
    | _ => .ok (.sl i) (s0 :: r0)) := rfl
theorem ev_w1 {cl : CallF} {d} {s0 : Sl} {r0 : Env} : ev cl (.cst d) (s0 :: r0) = (.ok (.d d) (s0 :: r0)) := rfl
theorem ev_w2 {cl : CallF} {a} {b} {o} {s0 : Sl} {r0 : Env} : ev cl (.op2 o a b) (s0 :: r0) = ((ev cl a (s0 :: r0)).bind fun u env1 => (ev cl b env1).bind fun w env2 =>
      orBad (rdU env2 (pend u)) fun x => orBad (rdU env2 w) fun y => orBad (op2 o x y) fun z => .ok (.nw z) env2) := rfl
theorem ev_w3 {cl : CallF} {a} {o} {s0 : Sl} {r0 : Env} : ev cl (.op1 o a) (s0 :: r0) = ((ev cl a (s0 :: r0)).bind fun u env1 => orBad (rdU env1 u) fun x => orBad (op1 o x) fun z => .ok (.nw z) env1) := rfl
theorem ev_w4 {cl : CallF} {a} {b} {c} {o} {p} {s0 : Sl} {r0 : Env} : ev cl (.chain o p a b c) (s0 :: r0) = ((ev cl a (s0 :: r0)).bind fun u env1 => (ev cl b env1).bind fun w env2 =>
      orBad (rdU env2 (pend u)) fun x => orBad (rdU env2 (pend w)) fun y => orBad (op2 o x y) fun z => match z with
        | .bl true => (ev cl c env2).bind fun q env3 => orBad (rdU env3 (pend w)) fun y' => orBad (rdU env3 q) fun r => orBad (op2 p y' r) fun z' => .ok (.nw z') env3
        | .bl false => .ok (.nw (.bl false)) env2
        | _ => .bad) := rfl
theorem ev_w5 {cl : CallF} {a} {b} {s0 : Sl} {r0 : Env} : ev cl (.and a b) (s0 :: r0) = ((ev cl a (s0 :: r0)).bind fun u env1 => orBad (rdU env1 u) fun x => orBad (truD x) fun t => match t with
        | true => ev cl b env1
        | false => .ok (pend u) env1) := rfl
theorem ev_w6 {cl : CallF} {a} {b} {s0 : Sl} {r0 : Env} : ev cl (.or a b) (s0 :: r0) = ((ev cl a (s0 :: r0)).bind fun u env1 => orBad (rdU env1 u) fun x => orBad (truD x) fun t => match t with
        | true => .ok (pend u) env1
        | false => ev cl b env1) := rfl
theorem ev_w7 {cl : CallF} {a} {s0 : Sl} {r0 : Env} : ev cl (.not a) (s0 :: r0) = ((ev cl a (s0 :: r0)).bind fun u env1 => orBad (rdU env1 u) fun x => orBad (truD x) fun t => .ok (.nw (.bl (!t))) env1) := rfl
theorem ev_w8 {cl : CallF} {a} {b} {c} {s0 : Sl} {r0 : Env} : ev cl (.ife c a b) (s0 :: r0) = ((ev cl c (s0 :: r0)).bind fun u env1 => orBad (rdU env1 u) fun x => orBad (truD x) fun t => match t with
        | true => ev cl a env1
        | false => ev cl b env1) := rfl
theorem ev_w9 {cl : CallF} {es} {s0 : Sl} {r0 : Env} : ev cl (.tup es) (s0 :: r0) = ((evF cl es (s0 :: r0)).bind fun ds env1 => if ds.length ≤ LIM then .ok (.nw (.tup ds)) env1 else .bad) := rfl
theorem ev_w10 {cl : CallF} {es} {s0 : Sl} {r0 : Env} : ev cl (.lst es) (s0 :: r0) = ((evF cl es (s0 :: r0)).bind fun ds env1 => if ds.length ≤ LIM then .ok (.nw (.lst ds)) env1 else .bad) := rfl
theorem ev_w11 {cl : CallF} {s0 : Sl} {r0 : Env} : ev cl (.dic) (s0 :: r0) = (.ok (.nw (.dK [] [])) (s0 :: r0)) := rfl
theorem ev_w12 {cl : CallF} {es} {f} {ms} {s0 : Sl} {r0 : Env} : ev cl (.call f ms es) (s0 :: r0) = ((evC cl ms es (s0 :: r0)).bind fun us env1 => orBad (argsOf env1 ms us) fun as =>
      if dupFree (ioSlots us) then match cl f as with
        | .ok r outs => .ok r (putIO env1 (ioSlots us) outs)
        | .exc x outs => .exc x (putIO env1 (ioSlots us) outs)
        | .bad => .bad
      else .bad) := rfl
theorem ev_w13 {cl : CallF} {es} {f} {ms} {pm} {s0 : Sl} {r0 : Env} : ev cl (.callP f ms pm es) (s0 :: r0) = ((evC cl (ms.map fun _ => false) es (s0 :: r0)).bind fun us env1 => orBad (argsOf env1 ms (permL pm us)) fun as =>
      if dupFree (ioSlots (permL pm us)) && decide (us.length = ms.length) then match cl f as with
        | .ok r outs => .ok r (putIO env1 (ioSlots (permL pm us)) outs)
        | .exc x outs => .exc x (putIO env1 (ioSlots (permL pm us)) outs)
        | .bad => .bad
      else .bad) := rfl
theorem ev_w14 {cl : CallF} {b} {es} {s0 : Sl} {r0 : Env} : ev cl (.bi b es) (s0 :: r0) = ((evR cl es (s0 :: r0)).bind fun us env1 => orBad (rdAll env1 us) fun ds => orBad (biD b ds) fun z => .ok (.nw z) env1) := rfl
theorem ev_w15 {cl : CallF} {a} {i} {s0 : Sl} {r0 : Env} : ev cl (.ix a i) (s0 :: r0) = ((ev cl a (s0 :: r0)).bind fun u env1 => (ev cl i env1).bind fun w env2 =>
      orBad (rdU env2 (pend u)) fun x => orBad (rdU env2 w) fun y => orBad (ixD x y) fun z => .ok (.d z) env2) := rfl
theorem ev_w16 {cl : CallF} {a} {bh} {bl} {hi} {lo} {s0 : Sl} {r0 : Env} : ev cl (.slice a bl bh lo hi) (s0 :: r0) = ((ev cl a (s0 :: r0)).bind fun u env1 => (optP bl (ev cl lo) env1).bind fun l env2 => (optP bh (ev cl hi) env2).bind fun h env3 => orBad (rdU env3 (pend u)) fun x => match x with
        | .lst xs => .ok (.nw (.lst (cutD xs l h))) env3
        | .kst xs => .ok (.nw (.lst (cutD xs l h))) env3
        | .tup xs => if HT.sIx xs.length 0 l = 0 ∧ HT.sIx xs.length xs.length h = xs.length then .bad else .ok (.nw (.tup (cutD xs l h))) env3
        | .str z => if z.length ≤ LIM then .ok (.nw (.str (cutS z l h))) env3 else .bad
        | _ => .bad) := rfl
theorem ev_w17 {cl : CallF} {a} {k} {s0 : Sl} {r0 : Env} : ev cl (.fld a k) (s0 :: r0) = ((ev cl a (s0 :: r0)).bind fun u env1 => orBad (rdU env1 u) fun x => orBad (fldOf x k) fun z => .ok (.d z) env1) := rfl
theorem ev_w18 {cl : CallF} {a} {b} {cs} {o} {ts} {s0 : Sl} {r0 : Env} : ev cl (.opo o cs ts a b) (s0 :: r0) = ((ev cl a (s0 :: r0)).bind fun u env1 => orBad (fzU env1 u) fun p => (ev cl b p.2).bind fun w env2 => orBad (fzU env2 w) fun q => ownOp cl o cs ts p.1 q.1 q.2) := rfl
theorem ev_w19 {cl : CallF} {ds} {es} {f} {ms} {s0 : Sl} {r0 : Env} : ev cl (.callD f ms es ds) (s0 :: r0) = ((evC cl ms es (s0 :: r0)).bind fun us env1 => runC cl f (ms ++ ds.map fun _ => false) (us ++ ds.map .d) env1) := rfl
theorem ev_w20 {cl : CallF} {c} {ds} {es} {ms} {s0 : Sl} {r0 : Env} : ev cl (.mk c ms es ds) (s0 :: r0) = ((evC cl ms es (s0 :: r0)).bind fun us env1 => orBad (argsOf env1 (ms ++ ds.map fun _ => false) (us ++ ds.map .d)) fun as => if allFz as then makeO cl c as env1 else .bad) := rfl
theorem ev_w21 {cl : CallF} {a} {cs} {ds} {es} {io} {m} {ms} {s0 : Sl} {r0 : Env} : ev cl (.mth io a m cs ms es ds) (s0 :: r0) = ((ev cl a (s0 :: r0)).bind fun u env1 => orBad (recvU io env1 u) fun p => if !cs.contains p.1 then .bad else (evC cl ms es p.2.2).bind fun us env2 =>
      runC cl (spec p.1 m) (io :: (ms ++ ds.map fun _ => false)) (p.2.1 :: (us ++ ds.map .d)) env2) := rfl
theorem ev_w22 {cl : CallF} {a} {cs} {m} {s0 : Sl} {r0 : Env} : ev cl (.prp a m cs) (s0 :: r0) = ((ev cl a (s0 :: r0)).bind fun u env1 => orBad (recvU false env1 u) fun p => if !cs.contains p.1 then .bad else orBad (rdU p.2.2 p.2.1) fun x => match cl (spec p.1 m) [.fz x] with
      | .ok r _ => .ok r p.2.2
      | _ => .bad) := rfl
theorem ev_w23 {cl : CallF} {a} {b} {cs} {neg} {s0 : Sl} {r0 : Env} : ev cl (.ino neg cs a b) (s0 :: r0) = ((ev cl a (s0 :: r0)).bind fun u env1 => orBad (fzU env1 u) fun p => (ev cl b p.2).bind fun w env2 => orBad (fzU env2 w) fun q => ownIn cl neg cs p.1 q.1 q.2) := rfl
theorem ev_w24 {cl : CallF} {a} {b} {cs} {s0 : Sl} {r0 : Env} : ev cl (.neo cs a b) (s0 :: r0) = ((ev cl a (s0 :: r0)).bind fun u env1 => orBad (fzU env1 u) fun p => (ev cl b p.2).bind fun w env2 => orBad (fzU env2 w) fun q => ownNe cl cs p.1 q.1 q.2) := rfl
theorem ev_w25 {cl : CallF} {c} {e} {hc} {it} {tg} {vs} {s0 : Sl} {r0 : Env} : ev cl (.lc vs tg it hc c e) (s0 :: r0) = ((itD cl it (s0 :: r0)).bind fun ds env1 => lcAll vs env1 (lcD (lcTurn vs tg hc (ev cl c) (ev cl e)) ds env1 [])) := rfl
theorem ev_w26 {cl : CallF} {e} {i} {s0 : Sl} {r0 : Env} : ev cl (.popI i e) (s0 :: r0) = (if !isLs (getS (s0 :: r0) i) then .bad else (ev cl e (s0 :: r0)).bind fun u env1 => orBad (rdU env1 u) fun k => match getS env1 i, k with
      | .ow (.lst xs), .int n => orBad (popD xs n) fun p => .ok (.d p.1) (env1.set i (.ow (.lst p.2)))
      | .io (.lst xs), .int n => orBad (popD xs n) fun p => .ok (.d p.1) (env1.set i (.io (.lst p.2)))
      | _, _ => .bad) := rfl
theorem ev_w27 {cl : CallF} {b} {e} {o} {s0 : Sl} {r0 : Env} : ev cl (.bm b o e) (s0 :: r0) = ((ev cl o (s0 :: r0)).bind fun u env1 => orBad (rdU env1 u) fun x0 => if !recvB b x0 then .bad else (ev cl e env1).bind fun w env2 => orBad (rdU env2 (pend u)) fun x => orBad (rdU env2 w) fun y => orBad (biD b [x, y]) fun z => .ok (.nw z) env2) := rfl
theorem ev_w28 {cl : CallF} {a} {cs} {s0 : Sl} {r0 : Env} : ev cl (.lenO cs a) (s0 :: r0) = ((ev cl a (s0 :: r0)).bind fun u env1 => orBad (recvU false env1 u) fun p => if !cs.contains p.1 then .bad else orBad (rdU p.2.2 p.2.1) fun x => match cl (spec p.1 19) [.fz x] with
      | .ok (.d (.int n)) _ => if decide (0 ≤ n) && decide (n < 2 ^ 40) then .ok (.nw (.int n)) p.2.2 else .bad
      | _ => .bad) := rfl
theorem ev_w29 {cl : CallF} {es} {s0 : Sl} {r0 : Env} : ev cl (.fstr es) (s0 :: r0) = ((evJ cl es Str.empty (s0 :: r0)).bind fun z env1 => .ok (.nw (.str z)) env1) := rfl
theorem ev_w30 {cl : CallF} {a} {cs} {s0 : Sl} {r0 : Env} : ev cl (.strO cs a) (s0 :: r0) = ((ev cl a (s0 :: r0)).bind fun u env1 => orBad (recvU false env1 u) fun p => if !cs.contains p.1 then .bad else orBad (rdU p.2.2 p.2.1) fun x => match cl (spec p.1 21) [.fz x] with
      | .ok (.d (.str z)) _ => .ok (.nw (.str z)) p.2.2
      | _ => .bad) := rfl
theorem ev_w31 {cl : CallF} {c} {es} {pm} {s0 : Sl} {r0 : Env} : ev cl (.mkP c pm es) (s0 :: r0) = ((evC cl (pm.map fun _ => false) es (s0 :: r0)).bind fun us env1 => orBad (argsOf env1 (pm.map fun _ => false) (permL pm us)) fun as => if allFz as && decide (us.length = pm.length) then makeO cl c as env1 else .bad) := rfl
theorem ev_w32 {cl : CallF} {c} {es} {ks} {pm} {s0 : Sl} {r0 : Env} : ev cl (.mkEP c ks pm es) (s0 :: r0) = ((evF cl es (s0 :: r0)).bind fun ds env1 => if (permL pm ds).length = ks.length ∧ ds.length = ks.length then .ok (.d (.err c ks (permL pm ds).reverse)) env1 else .bad) := rfl
theorem ev_w33 {cl : CallF} {c} {es} {ks} {s0 : Sl} {r0 : Env} : ev cl (.mkE c ks es) (s0 :: r0) = ((evF cl es (s0 :: r0)).bind fun ds env1 => if ds.length = ks.length then .ok (.d (.err c ks ds.reverse)) env1 else .bad) := rfl
theorem ev_w34 {cl : CallF} {e} {f} {vs} {s0 : Sl} {r0 : Env} : ev cl (.heard f vs e) (s0 :: r0) = (orBad (frzAll vs (s0 :: r0)) fun env1 => match ev cl e (maskE env1) with
      | .ok u env2 => orBad (fzU env2 u) fun p => hearC cl f (.tup [.non, p.1]) env1
      | .exc x _ => hearC cl f (.err x.1 x.2.1 x.2.2) env1
      | .bad => .bad) := rfl
theorem ev_w35 {cl : CallF} {e} {f} {vs} {s0 : Sl} {r0 : Env} : ev cl (.heardK f vs e) (s0 :: r0) = (orBad (frzAll vs (s0 :: r0)) fun env1 => match ev cl e (maskE env1) with
      | .ok u env2 => orBad (fzU env2 u) fun p => keepC (s0 :: r0) (hearC cl f (.tup [.non, p.1]) env1)
      | .exc x _ => keepC (s0 :: r0) (hearC cl f (.err x.1 x.2.1 x.2.2) env1)
      | .bad => .bad) := rfl
theorem ev_w36 {cl : CallF} {i} {s0 : Sl} {r0 : Env} : ev cl (.ask i) (s0 :: r0) = (match getS (s0 :: r0) i with
      | .fn => askR (cl 999 []) (s0 :: r0)
      | _ => .bad) := rfl
theorem ev_w37 {cl : CallF} {a} {b} {cs} {s0 : Sl} {r0 : Env} : ev cl (.getO cs a b) (s0 :: r0) = ((ev cl a (s0 :: r0)).bind fun u env1 => orBad (fzU env1 u) fun p => (ev cl b p.2).bind fun w env2 => orBad (fzU env2 w) fun q => ownGet cl cs p.1 q.1 q.2) := rfl
theorem ev_w38 {cl : CallF} {a} {cs} {es} {n} {s0 : Sl} {r0 : Env} : ev cl (.calO cs n a es) (s0 :: r0) = ((ev cl a (s0 :: r0)).bind fun u env1 => orBad (fzU env1 u) fun p => if !isObD p.1 then .bad else (evF cl es p.2).bind fun ds env2 => if ds.length = n then ownCal cl cs p.1 ds env2 else .bad) := rfl
theorem ev_w39 {cl : CallF} {c} {es} {m} {n} {s0 : Sl} {r0 : Env} : ev cl (.cmt c m n es) (s0 :: r0) = ((evF cl es (s0 :: r0)).bind fun ds env1 => if ds.length = n then (match cl (spec c m) ((.cls c :: ds).map .fz) with
      | .ok r _ => .ok r env1
      | .exc x _ => .exc x env1
      | .bad => .bad) else .bad) := rfl
theorem ev_w40 {cl : CallF} {c} {es} {i} {n} {s0 : Sl} {r0 : Env} : ev cl (.mkL i c n es) (s0 :: r0) = (if !isClsN c (getS (s0 :: r0) i) then .bad else (evF cl es (s0 :: r0)).bind fun ds env1 => if ds.length = n then makeO cl c (ds.map .fz) env1 else .bad) := rfl
theorem ev_w41 {cl : CallF} {c} {es} {i} {s0 : Sl} {r0 : Env} : ev cl (.mkLS i c es) (s0 :: r0) = (if !isClsN c (getS (s0 :: r0) i) then .bad else (evF cl es (s0 :: r0)).bind fun ds env1 => makeO cl c (ds.map .fz) env1) := rfl
theorem ev_w42 {cl : CallF} {es} {f} {s0 : Sl} {r0 : Env} : ev cl (.callS f es) (s0 :: r0) = ((evF cl es (s0 :: r0)).bind fun ds env1 => match cl f (ds.map .fz) with
      | .ok r _ => .ok r env1
      | .exc x _ => .exc x env1
      | .bad => .bad) := rfl
theorem ev_w43 {cl : CallF} {c} {es} {s0 : Sl} {r0 : Env} : ev cl (.mkS c es) (s0 :: r0) = ((evF cl es (s0 :: r0)).bind fun ds env1 => makeO cl c (ds.map .fz) env1) := rfl
theorem ev_w44 {cl : CallF} {a} {cs} {s0 : Sl} {r0 : Env} : ev cl (.isObj cs a) (s0 :: r0) = ((ev cl a (s0 :: r0)).bind fun u env1 => orBad (rdU env1 u) fun x => if isClsD x then .bad else .ok (.nw (.bl (isObjOf cs x))) env1) := rfl
theorem evF_w0 {cl : CallF} {s0 : Sl} {r0 : Env} : evF cl (.nil) (s0 :: r0) = (.ok [] (s0 :: r0)) := rfl
theorem evF_w1 {cl : CallF} {e} {es} {s0 : Sl} {r0 : Env} : evF cl (.cons e es) (s0 :: r0) = ((ev cl e (s0 :: r0)).bind fun u env1 => orBad (fzU env1 u) fun p => (evF cl es p.2).bind fun ds env2 => .ok (p.1 :: ds) env2) := rfl
theorem evF_w2 {cl : CallF} {e} {es} {s0 : Sl} {r0 : Env} : evF cl (.star e es) (s0 :: r0) = ((ev cl e (s0 :: r0)).bind fun u env1 => orBad (fzU env1 u) fun p => orBad (itemsD p.1) fun xs => (evF cl es p.2).bind fun ds env2 => .ok (xs ++ ds) env2) := rfl
theorem evR_w0 {cl : CallF} {s0 : Sl} {r0 : Env} : evR cl (.nil) (s0 :: r0) = (.ok [] (s0 :: r0)) := rfl
theorem evR_w1 {cl : CallF} {e} {es} {s0 : Sl} {r0 : Env} : evR cl (.cons e es) (s0 :: r0) = ((ev cl e (s0 :: r0)).bind fun u env1 => (evR cl es env1).bind fun us env2 => .ok (pend u :: us) env2) := rfl
theorem evR_w2 {cl : CallF} {z1} {z2} {s0 : Sl} {r0 : Env} : evR cl (.star z1 z2) (s0 :: r0) = (.bad) := rfl
theorem evC_w0 {cl : CallF} {z1} {s0 : Sl} {r0 : Env} : evC cl (z1) (.nil) (s0 :: r0) = (.ok [] (s0 :: r0)) := rfl
theorem evC_w1 {cl : CallF} {e} {es} {m} {ms} {s0 : Sl} {r0 : Env} : evC cl (m :: ms) (.cons e es) (s0 :: r0) = ((ev cl e (s0 :: r0)).bind fun u env1 => match m with
      | true => match u with
        | .sl i => (evC cl ms es env1).bind fun us env2 => .ok (.sl i :: us) env2
        | _ => .bad
      | false => orBad (fzU env1 u) fun p => (evC cl ms es p.2).bind fun us env2 => .ok (.d p.1 :: us) env2) := rfl
theorem evC_w2 {cl : CallF} {e} {es} {ms} {s0 : Sl} {r0 : Env} : evC cl (ms) (.star e es) (s0 :: r0) = ((ev cl e (s0 :: r0)).bind fun u env1 => orBad (fzU env1 u) fun p => orBad (itemsD p.1) fun xs => (evC cl ms es p.2).bind fun us env2 => .ok (xs.map .d ++ us) env2) := rfl
theorem evC_w3 {cl : CallF} {z1} {z2} {s0 : Sl} {r0 : Env} : evC cl ([]) (.cons z1 z2) (s0 :: r0) = (.bad) := rfl
theorem ex_w0 {cl : CallF} {e} {i} {s0 : Sl} {r0 : Env} : ex cl (.asg i e) (s0 :: r0) = ((ev cl e (s0 :: r0)).bind fun u env1 => orBad (asgU env1 i u) fun env2 => .ok .next env2) := rfl
theorem ex_w1 {cl : CallF} {e} {i} {x} {s0 : Sl} {r0 : Env} : ex cl (.setI i x e) (s0 :: r0) = ((ev cl e (s0 :: r0)).bind fun u env1 => orBad (fzU env1 u) fun p => if !isLs (getS p.2 i) then .bad else (ev cl x p.2).bind fun w env2 =>
      orBad (rdU env2 w) fun k => match getS env2 i, k with
        | .ow (.lst xs), .int n => orBad (setD xs n p.1) fun ys => .ok .next (env2.set i (.ow (.lst ys)))
        | .io (.lst xs), .int n => orBad (setD xs n p.1) fun ys => .ok .next (env2.set i (.io (.lst ys)))
        | _, _ => .bad) := rfl
theorem ex_w2 {cl : CallF} {e} {i} {s0 : Sl} {r0 : Env} : ex cl (.app i e) (s0 :: r0) = (if !isLs (getS (s0 :: r0) i) then .bad else (ev cl e (s0 :: r0)).bind fun u env1 => orBad (fzU env1 u) fun p => match getS p.2 i with
        | .ow (.lst xs) => if xs.length < LIM then .ok .next (p.2.set i (.ow (.lst (xs ++ [p.1])))) else .bad
        | .io (.lst xs) => if xs.length < LIM then .ok .next (p.2.set i (.io (.lst (xs ++ [p.1])))) else .bad
        | _ => .bad) := rfl
theorem ex_w3 {cl : CallF} {e} {i} {o} {s0 : Sl} {r0 : Env} : ex cl (.aug i o e) (s0 :: r0) = (match getS (s0 :: r0) i with
        | .fz (.int n) => (ev cl e (s0 :: r0)).bind fun u env1 => orBad (rdU env1 u) fun y => match y with
          | .int m => match o with
            | .add => .ok .next (env1.set i (.fz (.int (n + m))))
            | .sub => .ok .next (env1.set i (.fz (.int (n - m))))
            | _ => .bad
          | _ => .bad
        | _ => .bad) := rfl
theorem ex_w4 {cl : CallF} {e} {s0 : Sl} {r0 : Env} : ex cl (.ex e) (s0 :: r0) = ((ev cl e (s0 :: r0)).bind fun _ env1 => .ok .next env1) := rfl
theorem ex_w5 {cl : CallF} {a} {b} {c} {s0 : Sl} {r0 : Env} : ex cl (.iff c a b) (s0 :: r0) = ((evT cl c (s0 :: r0)).bind fun t env1 => match t with
      | true => exs cl a env1
      | false => exs cl b env1) := rfl
theorem ex_w6 {cl : CallF} {b} {i} {n} {s0 : Sl} {r0 : Env} : ex cl (.forr i n b) (s0 :: r0) = ((ev cl n (s0 :: r0)).bind fun u env1 => orBad (rdU env1 u) fun y => match y with
      | .int m => if decide (-(2 ^ 40) ≤ m) && decide (m < 2 ^ 40) then forD (exs cl b) i ((List.range m.toNat).map fun (k : Nat) => .int k) env1 else .bad
      | _ => .bad) := rfl
theorem ex_w7 {cl : CallF} {b} {i} {l} {s0 : Sl} {r0 : Env} : ex cl (.forl i l b) (s0 :: r0) = ((ev cl l (s0 :: r0)).bind fun u env1 => orBad (fzU env1 u) fun p => match p.1 with
      | .lst xs => forD (exs cl b) i xs p.2
      | .tup xs => forD (exs cl b) i xs p.2
      | .kst xs => forD (exs cl b) i xs p.2
      | _ => .bad) := rfl
theorem ex_w8 {cl : CallF} {b} {it} {tg} {s0 : Sl} {r0 : Env} : ex cl (.fort tg it b) (s0 :: r0) = ((itD cl it (s0 :: r0)).bind fun ds env1 => forG (exs cl b) tg ds env1) := rfl
theorem ex_w9 {cl : CallF} {b} {c} {s0 : Sl} {r0 : Env} : ex cl (.whil c b) (s0 :: r0) = (whD (evT cl c) (exs cl b) FUEL (s0 :: r0)) := rfl
theorem ex_w10 {cl : CallF} {e} {s0 : Sl} {r0 : Env} : ex cl (.ret e) (s0 :: r0) = ((ev cl e (s0 :: r0)).bind fun u env1 => orBad (retU env1 u) fun r => .ok (.ret r.1) r.2) := rfl
theorem ex_w11 {cl : CallF} {s0 : Sl} {r0 : Env} : ex cl (.retN) (s0 :: r0) = (.ok (.ret (.d .non)) (s0 :: r0)) := rfl
theorem ex_w12 {cl : CallF} {s0 : Sl} {r0 : Env} : ex cl (.pass) (s0 :: r0) = (.ok .next (s0 :: r0)) := rfl
theorem ex_w13 {cl : CallF} {s0 : Sl} {r0 : Env} : ex cl (.never) (s0 :: r0) = (.bad) := rfl
theorem ex_w14 {cl : CallF} {es} {is} {s0 : Sl} {r0 : Env} : ex cl (.par is es) (s0 :: r0) = ((evF cl es (s0 :: r0)).bind fun ds env1 => orBad (storeAll is ds env1) fun env2 => .ok .next env2) := rfl
theorem ex_w15 {cl : CallF} {e} {is} {s0 : Sl} {r0 : Env} : ex cl (.unp is e) (s0 :: r0) = ((ev cl e (s0 :: r0)).bind fun u env1 => orBad (rdU env1 u) fun d => match d with
      | .tup ds => orBad (storeAll is ds env1) fun env2 => .ok .next env2
      | .lst ds => orBad (storeAll is ds env1) fun env2 => .ok .next env2
      | .kst ds => orBad (storeAll is ds env1) fun env2 => .ok .next env2
      | _ => .bad) := rfl
theorem ex_w16 {cl : CallF} {cs} {e} {i} {k} {s0 : Sl} {r0 : Env} : ex cl (.setF i cs k e) (s0 :: r0) = ((ev cl e (s0 :: r0)).bind fun u env1 => orBad (fzU env1 u) fun p => match getS p.2 i with
      | .ow (.obj c ks vs) => if (decide (ks.length < 100) && decide (vs.length = ks.length) && cs.contains c) = true then .ok .next (p.2.set i (.ow (.obj c (putD ks vs k p.1).1 (putD ks vs k p.1).2))) else .bad
      | .io (.obj c ks vs) => if (decide (ks.length < 100) && decide (vs.length = ks.length) && cs.contains c) = true then .ok .next (p.2.set i (.io (.obj c (putD ks vs k p.1).1 (putD ks vs k p.1).2))) else .bad
      | _ => .bad) := rfl
theorem ex_w17 {cl : CallF} {s0 : Sl} {r0 : Env} : ex cl (.brk) (s0 :: r0) = (.ok .brk (s0 :: r0)) := rfl
theorem ex_w18 {cl : CallF} {s0 : Sl} {r0 : Env} : ex cl (.cont) (s0 :: r0) = (.ok .cont (s0 :: r0)) := rfl
theorem ex_w19 {cl : CallF} {c} {es} {ks} {s0 : Sl} {r0 : Env} : ex cl (.raise c ks es) (s0 :: r0) = ((evF cl es (s0 :: r0)).bind fun ds env1 => if ds.length = ks.length then .exc (c, ks, ds.reverse) env1 else .bad) := rfl
theorem ex_w20 {cl : CallF} {b} {cs} {i} {j} {s0 : Sl} {r0 : Env} : ex cl (.tryC b cs i j) (s0 :: r0) = (match exs cl b (s0 :: r0) with
      | .exc x env1 => if cs.contains x.1 then .ok .next (((env1.set i .un).set j (.fz (.err x.1 x.2.1 x.2.2))).set i .un) else .bad
      | r => r) := rfl
theorem exs_w0 {cl : CallF} {s0 : Sl} {r0 : Env} : exs cl (.nil) (s0 :: r0) = (.ok .next (s0 :: r0)) := rfl
theorem exs_w1 {cl : CallF} {r} {s} {s0 : Sl} {r0 : Env} : exs cl (.cons s r) (s0 :: r0) = ((ex cl s (s0 :: r0)).bind fun fl env1 => match fl with
      | .next => exs cl r env1
      | f => .ok f env1) := rfl
theorem itD_w0 {cl : CallF} {e} {s0 : Sl} {r0 : Env} : itD cl (.seq e) (s0 :: r0) = ((ev cl e (s0 :: r0)).bind fun u env1 => orBad (fzU env1 u) fun p => orBad (itemsD p.1) fun xs => .ok xs p.2) := rfl
theorem itD_w1 {cl : CallF} {hi} {lo} {s0 : Sl} {r0 : Env} : itD cl (.rng lo hi) (s0 :: r0) = ((ev cl lo (s0 :: r0)).bind fun u env1 => (ev cl hi env1).bind fun w env2 => orBad (rdU env2 (pend u)) fun x => orBad (rdU env2 w) fun y => match x, y with
      | .int m, .int n => if b40 m && b40 n then .ok ((List.range (n - m).toNat).map fun (k : Nat) => .int (m + k)) env2 else .bad
      | _, _ => .bad) := rfl
theorem itD_w2 {cl : CallF} {hi} {lo} {s0 : Sl} {r0 : Env} : itD cl (.down lo hi) (s0 :: r0) = ((ev cl lo (s0 :: r0)).bind fun u env1 => (ev cl hi env1).bind fun w env2 => orBad (rdU env2 (pend u)) fun x => orBad (rdU env2 w) fun y => match x, y with
      | .int m, .int n => if b40 m && b40 n then .ok ((List.range (m - n).toNat).map fun (k : Nat) => .int (m - k)) env2 else .bad
      | _, _ => .bad) := rfl
theorem itD_w3 {cl : CallF} {e} {s0 : Sl} {r0 : Env} : itD cl (.enum e) (s0 :: r0) = ((ev cl e (s0 :: r0)).bind fun u env1 => orBad (fzU env1 u) fun p => orBad (itemsD p.1) fun xs => .ok (enumD 0 xs) p.2) := rfl
theorem itD_w4 {cl : CallF} {a} {b} {s0 : Sl} {r0 : Env} : itD cl (.zip a b) (s0 :: r0) = ((ev cl a (s0 :: r0)).bind fun u env1 => orBad (fzU env1 u) fun p => (ev cl b p.2).bind fun w env2 => orBad (fzU env2 w) fun q => orBad (zipD p.1 q.1) fun xs => .ok xs q.2) := rfl
theorem itD_w5 {cl : CallF} {e} {s0 : Sl} {r0 : Env} : itD cl (.str e) (s0 :: r0) = ((ev cl e (s0 :: r0)).bind fun u env1 => orBad (rdU env1 u) fun x => match x with
      | .str z => .ok (z.cps.toList.map fun c => .str ⟨#[c]⟩) env1
      | _ => .bad) := rfl
theorem evT_w {cl : CallF} {e} {s0 : Sl} {r0 : Env} : evT cl e (s0 :: r0) = ((ev cl e (s0 :: r0)).bind fun u env1 => orBad (rdU env1 u) fun x => orBad (truD x) fun t => .ok t env1) := rfl
end PP
end

section
namespace PP
open PySem L2
/-! words for the interpreter's run -/
theorem getS_0 (s : Sl) (r : Env) : getS (s :: r) 0 = s := rfl
theorem getS_s (s : Sl) (r : Env) (n : Nat) : getS (s :: r) (n + 1) = getS r n := rfl
theorem set_0 (s x : Sl) (r : Env) : List.set (s :: r) 0 x = x :: r := rfl
theorem set_s (s x : Sl) (r : Env) (n : Nat) : List.set (s :: r) (n + 1) x = s :: List.set r n x := rfl
theorem bnd64_l {i j : Int} (h : -18446744073709551616 < i) (h' : i < 18446744073709551616) : (bnd64 i || bnd64 j) = true := by simp [bnd64]; omega
theorem bnd64_r {i j : Int} (h : -18446744073709551616 < j) (h' : j < 18446744073709551616) : (bnd64 i || bnd64 j) = true := by simp [bnd64]; omega
theorem mulOk_b {i j : Int} (h : (bnd64 i || bnd64 j) = true) : mulOk i j = true := by simp only [mulOk, h, Bool.true_or]
theorem mul_l {i j : Int} (h : -18446744073709551616 < i) (h' : i < 18446744073709551616) : op2 .mul (.int i) (.int j) = some (.int (i * j)) := by simp only [op2, mulOk_b (bnd64_l h h'), if_true]
theorem mul_r {i j : Int} (h : -18446744073709551616 < j) (h' : j < 18446744073709551616) : op2 .mul (.int i) (.int j) = some (.int (i * j)) := by simp only [op2, mulOk_b (bnd64_r h h'), if_true]
theorem log2_lt {i : Int} {n : Nat} (h : i.natAbs < 2 ^ (n + 1)) : i.natAbs.log2 < n + 1 := by
  by_cases hz : i.natAbs = 0
  · rw [hz]; simp
  · exact (Nat.log2_lt hz).mpr h
theorem log2_b {i : Int} (h : -57896044618658097711785492504343953926634992332820282019728792003956564819968 < i) (h' : i < 57896044618658097711785492504343953926634992332820282019728792003956564819968) : i.natAbs.log2 < 300 := by
  have : i.natAbs < 2 ^ (254 + 1) := by
    have e : (2 : Nat) ^ (254 + 1) = 57896044618658097711785492504343953926634992332820282019728792003956564819968 := by decide
    rw [e]; omega
  have := log2_lt this
  omega
/-- two factors below 2 ^ 255 -/
theorem mul_w {i j : Int} (h : -57896044618658097711785492504343953926634992332820282019728792003956564819968 < i) (h1 : i < 57896044618658097711785492504343953926634992332820282019728792003956564819968) (h2 : -57896044618658097711785492504343953926634992332820282019728792003956564819968 < j) (h3 : j < 57896044618658097711785492504343953926634992332820282019728792003956564819968) : op2 .mul (.int i) (.int j) = some (.int (i * j)) := by
  have a := log2_b h h1
  have b := log2_b h2 h3
  have : mulOk i j = true := by
    simp only [mulOk, Bool.or_eq_true, decide_eq_true_eq]
    exact .inr (by omega)
  simp only [op2, this, if_true]
theorem mul_1 (j : Int) : op2 .mul (.int 1) (.int j) = some (.int j) := by rw [mul_l (by decide) (by decide), Int.one_mul]
theorem mul_m1 (j : Int) : op2 .mul (.int (-1)) (.int j) = some (.int (-j)) := by rw [mul_l (by decide) (by decide), Int.neg_mul, Int.one_mul]
theorem shl_p {i j : Int} (h0 : 0 ≤ j) (h1 : j ≤ 1000000) (h : -57896044618658097711785492504343953926634992332820282019728792003956564819968 < i) (h' : i < 57896044618658097711785492504343953926634992332820282019728792003956564819968) : op2 .shl (.int i) (.int j) = some (.int (i * 2 ^ j.toNat)) := by
  have a := log2_b h h'
  have : shlOk i j = true := by
    simp only [shlOk, Bool.and_eq_true, decide_eq_true_eq]
    exact ⟨⟨h0, h1⟩, by omega⟩
  simp only [op2, this, if_true]
theorem mod_p {i j : Int} (h : 0 < j) : op2 .mod (.int i) (.int j) = some (.int (i % j)) := by simp only [op2, h, if_true]
theorem fdiv_w {i j : Int} (h : 0 < j) (h' : j < 57896044618658097711785492504343953926634992332820282019728792003956564819968) : op2 .fdiv (.int i) (.int j) = some (.int (i / j)) := by
  have a := log2_b (i := j) (by omega) h'
  have : divOk j = true := by simp only [divOk, h, decide_true, Bool.true_and, decide_eq_true_eq]; omega
  simp only [op2, this, if_true]
theorem fdiv_p {i j : Int} (h : 0 < j) (h' : j < 1073741824) : op2 .fdiv (.int i) (.int j) = some (.int (i / j)) := by
  have a := log2_lt (i := j) (n := 29) (by omega)
  have : divOk j = true := by simp only [divOk, h, decide_true, Bool.true_and, decide_eq_true_eq]; omega
  simp only [op2, this, if_true]
theorem pow_p {i j : Int} (h : 0 ≤ j) (h1 : j ≤ 1000000) (h' : i.natAbs < 18446744073709551616) : op2 .pow (.int i) (.int j) = some (.int (i ^ j.toNat)) := by
  have z : i.natAbs < 2 ^ 64 := h'
  simp only [op2, powOk, h, h1, z, decide_true, Bool.and_self, if_true]
theorem fin_ok (as : List Ar) (fl : Fl) (env : Env) : finR as (.ok fl env) = finO (outsOf as env) fl := rfl
theorem fin_exc (as : List Ar) (d : Exn) (env : Env) : finR as (.exc d env) = finX (outsOf as env) d := rfl
theorem finX_s (o : List D) (d : Exn) : finX (some o) d = .exc d o := rfl
theorem finO_next (o : List D) : finO (some o) .next = .ok (.d .non) o := rfl
theorem finO_d (o : List D) (x : D) : finO (some o) (.ret (.d x)) = .ok (.d x) o := rfl
theorem finO_nw (o : List D) (x : D) : finO (some o) (.ret (.nw x)) = .ok (nrm x) o := rfl
theorem rdU_d (env : Env) (x : D) : rdU env (.d x) = some x := rfl
theorem rdU_nw (env : Env) (x : D) : rdU env (.nw x) = some x := rfl
theorem rdU_sl (env : Env) (i : Nat) : rdU env (.sl i) = rdS (getS env i) := rfl
theorem rdS_fz (d : D) : rdS (.fz d) = some d := rfl
theorem rdS_ow (d : D) : rdS (.ow d) = some d := rfl
theorem rdS_io (d : D) : rdS (.io d) = some d := rfl
theorem pend_d (x : D) : pend (.d x) = .d x := rfl
theorem pend_nw (x : D) : pend (.nw x) = .d x := rfl
theorem pend_sl (i : Nat) : pend (.sl i) = .sl i := rfl
theorem fzU_d (env : Env) (x : D) : fzU env (.d x) = some (x, env) := rfl
theorem fzU_nw (env : Env) (x : D) : fzU env (.nw x) = some (x, env) := rfl
theorem fzU_sl (env : Env) (i : Nat) : fzU env (.sl i) = match getS env i with | .fz d => some (d, env) | .ow d => some (d, env.set i (.fz d)) | _ => none := rfl
theorem asgU_d (env : Env) (i : Nat) (d : D) : asgU env i (.d d) = some (env.set i (.fz d)) := rfl
theorem asgU_nw (env : Env) (i : Nat) (d : D) : asgU env i (.nw d) = some (env.set i (slOf (.nw d) d)) := rfl
theorem asgU_sl (env : Env) (i j : Nat) : asgU env i (.sl j) = (fzU env (.sl j)).map fun p => p.2.set i (.fz p.1) := rfl
theorem slOf_non (u : U) : slOf u .non = .fz .non := by cases u <;> rfl
theorem slOf_bl (u : U) (b : Bool) : slOf u (.bl b) = .fz (.bl b) := by cases u <;> rfl
theorem slOf_int (u : U) (b : Int) : slOf u (.int b) = .fz (.int b) := by cases u <;> rfl
theorem slOf_str (u : U) (b : Str) : slOf u (.str b) = .fz (.str b) := by cases u <;> rfl
theorem slOf_tup (u : U) (b : List D) : slOf u (.tup b) = .fz (.tup b) := by cases u <;> rfl
theorem slOf_lst (x : D) (b : List D) : slOf (.nw x) (.lst b) = .ow (.lst b) := rfl
theorem slOf_dK (x : D) (ks : List Key) (b : List D) : slOf (.nw x) (.dK ks b) = .ow (.dK ks b) := rfl
theorem isLs_ow (xs : List D) : isLs (.ow (.lst xs)) = true := rfl
theorem isLs_io (xs : List D) : isLs (.io (.lst xs)) = true := rfl
theorem retU_d (env : Env) (x : D) : retU env (.d x) = some (.d x, env) := rfl
theorem retU_nw (env : Env) (x : D) : retU env (.nw x) = some (.nw x, env) := rfl
theorem retU_sl (env : Env) (i : Nat) : retU env (.sl i) = match getS env i with | .ow x => some (.nw x, env.set i .un) | .fz x => some (.d x, env) | _ => none := rfl
theorem nrm_non : nrm .non = .d .non := rfl
theorem nrm_bl (b : Bool) : nrm (.bl b) = .d (.bl b) := rfl
theorem nrm_int (b : Int) : nrm (.int b) = .d (.int b) := rfl
theorem nrm_str (b : Str) : nrm (.str b) = .d (.str b) := rfl
theorem nrm_tup (b : List D) : nrm (.tup b) = .d (.tup b) := rfl
theorem nrm_lst (b : List D) : nrm (.lst b) = .nw (.lst b) := rfl
theorem nrm_dK (k : List Key) (b : List D) : nrm (.dK k b) = .nw (.dK k b) := rfl
theorem setIO_ow (x d : D) : setIO (.ow x) d = .ow d := rfl
theorem setIO_io (x d : D) : setIO (.io x) d = .io d := rfl
theorem dupF_0 : dupFree [] = true := rfl
theorem dupF_1 (i : Nat) : dupFree [i] = true := by simp [dupFree]
theorem optP_f (f : Env → R U) (env : Env) : optP false f env = .ok none env := rfl
theorem optP_t (f : Env → R U) (env : Env) : optP true f env = (f env).bind partD := rfl
theorem truD_bl (b : Bool) : truD (.bl b) = some b := rfl
theorem truD_non : truD .non = some false := rfl
theorem truD_lst (b : List D) : truD (.lst b) = some (!b.isEmpty) := rfl
theorem partD_eq (u : U) (env : Env) : partD u env = orBad (rdU env u) fun d => match d with | .int i => .ok (some i) env | _ => .bad := rfl
theorem atI_c {α : Type} (xs : List α) (n : Nat) (a : α) (h : xs[n]? = some a) : L2.atI xs (n : Int) = some a := by
  have h5 : n < xs.length := (List.getElem?_eq_some_iff.mp h).1
  unfold L2.atI L2.ixN
  rw [if_pos (by omega), if_pos (by omega)]
  simpa using h
theorem ix_lst_0 (a0 : D) (xs : List D) : ixD (.lst (a0 :: xs)) (.int 0) = some a0 := atI_c _ 0 _ rfl
theorem ix_lst_1 (a0 a1 : D) (xs : List D) : ixD (.lst (a0 :: a1 :: xs)) (.int 1) = some a1 := atI_c _ 1 _ rfl
theorem ix_lst_2 (a0 a1 a2 : D) (xs : List D) : ixD (.lst (a0 :: a1 :: a2 :: xs)) (.int 2) = some a2 := atI_c _ 2 _ rfl
theorem ix_lst_3 (a0 a1 a2 a3 : D) (xs : List D) : ixD (.lst (a0 :: a1 :: a2 :: a3 :: xs)) (.int 3) = some a3 := atI_c _ 3 _ rfl
theorem ix_lst_4 (a0 a1 a2 a3 a4 : D) (xs : List D) : ixD (.lst (a0 :: a1 :: a2 :: a3 :: a4 :: xs)) (.int 4) = some a4 := atI_c _ 4 _ rfl
theorem ix_lst_5 (a0 a1 a2 a3 a4 a5 : D) (xs : List D) : ixD (.lst (a0 :: a1 :: a2 :: a3 :: a4 :: a5 :: xs)) (.int 5) = some a5 := atI_c _ 5 _ rfl
theorem ix_tup_0 (a0 : D) (xs : List D) : ixD (.tup (a0 :: xs)) (.int 0) = some a0 := atI_c _ 0 _ rfl
theorem ix_tup_1 (a0 a1 : D) (xs : List D) : ixD (.tup (a0 :: a1 :: xs)) (.int 1) = some a1 := atI_c _ 1 _ rfl
theorem ix_tup_2 (a0 a1 a2 : D) (xs : List D) : ixD (.tup (a0 :: a1 :: a2 :: xs)) (.int 2) = some a2 := atI_c _ 2 _ rfl
theorem ix_tup_3 (a0 a1 a2 a3 : D) (xs : List D) : ixD (.tup (a0 :: a1 :: a2 :: a3 :: xs)) (.int 3) = some a3 := atI_c _ 3 _ rfl
theorem ix_tup_4 (a0 a1 a2 a3 a4 : D) (xs : List D) : ixD (.tup (a0 :: a1 :: a2 :: a3 :: a4 :: xs)) (.int 4) = some a4 := atI_c _ 4 _ rfl
theorem ix_tup_5 (a0 a1 a2 a3 a4 a5 : D) (xs : List D) : ixD (.tup (a0 :: a1 :: a2 :: a3 :: a4 :: a5 :: xs)) (.int 5) = some a5 := atI_c _ 5 _ rfl
theorem bi_len_s {z : Str} (h : z.length ≤ 100000) : biD .len [.str z] = some (.int z.length) := if_pos h
theorem bi_int_s {z : Str} {v : Int} (hl : z.length ≤ 640) (h : PySem.intText? z = some v) : biD .int [.str z] = some (.int v) := by
  show (if _ then _ else _) = _
  rw [if_pos hl, h]
  rfl
theorem bi_split {z : Str} (h : z.length ≤ 100000) : biD .split [.str z, .str " "] = some (.lst ((Txt.split z " ").map .str)) := by
  have h : z.length ≤ LIM := h
  show (if _ then _ else _) = _
  rw [if_pos (by simp only [h, decide_true, Bool.true_and]; decide)]
theorem ix_str {z : Str} {c : Nat} {r : List Nat} (h : z.length ≤ 100000) (e : z.cps.toList = c :: r) : ixD (.str z) (.int 0) = some (.str ⟨#[c]⟩) := by
  have h : z.length ≤ LIM := h
  simp only [ixD, h, if_true, e]
  rw [show L2.atI (c :: r) 0 = some c from atI_c _ 0 _ rfl]
  rfl
theorem ix_kst_0 (a0 : D) (xs : List D) : ixD (.kst (a0 :: xs)) (.int 0) = some a0 := atI_c _ 0 _ rfl
theorem ix_kst_1 (a0 a1 : D) (xs : List D) : ixD (.kst (a0 :: a1 :: xs)) (.int 1) = some a1 := atI_c _ 1 _ rfl
theorem ix_kst_2 (a0 a1 a2 : D) (xs : List D) : ixD (.kst (a0 :: a1 :: a2 :: xs)) (.int 2) = some a2 := atI_c _ 2 _ rfl
theorem ix_kst_3 (a0 a1 a2 a3 : D) (xs : List D) : ixD (.kst (a0 :: a1 :: a2 :: a3 :: xs)) (.int 3) = some a3 := atI_c _ 3 _ rfl
theorem ix_kst_4 (a0 a1 a2 a3 a4 : D) (xs : List D) : ixD (.kst (a0 :: a1 :: a2 :: a3 :: a4 :: xs)) (.int 4) = some a4 := atI_c _ 4 _ rfl
theorem ix_kst_5 (a0 a1 a2 a3 a4 a5 : D) (xs : List D) : ixD (.kst (a0 :: a1 :: a2 :: a3 :: a4 :: a5 :: xs)) (.int 5) = some a5 := atI_c _ 5 _ rfl
theorem set_l3_1 (a b c x : D) : setD [a, b, c] 1 x = some [a, x, c] := rfl
theorem set_l3_2 (a b c x : D) : setD [a, b, c] 2 x = some [a, b, x] := rfl
theorem bi_int_i (i : Int) : biD .int [.int i] = some (.int i) := rfl
theorem bi_int_b (b : Bool) : biD .int [.bl b] = some (.int (if b then 1 else 0)) := rfl
theorem bi_abs (i : Int) : biD .abs [.int i] = some (.int (if i < 0 then -i else i)) := rfl
theorem bi_len_l (xs : List D) : biD .len [.lst xs] = some (.int xs.length) := rfl
theorem bi_len_t (xs : List D) : biD .len [.tup xs] = some (.int xs.length) := rfl
theorem bi_isInt_non : biD .isInt [.non] = some (.bl false) := rfl
theorem bi_isInt_bl (a : Bool) : biD .isInt [.bl a] = some (.bl true) := rfl
theorem bi_isInt_int (a : Int) : biD .isInt [.int a] = some (.bl true) := rfl
theorem bi_isInt_str (a : Str) : biD .isInt [.str a] = some (.bl false) := rfl
theorem bi_isInt_tup (a : List D) : biD .isInt [.tup a] = some (.bl false) := rfl
theorem bi_isInt_lst (a : List D) : biD .isInt [.lst a] = some (.bl false) := rfl
theorem bi_isInt_kst (a : List D) : biD .isInt [.kst a] = some (.bl false) := rfl
theorem bi_isInt_dK (k : List Key) (a : List D) : biD .isInt [.dK k a] = some (.bl false) := rfl
theorem bi_isBool_non : biD .isBool [.non] = some (.bl false) := rfl
theorem bi_isBool_bl (a : Bool) : biD .isBool [.bl a] = some (.bl true) := rfl
theorem bi_isBool_int (a : Int) : biD .isBool [.int a] = some (.bl false) := rfl
theorem bi_isBool_str (a : Str) : biD .isBool [.str a] = some (.bl false) := rfl
theorem bi_isBool_tup (a : List D) : biD .isBool [.tup a] = some (.bl false) := rfl
theorem bi_isBool_lst (a : List D) : biD .isBool [.lst a] = some (.bl false) := rfl
theorem bi_isBool_kst (a : List D) : biD .isBool [.kst a] = some (.bl false) := rfl
theorem bi_isBool_dK (k : List Key) (a : List D) : biD .isBool [.dK k a] = some (.bl false) := rfl
theorem bi_isTuple_non : biD .isTuple [.non] = some (.bl false) := rfl
theorem bi_isTuple_bl (a : Bool) : biD .isTuple [.bl a] = some (.bl false) := rfl
theorem bi_isTuple_int (a : Int) : biD .isTuple [.int a] = some (.bl false) := rfl
theorem bi_isTuple_str (a : Str) : biD .isTuple [.str a] = some (.bl false) := rfl
theorem bi_isTuple_tup (a : List D) : biD .isTuple [.tup a] = some (.bl true) := rfl
theorem bi_isTuple_lst (a : List D) : biD .isTuple [.lst a] = some (.bl false) := rfl
theorem bi_isTuple_kst (a : List D) : biD .isTuple [.kst a] = some (.bl false) := rfl
theorem bi_isTuple_dK (k : List Key) (a : List D) : biD .isTuple [.dK k a] = some (.bl false) := rfl
theorem bi_isList_non : biD .isList [.non] = some (.bl false) := rfl
theorem bi_isList_bl (a : Bool) : biD .isList [.bl a] = some (.bl false) := rfl
theorem bi_isList_int (a : Int) : biD .isList [.int a] = some (.bl false) := rfl
theorem bi_isList_str (a : Str) : biD .isList [.str a] = some (.bl false) := rfl
theorem bi_isList_tup (a : List D) : biD .isList [.tup a] = some (.bl false) := rfl
theorem bi_isList_lst (a : List D) : biD .isList [.lst a] = some (.bl true) := rfl
theorem bi_isList_kst (a : List D) : biD .isList [.kst a] = some (.bl true) := rfl
theorem bi_isList_dK (k : List Key) (a : List D) : biD .isList [.dK k a] = some (.bl false) := rfl
theorem bi_isStr_non : biD .isStr [.non] = some (.bl false) := rfl
theorem bi_isStr_bl (a : Bool) : biD .isStr [.bl a] = some (.bl false) := rfl
theorem bi_isStr_int (a : Int) : biD .isStr [.int a] = some (.bl false) := rfl
theorem bi_isStr_str (a : Str) : biD .isStr [.str a] = some (.bl true) := rfl
theorem bi_isStr_tup (a : List D) : biD .isStr [.tup a] = some (.bl false) := rfl
theorem bi_isStr_lst (a : List D) : biD .isStr [.lst a] = some (.bl false) := rfl
theorem bi_isStr_kst (a : List D) : biD .isStr [.kst a] = some (.bl false) := rfl
theorem bi_isStr_dK (k : List Key) (a : List D) : biD .isStr [.dK k a] = some (.bl false) := rfl
theorem le_lim {n : Nat} (h : n ≤ 100000) : (n ≤ LIM) = True := eq_true h
theorem lt_lim {n : Nat} (h : n < 100000) : (n < LIM) = True := eq_true h
theorem bi_isInt_dT (k : List (List Key)) (a : List D) : biD .isInt [.dT k a] = some (.bl false) := rfl
theorem bi_isBool_dT (k : List (List Key)) (a : List D) : biD .isBool [.dT k a] = some (.bl false) := rfl
theorem bi_isTuple_dT (k : List (List Key)) (a : List D) : biD .isTuple [.dT k a] = some (.bl false) := rfl
theorem bi_isList_dT (k : List (List Key)) (a : List D) : biD .isList [.dT k a] = some (.bl false) := rfl
theorem bi_isStr_dT (k : List (List Key)) (a : List D) : biD .isStr [.dT k a] = some (.bl false) := rfl
theorem pow_10 {j : Int} (h : 0 ≤ j) (h1 : j ≤ 1000) : op2 .pow (.int 10) (.int j) = some (.int (10 ^ j.toNat)) := pow_p h (by omega) (by decide)
theorem pw_10_18 : op2 .pow (.int 10) (.int 18) = some (.int 1000000000000000000) := rfl
theorem o_gt_i (i j : Int) : op2 .gt (.int i) (.int j) = some (.bl (decide (j < i))) := rfl
theorem o_lt_i (i j : Int) : op2 .lt (.int i) (.int j) = some (.bl (decide (i < j))) := rfl
theorem o_ge_i (i j : Int) : op2 .ge (.int i) (.int j) = some (.bl (decide (j ≤ i))) := rfl
theorem o_le_i (i j : Int) : op2 .le (.int i) (.int j) = some (.bl (decide (i ≤ j))) := rfl
theorem o_add_i (i j : Int) : op2 .add (.int i) (.int j) = some (.int (i + j)) := rfl
theorem o_sub_i (i j : Int) : op2 .sub (.int i) (.int j) = some (.int (i - j)) := rfl
theorem o_neg_i (i : Int) : op1 .neg (.int i) = some (.int (-i)) := rfl
theorem o_eq_i (i j : Int) : op2 .eq (.int i) (.int j) = some (.bl (i == j)) := rfl
theorem o_ne_i (i j : Int) : op2 .ne (.int i) (.int j) = some (.bl (!(i == j))) := rfl
theorem o_eq_s (i j : Str) : op2 .eq (.str i) (.str j) = some (.bl (decide (i = j))) := rfl
theorem o_ne_s (i j : Str) : op2 .ne (.str i) (.str j) = some (.bl (!decide (i = j))) := rfl
theorem o_eq_b (i j : Bool) : op2 .eq (.bl i) (.bl j) = some (.bl (i == j)) := rfl
theorem ints_py : ∀ cs : List Int, toPyAll (cs.map D.int) = some (cs.map PyData.int)
  | [] => rfl
  | c :: cs => by simp only [List.map_cons, toPyAll, toPy, ints_py cs]
theorem ints_lay : ∀ cs : List Int, PyData.canLayAll0 (cs.map PyData.int) = true ∧ PyData.depthAll (cs.map PyData.int) = 0
  | [] => ⟨by simp [PyData.canLayAll0], by simp [PyData.depthAll]⟩
  | c :: cs => by
    obtain ⟨h1, h2⟩ := ints_lay cs
    exact ⟨by simp [PyData.canLayAll0, PyData.canLay0, h1], by simp [PyData.depthAll, PyData.depth, h2]⟩
theorem ne_nil (cs : List Int) : op2 .ne (.lst (cs.map D.int)) (.lst []) = some (.bl (!cs.isEmpty)) := by
  obtain ⟨h1, h2⟩ := ints_lay cs
  have s1 : SeqAt.shaped (.list (cs.map PyData.int)) = true := by simp [SeqAt.shaped, PyData.canLay0, PyData.depth, h1, h2]
  have s2 : SeqAt.shaped (.list []) = true := by decide +kernel
  have e : op2 .ne (.lst (cs.map D.int)) (.lst []) = (eqP (.lst (cs.map D.int)) (.lst [])).map fun b => .bl (!b) := rfl
  rw [e]
  unfold eqP
  simp only [toPy, ints_py, Option.map_some, toPyAll, s1, s2, Bool.and_self, if_true, PyData.eqv]
  cases cs <;> simp [PyData.eqvAll]
/-! simp: objects, calls -/
theorem fldOf_o (c : Nat) (ks : List Nat) (vs : List D) (j : Nat) : fldOf (.obj c ks vs) j = fldD ks vs j := rfl
theorem fldOf_e (c : Nat) (ks : List Nat) (vs : List D) (j : Nat) : fldOf (.err c ks vs) j = fldD ks vs j := rfl
theorem fldD_c (k : Nat) (ks : List Nat) (v : D) (vs : List D) (j : Nat) : fldD (k :: ks) (v :: vs) j = if k = j then some v else fldD ks vs j := rfl
theorem putD_c (k : Nat) (ks : List Nat) (v : D) (vs : List D) (j : Nat) (x : D) : putD (k :: ks) (v :: vs) j x = if k = j then (k :: ks, x :: vs) else (k :: (putD ks vs j x).1, v :: (putD ks vs j x).2) := rfl
theorem putD_n (j : Nat) (x : D) : putD [] [] j x = ([j], [x]) := rfl
theorem isObj_o (cs : List Nat) (c : Nat) (ks : List Nat) (vs : List D) : isObjOf cs (.obj c ks vs) = cs.contains c := rfl
theorem isObj_e (cs : List Nat) (c : Nat) (ks : List Nat) (vs : List D) : isObjOf cs (.err c ks vs) = cs.contains c := rfl
theorem isObj_non (cs : List Nat) : isObjOf cs .non = false := rfl
theorem isObj_bl (cs : List Nat) (b : Bool) : isObjOf cs (.bl b) = false := rfl
theorem isObj_int (cs : List Nat) (b : Int) : isObjOf cs (.int b) = false := rfl
theorem isObj_str (cs : List Nat) (b : Str) : isObjOf cs (.str b) = false := rfl
theorem isObj_lst (cs : List Nat) (b : List D) : isObjOf cs (.lst b) = false := rfl
theorem isObj_tup (cs : List Nat) (b : List D) : isObjOf cs (.tup b) = false := rfl
theorem isObj_kst (cs : List Nat) (b : List D) : isObjOf cs (.kst b) = false := rfl
theorem isObj_dK (cs : List Nat) (k : List Key) (b : List D) : isObjOf cs (.dK k b) = false := rfl
theorem isCls_o (c : Nat) (ks : List Nat) (vs : List D) : isClsD (.obj c ks vs) = false := rfl
theorem isCls_e (c : Nat) (ks : List Nat) (vs : List D) : isClsD (.err c ks vs) = false := rfl
theorem isCls_non : isClsD .non = false := rfl
theorem isCls_bl (b : Bool) : isClsD (.bl b) = false := rfl
theorem isCls_int (b : Int) : isClsD (.int b) = false := rfl
theorem isCls_str (b : Str) : isClsD (.str b) = false := rfl
theorem isCls_lst (b : List D) : isClsD (.lst b) = false := rfl
theorem isCls_tup (b : List D) : isClsD (.tup b) = false := rfl
theorem isCls_kst (b : List D) : isClsD (.kst b) = false := rfl
theorem isCls_dK (k : List Key) (b : List D) : isClsD (.dK k b) = false := rfl
theorem runC_eq (cl : CallF) (f : Nat) (ms : List Bool) (us : List U) (env : Env) : runC cl f ms us env = orBad (argsOf env ms us) fun as =>
  if dupFree (ioSlots us) then match cl f as with
    | .ok r outs => .ok r (putIO env (ioSlots us) outs)
    | .exc x outs => .exc x (putIO env (ioSlots us) outs)
    | .bad => .bad
  else .bad := rfl
theorem makeO_eq (cl : CallF) (c : Nat) (as : List Ar) (env : Env) : makeO cl c as env = match cl (spec c 0) (.io (.obj c [] []) :: as) with
  | .ok (.d .non) [o] => .ok (.nw o) env
  | .exc x _ => .exc x env
  | _ => .bad := rfl
theorem spec_eq (c m : Nat) : spec c m = 1000 + 1000 * c + m := rfl
theorem allFz_0 : allFz [] = true := rfl
theorem allFz_c (d : D) (as : List Ar) : allFz (.fz d :: as) = allFz as := rfl
theorem recv_f (env : Env) (u : U) : recvU false env u = match fzU env u with
    | some (.obj c ks vs, env') => some (c, .d (.obj c ks vs), env')
    | _ => none := rfl
theorem recv_t (env : Env) (i : Nat) : recvU true env (.sl i) = match getS env i with
      | .ow (.obj c _ _) => some (c, .sl i, env)
      | .io (.obj c _ _) => some (c, .sl i, env)
      | _ => none := rfl
theorem ownOp_o (cl : CallF) (o : O2) (cs ts : List Nat) (c : Nat) (ks : List Nat) (vs : List D) (y : D) (env : Env) : ownOp cl o cs ts (.obj c ks vs) y env = (if !(cs.contains c && okR o ts c y) then .bad else match cl (spec c (opc o)) [.fz (.obj c ks vs), .fz y] with
    | .ok r _ => match o with
      | .ne => match r with
        | .d (.bl t) => .ok (.nw (.bl (!t))) env
        | _ => .bad
      | _ => .ok r env
    | .exc x _ => .exc x env
    | .bad => .bad) := rfl
theorem ownIn_o (cl : CallF) (neg : Bool) (cs : List Nat) (x : D) (c : Nat) (ks : List Nat) (vs : List D) (env : Env) : ownIn cl neg cs x (.obj c ks vs) env = (if !cs.contains c then .bad else match cl (spec c 17) [.fz (.obj c ks vs), .fz x] with
    | .ok (.d (.bl t)) _ => .ok (.nw (.bl (if neg then !t else t))) env
    | .exc x _ => .exc x env
    | _ => .bad) := rfl
theorem ownNe_o (cl : CallF) (cs : List Nat) (c : Nat) (ks : List Nat) (vs : List D) (y : D) (env : Env) : ownNe cl cs (.obj c ks vs) y env = (if !(cs.contains c && !oddD y) then .bad else match cl (spec c 16) [.fz (.obj c ks vs), .fz y] with
    | .ok (.d (.bl t)) _ => .ok (.nw (.bl (!t))) env
    | .exc x _ => .exc x env
    | _ => .bad) := rfl
theorem opc_add : opc .add = 1 := rfl
theorem opc_sub : opc .sub = 2 := rfl
theorem opc_mul : opc .mul = 3 := rfl
theorem opc_shl : opc .shl = 7 := rfl
theorem opc_shr : opc .shr = 8 := rfl
theorem opc_band : opc .band = 9 := rfl
theorem opc_bor : opc .bor = 10 := rfl
theorem opc_lt : opc .lt = 12 := rfl
theorem opc_le : opc .le = 13 := rfl
theorem opc_gt : opc .gt = 14 := rfl
theorem opc_ge : opc .ge = 15 := rfl
theorem opc_eq : opc .eq = 16 := rfl
theorem opc_ne : opc .ne = 16 := rfl
theorem okR_o (o : O2) (ts : List Nat) (c c' : Nat) (ks : List Nat) (vs : List D) : okR o ts c (.obj c' ks vs) = (isCmpO o || c == c') := rfl
theorem okR_int (o : O2) (ts : List Nat) (c : Nat) (i : Int) : okR o ts c (.int i) = (isCmpO o || ts.contains 2) := rfl
theorem okR_bl (o : O2) (ts : List Nat) (c : Nat) (i : Bool) : okR o ts c (.bl i) = (isCmpO o || ts.contains 1) := rfl
theorem okR_non (o : O2) (ts : List Nat) (c : Nat) : okR o ts c .non = (isCmpO o || ts.contains 0) := rfl
theorem okR_str (o : O2) (ts : List Nat) (c : Nat) (i : Str) : okR o ts c (.str i) = (isCmpO o || ts.contains 3) := rfl
theorem okR_lst (o : O2) (ts : List Nat) (c : Nat) (i : List D) : okR o ts c (.lst i) = (isCmpO o || ts.contains 4) := rfl
theorem okR_kst (o : O2) (ts : List Nat) (c : Nat) (i : List D) : okR o ts c (.kst i) = (isCmpO o || ts.contains 4) := rfl
theorem okR_tup (o : O2) (ts : List Nat) (c : Nat) (i : List D) : okR o ts c (.tup i) = (isCmpO o || ts.contains 5) := rfl
theorem cmp_lt : isCmpO .lt = true := rfl
theorem cmp_le : isCmpO .le = true := rfl
theorem cmp_gt : isCmpO .gt = true := rfl
theorem cmp_ge : isCmpO .ge = true := rfl
theorem cmp_eq : isCmpO .eq = true := rfl
theorem cmp_ne : isCmpO .ne = true := rfl
theorem cmp_add : isCmpO .add = false := rfl
theorem cmp_sub : isCmpO .sub = false := rfl
theorem cmp_band : isCmpO .band = false := rfl
theorem cmp_bor : isCmpO .bor = false := rfl
theorem cmp_shl : isCmpO .shl = false := rfl
theorem cmp_shr : isCmpO .shr = false := rfl
theorem cmp_mul : isCmpO .mul = false := rfl
theorem slOf_obj (x : D) (c : Nat) (ks : List Nat) (vs : List D) : slOf (.nw x) (.obj c ks vs) = .ow (.obj c ks vs) := rfl
theorem nrm_obj (c : Nat) (ks : List Nat) (vs : List D) : nrm (.obj c ks vs) = .nw (.obj c ks vs) := rfl
theorem slOf_err (u : U) (c : Nat) (ks : List Nat) (vs : List D) : slOf u (.err c ks vs) = .fz (.err c ks vs) := by cases u <;> rfl
theorem hear_eq (cl : CallF) (f : Nat) (o : D) (env : Env) : hearC cl f o env = match cl f [.fz o] with
  | .ok r _ => .ok r env
  | .exc x _ => .exc x env
  | .bad => .bad := rfl
theorem frz_0 (env : Env) : frzAll [] env = some env := rfl
theorem frz_c (i : Nat) (is : List Nat) (env : Env) : frzAll (i :: is) env = (fzU env (.sl i)).bind fun p => frzAll is p.2 := rfl
theorem mask_c (s : Sl) (env : Env) : maskE (s :: env) = maskS s :: maskE env := rfl
theorem mask_n : maskE [] = [] := rfl
theorem maskS_fz (d : D) : maskS (.fz d) = .fz d := rfl
theorem maskS_ow (d : D) : maskS (.ow d) = .un := rfl
theorem maskS_io (d : D) : maskS (.io d) = .un := rfl
theorem maskS_un : maskS .un = .un := rfl
theorem item_t (xs : List D) : itemsD (.tup xs) = some xs := rfl
theorem item_l (xs : List D) : itemsD (.lst xs) = some xs := rfl
theorem item_k (xs : List D) : itemsD (.kst xs) = some xs := rfl
theorem bi_max2 (i j : Int) : biD .max2 [.int i, .int j] = some (.int (max i j)) := by
  have : (if j > i then j else i) = max i j := by omega
  rw [← this]; rfl
theorem bi_min2 (i j : Int) : biD .min2 [.int i, .int j] = some (.int (min i j)) := by
  have : (if j < i then j else i) = min i j := by omega
  rw [← this]; rfl
theorem bi_bool_b (b : Bool) : biD .bool [.bl b] = some (.bl b) := rfl
theorem o_shr_i {i j : Int} (h : 0 ≤ j) : op2 .shr (.int i) (.int j) = some (.int (i / 2 ^ j.toNat)) := by simp only [op2, h, if_true]
theorem o_is_n (x : D) : op2 .is x .non = some (.bl (match x with | .non => true | _ => false)) := rfl
theorem o_isnot_n (x : D) : op2 .isnot x .non = some (.bl (match x with | .non => false | _ => true)) := rfl
theorem o_is_b (x : D) (b : Bool) : op2 .is x (.bl b) = some (.bl (match x with | .bl c => b == c | _ => false)) := rfl
theorem o_isnot_b (x : D) (b : Bool) : op2 .isnot x (.bl b) = some (.bl (match x with | .bl c => !(b == c) | _ => true)) := rfl
theorem o_add_l (xs ys : List D) : op2 .add (.lst xs) (.lst ys) = if xs.length + ys.length ≤ LIM then some (.lst (xs ++ ys)) else none := rfl
theorem o_mul_l (xs : List D) (j : Int) : op2 .mul (.lst xs) (.int j) = if decide (0 ≤ j) && decide (j ≤ 1000) && decide (xs.length * j.toNat ≤ LIM) then some (.lst (List.replicate j.toNat xs).flatten) else none := rfl
theorem set_l4_0 (a b c d x : D) : setD [a, b, c, d] 0 x = some [x, b, c, d] := rfl
theorem set_l4_1 (a b c d x : D) : setD [a, b, c, d] 1 x = some [a, x, c, d] := rfl
theorem set_l4_2 (a b c d x : D) : setD [a, b, c, d] 2 x = some [a, b, x, d] := rfl
theorem set_l4_3 (a b c d x : D) : setD [a, b, c, d] 3 x = some [a, b, c, x] := rfl
theorem ask_o (o : D) (cl : CallF) (env : Env) : askR (askCl o cl 999 []) env = outD o env := ask_out
theorem outD_t (d : D) (env : Env) : outD (.tup [.non, d]) env = .ok (.d d) env := rfl
theorem outD_e (c : Nat) (ks : List Nat) (vs : List D) (env : Env) : outD (.err c ks vs) env = .exc (c, ks, vs) env := rfl
theorem keep_d (env env' : Env) (d : D) : keepC env (.ok (.d d) env') = if noLst d then .ok (.d d) env else .bad := rfl
theorem noL_non : noLst .non = true := by rw [noLst]
theorem noL_int (i : Int) : noLst (.int i) = true := by rw [noLst]
theorem noL_bl (i : Bool) : noLst (.bl i) = true := by rw [noLst]
theorem noL_str (i : Str) : noLst (.str i) = true := by rw [noLst]
theorem noL_tup (xs : List D) : noLst (.tup xs) = noLsts xs := by rw [noLst]
theorem noL_0 : noLsts [] = true := by rw [noLsts]
theorem noL_c (x : D) (xs : List D) : noLsts (x :: xs) = (noLst x && noLsts xs) := by rw [noLsts]
theorem evJ_0 {cl : CallF} {acc : Str} {env : Env} : evJ cl .nil acc env = .ok acc env := rfl
theorem evJ_s {cl : CallF} {e : Ex} {es : Exs} {acc y : Str} {env env1 : Env} {u : U} {d : D} (h1 : ev cl e env = .ok u env1) (h2 : rdU env1 u = some d) (h3 : fmtD d = some y) (h4 : (acc ++ y).length ≤ 100000) : evJ cl (.cons e es) acc env = evJ cl es (acc ++ y) env1 := by
  have h4 : (acc ++ y).length ≤ LIM := h4
  simp only [evJ, h1, R.bind_ok, h2, orBad_some, h3, h4, if_true]
theorem nrm_mut {x : D} (h : isMutD x = true) : nrm x = .nw x := by simp only [nrm, h, if_true]
theorem fz_match (d : D) : (match Sl.fz d with | .un => (R.bad : R U) | .fz d => .ok (.d d) ([] : Env) | _ => .bad) = .ok (.d d) [] := rfl
theorem frange (m : Int) (h : -(2 ^ 40) ≤ m) (h' : m < 2 ^ 40) : (decide (-(2 ^ 40) ≤ m) && decide (m < 2 ^ 40)) = true := by simp only [h, h', decide_true, Bool.and_self]
theorem rv_split (z : Str) : recvB .split (.str z) = true := rfl
theorem rv_join (z : Str) : recvB .join (.str z) = true := rfl
theorem rv_ix_l (xs : List D) : recvB .index (.lst xs) = true := rfl
theorem rv_ix_k (xs : List D) : recvB .index (.kst xs) = true := rfl
theorem clsN_eq (c : Nat) : isClsN c (.fz (.cls c)) = true := by simp [isClsN]
end PP
end

section
namespace PP
open PySem L2
/-! equality of plain data -/
mutual
def wfD : D → Bool
  | .non => true | .bl _ => true | .int _ => true | .str z => PyData.strOk z
  | .lst xs => wfL xs | .tup xs => wfL xs | .kst xs => wfL xs | _ => false
def wfL : List D → Bool
  | [] => true | d :: r => wfD d && wfL r
end
mutual
def dpD : D → Nat
  | .lst xs => dpL xs + 1 | .tup xs => dpL xs + 1 | .kst xs => dpL xs + 1 | _ => 0
def dpL : List D → Nat
  | [] => 0 | d :: r => max (dpD d) (dpL r)
end
def eqvD (x y : D) : Bool := match toPy x, toPy y with
  | some p, some q => PyData.eqv p q
  | _, _ => false
def eqvL (xs ys : List D) : Bool := match toPyAll xs, toPyAll ys with
  | some p, some q => PyData.eqvAll p q
  | _, _ => false
mutual
theorem wf_py : ∀ d : D, wfD d = true → ∃ p, toPy d = some p ∧ p.canLay0 = true ∧ p.depth = dpD d
  | .non, _ => ⟨.none, rfl, by simp [PyData.canLay0], by simp [PyData.depth, dpD]⟩
  | .bl b, _ => ⟨.bool b, rfl, by simp [PyData.canLay0], by simp [PyData.depth, dpD]⟩
  | .int i, _ => ⟨.int i, rfl, by simp [PyData.canLay0], by simp [PyData.depth, dpD]⟩
  | .str z, h => ⟨.str z, rfl, by simp only [wfD] at h; simp only [PyData.canLay0, h], by simp [PyData.depth, dpD]⟩
  | .lst xs, h => by
    obtain ⟨ps, h1, h2, h3⟩ := wfs_py xs (by simpa only [wfD] using h)
    exact ⟨.list ps, by simp only [toPy, h1, Option.map_some], by simp only [PyData.canLay0, h2], by simp only [PyData.depth, dpD, h3]⟩
  | .tup xs, h => by
    obtain ⟨ps, h1, h2, h3⟩ := wfs_py xs (by simpa only [wfD] using h)
    exact ⟨.tuple ps, by simp only [toPy, h1, Option.map_some], by simp only [PyData.canLay0, h2], by simp only [PyData.depth, dpD, h3]⟩
  | .kst xs, h => by
    obtain ⟨ps, h1, h2, h3⟩ := wfs_py xs (by simpa only [wfD] using h)
    exact ⟨.list ps, by simp only [toPy, h1, Option.map_some], by simp only [PyData.canLay0, h2], by simp only [PyData.depth, dpD, h3]⟩
  | .dK _ _, h => by simp [wfD] at h
  | .dT _ _, h => by simp [wfD] at h
  | .obj _ _ _, h => by simp [wfD] at h
  | .cls _, h => by simp [wfD] at h
  | .err _ _ _, h => by simp [wfD] at h
theorem wfs_py : ∀ ds : List D, wfL ds = true → ∃ ps, toPyAll ds = some ps ∧ PyData.canLayAll0 ps = true ∧ PyData.depthAll ps = dpL ds
  | [], _ => ⟨[], rfl, by simp [PyData.canLayAll0], by simp [PyData.depthAll, dpL]⟩
  | d :: r, h => by
    simp only [wfL, Bool.and_eq_true] at h
    obtain ⟨p, h1, h2, h3⟩ := wf_py d h.1
    obtain ⟨ps, g1, g2, g3⟩ := wfs_py r h.2
    exact ⟨p :: ps, by simp only [toPyAll, h1, g1], by simp only [PyData.canLayAll0, h2, g2, Bool.and_self], by simp only [PyData.depthAll, dpL, h3, g3]⟩
end
theorem eqP_v {x y : D} (hx : wfD x = true) (hy : wfD y = true) (dx : dpD x ≤ 64) (dy : dpD y ≤ 64) : eqP x y = some (eqvD x y) := by
  obtain ⟨p, h1, h2, h3⟩ := wf_py x hx
  obtain ⟨q, g1, g2, g3⟩ := wf_py y hy
  have s1 : SeqAt.shaped p = true := by simp only [SeqAt.shaped, h2, h3, dx, decide_true, Bool.and_self]
  have s2 : SeqAt.shaped q = true := by simp only [SeqAt.shaped, g2, g3, dy, decide_true, Bool.and_self]
  simp only [eqP, eqvD, h1, g1, s1, s2, Bool.and_self, if_true]
theorem v_str (a b : Str) : eqvD (.str a) (.str b) = decide (a = b) := by
  show PyData.eqv (.str a) (.str b) = _
  simp only [PyData.eqv]
  by_cases h : a = b
  · simp [h]
  · simp [h]
theorem eqD_v {x y : D} (hx : wfD x = true) (hy : wfD y = true) (dx : dpD x ≤ 64) (dy : dpD y ≤ 64) : eqD x y = some (eqvD x y) := by
  have e := eqP_v hx hy dx dy
  cases x <;> cases y <;> first | exact e | (rw [v_str]; rfl)
theorem op_eq {x y : D} (hx : wfD x = true) (hy : wfD y = true) (dx : dpD x ≤ 64) (dy : dpD y ≤ 64) : op2 .eq x y = some (.bl (eqvD x y)) := by
  have e : op2 .eq x y = (eqD x y).map .bl := by cases x <;> rfl
  rw [e, eqD_v hx hy dx dy]
  rfl
theorem op_ne {x y : D} (hx : wfD x = true) (hy : wfD y = true) (dx : dpD x ≤ 64) (dy : dpD y ≤ 64) : op2 .ne x y = some (.bl (!eqvD x y)) := by
  have e : op2 .ne x y = (eqD x y).map fun b => .bl (!b) := by cases x <;> rfl
  rw [e, eqD_v hx hy dx dy]
  rfl
theorem v_nil : eqvL [] [] = true := by
  show PyData.eqvAll [] [] = _
  simp only [PyData.eqvAll]
theorem v_cons (x y : D) (xs ys : List D) : eqvL (x :: xs) (y :: ys) = (eqvD x y && eqvL xs ys) := by
  simp only [eqvL, eqvD, toPyAll]
  cases toPy x <;> cases toPy y <;> cases toPyAll xs <;> cases toPyAll ys <;> simp [PyData.eqvAll]
theorem v_nc (y : D) (ys : List D) : eqvL [] (y :: ys) = false := by
  simp only [eqvL, toPyAll]
  cases toPy y <;> cases toPyAll ys <;> simp [PyData.eqvAll]
theorem v_cn (y : D) (ys : List D) : eqvL (y :: ys) [] = false := by
  simp only [eqvL, toPyAll]
  cases toPy y <;> cases toPyAll ys <;> simp [PyData.eqvAll]
theorem v_tup (xs ys : List D) : eqvD (.tup xs) (.tup ys) = eqvL xs ys := by
  simp only [eqvL, eqvD, toPy]
  cases toPyAll xs <;> cases toPyAll ys <;> simp [PyData.eqv]
theorem v_lst (xs ys : List D) : eqvD (.lst xs) (.lst ys) = eqvL xs ys := by
  simp only [eqvL, eqvD, toPy]
  cases toPyAll xs <;> cases toPyAll ys <;> simp [PyData.eqv]
theorem v_kl (xs ys : List D) : eqvD (.kst xs) (.lst ys) = eqvL xs ys := by
  simp only [eqvL, eqvD, toPy]
  cases toPyAll xs <;> cases toPyAll ys <;> simp [PyData.eqv]
theorem v_lt (xs ys : List D) : eqvD (.lst xs) (.tup ys) = false := by
  simp only [eqvD, toPy]
  cases toPyAll xs <;> cases toPyAll ys <;> simp [PyData.eqv]
theorem v_tl (xs ys : List D) : eqvD (.tup xs) (.lst ys) = false := by
  simp only [eqvD, toPy]
  cases toPyAll xs <;> cases toPyAll ys <;> simp [PyData.eqv]
theorem v_int (a b : Int) : eqvD (.int a) (.int b) = (a == b) := by
  show PyData.eqv (.int a) (.int b) = _
  simp only [PyData.eqv]
theorem v_bl (a b : Bool) : eqvD (.bl a) (.bl b) = (a == b) := by
  show PyData.eqv (.bool a) (.bool b) = _
  simp only [PyData.eqv]
theorem v_nn : eqvD .non .non = true := by
  show PyData.eqv .none .none = _
  simp only [PyData.eqv]
theorem v_nt (ys : List D) : eqvD .non (.tup ys) = false := by
  simp only [eqvD, toPy]
  cases toPyAll ys <;> simp [PyData.eqv]
theorem v_tn (ys : List D) : eqvD (.tup ys) .non = false := by
  simp only [eqvD, toPy]
  cases toPyAll ys <;> simp [PyData.eqv]
theorem v_ni (i : Int) : eqvD .non (.int i) = false := by
  show PyData.eqv .none (.int i) = _
  simp only [PyData.eqv]
theorem v_in (i : Int) : eqvD (.int i) .non = false := by
  show PyData.eqv (.int i) .none = _
  simp only [PyData.eqv]
mutual
theorem v_self : ∀ d : D, wfD d = true → eqvD d d = true
  | .non, _ => v_nn
  | .bl b, _ => by rw [v_bl]; simp
  | .int i, _ => by rw [v_int]; simp
  | .str z, h => by rw [v_str]; simp
  | .lst xs, h => by rw [v_lst]; exact vs_self xs (by simpa only [wfD] using h)
  | .tup xs, h => by rw [v_tup]; exact vs_self xs (by simpa only [wfD] using h)
  | .kst xs, h => by
    have : eqvD (.kst xs) (.kst xs) = eqvL xs xs := by
      simp only [eqvL, eqvD, toPy]
      cases toPyAll xs <;> simp [PyData.eqv]
    rw [this]; exact vs_self xs (by simpa only [wfD] using h)
  | .dK _ _, h => by simp [wfD] at h
  | .dT _ _, h => by simp [wfD] at h
  | .obj _ _ _, h => by simp [wfD] at h
  | .cls _, h => by simp [wfD] at h
  | .err _ _ _, h => by simp [wfD] at h
theorem vs_self : ∀ ds : List D, wfL ds = true → eqvL ds ds = true
  | [], _ => v_nil
  | d :: r, h => by
    simp only [wfL, Bool.and_eq_true] at h
    rw [v_cons, v_self d h.1, vs_self r h.2]
    rfl
end
theorem v_ints : ∀ xs ys : List Int, eqvL (xs.map D.int) (ys.map D.int) = decide (xs = ys)
  | [], [] => by simp [v_nil]
  | [], _ :: _ => by simp [v_nc]
  | _ :: _, [] => by simp [v_cn]
  | x :: xs, y :: ys => by
    rw [List.map_cons, List.map_cons, v_cons, v_int, v_ints xs ys]
    by_cases h : x = y <;> by_cases h' : xs = ys <;> simp [h, h']
theorem wf_ints : ∀ xs : List Int, wfL (xs.map D.int) = true
  | [] => rfl
  | x :: xs => by rw [List.map_cons, wfL, wf_ints xs]; rfl
theorem dp_ints : ∀ xs : List Int, dpL (xs.map D.int) = 0
  | [] => rfl
  | x :: xs => by rw [List.map_cons, dpL, dp_ints xs]; rfl
theorem wfL_app (xs ys : List D) : wfL (xs ++ ys) = (wfL xs && wfL ys) := by
  induction xs with
  | nil => rfl
  | cons x r ih => simp only [List.cons_append, wfL, ih, Bool.and_assoc]
theorem dpL_app (xs ys : List D) : dpL (xs ++ ys) = max (dpL xs) (dpL ys) := by
  induction xs with
  | nil => simp [dpL]
  | cons x r ih => simp only [List.cons_append, dpL, ih, Nat.max_assoc]
end PP
end

section
namespace PP
open PySem L2
/-! texts of numbers -/
abbrev smI (x : Int) : Prop := -57896044618658097711785492504343953926634992332820282019728792003956564819968 < x ∧ x < 57896044618658097711785492504343953926634992332820282019728792003956564819968
theorem smI.log {x : Int} (h : smI x) : x.natAbs.log2 < 300 := log2_b h.1 h.2
theorem len_app (a b : Str) : (a ++ b).length = a.length + b.length := by
  show (a.cps ++ b.cps).size = _
  rw [Array.size_append]
  rfl
theorem len_ofS (s : String) : (Str.ofString s).length = s.length := by
  rw [Str.ofString_eq_toList]
  show ((s.toList.map Char.toNat).toArray).size = _
  rw [List.size_toArray, List.length_map, String.length_toList]
theorem len_it {i : Int} (h : smI i) : (Str.ofString (toString i)).length ≤ 301 := by
  rw [len_ofS]
  exact int_text_length_le (by decide) h.log
theorem fmt_int {i : Int} (h : smI i) : fmtD (.int i) = some (Str.ofString (toString i)) := by
  have := h.log
  simp only [fmtD]
  rw [if_pos (by omega)]
theorem fmt_str {z : Str} (h : z.length ≤ 100000) : fmtD (.str z) = some z := by
  have : z.length ≤ LIM := h
  simp only [fmtD, this, if_true]
theorem ok_ofS (s : String) : PyData.strOk (Str.ofString s) = true := by
  rw [Str.ofString_eq_toList]
  simp only [PyData.strOk, List.all_toArray, List.all_map, List.all_eq_true]
  intro c hc
  show decide (c.val.toNat < 1114112) = true
  have := c.valid
  rcases this with h | h
  · exact decide_eq_true (Nat.lt_trans (show c.val.toNat < 55296 from h) (by decide))
  · exact decide_eq_true (show c.val.toNat < 1114112 from h.2)
theorem ok_app (a b : Str) : PyData.strOk (a ++ b) = (PyData.strOk a && PyData.strOk b) := by
  show (a.cps ++ b.cps).all _ = _
  rw [Array.all_append]
  rfl
theorem ok_empty : PyData.strOk Str.empty = true := by simp [PyData.strOk, Str.empty]
theorem rp_str (z : Str) (h : ((PyData.str z).showable && !(PyData.str z).hasDict && decide ((PyData.str z).shown.length ≤ LIM) && decide ((PyData.str z).depth ≤ 64)) = true) : biD .repr [.str z] = some (.str (PyData.str z).shown) := by
  show (if _ then _ else _) = _
  rw [if_pos h]
end PP
end

section
local macro_rules | `(tactic| walk_at "pp") => `(tactic| simp -implicitDefEqProofs only [PP.ev_w0, PP.ev_w1, PP.ev_w2, PP.ev_w3, PP.ev_w4, PP.ev_w5, PP.ev_w6, PP.ev_w7, PP.ev_w8, PP.ev_w9, PP.ev_w10, PP.ev_w11, PP.ev_w12, PP.ev_w13, PP.ev_w14, PP.ev_w15, PP.ev_w16, PP.ev_w17, PP.ev_w18, PP.ev_w19, PP.ev_w20, PP.ev_w21, PP.ev_w22, PP.ev_w23, PP.ev_w24, PP.ev_w25, PP.ev_w26, PP.ev_w27, PP.ev_w28, PP.ev_w29, PP.ev_w30, PP.ev_w31, PP.ev_w32, PP.ev_w33, PP.ev_w34, PP.ev_w35, PP.ev_w36, PP.ev_w37, PP.ev_w38, PP.ev_w39, PP.ev_w40, PP.ev_w41, PP.ev_w42, PP.ev_w43, PP.ev_w44, PP.evF_w0, PP.evF_w1, PP.evF_w2, PP.evR_w0, PP.evR_w1, PP.evR_w2, PP.evC_w0, PP.evC_w1, PP.evC_w2, PP.evC_w3, PP.ex_w0, PP.ex_w1, PP.ex_w2, PP.ex_w3, PP.ex_w4, PP.ex_w5, PP.ex_w6, PP.ex_w7, PP.ex_w8, PP.ex_w9, PP.ex_w10, PP.ex_w11, PP.ex_w12, PP.ex_w13, PP.ex_w14, PP.ex_w15, PP.ex_w16, PP.ex_w17, PP.ex_w18, PP.ex_w19, PP.ex_w20, PP.exs_w0, PP.exs_w1, PP.itD_w0, PP.itD_w1, PP.itD_w2, PP.itD_w3, PP.itD_w4, PP.itD_w5, PP.evT_w, PP.getS_0, PP.getS_s, PP.set_0, PP.set_s, PP.mul_1, PP.mul_m1, PP.fin_ok, PP.fin_exc, PP.finX_s, PP.finO_next, PP.finO_d, PP.finO_nw, PP.rdU_d, PP.rdU_nw, PP.rdU_sl, PP.rdS_fz, PP.rdS_ow, PP.rdS_io, PP.pend_d, PP.pend_nw, PP.pend_sl, PP.fzU_d, PP.fzU_nw, PP.fzU_sl, PP.asgU_d, PP.asgU_nw, PP.asgU_sl, PP.slOf_non, PP.slOf_bl, PP.slOf_int, PP.slOf_str, PP.slOf_tup, PP.slOf_lst, PP.slOf_dK, PP.isLs_ow, PP.isLs_io, PP.retU_d, PP.retU_nw, PP.retU_sl, PP.nrm_non, PP.nrm_bl, PP.nrm_int, PP.nrm_str, PP.nrm_tup, PP.nrm_lst, PP.nrm_dK, PP.setIO_ow, PP.setIO_io, PP.dupF_0, PP.dupF_1, PP.optP_f, PP.optP_t, PP.truD_bl, PP.truD_non, PP.truD_lst, PP.partD_eq, PP.ix_lst_0, PP.ix_lst_1, PP.ix_lst_2, PP.ix_lst_3, PP.ix_lst_4, PP.ix_lst_5, PP.ix_tup_0, PP.ix_tup_1, PP.ix_tup_2, PP.ix_tup_3, PP.ix_tup_4, PP.ix_tup_5, PP.ix_kst_0, PP.ix_kst_1, PP.ix_kst_2, PP.ix_kst_3, PP.ix_kst_4, PP.ix_kst_5, PP.set_l3_1, PP.set_l3_2, PP.bi_int_i, PP.bi_int_b, PP.bi_abs, PP.bi_len_l, PP.bi_len_t, PP.bi_isInt_non, PP.bi_isInt_bl, PP.bi_isInt_int, PP.bi_isInt_str, PP.bi_isInt_tup, PP.bi_isInt_lst, PP.bi_isInt_kst, PP.bi_isInt_dK, PP.bi_isBool_non, PP.bi_isBool_bl, PP.bi_isBool_int, PP.bi_isBool_str, PP.bi_isBool_tup, PP.bi_isBool_lst, PP.bi_isBool_kst, PP.bi_isBool_dK, PP.bi_isTuple_non, PP.bi_isTuple_bl, PP.bi_isTuple_int, PP.bi_isTuple_str, PP.bi_isTuple_tup, PP.bi_isTuple_lst, PP.bi_isTuple_kst, PP.bi_isTuple_dK, PP.bi_isList_non, PP.bi_isList_bl, PP.bi_isList_int, PP.bi_isList_str, PP.bi_isList_tup, PP.bi_isList_lst, PP.bi_isList_kst, PP.bi_isList_dK, PP.bi_isStr_non, PP.bi_isStr_bl, PP.bi_isStr_int, PP.bi_isStr_str, PP.bi_isStr_tup, PP.bi_isStr_lst, PP.bi_isStr_kst, PP.bi_isStr_dK, PP.le_lim, PP.lt_lim, PP.bi_isInt_dT, PP.bi_isBool_dT, PP.bi_isTuple_dT, PP.bi_isList_dT, PP.bi_isStr_dT, PP.pw_10_18, PP.o_gt_i, PP.o_lt_i, PP.o_ge_i, PP.o_le_i, PP.o_add_i, PP.o_sub_i, PP.o_neg_i, PP.o_eq_i, PP.o_ne_i, PP.o_eq_s, PP.o_ne_s, PP.o_eq_b, PP.ne_nil, PP.fldOf_o, PP.fldOf_e, PP.fldD_c, PP.putD_c, PP.putD_n, PP.isObj_o, PP.isObj_e, PP.isObj_non, PP.isObj_bl, PP.isObj_int, PP.isObj_str, PP.isObj_lst, PP.isObj_tup, PP.isObj_kst, PP.isObj_dK, PP.isCls_o, PP.isCls_e, PP.isCls_non, PP.isCls_bl, PP.isCls_int, PP.isCls_str, PP.isCls_lst, PP.isCls_tup, PP.isCls_kst, PP.isCls_dK, PP.runC_eq, PP.makeO_eq, PP.spec_eq, PP.allFz_0, PP.allFz_c, PP.recv_f, PP.recv_t, PP.ownOp_o, PP.ownIn_o, PP.ownNe_o, PP.opc_add, PP.opc_sub, PP.opc_mul, PP.opc_shl, PP.opc_shr, PP.opc_band, PP.opc_bor, PP.opc_lt, PP.opc_le, PP.opc_gt, PP.opc_ge, PP.opc_eq, PP.opc_ne, PP.okR_o, PP.okR_int, PP.okR_bl, PP.okR_non, PP.okR_str, PP.okR_lst, PP.okR_kst, PP.okR_tup, PP.cmp_lt, PP.cmp_le, PP.cmp_gt, PP.cmp_ge, PP.cmp_eq, PP.cmp_ne, PP.cmp_add, PP.cmp_sub, PP.cmp_band, PP.cmp_bor, PP.cmp_shl, PP.cmp_shr, PP.cmp_mul, PP.slOf_obj, PP.nrm_obj, PP.slOf_err, PP.hear_eq, PP.frz_0, PP.frz_c, PP.mask_c, PP.mask_n, PP.maskS_fz, PP.maskS_ow, PP.maskS_io, PP.maskS_un, PP.item_t, PP.item_l, PP.item_k, PP.bi_max2, PP.bi_min2, PP.bi_bool_b, PP.o_shr_i, PP.o_is_n, PP.o_isnot_n, PP.o_is_b, PP.o_isnot_b, PP.o_add_l, PP.o_mul_l, PP.set_l4_0, PP.set_l4_1, PP.set_l4_2, PP.set_l4_3, PP.ask_o, PP.outD_t, PP.outD_e, PP.keep_d, PP.noL_non, PP.noL_int, PP.noL_bl, PP.noL_str, PP.noL_tup, PP.noL_0, PP.noL_c, PP.evJ_0, PP.rv_split, PP.rv_join, PP.rv_ix_l, PP.rv_ix_k, PP.clsN_eq, PP.runF, PP.startE, PP.rdAll, PP.argsOf, PP.ioSlots, PP.putIO, PP.permL, PP.outsOf, PP.storeAll, PP.R.bind_ok, PP.R.bind_exc, PP.R.bind_bad, PP.orBad_some, PP.orBad_none, Int.reduceLE, Int.reduceLT, Int.reduceToNat, Int.reducePow, Int.reduceNeg, Int.reduceAdd, Int.reduceSub, Int.reduceMul, Int.reduceBEq, Int.cast_ofNat_Int, Int.natCast_zero, Int.natCast_one, Int.reduceBNe, Int.reduceEq, Int.reduceDiv, Int.reduceMod, Nat.reduceAdd, Nat.reduceMul, Nat.reduceSub, Nat.reducePow, Nat.reduceLeDiff, Nat.reduceLT, Nat.reduceEqDiff, Nat.reduceBEq, List.cons_append, List.nil_append, List.append_nil, Nat.zero_le, List.head?_cons, List.tail_cons, Option.map_some, Option.map_none, Option.bind_some, Option.bind_none, Bool.not_true, Bool.not_false, Bool.and_self, Bool.and_true, Bool.true_and, Bool.false_and, Bool.and_false, Bool.or_true, Bool.true_or, Bool.or_false, Bool.false_or, Bool.not_not, List.contains_cons, List.contains_nil, BEq.rfl, reduceCtorEq,
  eq_self, and_self, if_true, if_false, ite_true, ite_false, Bool.false_eq_true, reduceIte, List.length_cons, List.length_nil, List.filterMap_cons, List.filterMap_nil, List.getElem?_cons_zero, List.getElem?_cons_succ, List.map_cons, List.map_nil, List.replicate_succ, List.replicate_zero, List.flatten_cons, List.flatten_nil, List.reverse_cons, List.reverse_nil, decide_true, decide_false, Bool.not_eq_true, Bool.not_eq_false, Bool.cond_true, Bool.cond_false])
local macro_rules | `(tactic| walk_at "pq") => `(tactic| simp -implicitDefEqProofs (disch := first | assumption | (with_reducible show (_ : Bool) = _; exact id rfl) | (with_reducible show (_ : Int) < _; omega) | (with_reducible show (_ : Int) ≤ _; omega) | (with_reducible show (_ : Nat) ≤ _; omega) | (with_reducible show (_ : Nat) < _; omega) | exact id (by simp only [PP.wfD, PP.wfL, PP.dpD, PP.dpL, PP.ok_ofS, PP.ok_app, PP.ok_empty, Nat.max_self, Nat.zero_max, Nat.max_zero, Nat.reduceAdd, Nat.reduceLeDiff, Bool.and_self, PP.wf_ints, PP.dp_ints, Bool.and_true, Bool.true_and, *] ; done) | fail) only [*, PP.le_lim, PP.lt_lim, PP.o_shr_i, PP.shl_p, PP.mul_w, PP.fdiv_w, PP.mod_p, PP.pow_p, PP.nrm_mut, PP.bi_len_s, PP.bi_split, PP.op_eq, PP.op_ne, PP.v_str, PP.v_nil, PP.v_cons, PP.v_nc, PP.v_cn, PP.v_tup, PP.v_lst, PP.v_kl, PP.v_lt, PP.v_tl, PP.v_int, PP.v_bl, PP.v_nn, PP.v_nt, PP.v_tn, PP.v_ni, PP.v_in, PP.v_ints, PP.ev_w0, PP.ev_w1, PP.ev_w2, PP.ev_w3, PP.ev_w4, PP.ev_w5, PP.ev_w6, PP.ev_w7, PP.ev_w8, PP.ev_w9, PP.ev_w10, PP.ev_w11, PP.ev_w12, PP.ev_w13, PP.ev_w14, PP.ev_w15, PP.ev_w16, PP.ev_w17, PP.ev_w18, PP.ev_w19, PP.ev_w20, PP.ev_w21, PP.ev_w22, PP.ev_w23, PP.ev_w24, PP.ev_w25, PP.ev_w26, PP.ev_w27, PP.ev_w28, PP.ev_w29, PP.ev_w30, PP.ev_w31, PP.ev_w32, PP.ev_w33, PP.ev_w34, PP.ev_w35, PP.ev_w36, PP.ev_w37, PP.ev_w38, PP.ev_w39, PP.ev_w40, PP.ev_w41, PP.ev_w42, PP.ev_w43, PP.ev_w44, PP.evF_w0, PP.evF_w1, PP.evF_w2, PP.evR_w0, PP.evR_w1, PP.evR_w2, PP.evC_w0, PP.evC_w1, PP.evC_w2, PP.evC_w3, PP.ex_w0, PP.ex_w1, PP.ex_w2, PP.ex_w3, PP.ex_w4, PP.ex_w5, PP.ex_w6, PP.ex_w7, PP.ex_w8, PP.ex_w9, PP.ex_w10, PP.ex_w11, PP.ex_w12, PP.ex_w13, PP.ex_w14, PP.ex_w15, PP.ex_w16, PP.ex_w17, PP.ex_w18, PP.ex_w19, PP.ex_w20, PP.exs_w0, PP.exs_w1, PP.itD_w0, PP.itD_w1, PP.itD_w2, PP.itD_w3, PP.itD_w4, PP.itD_w5, PP.evT_w, PP.getS_0, PP.getS_s, PP.set_0, PP.set_s, PP.mul_1, PP.mul_m1, PP.fin_ok, PP.fin_exc, PP.finX_s, PP.finO_next, PP.finO_d, PP.finO_nw, PP.rdU_d, PP.rdU_nw, PP.rdU_sl, PP.rdS_fz, PP.rdS_ow, PP.rdS_io, PP.pend_d, PP.pend_nw, PP.pend_sl, PP.fzU_d, PP.fzU_nw, PP.fzU_sl, PP.asgU_d, PP.asgU_nw, PP.asgU_sl, PP.slOf_non, PP.slOf_bl, PP.slOf_int, PP.slOf_str, PP.slOf_tup, PP.slOf_lst, PP.slOf_dK, PP.isLs_ow, PP.isLs_io, PP.retU_d, PP.retU_nw, PP.retU_sl, PP.nrm_non, PP.nrm_bl, PP.nrm_int, PP.nrm_str, PP.nrm_tup, PP.nrm_lst, PP.nrm_dK, PP.setIO_ow, PP.setIO_io, PP.dupF_0, PP.dupF_1, PP.optP_f, PP.optP_t, PP.truD_bl, PP.truD_non, PP.truD_lst, PP.partD_eq, PP.ix_lst_0, PP.ix_lst_1, PP.ix_lst_2, PP.ix_lst_3, PP.ix_lst_4, PP.ix_lst_5, PP.ix_tup_0, PP.ix_tup_1, PP.ix_tup_2, PP.ix_tup_3, PP.ix_tup_4, PP.ix_tup_5, PP.ix_kst_0, PP.ix_kst_1, PP.ix_kst_2, PP.ix_kst_3, PP.ix_kst_4, PP.ix_kst_5, PP.set_l3_1, PP.set_l3_2, PP.bi_int_i, PP.bi_int_b, PP.bi_abs, PP.bi_len_l, PP.bi_len_t, PP.bi_isInt_non, PP.bi_isInt_bl, PP.bi_isInt_int, PP.bi_isInt_str, PP.bi_isInt_tup, PP.bi_isInt_lst, PP.bi_isInt_kst, PP.bi_isInt_dK, PP.bi_isBool_non, PP.bi_isBool_bl, PP.bi_isBool_int, PP.bi_isBool_str, PP.bi_isBool_tup, PP.bi_isBool_lst, PP.bi_isBool_kst, PP.bi_isBool_dK, PP.bi_isTuple_non, PP.bi_isTuple_bl, PP.bi_isTuple_int, PP.bi_isTuple_str, PP.bi_isTuple_tup, PP.bi_isTuple_lst, PP.bi_isTuple_kst, PP.bi_isTuple_dK, PP.bi_isList_non, PP.bi_isList_bl, PP.bi_isList_int, PP.bi_isList_str, PP.bi_isList_tup, PP.bi_isList_lst, PP.bi_isList_kst, PP.bi_isList_dK, PP.bi_isStr_non, PP.bi_isStr_bl, PP.bi_isStr_int, PP.bi_isStr_str, PP.bi_isStr_tup, PP.bi_isStr_lst, PP.bi_isStr_kst, PP.bi_isStr_dK, PP.le_lim, PP.lt_lim, PP.bi_isInt_dT, PP.bi_isBool_dT, PP.bi_isTuple_dT, PP.bi_isList_dT, PP.bi_isStr_dT, PP.pw_10_18, PP.o_gt_i, PP.o_lt_i, PP.o_ge_i, PP.o_le_i, PP.o_add_i, PP.o_sub_i, PP.o_neg_i, PP.o_eq_i, PP.o_ne_i, PP.o_eq_s, PP.o_ne_s, PP.o_eq_b, PP.ne_nil, PP.fldOf_o, PP.fldOf_e, PP.fldD_c, PP.putD_c, PP.putD_n, PP.isObj_o, PP.isObj_e, PP.isObj_non, PP.isObj_bl, PP.isObj_int, PP.isObj_str, PP.isObj_lst, PP.isObj_tup, PP.isObj_kst, PP.isObj_dK, PP.isCls_o, PP.isCls_e, PP.isCls_non, PP.isCls_bl, PP.isCls_int, PP.isCls_str, PP.isCls_lst, PP.isCls_tup, PP.isCls_kst, PP.isCls_dK, PP.runC_eq, PP.makeO_eq, PP.spec_eq, PP.allFz_0, PP.allFz_c, PP.recv_f, PP.recv_t, PP.ownOp_o, PP.ownIn_o, PP.ownNe_o, PP.opc_add, PP.opc_sub, PP.opc_mul, PP.opc_shl, PP.opc_shr, PP.opc_band, PP.opc_bor, PP.opc_lt, PP.opc_le, PP.opc_gt, PP.opc_ge, PP.opc_eq, PP.opc_ne, PP.okR_o, PP.okR_int, PP.okR_bl, PP.okR_non, PP.okR_str, PP.okR_lst, PP.okR_kst, PP.okR_tup, PP.cmp_lt, PP.cmp_le, PP.cmp_gt, PP.cmp_ge, PP.cmp_eq, PP.cmp_ne, PP.cmp_add, PP.cmp_sub, PP.cmp_band, PP.cmp_bor, PP.cmp_shl, PP.cmp_shr, PP.cmp_mul, PP.slOf_obj, PP.nrm_obj, PP.slOf_err, PP.hear_eq, PP.frz_0, PP.frz_c, PP.mask_c, PP.mask_n, PP.maskS_fz, PP.maskS_ow, PP.maskS_io, PP.maskS_un, PP.item_t, PP.item_l, PP.item_k, PP.bi_max2, PP.bi_min2, PP.bi_bool_b, PP.o_shr_i, PP.o_is_n, PP.o_isnot_n, PP.o_is_b, PP.o_isnot_b, PP.o_add_l, PP.o_mul_l, PP.set_l4_0, PP.set_l4_1, PP.set_l4_2, PP.set_l4_3, PP.ask_o, PP.outD_t, PP.outD_e, PP.keep_d, PP.noL_non, PP.noL_int, PP.noL_bl, PP.noL_str, PP.noL_tup, PP.noL_0, PP.noL_c, PP.evJ_0, PP.rv_split, PP.rv_join, PP.rv_ix_l, PP.rv_ix_k, PP.clsN_eq, PP.runF, PP.startE, PP.rdAll, PP.argsOf, PP.ioSlots, PP.putIO, PP.permL, PP.outsOf, PP.storeAll, PP.R.bind_ok, PP.R.bind_exc, PP.R.bind_bad, PP.orBad_some, PP.orBad_none, Int.reduceLE, Int.reduceLT, Int.reduceToNat, Int.reducePow, Int.reduceNeg, Int.reduceAdd, Int.reduceSub, Int.reduceMul, Int.reduceBEq, Int.cast_ofNat_Int, Int.natCast_zero, Int.natCast_one, Int.reduceBNe, Int.reduceEq, Int.reduceDiv, Int.reduceMod, Nat.reduceAdd, Nat.reduceMul, Nat.reduceSub, Nat.reducePow, Nat.reduceLeDiff, Nat.reduceLT, Nat.reduceEqDiff, Nat.reduceBEq, List.cons_append, List.nil_append, List.append_nil, Nat.zero_le, List.head?_cons, List.tail_cons, Option.map_some, Option.map_none, Option.bind_some, Option.bind_none, Bool.not_true, Bool.not_false, Bool.and_self, Bool.and_true, Bool.true_and, Bool.false_and, Bool.and_false, Bool.or_true, Bool.true_or, Bool.or_false, Bool.false_or, Bool.not_not, List.contains_cons, List.contains_nil, BEq.rfl, reduceCtorEq,
  eq_self, and_self, if_true, if_false, ite_true, ite_false, Bool.false_eq_true, reduceIte, List.length_cons, List.length_nil, List.filterMap_cons, List.filterMap_nil, List.getElem?_cons_zero, List.getElem?_cons_succ, List.map_cons, List.map_nil, List.replicate_succ, List.replicate_zero, List.flatten_cons, List.flatten_nil, List.reverse_cons, List.reverse_nil, decide_true, decide_false, Bool.not_eq_true, Bool.not_eq_false, Bool.cond_true, Bool.cond_false])
local macro_rules | `(tactic| walk_at "px") => `(tactic| simp -implicitDefEqProofs (disch := first | assumption | (with_reducible show (_ : Bool) = _; exact id rfl) | (with_reducible show (_ : Int) < _; omega) | (with_reducible show (_ : Int) ≤ _; omega) | (with_reducible show (_ : Nat) ≤ _; omega) | (with_reducible show (_ : Nat) < _; omega) | fail) only [*, PP.le_lim, PP.lt_lim, PP.o_shr_i, PP.shl_p, PP.mul_w, PP.fdiv_w, PP.mod_p, PP.pow_p, PP.nrm_mut, PP.bi_len_s, PP.bi_split, PP.ev_w0, PP.ev_w1, PP.ev_w2, PP.ev_w3, PP.ev_w4, PP.ev_w5, PP.ev_w6, PP.ev_w7, PP.ev_w8, PP.ev_w9, PP.ev_w10, PP.ev_w11, PP.ev_w12, PP.ev_w13, PP.ev_w14, PP.ev_w15, PP.ev_w16, PP.ev_w17, PP.ev_w18, PP.ev_w19, PP.ev_w20, PP.ev_w21, PP.ev_w22, PP.ev_w23, PP.ev_w24, PP.ev_w25, PP.ev_w26, PP.ev_w27, PP.ev_w28, PP.ev_w29, PP.ev_w30, PP.ev_w31, PP.ev_w32, PP.ev_w33, PP.ev_w34, PP.ev_w35, PP.ev_w36, PP.ev_w37, PP.ev_w38, PP.ev_w39, PP.ev_w40, PP.ev_w41, PP.ev_w42, PP.ev_w43, PP.ev_w44, PP.evF_w0, PP.evF_w1, PP.evF_w2, PP.evR_w0, PP.evR_w1, PP.evR_w2, PP.evC_w0, PP.evC_w1, PP.evC_w2, PP.evC_w3, PP.ex_w0, PP.ex_w1, PP.ex_w2, PP.ex_w3, PP.ex_w4, PP.ex_w5, PP.ex_w6, PP.ex_w7, PP.ex_w8, PP.ex_w9, PP.ex_w10, PP.ex_w11, PP.ex_w12, PP.ex_w13, PP.ex_w14, PP.ex_w15, PP.ex_w16, PP.ex_w17, PP.ex_w18, PP.ex_w19, PP.ex_w20, PP.exs_w0, PP.exs_w1, PP.itD_w0, PP.itD_w1, PP.itD_w2, PP.itD_w3, PP.itD_w4, PP.itD_w5, PP.evT_w, PP.getS_0, PP.getS_s, PP.set_0, PP.set_s, PP.mul_1, PP.mul_m1, PP.fin_ok, PP.fin_exc, PP.finX_s, PP.finO_next, PP.finO_d, PP.finO_nw, PP.rdU_d, PP.rdU_nw, PP.rdU_sl, PP.rdS_fz, PP.rdS_ow, PP.rdS_io, PP.pend_d, PP.pend_nw, PP.pend_sl, PP.fzU_d, PP.fzU_nw, PP.fzU_sl, PP.asgU_d, PP.asgU_nw, PP.asgU_sl, PP.slOf_non, PP.slOf_bl, PP.slOf_int, PP.slOf_str, PP.slOf_tup, PP.slOf_lst, PP.slOf_dK, PP.isLs_ow, PP.isLs_io, PP.retU_d, PP.retU_nw, PP.retU_sl, PP.nrm_non, PP.nrm_bl, PP.nrm_int, PP.nrm_str, PP.nrm_tup, PP.nrm_lst, PP.nrm_dK, PP.setIO_ow, PP.setIO_io, PP.dupF_0, PP.dupF_1, PP.optP_f, PP.optP_t, PP.truD_bl, PP.truD_non, PP.truD_lst, PP.partD_eq, PP.ix_lst_0, PP.ix_lst_1, PP.ix_lst_2, PP.ix_lst_3, PP.ix_lst_4, PP.ix_lst_5, PP.ix_tup_0, PP.ix_tup_1, PP.ix_tup_2, PP.ix_tup_3, PP.ix_tup_4, PP.ix_tup_5, PP.ix_kst_0, PP.ix_kst_1, PP.ix_kst_2, PP.ix_kst_3, PP.ix_kst_4, PP.ix_kst_5, PP.set_l3_1, PP.set_l3_2, PP.bi_int_i, PP.bi_int_b, PP.bi_abs, PP.bi_len_l, PP.bi_len_t, PP.bi_isInt_non, PP.bi_isInt_bl, PP.bi_isInt_int, PP.bi_isInt_str, PP.bi_isInt_tup, PP.bi_isInt_lst, PP.bi_isInt_kst, PP.bi_isInt_dK, PP.bi_isBool_non, PP.bi_isBool_bl, PP.bi_isBool_int, PP.bi_isBool_str, PP.bi_isBool_tup, PP.bi_isBool_lst, PP.bi_isBool_kst, PP.bi_isBool_dK, PP.bi_isTuple_non, PP.bi_isTuple_bl, PP.bi_isTuple_int, PP.bi_isTuple_str, PP.bi_isTuple_tup, PP.bi_isTuple_lst, PP.bi_isTuple_kst, PP.bi_isTuple_dK, PP.bi_isList_non, PP.bi_isList_bl, PP.bi_isList_int, PP.bi_isList_str, PP.bi_isList_tup, PP.bi_isList_lst, PP.bi_isList_kst, PP.bi_isList_dK, PP.bi_isStr_non, PP.bi_isStr_bl, PP.bi_isStr_int, PP.bi_isStr_str, PP.bi_isStr_tup, PP.bi_isStr_lst, PP.bi_isStr_kst, PP.bi_isStr_dK, PP.le_lim, PP.lt_lim, PP.bi_isInt_dT, PP.bi_isBool_dT, PP.bi_isTuple_dT, PP.bi_isList_dT, PP.bi_isStr_dT, PP.pw_10_18, PP.o_gt_i, PP.o_lt_i, PP.o_ge_i, PP.o_le_i, PP.o_add_i, PP.o_sub_i, PP.o_neg_i, PP.o_eq_i, PP.o_ne_i, PP.o_eq_s, PP.o_ne_s, PP.o_eq_b, PP.ne_nil, PP.fldOf_o, PP.fldOf_e, PP.fldD_c, PP.putD_c, PP.putD_n, PP.isObj_o, PP.isObj_e, PP.isObj_non, PP.isObj_bl, PP.isObj_int, PP.isObj_str, PP.isObj_lst, PP.isObj_tup, PP.isObj_kst, PP.isObj_dK, PP.isCls_o, PP.isCls_e, PP.isCls_non, PP.isCls_bl, PP.isCls_int, PP.isCls_str, PP.isCls_lst, PP.isCls_tup, PP.isCls_kst, PP.isCls_dK, PP.runC_eq, PP.makeO_eq, PP.spec_eq, PP.allFz_0, PP.allFz_c, PP.recv_f, PP.recv_t, PP.ownOp_o, PP.ownIn_o, PP.ownNe_o, PP.opc_add, PP.opc_sub, PP.opc_mul, PP.opc_shl, PP.opc_shr, PP.opc_band, PP.opc_bor, PP.opc_lt, PP.opc_le, PP.opc_gt, PP.opc_ge, PP.opc_eq, PP.opc_ne, PP.okR_o, PP.okR_int, PP.okR_bl, PP.okR_non, PP.okR_str, PP.okR_lst, PP.okR_kst, PP.okR_tup, PP.cmp_lt, PP.cmp_le, PP.cmp_gt, PP.cmp_ge, PP.cmp_eq, PP.cmp_ne, PP.cmp_add, PP.cmp_sub, PP.cmp_band, PP.cmp_bor, PP.cmp_shl, PP.cmp_shr, PP.cmp_mul, PP.slOf_obj, PP.nrm_obj, PP.slOf_err, PP.hear_eq, PP.frz_0, PP.frz_c, PP.mask_c, PP.mask_n, PP.maskS_fz, PP.maskS_ow, PP.maskS_io, PP.maskS_un, PP.item_t, PP.item_l, PP.item_k, PP.bi_max2, PP.bi_min2, PP.bi_bool_b, PP.o_shr_i, PP.o_is_n, PP.o_isnot_n, PP.o_is_b, PP.o_isnot_b, PP.o_add_l, PP.o_mul_l, PP.set_l4_0, PP.set_l4_1, PP.set_l4_2, PP.set_l4_3, PP.ask_o, PP.outD_t, PP.outD_e, PP.keep_d, PP.noL_non, PP.noL_int, PP.noL_bl, PP.noL_str, PP.noL_tup, PP.noL_0, PP.noL_c, PP.evJ_0, PP.rv_split, PP.rv_join, PP.rv_ix_l, PP.rv_ix_k, PP.clsN_eq, PP.runF, PP.startE, PP.rdAll, PP.argsOf, PP.ioSlots, PP.putIO, PP.permL, PP.outsOf, PP.storeAll, PP.R.bind_ok, PP.R.bind_exc, PP.R.bind_bad, PP.orBad_some, PP.orBad_none, Int.reduceLE, Int.reduceLT, Int.reduceToNat, Int.reducePow, Int.reduceNeg, Int.reduceAdd, Int.reduceSub, Int.reduceMul, Int.reduceBEq, Int.cast_ofNat_Int, Int.natCast_zero, Int.natCast_one, Int.reduceBNe, Int.reduceEq, Int.reduceDiv, Int.reduceMod, Nat.reduceAdd, Nat.reduceMul, Nat.reduceSub, Nat.reducePow, Nat.reduceLeDiff, Nat.reduceLT, Nat.reduceEqDiff, Nat.reduceBEq, List.cons_append, List.nil_append, List.append_nil, Nat.zero_le, List.head?_cons, List.tail_cons, Option.map_some, Option.map_none, Option.bind_some, Option.bind_none, Bool.not_true, Bool.not_false, Bool.and_self, Bool.and_true, Bool.true_and, Bool.false_and, Bool.and_false, Bool.or_true, Bool.true_or, Bool.or_false, Bool.false_or, Bool.not_not, List.contains_cons, List.contains_nil, BEq.rfl, reduceCtorEq,
  eq_self, and_self, if_true, if_false, ite_true, ite_false, Bool.false_eq_true, reduceIte, List.length_cons, List.length_nil, List.filterMap_cons, List.filterMap_nil, List.getElem?_cons_zero, List.getElem?_cons_succ, List.map_cons, List.map_nil, List.replicate_succ, List.replicate_zero, List.flatten_cons, List.flatten_nil, List.reverse_cons, List.reverse_nil, decide_true, decide_false, Bool.not_eq_true, Bool.not_eq_false, Bool.cond_true, Bool.cond_false])
namespace PP
open PySem L2
/-- the state of the draws -/
def PenOk (n : Nat) (p : D) : Prop := ∃ (cs : List Int) (a g : Int), p = .lst [.lst (cs.map D.int), .int a, .int g] ∧ cs.length ≤ 63 ∧ 0 ≤ a ∧ a ≤ n
theorem PenOk.mono {n m : Nat} {p : D} (h : PenOk n p) (hm : n ≤ m) : PenOk m p := by
  obtain ⟨cs, a, g, h1, h2, h3, h4⟩ := h
  exact ⟨cs, a, g, h1, h2, h3, by omega⟩
/-- the laws' draw: 0 pen 1 many 2 digit 3 at 4 cell 5 great 6 mixed -/
def drawTail (m1 c3 c4 m2 c5 c6 c7 m3 : Int) : Ss := (.cons (.iff (.and (.op2 .lt (.var 3) (.bi .len (.cons (.ix (.var 0) (.cst (.int 0))) .nil))) (.op2 .ge (.bi .abs (.cons (.var 4) .nil)) (.op2 .pow (.cst (.int 10)) (.cst (.int 18))))) (.cons (.asg 5 (.op2 .add (.op2 .mul (.cst (.int 2)) (.op2 .sub (.bi .abs (.cons (.var 4) .nil)) (.op2 .pow (.cst (.int 10)) (.cst (.int 18))))) (.bi .int (.cons (.op2 .lt (.var 4) (.cst (.int 0))) .nil)))) (.cons (.setI 0 (.cst (.int 2)) (.op2 .fdiv (.bi .int (.cons (.var 5) .nil)) (.var 1))) (.cons (.ret (.op2 .mod (.bi .int (.cons (.var 5) .nil)) (.var 1))) .nil))) .nil) (.cons (.asg 6 (.op2 .mod (.bi .int (.cons (.op2 .pow (.op2 .add (.op2 .add (.op2 .mod (.bi .int (.cons (.var 4) .nil)) (.cst (.int m1))) (.op2 .mul (.cst (.int c3)) (.var 3))) (.cst (.int c4))) (.cst (.int 5))) .nil)) (.cst (.int m2)))) (.cons (.asg 6 (.op2 .mod (.bi .int (.cons (.op2 .pow (.op2 .add (.op2 .add (.op2 .mul (.var 6) (.op2 .add (.op2 .mul (.cst (.int 2)) (.var 3)) (.cst (.int c5)))) (.op2 .mul (.op2 .mul (.cst (.int c6)) (.var 3)) (.var 3))) (.cst (.int c7))) (.cst (.int 3))) .nil)) (.cst (.int m3)))) (.cons (.ret (.op2 .mod (.bi .int (.cons (.op2 .fdiv (.var 6) (.cst (.int 32))) .nil)) (.var 1))) .nil))))
def drawFn (c1 c2 m1 c3 c4 m2 c5 c6 c7 m3 : Int) : Fn := { n := 7, body := (.cons (.iff (.op2 .gt (.ix (.var 0) (.cst (.int 2))) (.cst (.int 0))) (.cons (.asg 2 (.op2 .mod (.bi .int (.cons (.ix (.var 0) (.cst (.int 2))) .nil)) (.var 1))) (.cons (.setI 0 (.cst (.int 2)) (.op2 .fdiv (.bi .int (.cons (.ix (.var 0) (.cst (.int 2))) .nil)) (.var 1))) (.cons (.ret (.var 2)) .nil))) .nil) (.cons (.asg 3 (.ix (.var 0) (.cst (.int 1)))) (.cons (.setI 0 (.cst (.int 1)) (.op2 .add (.var 3) (.cst (.int 1)))) (.cons (.asg 4 (.op2 .add (.op2 .mul (.cst (.int c1)) (.var 3)) (.cst (.int c2)))) (.cons (.iff (.op2 .ne (.ix (.var 0) (.cst (.int 0))) (.lst .nil)) (.cons (.asg 4 (.ix (.ix (.var 0) (.cst (.int 0))) (.op2 .mod (.bi .int (.cons (.var 3) .nil)) (.bi .len (.cons (.ix (.var 0) (.cst (.int 0))) .nil))))) .nil) .nil) (drawTail m1 c3 c4 m2 c5 c6 c7 m3)))))) }
theorem mulb {x y p q : Int} (hx : 0 ≤ x) (hxp : x ≤ p) (hy : 0 ≤ y) (hyq : y ≤ q) : 0 ≤ x * y ∧ x * y ≤ p * q := ⟨Int.mul_nonneg hx hy, Int.mul_le_mul hxp hyq hy (by omega)⟩
theorem tail_ok {cl : CallF} {m1 c3 c4 m2 c5 c6 c7 m3 : Int} (h2 : 0 < m1 ∧ m1 ≤ 2147483648) (h3 : 0 ≤ c3 ∧ c3 ≤ 1000000) (h4 : 0 ≤ c4 ∧ c4 ≤ 1000000) (h5 : 0 < m2 ∧ m2 ≤ 2147483648) (h6 : 0 ≤ c5 ∧ c5 ≤ 1000000) (h7 : 0 ≤ c6 ∧ c6 ≤ 1000000)
    (h8 : 0 ≤ c7 ∧ c7 ≤ 1000000) (h9 : 0 < m3) {cs : List D} {b g m a cell : Int} {x2 x5 x6 : Sl} (hm : 0 < m) (hm2 : m < 1606938044258990275541962092341162602522202993782792835301376) (ha : 0 ≤ a) (ha2 : a ≤ 1000000) :
    ∃ r g' s2 s3 s4 s5 s6, exs cl (drawTail m1 c3 c4 m2 c5 c6 c7 m3) [.io (.lst [.lst cs, .int b, .int g]), .fz (.int m), x2, .fz (.int a), .fz (.int cell), x5, x6] = .ok (.ret (.nw (.int r))) [.io (.lst [.lst cs, .int b, .int g']), .fz (.int m), s2, s3, s4, s5, s6] ∧ 0 ≤ r ∧ r < m := by
  by_cases hb : (a < (cs.length : Int)) ∧ 1000000000000000000 ≤ (if cell < 0 then -cell else cell)
  · refine ⟨?r, ?g, ?s2, ?s3, ?s4, ?s5, ?s6, ?e, ?h1, ?h2⟩
    case e =>
      simp only [drawTail]
      walk_at "pp"
      simp only [hb.1, hb.2, decide_true]
      walk_at "pp"
      try simp only [hb.2, decide_true]
      try walk_at "pp"
      simp only [mul_l (i := 2) (by decide) (by decide)]
      walk_at "pp"
      simp only [fdiv_w hm (by omega)]
      walk_at "pp"
      simp only [mod_p hm]
      walk_at "pp"
      rfl
    case h1 => exact Int.emod_nonneg _ (by omega)
    case h2 => exact Int.emod_lt_of_pos _ hm
  · have k1 := Int.emod_nonneg cell (show m1 ≠ 0 by omega)
    have k2 := Int.emod_lt_of_pos cell h2.1
    have k3 := mulb h3.1 h3.2 ha ha2
    have b1 : (cell % m1 + c3 * a + c4).natAbs < 18446744073709551616 := by omega
    have k4 := Int.emod_nonneg ((cell % m1 + c3 * a + c4) ^ 5) (show m2 ≠ 0 by omega)
    have k5 := Int.emod_lt_of_pos ((cell % m1 + c3 * a + c4) ^ 5) h5.1
    have k6 := mulb (y := 2 * a + c5) (q := 3000000) k4 (Int.le_of_lt k5) (by omega) (by omega)
    have k7 := mulb h7.1 h7.2 ha ha2
    have k8 := mulb k7.1 k7.2 ha ha2
    have b2 : ((cell % m1 + c3 * a + c4) ^ 5 % m2 * (2 * a + c5) + c6 * a * a + c7).natAbs < 18446744073709551616 := by
      have k6' : (cell % m1 + c3 * a + c4) ^ 5 % m2 * (2 * a + c5) ≤ 2147483648 * 3000000 := Int.le_trans k6.2 (Int.mul_le_mul_of_nonneg_right h5.2 (by decide))
      omega
    refine ⟨((cell % m1 + c3 * a + c4) ^ 5 % m2 * (2 * a + c5) + c6 * a * a + c7) ^ 3 % m3 / 32 % m, g, x2, .fz (.int a), .fz (.int cell), x5, .fz (.int (((cell % m1 + c3 * a + c4) ^ 5 % m2 * (2 * a + c5) + c6 * a * a + c7) ^ 3 % m3)), ?e, Int.emod_nonneg _ (by omega), Int.emod_lt_of_pos _ hm⟩
    case e =>
      simp only [drawTail]
      by_cases hc : a < (cs.length : Int)
      · have hd : ¬ 1000000000000000000 ≤ (if cell < 0 then -cell else cell) := fun z => hb ⟨hc, z⟩
        walk_at "pp"
        simp only [hc, decide_true]
        walk_at "pp"
        simp only [hd, decide_false]
        walk_at "pp"
        simp only [mod_p h2.1]
        walk_at "pp"
        simp only [mul_l (i := c3) (j := a) (by omega) (by omega)]
        walk_at "pp"
        simp only [pow_p (i := cell % m1 + c3 * a + c4) (j := 5) (by decide) (by decide) b1]
        walk_at "pp"
        simp only [mod_p h5.1]
        walk_at "pp"
        simp only [mul_l (i := 2) (j := a) (by decide) (by decide)]
        walk_at "pp"
        simp only [mul_l (i := (cell % m1 + c3 * a + c4) ^ 5 % m2) (j := 2 * a + c5) (by omega) (by omega)]
        walk_at "pp"
        simp only [mul_l (i := c6) (j := a) (by omega) (by omega)]
        walk_at "pp"
        simp only [mul_l (i := c6 * a) (j := a) (by omega) (by omega)]
        walk_at "pp"
        simp only [pow_p (j := 3) (by decide) (by decide) b2]
        walk_at "pp"
        simp only [mod_p h9]
        walk_at "pp"
        simp only [fdiv_p (j := 32) (by decide) (by decide)]
        walk_at "pp"
        simp only [mod_p hm]
        walk_at "pp"
      · walk_at "pp"
        simp only [hc, decide_false]
        walk_at "pp"
        simp only [mod_p h2.1]
        walk_at "pp"
        simp only [mul_l (i := c3) (j := a) (by omega) (by omega)]
        walk_at "pp"
        simp only [pow_p (i := cell % m1 + c3 * a + c4) (j := 5) (by decide) (by decide) b1]
        walk_at "pp"
        simp only [mod_p h5.1]
        walk_at "pp"
        simp only [mul_l (i := 2) (j := a) (by decide) (by decide)]
        walk_at "pp"
        simp only [mul_l (i := (cell % m1 + c3 * a + c4) ^ 5 % m2) (j := 2 * a + c5) (by omega) (by omega)]
        walk_at "pp"
        simp only [mul_l (i := c6) (j := a) (by omega) (by omega)]
        walk_at "pp"
        simp only [mul_l (i := c6 * a) (j := a) (by omega) (by omega)]
        walk_at "pp"
        simp only [pow_p (j := 3) (by decide) (by decide) b2]
        walk_at "pp"
        simp only [mod_p h9]
        walk_at "pp"
        simp only [fdiv_p (j := 32) (by decide) (by decide)]
        walk_at "pp"
        simp only [mod_p hm]
        walk_at "pp"
theorem atI_mod {xs : List D} {a : Int} (h : 0 < xs.length) : ∃ d ∈ xs, L2.atI xs (a % (xs.length : Int)) = some d := by
  have h1 := Int.emod_nonneg a (show (xs.length : Int) ≠ 0 by omega)
  have h2 := Int.emod_lt_of_pos a (show (0 : Int) < xs.length by omega)
  have h3 : (a % (xs.length : Int)).toNat < xs.length := by omega
  refine ⟨xs[(a % (xs.length : Int)).toNat], List.getElem_mem h3, ?_⟩
  unfold L2.atI L2.ixN
  rw [if_pos h1, if_pos h2]
  simp [h3]
theorem draw_ok {cl : CallF} {c1 c2 m1 c3 c4 m2 c5 c6 c7 m3 : Int} (h1 : 0 ≤ c1 ∧ c1 ≤ 1000000) (h2 : 0 < m1 ∧ m1 ≤ 2147483648) (h3 : 0 ≤ c3 ∧ c3 ≤ 1000000) (h4 : 0 ≤ c4 ∧ c4 ≤ 1000000) (h5 : 0 < m2 ∧ m2 ≤ 2147483648) (h6 : 0 ≤ c5 ∧ c5 ≤ 1000000) (h7 : 0 ≤ c6 ∧ c6 ≤ 1000000)
    (h8 : 0 ≤ c7 ∧ c7 ≤ 1000000) (h9 : 0 < m3) {n : Nat} {p : D} {m : Int} (hp : PenOk n p) (hn : n ≤ 1000000) (hm : 0 < m) (hm2 : m < 1606938044258990275541962092341162602522202993782792835301376) :
    ∃ r p', runF cl (drawFn c1 c2 m1 c3 c4 m2 c5 c6 c7 m3) [.io p, .fz (.int m)] = .ok (.d (.int r)) [p'] ∧ 0 ≤ r ∧ r < m ∧ PenOk (n + 1) p' := by
  obtain ⟨cs, a, g, rfl, hcs, ha, han⟩ := hp
  by_cases hg : 0 < g
  · refine ⟨g % m, .lst [.lst (cs.map D.int), .int a, .int (g / m)], ?_, Int.emod_nonneg _ (by omega), Int.emod_lt_of_pos _ hm, cs, a, _, rfl, hcs, ha, by omega⟩
    simp only [drawFn]
    walk_at "pp"
    simp only [hg, decide_true]
    simp only [mod_p hm]
    walk_at "pp"
    simp only [fdiv_w hm (by omega)]
    try walk_at "pp"
  · have key : ∀ cell : Int, ∃ r p', finR [Ar.io (.lst [.lst (cs.map D.int), .int a, .int g]), Ar.fz (.int m)] (exs cl (drawTail m1 c3 c4 m2 c5 c6 c7 m3) [.io (.lst [.lst (cs.map D.int), .int (a + 1), .int g]), .fz (.int m), .un, .fz (.int a), .fz (.int cell), .un, .un]) = .ok (.d (.int r)) [p'] ∧ 0 ≤ r ∧ r < m ∧ PenOk (n + 1) p' := by
      intro cell
      obtain ⟨r, g', s2, s3, s4, s5, s6, e, h1, h2⟩ := tail_ok (cl := cl) h2 h3 h4 h5 h6 h7 h8 h9 (cs := cs.map D.int) (b := a + 1) (g := g) (cell := cell) (x2 := .un) (x5 := .un) (x6 := .un) hm hm2 ha (by omega)
      refine ⟨r, .lst [.lst (cs.map D.int), .int (a + 1), .int g'], ?_, h1, h2, cs, a + 1, g', rfl, hcs, by omega, by omega⟩
      rw [e]
      rfl
    simp only [drawFn]
    walk_at "pp"
    simp only [hg, decide_false]
    walk_at "pp"
    simp only [mul_l (i := c1) (j := a) (by omega) (by omega)]
    walk_at "pp"
    cases cs with
    | nil =>
      simp only [List.isEmpty_nil]
      walk_at "pp"
      obtain ⟨r, p', e, h⟩ := key (c1 * a + c2)
      exact ⟨r, p', e, h⟩
    | cons c cs =>
      simp only [List.isEmpty_cons]
      walk_at "pp"
      have hl : (0 : Int) < ((((c :: cs).map D.int).length : Nat) : Int) := by simp <;> omega
      obtain ⟨d, hd, e1⟩ := atI_mod (xs := (c :: cs).map D.int) (a := a) (by simp)
      obtain ⟨v, _, rfl⟩ := List.mem_map.mp hd
      rw [show (List.map D.int cs).length + 1 = ((c :: cs).map D.int).length from rfl]
      simp only [mod_p hl]
      walk_at "pp"
      rw [show ixD (.lst (.int c :: cs.map D.int)) (.int (a % (((cs.map D.int).length + 1 : Nat) : Int))) = some (.int v) from e1]
      walk_at "pp"
      exact key v
theorem cut_all {xs : List D} {n : Nat} (h : xs.length ≤ n) : cutD xs none (some (n : Int)) = xs := by
  unfold cutD
  rw [HT.sIx_nat, HT.sIx_none, List.drop_zero, Nat.sub_zero, Nat.min_eq_right h, List.take_length]
/-- the laws' pen -/
def penFn : Fn := { n := 1, body := (.cons (.ret (.lst (.cons (.bi .list (.cons (.slice (.var 0) false true (.cst .non) (.cst (.int 63))) .nil)) (.cons (.cst (.int 0)) (.cons (.cst (.int 0)) .nil))))) .nil) }
theorem pen_ok {cl : CallF} {ns : List Int} (h : ns.length ≤ 63) : runF cl penFn [.fz (.kst (ns.map D.int))] = .ok (.nw (.lst [.lst (ns.map D.int), .int 0, .int 0])) [] ∧ PenOk 0 (.lst [.lst (ns.map D.int), .int 0, .int 0]) := by
  refine ⟨?_, ns, 0, 0, rfl, h, by omega, by omega⟩
  simp only [penFn]
  walk_at "pp"
  rw [show cutD (ns.map D.int) none (some 63) = ns.map D.int from cut_all (n := 63) (by simpa using h)]
  rw [show ∀ xs, biD .list [.lst xs] = some (.lst xs) from fun _ => rfl]
  walk_at "pp"
theorem ix_get {xs : List D} {r : Int} (h2 : 0 ≤ r) (h3 : r < (xs.length : Int)) : ∃ d ∈ xs, L2.atI xs r = some d := by
  have h5 : r.toNat < xs.length := by omega
  refine ⟨xs[r.toNat], List.getElem_mem h5, ?_⟩
  unfold L2.atI L2.ixN
  rw [if_pos h2, if_pos h3]
  simp [h5]
/-- the laws' pick, by the number of the draw -/
def pickFn (f : Nat) : Fn := { n := 2, body := (.cons (.ret (.ix (.var 1) (.call f [true, false] (.cons (.var 0) (.cons (.bi .len (.cons (.var 1) .nil)) .nil))))) .nil) }
def DrawOk (cl : CallF) (f : Nat) : Prop := ∀ (n : Nat) (p : D) (m : Int), PenOk n p → n ≤ 1000000 → 0 < m → m < 1606938044258990275541962092341162602522202993782792835301376 → ∃ r p', cl f [.io p, .fz (.int m)] = .ok (.d (.int r)) [p'] ∧ 0 ≤ r ∧ r < m ∧ PenOk (n + 1) p'
def PickOk (cl : CallF) (f : Nat) : Prop := ∀ (n : Nat) (p : D) (xs : List D), PenOk n p → n ≤ 1000000 → 0 < xs.length → xs.length < 1000 → ∃ d ∈ xs, ∃ p', cl f [.io p, .fz (.lst xs)] = .ok (.d d) [p'] ∧ PenOk (n + 1) p'
theorem pick_ok {cl : CallF} {f : Nat} (hd : DrawOk cl f) {n : Nat} {p : D} {xs : List D} (hp : PenOk n p) (hn : n ≤ 1000000) (h0 : 0 < xs.length) (h1 : xs.length < 1000) :
    ∃ d ∈ xs, ∃ p', runF cl (pickFn f) [.io p, .fz (.lst xs)] = .ok (.d d) [p'] ∧ PenOk (n + 1) p' := by
  obtain ⟨r, p', e1, h2, h3, h4⟩ := hd n p (xs.length : Int) hp hn (by omega) (by omega)
  obtain ⟨d, hd, e2⟩ := ix_get h2 h3
  refine ⟨d, hd, p', ?_, h4⟩
  simp only [pickFn]
  walk_at "pp"
  rw [e1]
  walk_at "pp"
  rw [show ixD (.lst xs) (.int r) = some d from e2]
  walk_at "pp"
theorem use_pick {cl : CallF} {f : Nat} (h : PickOk cl f) {n : Nat} {p : D} {xs : List D} {rc : RC} (hr : cl f [.io p, .fz (.lst xs)] = rc) (hp : PenOk n p) (hn : n ≤ 1000000) (h0 : 0 < xs.length) (h1 : xs.length < 1000) : ∃ d ∈ xs, ∃ p', rc = .ok (.d d) [p'] ∧ PenOk (n + 1) p' := by
  subst hr
  exact h n p xs hp hn h0 h1
theorem use_draw {cl : CallF} {f : Nat} (h : DrawOk cl f) {n : Nat} {p : D} {m : Int} {rc : RC} (hr : cl f [.io p, .fz (.int m)] = rc) (hp : PenOk n p) (hn : n ≤ 1000000) (h0 : 0 < m) (h1 : m < 1606938044258990275541962092341162602522202993782792835301376) : ∃ r p', rc = .ok (.d (.int r)) [p'] ∧ 0 ≤ r ∧ r < m ∧ PenOk (n + 1) p' := by
  subst hr
  exact h n p m hp hn h0 h1
theorem forD_inv {body : Env → R Fl} {i : Nat} (I : Nat → Env → Prop) (N : Nat) (xs : List D) : ∀ (j : Nat) (env : Env), j + xs.length ≤ N → I j env → (∀ (j : Nat) (d : D) (env : Env), j < N → d ∈ xs → I j env → ∃ env', body (env.set i (.fz d)) = .ok .next env' ∧ I (j + 1) env') → ∃ env', forD body i xs env = .ok .next env' ∧ I (j + xs.length) env' := by
  induction xs with
  | nil => intro j env _ h0 _; exact ⟨env, rfl, h0⟩
  | cons d r ih =>
    intro j env hN h0 hs
    rw [List.length_cons] at hN
    obtain ⟨env1, e1, h1⟩ := hs j d env (by omega) List.mem_cons_self h0
    obtain ⟨env2, e2, h2⟩ := ih (j + 1) env1 (by omega) h1 fun j d' env hj hd => hs j d' env hj (List.mem_cons_of_mem _ hd)
    refine ⟨env2, ?_, ?_⟩
    · simp only [forD, e1, R.bind_ok]
      exact e2
    · rw [List.length_cons, show j + (r.length + 1) = j + 1 + r.length by omega]
      exact h2
theorem use_for {body : Env → R Fl} {i : Nat} {xs : List D} {env : Env} {q : R Fl} (hq : forD body i xs env = q) (I : Nat → Env → Prop) (h0 : I 0 env) (hs : ∀ (j : Nat) (d : D) (env : Env), j < xs.length → d ∈ xs → I j env → ∃ env', body (env.set i (.fz d)) = .ok .next env' ∧ I (j + 1) env') : ∃ env', q = .ok .next env' ∧ I xs.length env' := by
  subst hq
  have := forD_inv I xs.length xs 0 env (by omega) h0 hs
  rwa [Nat.zero_add] at this
theorem calls_eq (fs : Nat → Option Fn) (k f : Nat) {F : Fn} (h : fs f = some F) (as : List Ar) (hs : F.star = none := by rfl) (hl : F.lam = false := by rfl) : calls fs (k + 1) f as = runF (calls fs k) F as := by
  simp only [calls, h, hs, hl]
theorem calls_fn (fs : Nat → Option Fn) (k f : Nat) {F : Fn} (h : fs f = some F) (hs : F.star = none := by rfl) (hl : F.lam = false := by rfl) : calls fs (k + 1) f = runF (calls fs k) F := funext fun as => calls_eq fs k f h as hs hl
theorem bools_py : ∀ bs : List Bool, toPyAll (bs.map D.bl) = some (bs.map PyData.bool)
  | [] => rfl
  | c :: cs => by simp only [List.map_cons, toPyAll, toPy, bools_py cs]
theorem repr_b (b : Bool) : biD .repr [.bl b] = some (.str (if b then "True" else "False")) := by cases b <;> rfl
theorem repr_4 (a b c d : Bool) : ∃ s, biD .repr [.lst [.bl a, .bl b, .bl c, .bl d]] = some (.str s) := by
  cases a <;> cases b <;> cases c <;> cases d <;> exact ⟨_, rfl⟩
theorem forD_ix {body : Env → R Fl} {i : Nat} (I : Nat → Env → Prop) : ∀ (xs : List D) (j : Nat) (env : Env), I j env → (∀ (m : Nat) (d : D) (env : Env), xs[m]? = some d → I (j + m) env → ∃ env', body (env.set i (.fz d)) = .ok .next env' ∧ I (j + m + 1) env') → ∃ env', forD body i xs env = .ok .next env' ∧ I (j + xs.length) env'
  | [], j, env, h0, _ => ⟨env, rfl, h0⟩
  | d :: r, j, env, h0, hs => by
    obtain ⟨env1, e1, h1⟩ := hs 0 d env rfl h0
    obtain ⟨env2, e2, h2⟩ := forD_ix I r (j + 1) env1 h1 fun m d' env' hm hi => by
      have := hs (m + 1) d' env' hm (by rw [show j + (m + 1) = j + 1 + m by omega]; exact hi)
      rw [show j + (m + 1) + 1 = j + 1 + m + 1 by omega] at this
      exact this
    refine ⟨env2, ?_, ?_⟩
    · simp only [forD, e1, R.bind_ok]
      exact e2
    · rw [List.length_cons, show j + (r.length + 1) = j + 1 + r.length by omega]
      exact h2
theorem use_forI {body : Env → R Fl} {i : Nat} {xs : List D} {env : Env} {q : R Fl} (hq : forD body i xs env = q) (I : Nat → Env → Prop) (h0 : I 0 env) (hs : ∀ (j : Nat) (d : D) (env : Env), xs[j]? = some d → I j env → ∃ env', body (env.set i (.fz d)) = .ok .next env' ∧ I (j + 1) env') : ∃ env', q = .ok .next env' ∧ I xs.length env' := by
  subst hq
  have := forD_ix (body := body) (i := i) I xs 0 env h0 fun m d env' hm hi => by
    rw [Nat.zero_add] at hi ⊢
    exact hs m d env' hm hi
  rwa [Nat.zero_add] at this
end PP
end

section
set_option maxHeartbeats 400000
local macro_rules | `(tactic| walk_at "pp") => `(tactic| simp -implicitDefEqProofs only [PP.ev_w0, PP.ev_w1, PP.ev_w2, PP.ev_w3, PP.ev_w4, PP.ev_w5, PP.ev_w6, PP.ev_w7, PP.ev_w8, PP.ev_w9, PP.ev_w10, PP.ev_w11, PP.ev_w12, PP.ev_w13, PP.ev_w14, PP.ev_w15, PP.ev_w16, PP.ev_w17, PP.ev_w18, PP.ev_w19, PP.ev_w20, PP.ev_w21, PP.ev_w22, PP.ev_w23, PP.ev_w24, PP.ev_w25, PP.ev_w26, PP.ev_w27, PP.ev_w28, PP.ev_w29, PP.ev_w30, PP.ev_w31, PP.ev_w32, PP.ev_w33, PP.ev_w34, PP.ev_w35, PP.ev_w36, PP.ev_w37, PP.ev_w38, PP.ev_w39, PP.ev_w40, PP.ev_w41, PP.ev_w42, PP.ev_w43, PP.ev_w44, PP.evF_w0, PP.evF_w1, PP.evF_w2, PP.evR_w0, PP.evR_w1, PP.evR_w2, PP.evC_w0, PP.evC_w1, PP.evC_w2, PP.evC_w3, PP.ex_w0, PP.ex_w1, PP.ex_w2, PP.ex_w3, PP.ex_w4, PP.ex_w5, PP.ex_w6, PP.ex_w7, PP.ex_w8, PP.ex_w9, PP.ex_w10, PP.ex_w11, PP.ex_w12, PP.ex_w13, PP.ex_w14, PP.ex_w15, PP.ex_w16, PP.ex_w17, PP.ex_w18, PP.ex_w19, PP.ex_w20, PP.exs_w0, PP.exs_w1, PP.itD_w0, PP.itD_w1, PP.itD_w2, PP.itD_w3, PP.itD_w4, PP.itD_w5, PP.evT_w, PP.getS_0, PP.getS_s, PP.set_0, PP.set_s, PP.mul_1, PP.mul_m1, PP.fin_ok, PP.fin_exc, PP.finX_s, PP.finO_next, PP.finO_d, PP.finO_nw, PP.rdU_d, PP.rdU_nw, PP.rdU_sl, PP.rdS_fz, PP.rdS_ow, PP.rdS_io, PP.pend_d, PP.pend_nw, PP.pend_sl, PP.fzU_d, PP.fzU_nw, PP.fzU_sl, PP.asgU_d, PP.asgU_nw, PP.asgU_sl, PP.slOf_non, PP.slOf_bl, PP.slOf_int, PP.slOf_str, PP.slOf_tup, PP.slOf_lst, PP.slOf_dK, PP.isLs_ow, PP.isLs_io, PP.retU_d, PP.retU_nw, PP.retU_sl, PP.nrm_non, PP.nrm_bl, PP.nrm_int, PP.nrm_str, PP.nrm_tup, PP.nrm_lst, PP.nrm_dK, PP.setIO_ow, PP.setIO_io, PP.dupF_0, PP.dupF_1, PP.optP_f, PP.optP_t, PP.truD_bl, PP.truD_non, PP.truD_lst, PP.partD_eq, PP.ix_lst_0, PP.ix_lst_1, PP.ix_lst_2, PP.ix_lst_3, PP.ix_lst_4, PP.ix_lst_5, PP.ix_tup_0, PP.ix_tup_1, PP.ix_tup_2, PP.ix_tup_3, PP.ix_tup_4, PP.ix_tup_5, PP.ix_kst_0, PP.ix_kst_1, PP.ix_kst_2, PP.ix_kst_3, PP.ix_kst_4, PP.ix_kst_5, PP.set_l3_1, PP.set_l3_2, PP.bi_int_i, PP.bi_int_b, PP.bi_abs, PP.bi_len_l, PP.bi_len_t, PP.bi_isInt_non, PP.bi_isInt_bl, PP.bi_isInt_int, PP.bi_isInt_str, PP.bi_isInt_tup, PP.bi_isInt_lst, PP.bi_isInt_kst, PP.bi_isInt_dK, PP.bi_isBool_non, PP.bi_isBool_bl, PP.bi_isBool_int, PP.bi_isBool_str, PP.bi_isBool_tup, PP.bi_isBool_lst, PP.bi_isBool_kst, PP.bi_isBool_dK, PP.bi_isTuple_non, PP.bi_isTuple_bl, PP.bi_isTuple_int, PP.bi_isTuple_str, PP.bi_isTuple_tup, PP.bi_isTuple_lst, PP.bi_isTuple_kst, PP.bi_isTuple_dK, PP.bi_isList_non, PP.bi_isList_bl, PP.bi_isList_int, PP.bi_isList_str, PP.bi_isList_tup, PP.bi_isList_lst, PP.bi_isList_kst, PP.bi_isList_dK, PP.bi_isStr_non, PP.bi_isStr_bl, PP.bi_isStr_int, PP.bi_isStr_str, PP.bi_isStr_tup, PP.bi_isStr_lst, PP.bi_isStr_kst, PP.bi_isStr_dK, PP.le_lim, PP.lt_lim, PP.bi_isInt_dT, PP.bi_isBool_dT, PP.bi_isTuple_dT, PP.bi_isList_dT, PP.bi_isStr_dT, PP.pw_10_18, PP.o_gt_i, PP.o_lt_i, PP.o_ge_i, PP.o_le_i, PP.o_add_i, PP.o_sub_i, PP.o_neg_i, PP.o_eq_i, PP.o_ne_i, PP.o_eq_s, PP.o_ne_s, PP.o_eq_b, PP.ne_nil, PP.fldOf_o, PP.fldOf_e, PP.fldD_c, PP.putD_c, PP.putD_n, PP.isObj_o, PP.isObj_e, PP.isObj_non, PP.isObj_bl, PP.isObj_int, PP.isObj_str, PP.isObj_lst, PP.isObj_tup, PP.isObj_kst, PP.isObj_dK, PP.isCls_o, PP.isCls_e, PP.isCls_non, PP.isCls_bl, PP.isCls_int, PP.isCls_str, PP.isCls_lst, PP.isCls_tup, PP.isCls_kst, PP.isCls_dK, PP.runC_eq, PP.makeO_eq, PP.spec_eq, PP.allFz_0, PP.allFz_c, PP.recv_f, PP.recv_t, PP.ownOp_o, PP.ownIn_o, PP.ownNe_o, PP.opc_add, PP.opc_sub, PP.opc_mul, PP.opc_shl, PP.opc_shr, PP.opc_band, PP.opc_bor, PP.opc_lt, PP.opc_le, PP.opc_gt, PP.opc_ge, PP.opc_eq, PP.opc_ne, PP.okR_o, PP.okR_int, PP.okR_bl, PP.okR_non, PP.okR_str, PP.okR_lst, PP.okR_kst, PP.okR_tup, PP.cmp_lt, PP.cmp_le, PP.cmp_gt, PP.cmp_ge, PP.cmp_eq, PP.cmp_ne, PP.cmp_add, PP.cmp_sub, PP.cmp_band, PP.cmp_bor, PP.cmp_shl, PP.cmp_shr, PP.cmp_mul, PP.slOf_obj, PP.nrm_obj, PP.slOf_err, PP.hear_eq, PP.frz_0, PP.frz_c, PP.mask_c, PP.mask_n, PP.maskS_fz, PP.maskS_ow, PP.maskS_io, PP.maskS_un, PP.item_t, PP.item_l, PP.item_k, PP.bi_max2, PP.bi_min2, PP.bi_bool_b, PP.o_shr_i, PP.o_is_n, PP.o_isnot_n, PP.o_is_b, PP.o_isnot_b, PP.o_add_l, PP.o_mul_l, PP.set_l4_0, PP.set_l4_1, PP.set_l4_2, PP.set_l4_3, PP.ask_o, PP.outD_t, PP.outD_e, PP.keep_d, PP.noL_non, PP.noL_int, PP.noL_bl, PP.noL_str, PP.noL_tup, PP.noL_0, PP.noL_c, PP.evJ_0, PP.rv_split, PP.rv_join, PP.rv_ix_l, PP.rv_ix_k, PP.clsN_eq, PP.runF, PP.startE, PP.rdAll, PP.argsOf, PP.ioSlots, PP.putIO, PP.permL, PP.outsOf, PP.storeAll, PP.R.bind_ok, PP.R.bind_exc, PP.R.bind_bad, PP.orBad_some, PP.orBad_none, Int.reduceLE, Int.reduceLT, Int.reduceToNat, Int.reducePow, Int.reduceNeg, Int.reduceAdd, Int.reduceSub, Int.reduceMul, Int.reduceBEq, Int.cast_ofNat_Int, Int.natCast_zero, Int.natCast_one, Int.reduceBNe, Int.reduceEq, Int.reduceDiv, Int.reduceMod, Nat.reduceAdd, Nat.reduceMul, Nat.reduceSub, Nat.reducePow, Nat.reduceLeDiff, Nat.reduceLT, Nat.reduceEqDiff, Nat.reduceBEq, List.cons_append, List.nil_append, List.append_nil, Nat.zero_le, List.head?_cons, List.tail_cons, Option.map_some, Option.map_none, Option.bind_some, Option.bind_none, Bool.not_true, Bool.not_false, Bool.and_self, Bool.and_true, Bool.true_and, Bool.false_and, Bool.and_false, Bool.or_true, Bool.true_or, Bool.or_false, Bool.false_or, Bool.not_not, List.contains_cons, List.contains_nil, BEq.rfl, reduceCtorEq,
  eq_self, and_self, if_true, if_false, ite_true, ite_false, Bool.false_eq_true, reduceIte, List.length_cons, List.length_nil, List.filterMap_cons, List.filterMap_nil, List.getElem?_cons_zero, List.getElem?_cons_succ, List.map_cons, List.map_nil, List.replicate_succ, List.replicate_zero, List.flatten_cons, List.flatten_nil, List.reverse_cons, List.reverse_nil, decide_true, decide_false, Bool.not_eq_true, Bool.not_eq_false, Bool.cond_true, Bool.cond_false])
local macro_rules | `(tactic| walk_at "pq") => `(tactic| simp -implicitDefEqProofs (disch := first | assumption | (with_reducible show (_ : Bool) = _; exact id rfl) | (with_reducible show (_ : Int) < _; omega) | (with_reducible show (_ : Int) ≤ _; omega) | (with_reducible show (_ : Nat) ≤ _; omega) | (with_reducible show (_ : Nat) < _; omega) | exact id (by simp only [PP.wfD, PP.wfL, PP.dpD, PP.dpL, PP.ok_ofS, PP.ok_app, PP.ok_empty, Nat.max_self, Nat.zero_max, Nat.max_zero, Nat.reduceAdd, Nat.reduceLeDiff, Bool.and_self, PP.wf_ints, PP.dp_ints, Bool.and_true, Bool.true_and, *] ; done) | fail) only [*, PP.le_lim, PP.lt_lim, PP.o_shr_i, PP.shl_p, PP.mul_w, PP.fdiv_w, PP.mod_p, PP.pow_p, PP.nrm_mut, PP.bi_len_s, PP.bi_split, PP.op_eq, PP.op_ne, PP.v_str, PP.v_nil, PP.v_cons, PP.v_nc, PP.v_cn, PP.v_tup, PP.v_lst, PP.v_kl, PP.v_lt, PP.v_tl, PP.v_int, PP.v_bl, PP.v_nn, PP.v_nt, PP.v_tn, PP.v_ni, PP.v_in, PP.v_ints, PP.ev_w0, PP.ev_w1, PP.ev_w2, PP.ev_w3, PP.ev_w4, PP.ev_w5, PP.ev_w6, PP.ev_w7, PP.ev_w8, PP.ev_w9, PP.ev_w10, PP.ev_w11, PP.ev_w12, PP.ev_w13, PP.ev_w14, PP.ev_w15, PP.ev_w16, PP.ev_w17, PP.ev_w18, PP.ev_w19, PP.ev_w20, PP.ev_w21, PP.ev_w22, PP.ev_w23, PP.ev_w24, PP.ev_w25, PP.ev_w26, PP.ev_w27, PP.ev_w28, PP.ev_w29, PP.ev_w30, PP.ev_w31, PP.ev_w32, PP.ev_w33, PP.ev_w34, PP.ev_w35, PP.ev_w36, PP.ev_w37, PP.ev_w38, PP.ev_w39, PP.ev_w40, PP.ev_w41, PP.ev_w42, PP.ev_w43, PP.ev_w44, PP.evF_w0, PP.evF_w1, PP.evF_w2, PP.evR_w0, PP.evR_w1, PP.evR_w2, PP.evC_w0, PP.evC_w1, PP.evC_w2, PP.evC_w3, PP.ex_w0, PP.ex_w1, PP.ex_w2, PP.ex_w3, PP.ex_w4, PP.ex_w5, PP.ex_w6, PP.ex_w7, PP.ex_w8, PP.ex_w9, PP.ex_w10, PP.ex_w11, PP.ex_w12, PP.ex_w13, PP.ex_w14, PP.ex_w15, PP.ex_w16, PP.ex_w17, PP.ex_w18, PP.ex_w19, PP.ex_w20, PP.exs_w0, PP.exs_w1, PP.itD_w0, PP.itD_w1, PP.itD_w2, PP.itD_w3, PP.itD_w4, PP.itD_w5, PP.evT_w, PP.getS_0, PP.getS_s, PP.set_0, PP.set_s, PP.mul_1, PP.mul_m1, PP.fin_ok, PP.fin_exc, PP.finX_s, PP.finO_next, PP.finO_d, PP.finO_nw, PP.rdU_d, PP.rdU_nw, PP.rdU_sl, PP.rdS_fz, PP.rdS_ow, PP.rdS_io, PP.pend_d, PP.pend_nw, PP.pend_sl, PP.fzU_d, PP.fzU_nw, PP.fzU_sl, PP.asgU_d, PP.asgU_nw, PP.asgU_sl, PP.slOf_non, PP.slOf_bl, PP.slOf_int, PP.slOf_str, PP.slOf_tup, PP.slOf_lst, PP.slOf_dK, PP.isLs_ow, PP.isLs_io, PP.retU_d, PP.retU_nw, PP.retU_sl, PP.nrm_non, PP.nrm_bl, PP.nrm_int, PP.nrm_str, PP.nrm_tup, PP.nrm_lst, PP.nrm_dK, PP.setIO_ow, PP.setIO_io, PP.dupF_0, PP.dupF_1, PP.optP_f, PP.optP_t, PP.truD_bl, PP.truD_non, PP.truD_lst, PP.partD_eq, PP.ix_lst_0, PP.ix_lst_1, PP.ix_lst_2, PP.ix_lst_3, PP.ix_lst_4, PP.ix_lst_5, PP.ix_tup_0, PP.ix_tup_1, PP.ix_tup_2, PP.ix_tup_3, PP.ix_tup_4, PP.ix_tup_5, PP.ix_kst_0, PP.ix_kst_1, PP.ix_kst_2, PP.ix_kst_3, PP.ix_kst_4, PP.ix_kst_5, PP.set_l3_1, PP.set_l3_2, PP.bi_int_i, PP.bi_int_b, PP.bi_abs, PP.bi_len_l, PP.bi_len_t, PP.bi_isInt_non, PP.bi_isInt_bl, PP.bi_isInt_int, PP.bi_isInt_str, PP.bi_isInt_tup, PP.bi_isInt_lst, PP.bi_isInt_kst, PP.bi_isInt_dK, PP.bi_isBool_non, PP.bi_isBool_bl, PP.bi_isBool_int, PP.bi_isBool_str, PP.bi_isBool_tup, PP.bi_isBool_lst, PP.bi_isBool_kst, PP.bi_isBool_dK, PP.bi_isTuple_non, PP.bi_isTuple_bl, PP.bi_isTuple_int, PP.bi_isTuple_str, PP.bi_isTuple_tup, PP.bi_isTuple_lst, PP.bi_isTuple_kst, PP.bi_isTuple_dK, PP.bi_isList_non, PP.bi_isList_bl, PP.bi_isList_int, PP.bi_isList_str, PP.bi_isList_tup, PP.bi_isList_lst, PP.bi_isList_kst, PP.bi_isList_dK, PP.bi_isStr_non, PP.bi_isStr_bl, PP.bi_isStr_int, PP.bi_isStr_str, PP.bi_isStr_tup, PP.bi_isStr_lst, PP.bi_isStr_kst, PP.bi_isStr_dK, PP.le_lim, PP.lt_lim, PP.bi_isInt_dT, PP.bi_isBool_dT, PP.bi_isTuple_dT, PP.bi_isList_dT, PP.bi_isStr_dT, PP.pw_10_18, PP.o_gt_i, PP.o_lt_i, PP.o_ge_i, PP.o_le_i, PP.o_add_i, PP.o_sub_i, PP.o_neg_i, PP.o_eq_i, PP.o_ne_i, PP.o_eq_s, PP.o_ne_s, PP.o_eq_b, PP.ne_nil, PP.fldOf_o, PP.fldOf_e, PP.fldD_c, PP.putD_c, PP.putD_n, PP.isObj_o, PP.isObj_e, PP.isObj_non, PP.isObj_bl, PP.isObj_int, PP.isObj_str, PP.isObj_lst, PP.isObj_tup, PP.isObj_kst, PP.isObj_dK, PP.isCls_o, PP.isCls_e, PP.isCls_non, PP.isCls_bl, PP.isCls_int, PP.isCls_str, PP.isCls_lst, PP.isCls_tup, PP.isCls_kst, PP.isCls_dK, PP.runC_eq, PP.makeO_eq, PP.spec_eq, PP.allFz_0, PP.allFz_c, PP.recv_f, PP.recv_t, PP.ownOp_o, PP.ownIn_o, PP.ownNe_o, PP.opc_add, PP.opc_sub, PP.opc_mul, PP.opc_shl, PP.opc_shr, PP.opc_band, PP.opc_bor, PP.opc_lt, PP.opc_le, PP.opc_gt, PP.opc_ge, PP.opc_eq, PP.opc_ne, PP.okR_o, PP.okR_int, PP.okR_bl, PP.okR_non, PP.okR_str, PP.okR_lst, PP.okR_kst, PP.okR_tup, PP.cmp_lt, PP.cmp_le, PP.cmp_gt, PP.cmp_ge, PP.cmp_eq, PP.cmp_ne, PP.cmp_add, PP.cmp_sub, PP.cmp_band, PP.cmp_bor, PP.cmp_shl, PP.cmp_shr, PP.cmp_mul, PP.slOf_obj, PP.nrm_obj, PP.slOf_err, PP.hear_eq, PP.frz_0, PP.frz_c, PP.mask_c, PP.mask_n, PP.maskS_fz, PP.maskS_ow, PP.maskS_io, PP.maskS_un, PP.item_t, PP.item_l, PP.item_k, PP.bi_max2, PP.bi_min2, PP.bi_bool_b, PP.o_shr_i, PP.o_is_n, PP.o_isnot_n, PP.o_is_b, PP.o_isnot_b, PP.o_add_l, PP.o_mul_l, PP.set_l4_0, PP.set_l4_1, PP.set_l4_2, PP.set_l4_3, PP.ask_o, PP.outD_t, PP.outD_e, PP.keep_d, PP.noL_non, PP.noL_int, PP.noL_bl, PP.noL_str, PP.noL_tup, PP.noL_0, PP.noL_c, PP.evJ_0, PP.rv_split, PP.rv_join, PP.rv_ix_l, PP.rv_ix_k, PP.clsN_eq, PP.runF, PP.startE, PP.rdAll, PP.argsOf, PP.ioSlots, PP.putIO, PP.permL, PP.outsOf, PP.storeAll, PP.R.bind_ok, PP.R.bind_exc, PP.R.bind_bad, PP.orBad_some, PP.orBad_none, Int.reduceLE, Int.reduceLT, Int.reduceToNat, Int.reducePow, Int.reduceNeg, Int.reduceAdd, Int.reduceSub, Int.reduceMul, Int.reduceBEq, Int.cast_ofNat_Int, Int.natCast_zero, Int.natCast_one, Int.reduceBNe, Int.reduceEq, Int.reduceDiv, Int.reduceMod, Nat.reduceAdd, Nat.reduceMul, Nat.reduceSub, Nat.reducePow, Nat.reduceLeDiff, Nat.reduceLT, Nat.reduceEqDiff, Nat.reduceBEq, List.cons_append, List.nil_append, List.append_nil, Nat.zero_le, List.head?_cons, List.tail_cons, Option.map_some, Option.map_none, Option.bind_some, Option.bind_none, Bool.not_true, Bool.not_false, Bool.and_self, Bool.and_true, Bool.true_and, Bool.false_and, Bool.and_false, Bool.or_true, Bool.true_or, Bool.or_false, Bool.false_or, Bool.not_not, List.contains_cons, List.contains_nil, BEq.rfl, reduceCtorEq,
  eq_self, and_self, if_true, if_false, ite_true, ite_false, Bool.false_eq_true, reduceIte, List.length_cons, List.length_nil, List.filterMap_cons, List.filterMap_nil, List.getElem?_cons_zero, List.getElem?_cons_succ, List.map_cons, List.map_nil, List.replicate_succ, List.replicate_zero, List.flatten_cons, List.flatten_nil, List.reverse_cons, List.reverse_nil, decide_true, decide_false, Bool.not_eq_true, Bool.not_eq_false, Bool.cond_true, Bool.cond_false])
local macro_rules | `(tactic| walk_at "px") => `(tactic| simp -implicitDefEqProofs (disch := first | assumption | (with_reducible show (_ : Bool) = _; exact id rfl) | (with_reducible show (_ : Int) < _; omega) | (with_reducible show (_ : Int) ≤ _; omega) | (with_reducible show (_ : Nat) ≤ _; omega) | (with_reducible show (_ : Nat) < _; omega) | fail) only [*, PP.le_lim, PP.lt_lim, PP.o_shr_i, PP.shl_p, PP.mul_w, PP.fdiv_w, PP.mod_p, PP.pow_p, PP.nrm_mut, PP.bi_len_s, PP.bi_split, PP.ev_w0, PP.ev_w1, PP.ev_w2, PP.ev_w3, PP.ev_w4, PP.ev_w5, PP.ev_w6, PP.ev_w7, PP.ev_w8, PP.ev_w9, PP.ev_w10, PP.ev_w11, PP.ev_w12, PP.ev_w13, PP.ev_w14, PP.ev_w15, PP.ev_w16, PP.ev_w17, PP.ev_w18, PP.ev_w19, PP.ev_w20, PP.ev_w21, PP.ev_w22, PP.ev_w23, PP.ev_w24, PP.ev_w25, PP.ev_w26, PP.ev_w27, PP.ev_w28, PP.ev_w29, PP.ev_w30, PP.ev_w31, PP.ev_w32, PP.ev_w33, PP.ev_w34, PP.ev_w35, PP.ev_w36, PP.ev_w37, PP.ev_w38, PP.ev_w39, PP.ev_w40, PP.ev_w41, PP.ev_w42, PP.ev_w43, PP.ev_w44, PP.evF_w0, PP.evF_w1, PP.evF_w2, PP.evR_w0, PP.evR_w1, PP.evR_w2, PP.evC_w0, PP.evC_w1, PP.evC_w2, PP.evC_w3, PP.ex_w0, PP.ex_w1, PP.ex_w2, PP.ex_w3, PP.ex_w4, PP.ex_w5, PP.ex_w6, PP.ex_w7, PP.ex_w8, PP.ex_w9, PP.ex_w10, PP.ex_w11, PP.ex_w12, PP.ex_w13, PP.ex_w14, PP.ex_w15, PP.ex_w16, PP.ex_w17, PP.ex_w18, PP.ex_w19, PP.ex_w20, PP.exs_w0, PP.exs_w1, PP.itD_w0, PP.itD_w1, PP.itD_w2, PP.itD_w3, PP.itD_w4, PP.itD_w5, PP.evT_w, PP.getS_0, PP.getS_s, PP.set_0, PP.set_s, PP.mul_1, PP.mul_m1, PP.fin_ok, PP.fin_exc, PP.finX_s, PP.finO_next, PP.finO_d, PP.finO_nw, PP.rdU_d, PP.rdU_nw, PP.rdU_sl, PP.rdS_fz, PP.rdS_ow, PP.rdS_io, PP.pend_d, PP.pend_nw, PP.pend_sl, PP.fzU_d, PP.fzU_nw, PP.fzU_sl, PP.asgU_d, PP.asgU_nw, PP.asgU_sl, PP.slOf_non, PP.slOf_bl, PP.slOf_int, PP.slOf_str, PP.slOf_tup, PP.slOf_lst, PP.slOf_dK, PP.isLs_ow, PP.isLs_io, PP.retU_d, PP.retU_nw, PP.retU_sl, PP.nrm_non, PP.nrm_bl, PP.nrm_int, PP.nrm_str, PP.nrm_tup, PP.nrm_lst, PP.nrm_dK, PP.setIO_ow, PP.setIO_io, PP.dupF_0, PP.dupF_1, PP.optP_f, PP.optP_t, PP.truD_bl, PP.truD_non, PP.truD_lst, PP.partD_eq, PP.ix_lst_0, PP.ix_lst_1, PP.ix_lst_2, PP.ix_lst_3, PP.ix_lst_4, PP.ix_lst_5, PP.ix_tup_0, PP.ix_tup_1, PP.ix_tup_2, PP.ix_tup_3, PP.ix_tup_4, PP.ix_tup_5, PP.ix_kst_0, PP.ix_kst_1, PP.ix_kst_2, PP.ix_kst_3, PP.ix_kst_4, PP.ix_kst_5, PP.set_l3_1, PP.set_l3_2, PP.bi_int_i, PP.bi_int_b, PP.bi_abs, PP.bi_len_l, PP.bi_len_t, PP.bi_isInt_non, PP.bi_isInt_bl, PP.bi_isInt_int, PP.bi_isInt_str, PP.bi_isInt_tup, PP.bi_isInt_lst, PP.bi_isInt_kst, PP.bi_isInt_dK, PP.bi_isBool_non, PP.bi_isBool_bl, PP.bi_isBool_int, PP.bi_isBool_str, PP.bi_isBool_tup, PP.bi_isBool_lst, PP.bi_isBool_kst, PP.bi_isBool_dK, PP.bi_isTuple_non, PP.bi_isTuple_bl, PP.bi_isTuple_int, PP.bi_isTuple_str, PP.bi_isTuple_tup, PP.bi_isTuple_lst, PP.bi_isTuple_kst, PP.bi_isTuple_dK, PP.bi_isList_non, PP.bi_isList_bl, PP.bi_isList_int, PP.bi_isList_str, PP.bi_isList_tup, PP.bi_isList_lst, PP.bi_isList_kst, PP.bi_isList_dK, PP.bi_isStr_non, PP.bi_isStr_bl, PP.bi_isStr_int, PP.bi_isStr_str, PP.bi_isStr_tup, PP.bi_isStr_lst, PP.bi_isStr_kst, PP.bi_isStr_dK, PP.le_lim, PP.lt_lim, PP.bi_isInt_dT, PP.bi_isBool_dT, PP.bi_isTuple_dT, PP.bi_isList_dT, PP.bi_isStr_dT, PP.pw_10_18, PP.o_gt_i, PP.o_lt_i, PP.o_ge_i, PP.o_le_i, PP.o_add_i, PP.o_sub_i, PP.o_neg_i, PP.o_eq_i, PP.o_ne_i, PP.o_eq_s, PP.o_ne_s, PP.o_eq_b, PP.ne_nil, PP.fldOf_o, PP.fldOf_e, PP.fldD_c, PP.putD_c, PP.putD_n, PP.isObj_o, PP.isObj_e, PP.isObj_non, PP.isObj_bl, PP.isObj_int, PP.isObj_str, PP.isObj_lst, PP.isObj_tup, PP.isObj_kst, PP.isObj_dK, PP.isCls_o, PP.isCls_e, PP.isCls_non, PP.isCls_bl, PP.isCls_int, PP.isCls_str, PP.isCls_lst, PP.isCls_tup, PP.isCls_kst, PP.isCls_dK, PP.runC_eq, PP.makeO_eq, PP.spec_eq, PP.allFz_0, PP.allFz_c, PP.recv_f, PP.recv_t, PP.ownOp_o, PP.ownIn_o, PP.ownNe_o, PP.opc_add, PP.opc_sub, PP.opc_mul, PP.opc_shl, PP.opc_shr, PP.opc_band, PP.opc_bor, PP.opc_lt, PP.opc_le, PP.opc_gt, PP.opc_ge, PP.opc_eq, PP.opc_ne, PP.okR_o, PP.okR_int, PP.okR_bl, PP.okR_non, PP.okR_str, PP.okR_lst, PP.okR_kst, PP.okR_tup, PP.cmp_lt, PP.cmp_le, PP.cmp_gt, PP.cmp_ge, PP.cmp_eq, PP.cmp_ne, PP.cmp_add, PP.cmp_sub, PP.cmp_band, PP.cmp_bor, PP.cmp_shl, PP.cmp_shr, PP.cmp_mul, PP.slOf_obj, PP.nrm_obj, PP.slOf_err, PP.hear_eq, PP.frz_0, PP.frz_c, PP.mask_c, PP.mask_n, PP.maskS_fz, PP.maskS_ow, PP.maskS_io, PP.maskS_un, PP.item_t, PP.item_l, PP.item_k, PP.bi_max2, PP.bi_min2, PP.bi_bool_b, PP.o_shr_i, PP.o_is_n, PP.o_isnot_n, PP.o_is_b, PP.o_isnot_b, PP.o_add_l, PP.o_mul_l, PP.set_l4_0, PP.set_l4_1, PP.set_l4_2, PP.set_l4_3, PP.ask_o, PP.outD_t, PP.outD_e, PP.keep_d, PP.noL_non, PP.noL_int, PP.noL_bl, PP.noL_str, PP.noL_tup, PP.noL_0, PP.noL_c, PP.evJ_0, PP.rv_split, PP.rv_join, PP.rv_ix_l, PP.rv_ix_k, PP.clsN_eq, PP.runF, PP.startE, PP.rdAll, PP.argsOf, PP.ioSlots, PP.putIO, PP.permL, PP.outsOf, PP.storeAll, PP.R.bind_ok, PP.R.bind_exc, PP.R.bind_bad, PP.orBad_some, PP.orBad_none, Int.reduceLE, Int.reduceLT, Int.reduceToNat, Int.reducePow, Int.reduceNeg, Int.reduceAdd, Int.reduceSub, Int.reduceMul, Int.reduceBEq, Int.cast_ofNat_Int, Int.natCast_zero, Int.natCast_one, Int.reduceBNe, Int.reduceEq, Int.reduceDiv, Int.reduceMod, Nat.reduceAdd, Nat.reduceMul, Nat.reduceSub, Nat.reducePow, Nat.reduceLeDiff, Nat.reduceLT, Nat.reduceEqDiff, Nat.reduceBEq, List.cons_append, List.nil_append, List.append_nil, Nat.zero_le, List.head?_cons, List.tail_cons, Option.map_some, Option.map_none, Option.bind_some, Option.bind_none, Bool.not_true, Bool.not_false, Bool.and_self, Bool.and_true, Bool.true_and, Bool.false_and, Bool.and_false, Bool.or_true, Bool.true_or, Bool.or_false, Bool.false_or, Bool.not_not, List.contains_cons, List.contains_nil, BEq.rfl, reduceCtorEq,
  eq_self, and_self, if_true, if_false, ite_true, ite_false, Bool.false_eq_true, reduceIte, List.length_cons, List.length_nil, List.filterMap_cons, List.filterMap_nil, List.getElem?_cons_zero, List.getElem?_cons_succ, List.map_cons, List.map_nil, List.replicate_succ, List.replicate_zero, List.flatten_cons, List.flatten_nil, List.reverse_cons, List.reverse_nil, decide_true, decide_false, Bool.not_eq_true, Bool.not_eq_false, Bool.cond_true, Bool.cond_false])
namespace PP
open PySem L2
/-! specs: checks.py -/
def isI : D → Bool | .int _ => true | _ => false
def btw (d : D) (lo hi : Int) : Bool := match d with | .int i => decide (lo ≤ i) && decide (i ≤ hi) | _ => false
def isP : D → Bool
  | .tup [a, b] => isI a && isI b
  | _ => false
/-- no class, no class in a pair -/
def okV : D → Bool
  | .cls _ => false
  | .tup [a, b] => !isClsD a && !isClsD b
  | _ => true
theorem okV.nc {d : D} (h : okV d = true) : isClsD d = false := by cases d <;> first | rfl | cases h
abbrev Gf := List Ar → RC
abbrev S_is_integer (g : Gf) : Prop := ∀ d, isClsD d = false → g [.fz d] = .ok (.d (.bl (isI d))) []
abbrev S_is_between (g : Gf) : Prop := ∀ d lo hi, isClsD d = false → g [.fz d, .fz (.int lo), .fz (.int hi)] = .ok (.d (.bl (btw d lo hi))) []
abbrev S_is_level (g : Gf) : Prop := ∀ d, isClsD d = false → g [.fz d] = .ok (.d (.bl (btw d 0 100))) []
abbrev S_is_pair (g : Gf) : Prop := ∀ d, okV d = true → g [.fz d] = .ok (.d (.bl (isP d))) []
theorem is_integer_ok {cl : CallF} : S_is_integer (runF cl F_is_integer) := by
  intro d h
  cases d with
  | cls _ => cases h
  | _ => rfl
theorem is_between_ok {cl : CallF} (h0 : S_is_integer (cl 0)) : S_is_between (runF cl F_is_between) := by
  intro d lo hi h
  simp only [F_is_between]
  walk_at "pp"
  rw [h0 d h]
  walk_at "pp"
  cases d with
  | cls _ => cases h
  | int i =>
    simp only [isI, btw]
    walk_at "pp"
    by_cases h1 : lo ≤ i
    · simp only [h1, decide_true]
      walk_at "pp"
    · simp only [h1, decide_false]
      walk_at "pp"
  | _ =>
    simp only [isI, btw]
    walk_at "pp"
theorem is_level_ok {cl : CallF} (h1 : S_is_between (cl 1)) : S_is_level (runF cl F_is_level) := by
  intro d h
  simp only [F_is_level]
  walk_at "pp"
  rw [h1 d _ _ h]
  walk_at "pp"
theorem isP_2 (a b : D) : isP (.tup [a, b]) = (isI a && isI b) := rfl
theorem is_pair_ok {cl : CallF} (h0 : S_is_integer (cl 0)) : S_is_pair (runF cl F_is_pair) := by
  intro d h
  simp only [F_is_pair]
  walk_at "pp"
  cases d with
  | cls _ => cases h
  | tup xs =>
    walk_at "pp"
    match xs, h with
    | [], _ => walk_at "pp"; rfl
    | [a], _ => walk_at "pp"; rfl
    | [a, b], h =>
      simp only [okV, Bool.and_eq_true, Bool.not_eq_true'] at h
      walk_at "pp"
      rw [h0 a h.1, isP_2]
      walk_at "pp"
      cases isI a with
      | false => walk_at "pp"
      | true =>
        walk_at "pp"
        rw [h0 b h.2]
        walk_at "pp"
    | a :: b :: c :: l, _ =>
      have z : ((((a :: b :: c :: l).length : Nat) : Int) == 2) = false := by simp <;> omega
      walk_at "pp"
      simp only [List.length_cons] at z
      simp only [List.length_cons, z]
      walk_at "pp"
      rfl
  | _ => rfl
/-- what a def may give that another one hands on as it is -/
def okRC : RC → Prop
  | .ok (.d _) [] => True
  | .ok (.nw x) [] => isMutD x = true
  | .exc _ [] => True
  | _ => False
theorem okRC.cases {r : RC} (h : okRC r) : (∃ d, r = .ok (.d d) []) ∨ (∃ d, isMutD d = true ∧ r = .ok (.nw d) []) ∨ ∃ x, r = .exc x [] := by
  match r, h with
  | .ok (.d d) [], _ => exact .inl ⟨d, rfl⟩
  | .ok (.nw d) [], h => exact .inr (.inl ⟨d, h, rfl⟩)
  | .exc x [], _ => exact .inr (.inr ⟨x, rfl⟩)
end PP
end

section
set_option maxHeartbeats 400000
local macro_rules | `(tactic| walk_at "pp") => `(tactic| simp -implicitDefEqProofs only [PP.ev_w0, PP.ev_w1, PP.ev_w2, PP.ev_w3, PP.ev_w4, PP.ev_w5, PP.ev_w6, PP.ev_w7, PP.ev_w8, PP.ev_w9, PP.ev_w10, PP.ev_w11, PP.ev_w12, PP.ev_w13, PP.ev_w14, PP.ev_w15, PP.ev_w16, PP.ev_w17, PP.ev_w18, PP.ev_w19, PP.ev_w20, PP.ev_w21, PP.ev_w22, PP.ev_w23, PP.ev_w24, PP.ev_w25, PP.ev_w26, PP.ev_w27, PP.ev_w28, PP.ev_w29, PP.ev_w30, PP.ev_w31, PP.ev_w32, PP.ev_w33, PP.ev_w34, PP.ev_w35, PP.ev_w36, PP.ev_w37, PP.ev_w38, PP.ev_w39, PP.ev_w40, PP.ev_w41, PP.ev_w42, PP.ev_w43, PP.ev_w44, PP.evF_w0, PP.evF_w1, PP.evF_w2, PP.evR_w0, PP.evR_w1, PP.evR_w2, PP.evC_w0, PP.evC_w1, PP.evC_w2, PP.evC_w3, PP.ex_w0, PP.ex_w1, PP.ex_w2, PP.ex_w3, PP.ex_w4, PP.ex_w5, PP.ex_w6, PP.ex_w7, PP.ex_w8, PP.ex_w9, PP.ex_w10, PP.ex_w11, PP.ex_w12, PP.ex_w13, PP.ex_w14, PP.ex_w15, PP.ex_w16, PP.ex_w17, PP.ex_w18, PP.ex_w19, PP.ex_w20, PP.exs_w0, PP.exs_w1, PP.itD_w0, PP.itD_w1, PP.itD_w2, PP.itD_w3, PP.itD_w4, PP.itD_w5, PP.evT_w, PP.getS_0, PP.getS_s, PP.set_0, PP.set_s, PP.mul_1, PP.mul_m1, PP.fin_ok, PP.fin_exc, PP.finX_s, PP.finO_next, PP.finO_d, PP.finO_nw, PP.rdU_d, PP.rdU_nw, PP.rdU_sl, PP.rdS_fz, PP.rdS_ow, PP.rdS_io, PP.pend_d, PP.pend_nw, PP.pend_sl, PP.fzU_d, PP.fzU_nw, PP.fzU_sl, PP.asgU_d, PP.asgU_nw, PP.asgU_sl, PP.slOf_non, PP.slOf_bl, PP.slOf_int, PP.slOf_str, PP.slOf_tup, PP.slOf_lst, PP.slOf_dK, PP.isLs_ow, PP.isLs_io, PP.retU_d, PP.retU_nw, PP.retU_sl, PP.nrm_non, PP.nrm_bl, PP.nrm_int, PP.nrm_str, PP.nrm_tup, PP.nrm_lst, PP.nrm_dK, PP.setIO_ow, PP.setIO_io, PP.dupF_0, PP.dupF_1, PP.optP_f, PP.optP_t, PP.truD_bl, PP.truD_non, PP.truD_lst, PP.partD_eq, PP.ix_lst_0, PP.ix_lst_1, PP.ix_lst_2, PP.ix_lst_3, PP.ix_lst_4, PP.ix_lst_5, PP.ix_tup_0, PP.ix_tup_1, PP.ix_tup_2, PP.ix_tup_3, PP.ix_tup_4, PP.ix_tup_5, PP.ix_kst_0, PP.ix_kst_1, PP.ix_kst_2, PP.ix_kst_3, PP.ix_kst_4, PP.ix_kst_5, PP.set_l3_1, PP.set_l3_2, PP.bi_int_i, PP.bi_int_b, PP.bi_abs, PP.bi_len_l, PP.bi_len_t, PP.bi_isInt_non, PP.bi_isInt_bl, PP.bi_isInt_int, PP.bi_isInt_str, PP.bi_isInt_tup, PP.bi_isInt_lst, PP.bi_isInt_kst, PP.bi_isInt_dK, PP.bi_isBool_non, PP.bi_isBool_bl, PP.bi_isBool_int, PP.bi_isBool_str, PP.bi_isBool_tup, PP.bi_isBool_lst, PP.bi_isBool_kst, PP.bi_isBool_dK, PP.bi_isTuple_non, PP.bi_isTuple_bl, PP.bi_isTuple_int, PP.bi_isTuple_str, PP.bi_isTuple_tup, PP.bi_isTuple_lst, PP.bi_isTuple_kst, PP.bi_isTuple_dK, PP.bi_isList_non, PP.bi_isList_bl, PP.bi_isList_int, PP.bi_isList_str, PP.bi_isList_tup, PP.bi_isList_lst, PP.bi_isList_kst, PP.bi_isList_dK, PP.bi_isStr_non, PP.bi_isStr_bl, PP.bi_isStr_int, PP.bi_isStr_str, PP.bi_isStr_tup, PP.bi_isStr_lst, PP.bi_isStr_kst, PP.bi_isStr_dK, PP.le_lim, PP.lt_lim, PP.bi_isInt_dT, PP.bi_isBool_dT, PP.bi_isTuple_dT, PP.bi_isList_dT, PP.bi_isStr_dT, PP.pw_10_18, PP.o_gt_i, PP.o_lt_i, PP.o_ge_i, PP.o_le_i, PP.o_add_i, PP.o_sub_i, PP.o_neg_i, PP.o_eq_i, PP.o_ne_i, PP.o_eq_s, PP.o_ne_s, PP.o_eq_b, PP.ne_nil, PP.fldOf_o, PP.fldOf_e, PP.fldD_c, PP.putD_c, PP.putD_n, PP.isObj_o, PP.isObj_e, PP.isObj_non, PP.isObj_bl, PP.isObj_int, PP.isObj_str, PP.isObj_lst, PP.isObj_tup, PP.isObj_kst, PP.isObj_dK, PP.isCls_o, PP.isCls_e, PP.isCls_non, PP.isCls_bl, PP.isCls_int, PP.isCls_str, PP.isCls_lst, PP.isCls_tup, PP.isCls_kst, PP.isCls_dK, PP.runC_eq, PP.makeO_eq, PP.spec_eq, PP.allFz_0, PP.allFz_c, PP.recv_f, PP.recv_t, PP.ownOp_o, PP.ownIn_o, PP.ownNe_o, PP.opc_add, PP.opc_sub, PP.opc_mul, PP.opc_shl, PP.opc_shr, PP.opc_band, PP.opc_bor, PP.opc_lt, PP.opc_le, PP.opc_gt, PP.opc_ge, PP.opc_eq, PP.opc_ne, PP.okR_o, PP.okR_int, PP.okR_bl, PP.okR_non, PP.okR_str, PP.okR_lst, PP.okR_kst, PP.okR_tup, PP.cmp_lt, PP.cmp_le, PP.cmp_gt, PP.cmp_ge, PP.cmp_eq, PP.cmp_ne, PP.cmp_add, PP.cmp_sub, PP.cmp_band, PP.cmp_bor, PP.cmp_shl, PP.cmp_shr, PP.cmp_mul, PP.slOf_obj, PP.nrm_obj, PP.slOf_err, PP.hear_eq, PP.frz_0, PP.frz_c, PP.mask_c, PP.mask_n, PP.maskS_fz, PP.maskS_ow, PP.maskS_io, PP.maskS_un, PP.item_t, PP.item_l, PP.item_k, PP.bi_max2, PP.bi_min2, PP.bi_bool_b, PP.o_shr_i, PP.o_is_n, PP.o_isnot_n, PP.o_is_b, PP.o_isnot_b, PP.o_add_l, PP.o_mul_l, PP.set_l4_0, PP.set_l4_1, PP.set_l4_2, PP.set_l4_3, PP.ask_o, PP.outD_t, PP.outD_e, PP.keep_d, PP.noL_non, PP.noL_int, PP.noL_bl, PP.noL_str, PP.noL_tup, PP.noL_0, PP.noL_c, PP.evJ_0, PP.rv_split, PP.rv_join, PP.rv_ix_l, PP.rv_ix_k, PP.clsN_eq, PP.runF, PP.startE, PP.rdAll, PP.argsOf, PP.ioSlots, PP.putIO, PP.permL, PP.outsOf, PP.storeAll, PP.R.bind_ok, PP.R.bind_exc, PP.R.bind_bad, PP.orBad_some, PP.orBad_none, Int.reduceLE, Int.reduceLT, Int.reduceToNat, Int.reducePow, Int.reduceNeg, Int.reduceAdd, Int.reduceSub, Int.reduceMul, Int.reduceBEq, Int.cast_ofNat_Int, Int.natCast_zero, Int.natCast_one, Int.reduceBNe, Int.reduceEq, Int.reduceDiv, Int.reduceMod, Nat.reduceAdd, Nat.reduceMul, Nat.reduceSub, Nat.reducePow, Nat.reduceLeDiff, Nat.reduceLT, Nat.reduceEqDiff, Nat.reduceBEq, List.cons_append, List.nil_append, List.append_nil, Nat.zero_le, List.head?_cons, List.tail_cons, Option.map_some, Option.map_none, Option.bind_some, Option.bind_none, Bool.not_true, Bool.not_false, Bool.and_self, Bool.and_true, Bool.true_and, Bool.false_and, Bool.and_false, Bool.or_true, Bool.true_or, Bool.or_false, Bool.false_or, Bool.not_not, List.contains_cons, List.contains_nil, BEq.rfl, reduceCtorEq,
  eq_self, and_self, if_true, if_false, ite_true, ite_false, Bool.false_eq_true, reduceIte, List.length_cons, List.length_nil, List.filterMap_cons, List.filterMap_nil, List.getElem?_cons_zero, List.getElem?_cons_succ, List.map_cons, List.map_nil, List.replicate_succ, List.replicate_zero, List.flatten_cons, List.flatten_nil, List.reverse_cons, List.reverse_nil, decide_true, decide_false, Bool.not_eq_true, Bool.not_eq_false, Bool.cond_true, Bool.cond_false])
local macro_rules | `(tactic| walk_at "pq") => `(tactic| simp -implicitDefEqProofs (disch := first | assumption | (with_reducible show (_ : Bool) = _; exact id rfl) | (with_reducible show (_ : Int) < _; omega) | (with_reducible show (_ : Int) ≤ _; omega) | (with_reducible show (_ : Nat) ≤ _; omega) | (with_reducible show (_ : Nat) < _; omega) | exact id (by simp only [PP.wfD, PP.wfL, PP.dpD, PP.dpL, PP.ok_ofS, PP.ok_app, PP.ok_empty, Nat.max_self, Nat.zero_max, Nat.max_zero, Nat.reduceAdd, Nat.reduceLeDiff, Bool.and_self, PP.wf_ints, PP.dp_ints, Bool.and_true, Bool.true_and, *] ; done) | fail) only [*, PP.le_lim, PP.lt_lim, PP.o_shr_i, PP.shl_p, PP.mul_w, PP.fdiv_w, PP.mod_p, PP.pow_p, PP.nrm_mut, PP.bi_len_s, PP.bi_split, PP.op_eq, PP.op_ne, PP.v_str, PP.v_nil, PP.v_cons, PP.v_nc, PP.v_cn, PP.v_tup, PP.v_lst, PP.v_kl, PP.v_lt, PP.v_tl, PP.v_int, PP.v_bl, PP.v_nn, PP.v_nt, PP.v_tn, PP.v_ni, PP.v_in, PP.v_ints, PP.ev_w0, PP.ev_w1, PP.ev_w2, PP.ev_w3, PP.ev_w4, PP.ev_w5, PP.ev_w6, PP.ev_w7, PP.ev_w8, PP.ev_w9, PP.ev_w10, PP.ev_w11, PP.ev_w12, PP.ev_w13, PP.ev_w14, PP.ev_w15, PP.ev_w16, PP.ev_w17, PP.ev_w18, PP.ev_w19, PP.ev_w20, PP.ev_w21, PP.ev_w22, PP.ev_w23, PP.ev_w24, PP.ev_w25, PP.ev_w26, PP.ev_w27, PP.ev_w28, PP.ev_w29, PP.ev_w30, PP.ev_w31, PP.ev_w32, PP.ev_w33, PP.ev_w34, PP.ev_w35, PP.ev_w36, PP.ev_w37, PP.ev_w38, PP.ev_w39, PP.ev_w40, PP.ev_w41, PP.ev_w42, PP.ev_w43, PP.ev_w44, PP.evF_w0, PP.evF_w1, PP.evF_w2, PP.evR_w0, PP.evR_w1, PP.evR_w2, PP.evC_w0, PP.evC_w1, PP.evC_w2, PP.evC_w3, PP.ex_w0, PP.ex_w1, PP.ex_w2, PP.ex_w3, PP.ex_w4, PP.ex_w5, PP.ex_w6, PP.ex_w7, PP.ex_w8, PP.ex_w9, PP.ex_w10, PP.ex_w11, PP.ex_w12, PP.ex_w13, PP.ex_w14, PP.ex_w15, PP.ex_w16, PP.ex_w17, PP.ex_w18, PP.ex_w19, PP.ex_w20, PP.exs_w0, PP.exs_w1, PP.itD_w0, PP.itD_w1, PP.itD_w2, PP.itD_w3, PP.itD_w4, PP.itD_w5, PP.evT_w, PP.getS_0, PP.getS_s, PP.set_0, PP.set_s, PP.mul_1, PP.mul_m1, PP.fin_ok, PP.fin_exc, PP.finX_s, PP.finO_next, PP.finO_d, PP.finO_nw, PP.rdU_d, PP.rdU_nw, PP.rdU_sl, PP.rdS_fz, PP.rdS_ow, PP.rdS_io, PP.pend_d, PP.pend_nw, PP.pend_sl, PP.fzU_d, PP.fzU_nw, PP.fzU_sl, PP.asgU_d, PP.asgU_nw, PP.asgU_sl, PP.slOf_non, PP.slOf_bl, PP.slOf_int, PP.slOf_str, PP.slOf_tup, PP.slOf_lst, PP.slOf_dK, PP.isLs_ow, PP.isLs_io, PP.retU_d, PP.retU_nw, PP.retU_sl, PP.nrm_non, PP.nrm_bl, PP.nrm_int, PP.nrm_str, PP.nrm_tup, PP.nrm_lst, PP.nrm_dK, PP.setIO_ow, PP.setIO_io, PP.dupF_0, PP.dupF_1, PP.optP_f, PP.optP_t, PP.truD_bl, PP.truD_non, PP.truD_lst, PP.partD_eq, PP.ix_lst_0, PP.ix_lst_1, PP.ix_lst_2, PP.ix_lst_3, PP.ix_lst_4, PP.ix_lst_5, PP.ix_tup_0, PP.ix_tup_1, PP.ix_tup_2, PP.ix_tup_3, PP.ix_tup_4, PP.ix_tup_5, PP.ix_kst_0, PP.ix_kst_1, PP.ix_kst_2, PP.ix_kst_3, PP.ix_kst_4, PP.ix_kst_5, PP.set_l3_1, PP.set_l3_2, PP.bi_int_i, PP.bi_int_b, PP.bi_abs, PP.bi_len_l, PP.bi_len_t, PP.bi_isInt_non, PP.bi_isInt_bl, PP.bi_isInt_int, PP.bi_isInt_str, PP.bi_isInt_tup, PP.bi_isInt_lst, PP.bi_isInt_kst, PP.bi_isInt_dK, PP.bi_isBool_non, PP.bi_isBool_bl, PP.bi_isBool_int, PP.bi_isBool_str, PP.bi_isBool_tup, PP.bi_isBool_lst, PP.bi_isBool_kst, PP.bi_isBool_dK, PP.bi_isTuple_non, PP.bi_isTuple_bl, PP.bi_isTuple_int, PP.bi_isTuple_str, PP.bi_isTuple_tup, PP.bi_isTuple_lst, PP.bi_isTuple_kst, PP.bi_isTuple_dK, PP.bi_isList_non, PP.bi_isList_bl, PP.bi_isList_int, PP.bi_isList_str, PP.bi_isList_tup, PP.bi_isList_lst, PP.bi_isList_kst, PP.bi_isList_dK, PP.bi_isStr_non, PP.bi_isStr_bl, PP.bi_isStr_int, PP.bi_isStr_str, PP.bi_isStr_tup, PP.bi_isStr_lst, PP.bi_isStr_kst, PP.bi_isStr_dK, PP.le_lim, PP.lt_lim, PP.bi_isInt_dT, PP.bi_isBool_dT, PP.bi_isTuple_dT, PP.bi_isList_dT, PP.bi_isStr_dT, PP.pw_10_18, PP.o_gt_i, PP.o_lt_i, PP.o_ge_i, PP.o_le_i, PP.o_add_i, PP.o_sub_i, PP.o_neg_i, PP.o_eq_i, PP.o_ne_i, PP.o_eq_s, PP.o_ne_s, PP.o_eq_b, PP.ne_nil, PP.fldOf_o, PP.fldOf_e, PP.fldD_c, PP.putD_c, PP.putD_n, PP.isObj_o, PP.isObj_e, PP.isObj_non, PP.isObj_bl, PP.isObj_int, PP.isObj_str, PP.isObj_lst, PP.isObj_tup, PP.isObj_kst, PP.isObj_dK, PP.isCls_o, PP.isCls_e, PP.isCls_non, PP.isCls_bl, PP.isCls_int, PP.isCls_str, PP.isCls_lst, PP.isCls_tup, PP.isCls_kst, PP.isCls_dK, PP.runC_eq, PP.makeO_eq, PP.spec_eq, PP.allFz_0, PP.allFz_c, PP.recv_f, PP.recv_t, PP.ownOp_o, PP.ownIn_o, PP.ownNe_o, PP.opc_add, PP.opc_sub, PP.opc_mul, PP.opc_shl, PP.opc_shr, PP.opc_band, PP.opc_bor, PP.opc_lt, PP.opc_le, PP.opc_gt, PP.opc_ge, PP.opc_eq, PP.opc_ne, PP.okR_o, PP.okR_int, PP.okR_bl, PP.okR_non, PP.okR_str, PP.okR_lst, PP.okR_kst, PP.okR_tup, PP.cmp_lt, PP.cmp_le, PP.cmp_gt, PP.cmp_ge, PP.cmp_eq, PP.cmp_ne, PP.cmp_add, PP.cmp_sub, PP.cmp_band, PP.cmp_bor, PP.cmp_shl, PP.cmp_shr, PP.cmp_mul, PP.slOf_obj, PP.nrm_obj, PP.slOf_err, PP.hear_eq, PP.frz_0, PP.frz_c, PP.mask_c, PP.mask_n, PP.maskS_fz, PP.maskS_ow, PP.maskS_io, PP.maskS_un, PP.item_t, PP.item_l, PP.item_k, PP.bi_max2, PP.bi_min2, PP.bi_bool_b, PP.o_shr_i, PP.o_is_n, PP.o_isnot_n, PP.o_is_b, PP.o_isnot_b, PP.o_add_l, PP.o_mul_l, PP.set_l4_0, PP.set_l4_1, PP.set_l4_2, PP.set_l4_3, PP.ask_o, PP.outD_t, PP.outD_e, PP.keep_d, PP.noL_non, PP.noL_int, PP.noL_bl, PP.noL_str, PP.noL_tup, PP.noL_0, PP.noL_c, PP.evJ_0, PP.rv_split, PP.rv_join, PP.rv_ix_l, PP.rv_ix_k, PP.clsN_eq, PP.runF, PP.startE, PP.rdAll, PP.argsOf, PP.ioSlots, PP.putIO, PP.permL, PP.outsOf, PP.storeAll, PP.R.bind_ok, PP.R.bind_exc, PP.R.bind_bad, PP.orBad_some, PP.orBad_none, Int.reduceLE, Int.reduceLT, Int.reduceToNat, Int.reducePow, Int.reduceNeg, Int.reduceAdd, Int.reduceSub, Int.reduceMul, Int.reduceBEq, Int.cast_ofNat_Int, Int.natCast_zero, Int.natCast_one, Int.reduceBNe, Int.reduceEq, Int.reduceDiv, Int.reduceMod, Nat.reduceAdd, Nat.reduceMul, Nat.reduceSub, Nat.reducePow, Nat.reduceLeDiff, Nat.reduceLT, Nat.reduceEqDiff, Nat.reduceBEq, List.cons_append, List.nil_append, List.append_nil, Nat.zero_le, List.head?_cons, List.tail_cons, Option.map_some, Option.map_none, Option.bind_some, Option.bind_none, Bool.not_true, Bool.not_false, Bool.and_self, Bool.and_true, Bool.true_and, Bool.false_and, Bool.and_false, Bool.or_true, Bool.true_or, Bool.or_false, Bool.false_or, Bool.not_not, List.contains_cons, List.contains_nil, BEq.rfl, reduceCtorEq,
  eq_self, and_self, if_true, if_false, ite_true, ite_false, Bool.false_eq_true, reduceIte, List.length_cons, List.length_nil, List.filterMap_cons, List.filterMap_nil, List.getElem?_cons_zero, List.getElem?_cons_succ, List.map_cons, List.map_nil, List.replicate_succ, List.replicate_zero, List.flatten_cons, List.flatten_nil, List.reverse_cons, List.reverse_nil, decide_true, decide_false, Bool.not_eq_true, Bool.not_eq_false, Bool.cond_true, Bool.cond_false])
local macro_rules | `(tactic| walk_at "px") => `(tactic| simp -implicitDefEqProofs (disch := first | assumption | (with_reducible show (_ : Bool) = _; exact id rfl) | (with_reducible show (_ : Int) < _; omega) | (with_reducible show (_ : Int) ≤ _; omega) | (with_reducible show (_ : Nat) ≤ _; omega) | (with_reducible show (_ : Nat) < _; omega) | fail) only [*, PP.le_lim, PP.lt_lim, PP.o_shr_i, PP.shl_p, PP.mul_w, PP.fdiv_w, PP.mod_p, PP.pow_p, PP.nrm_mut, PP.bi_len_s, PP.bi_split, PP.ev_w0, PP.ev_w1, PP.ev_w2, PP.ev_w3, PP.ev_w4, PP.ev_w5, PP.ev_w6, PP.ev_w7, PP.ev_w8, PP.ev_w9, PP.ev_w10, PP.ev_w11, PP.ev_w12, PP.ev_w13, PP.ev_w14, PP.ev_w15, PP.ev_w16, PP.ev_w17, PP.ev_w18, PP.ev_w19, PP.ev_w20, PP.ev_w21, PP.ev_w22, PP.ev_w23, PP.ev_w24, PP.ev_w25, PP.ev_w26, PP.ev_w27, PP.ev_w28, PP.ev_w29, PP.ev_w30, PP.ev_w31, PP.ev_w32, PP.ev_w33, PP.ev_w34, PP.ev_w35, PP.ev_w36, PP.ev_w37, PP.ev_w38, PP.ev_w39, PP.ev_w40, PP.ev_w41, PP.ev_w42, PP.ev_w43, PP.ev_w44, PP.evF_w0, PP.evF_w1, PP.evF_w2, PP.evR_w0, PP.evR_w1, PP.evR_w2, PP.evC_w0, PP.evC_w1, PP.evC_w2, PP.evC_w3, PP.ex_w0, PP.ex_w1, PP.ex_w2, PP.ex_w3, PP.ex_w4, PP.ex_w5, PP.ex_w6, PP.ex_w7, PP.ex_w8, PP.ex_w9, PP.ex_w10, PP.ex_w11, PP.ex_w12, PP.ex_w13, PP.ex_w14, PP.ex_w15, PP.ex_w16, PP.ex_w17, PP.ex_w18, PP.ex_w19, PP.ex_w20, PP.exs_w0, PP.exs_w1, PP.itD_w0, PP.itD_w1, PP.itD_w2, PP.itD_w3, PP.itD_w4, PP.itD_w5, PP.evT_w, PP.getS_0, PP.getS_s, PP.set_0, PP.set_s, PP.mul_1, PP.mul_m1, PP.fin_ok, PP.fin_exc, PP.finX_s, PP.finO_next, PP.finO_d, PP.finO_nw, PP.rdU_d, PP.rdU_nw, PP.rdU_sl, PP.rdS_fz, PP.rdS_ow, PP.rdS_io, PP.pend_d, PP.pend_nw, PP.pend_sl, PP.fzU_d, PP.fzU_nw, PP.fzU_sl, PP.asgU_d, PP.asgU_nw, PP.asgU_sl, PP.slOf_non, PP.slOf_bl, PP.slOf_int, PP.slOf_str, PP.slOf_tup, PP.slOf_lst, PP.slOf_dK, PP.isLs_ow, PP.isLs_io, PP.retU_d, PP.retU_nw, PP.retU_sl, PP.nrm_non, PP.nrm_bl, PP.nrm_int, PP.nrm_str, PP.nrm_tup, PP.nrm_lst, PP.nrm_dK, PP.setIO_ow, PP.setIO_io, PP.dupF_0, PP.dupF_1, PP.optP_f, PP.optP_t, PP.truD_bl, PP.truD_non, PP.truD_lst, PP.partD_eq, PP.ix_lst_0, PP.ix_lst_1, PP.ix_lst_2, PP.ix_lst_3, PP.ix_lst_4, PP.ix_lst_5, PP.ix_tup_0, PP.ix_tup_1, PP.ix_tup_2, PP.ix_tup_3, PP.ix_tup_4, PP.ix_tup_5, PP.ix_kst_0, PP.ix_kst_1, PP.ix_kst_2, PP.ix_kst_3, PP.ix_kst_4, PP.ix_kst_5, PP.set_l3_1, PP.set_l3_2, PP.bi_int_i, PP.bi_int_b, PP.bi_abs, PP.bi_len_l, PP.bi_len_t, PP.bi_isInt_non, PP.bi_isInt_bl, PP.bi_isInt_int, PP.bi_isInt_str, PP.bi_isInt_tup, PP.bi_isInt_lst, PP.bi_isInt_kst, PP.bi_isInt_dK, PP.bi_isBool_non, PP.bi_isBool_bl, PP.bi_isBool_int, PP.bi_isBool_str, PP.bi_isBool_tup, PP.bi_isBool_lst, PP.bi_isBool_kst, PP.bi_isBool_dK, PP.bi_isTuple_non, PP.bi_isTuple_bl, PP.bi_isTuple_int, PP.bi_isTuple_str, PP.bi_isTuple_tup, PP.bi_isTuple_lst, PP.bi_isTuple_kst, PP.bi_isTuple_dK, PP.bi_isList_non, PP.bi_isList_bl, PP.bi_isList_int, PP.bi_isList_str, PP.bi_isList_tup, PP.bi_isList_lst, PP.bi_isList_kst, PP.bi_isList_dK, PP.bi_isStr_non, PP.bi_isStr_bl, PP.bi_isStr_int, PP.bi_isStr_str, PP.bi_isStr_tup, PP.bi_isStr_lst, PP.bi_isStr_kst, PP.bi_isStr_dK, PP.le_lim, PP.lt_lim, PP.bi_isInt_dT, PP.bi_isBool_dT, PP.bi_isTuple_dT, PP.bi_isList_dT, PP.bi_isStr_dT, PP.pw_10_18, PP.o_gt_i, PP.o_lt_i, PP.o_ge_i, PP.o_le_i, PP.o_add_i, PP.o_sub_i, PP.o_neg_i, PP.o_eq_i, PP.o_ne_i, PP.o_eq_s, PP.o_ne_s, PP.o_eq_b, PP.ne_nil, PP.fldOf_o, PP.fldOf_e, PP.fldD_c, PP.putD_c, PP.putD_n, PP.isObj_o, PP.isObj_e, PP.isObj_non, PP.isObj_bl, PP.isObj_int, PP.isObj_str, PP.isObj_lst, PP.isObj_tup, PP.isObj_kst, PP.isObj_dK, PP.isCls_o, PP.isCls_e, PP.isCls_non, PP.isCls_bl, PP.isCls_int, PP.isCls_str, PP.isCls_lst, PP.isCls_tup, PP.isCls_kst, PP.isCls_dK, PP.runC_eq, PP.makeO_eq, PP.spec_eq, PP.allFz_0, PP.allFz_c, PP.recv_f, PP.recv_t, PP.ownOp_o, PP.ownIn_o, PP.ownNe_o, PP.opc_add, PP.opc_sub, PP.opc_mul, PP.opc_shl, PP.opc_shr, PP.opc_band, PP.opc_bor, PP.opc_lt, PP.opc_le, PP.opc_gt, PP.opc_ge, PP.opc_eq, PP.opc_ne, PP.okR_o, PP.okR_int, PP.okR_bl, PP.okR_non, PP.okR_str, PP.okR_lst, PP.okR_kst, PP.okR_tup, PP.cmp_lt, PP.cmp_le, PP.cmp_gt, PP.cmp_ge, PP.cmp_eq, PP.cmp_ne, PP.cmp_add, PP.cmp_sub, PP.cmp_band, PP.cmp_bor, PP.cmp_shl, PP.cmp_shr, PP.cmp_mul, PP.slOf_obj, PP.nrm_obj, PP.slOf_err, PP.hear_eq, PP.frz_0, PP.frz_c, PP.mask_c, PP.mask_n, PP.maskS_fz, PP.maskS_ow, PP.maskS_io, PP.maskS_un, PP.item_t, PP.item_l, PP.item_k, PP.bi_max2, PP.bi_min2, PP.bi_bool_b, PP.o_shr_i, PP.o_is_n, PP.o_isnot_n, PP.o_is_b, PP.o_isnot_b, PP.o_add_l, PP.o_mul_l, PP.set_l4_0, PP.set_l4_1, PP.set_l4_2, PP.set_l4_3, PP.ask_o, PP.outD_t, PP.outD_e, PP.keep_d, PP.noL_non, PP.noL_int, PP.noL_bl, PP.noL_str, PP.noL_tup, PP.noL_0, PP.noL_c, PP.evJ_0, PP.rv_split, PP.rv_join, PP.rv_ix_l, PP.rv_ix_k, PP.clsN_eq, PP.runF, PP.startE, PP.rdAll, PP.argsOf, PP.ioSlots, PP.putIO, PP.permL, PP.outsOf, PP.storeAll, PP.R.bind_ok, PP.R.bind_exc, PP.R.bind_bad, PP.orBad_some, PP.orBad_none, Int.reduceLE, Int.reduceLT, Int.reduceToNat, Int.reducePow, Int.reduceNeg, Int.reduceAdd, Int.reduceSub, Int.reduceMul, Int.reduceBEq, Int.cast_ofNat_Int, Int.natCast_zero, Int.natCast_one, Int.reduceBNe, Int.reduceEq, Int.reduceDiv, Int.reduceMod, Nat.reduceAdd, Nat.reduceMul, Nat.reduceSub, Nat.reducePow, Nat.reduceLeDiff, Nat.reduceLT, Nat.reduceEqDiff, Nat.reduceBEq, List.cons_append, List.nil_append, List.append_nil, Nat.zero_le, List.head?_cons, List.tail_cons, Option.map_some, Option.map_none, Option.bind_some, Option.bind_none, Bool.not_true, Bool.not_false, Bool.and_self, Bool.and_true, Bool.true_and, Bool.false_and, Bool.and_false, Bool.or_true, Bool.true_or, Bool.or_false, Bool.false_or, Bool.not_not, List.contains_cons, List.contains_nil, BEq.rfl, reduceCtorEq,
  eq_self, and_self, if_true, if_false, ite_true, ite_false, Bool.false_eq_true, reduceIte, List.length_cons, List.length_nil, List.filterMap_cons, List.filterMap_nil, List.getElem?_cons_zero, List.getElem?_cons_succ, List.map_cons, List.map_nil, List.replicate_succ, List.replicate_zero, List.flatten_cons, List.flatten_nil, List.reverse_cons, List.reverse_nil, decide_true, decide_false, Bool.not_eq_true, Bool.not_eq_false, Bool.cond_true, Bool.cond_false])
namespace PP
open PySem L2
/-! specs: boxes.py -/
abbrev boxD (x y w h : Int) : D := .obj 5 [2, 3, 4, 5] [.int x, .int y, .int w, .int h]
abbrev eBox (p : Str) : Exn := (3, [1], [.str p])
abbrev isBx (d : D) : Bool := isObjOf [5] d
def boxBad (x y w h : D) : Option Str := match btw x 0 1267650600228229401496703205375 with
  | false => some "x"
  | true => match btw y 0 1267650600228229401496703205375 with
    | false => some "y"
    | true => match btw w 1 1267650600228229401496703205376 with
      | false => some "width"
      | true => match btw h 1 1267650600228229401496703205376 with
        | false => some "height"
        | true => none
/-- what Box(..) gives -/
def mkBx (x y w h : D) : RC := match boxBad x y w h with
  | some p => .exc (eBox p) []
  | none => .ok (.nw (.obj 5 [2, 3, 4, 5] [x, y, w, h])) []
theorem ok_mkBx (x y w h : D) : okRC (mkBx x y w h) := by
  unfold mkBx
  cases boxBad x y w h with
  | none => exact rfl
  | some p => exact trivial
abbrev S_need_box (g : Gf) : Prop := (∀ x y w h, g [.fz (boxD x y w h)] = .ok (.d .non) []) ∧ ∀ d, isClsD d = false → isBx d = false → g [.fz d] = .exc (eBox "other") []
theorem need_box_ok {cl : CallF} : S_need_box (runF cl F_need_box) := by
  refine ⟨fun x y w h => ?_, fun d h1 h2 => ?_⟩
  · simp only [F_need_box]
    walk_at "pp"
  · simp only [F_need_box]
    walk_at "px"
abbrev S_box_init (g : Gf) : Prop := ∀ x y w h, isClsD x = false → isClsD y = false → isClsD w = false → isClsD h = false → g [.io (.obj 5 [] []), .fz x, .fz y, .fz w, .fz h] = match boxBad x y w h with
  | some p => .exc (eBox p) [.obj 5 [] []]
  | none => .ok (.d .non) [.obj 5 [2, 3, 4, 5] [x, y, w, h]]
theorem box_init_ok {cl : CallF} (h1 : S_is_between (cl 1)) : S_box_init (runF cl F_Box__init__) := by
  intro x y w h nx ny nw nh
  simp only [F_Box__init__]
  walk_at "px"
  unfold boxBad
  cases hx : btw x 0 1267650600228229401496703205375 with
  | false => walk_at "px"
  | true =>
    walk_at "px"
    cases hy : btw y 0 1267650600228229401496703205375 with
    | false => walk_at "px"
    | true =>
      walk_at "px"
      cases hw : btw w 1 1267650600228229401496703205376 with
      | false => walk_at "px"
      | true =>
        walk_at "px"
        cases hh : btw h 1 1267650600228229401496703205376 with
        | false => walk_at "px"
        | true => walk_at "px"

theorem bx_isP (x y w h : Int) : isBx (boxD x y w h) = true := rfl
theorem mkBx_int (x y w h : Int) : mkBx (.int x) (.int y) (.int w) (.int h) = match boxBad (.int x) (.int y) (.int w) (.int h) with
  | some p => .exc (eBox p) []
  | none => .ok (.nw (boxD x y w h)) [] := rfl
/-- a def's end that hands on what Box(..) gives -/
abbrev S_moved_by (g : Gf) : Prop := (∀ b d s, okV d = true → isP d = false → g [.fz b, .fz d, .fz (.int s)] = .exc (eBox "move") []) ∧
  (∀ x y w h a b, g [.fz (boxD x y w h), .fz (.tup [.int a, .int b]), .fz (.int 1)] = mkBx (.int (x + a)) (.int (y + b)) (.int w) (.int h)) ∧
  (∀ x y w h a b, g [.fz (boxD x y w h), .fz (.tup [.int a, .int b]), .fz (.int (-1))] = mkBx (.int (x + -a)) (.int (y + -b)) (.int w) (.int h))
theorem moved_by_ok {cl : CallF} (h3 : S_is_pair (cl 3)) (hB : S_box_init (cl 6000)) : S_moved_by (runF cl F_moved_by) := by
  refine ⟨fun b d s h1 h2 => ?_, fun x y w h a b => ?_, fun x y w h a b => ?_⟩
  · simp only [F_moved_by]
    walk_at "px"
  · simp only [F_moved_by]
    walk_at "pp"
    rw [h3 _ rfl, isP_2]
    simp only [isI]
    walk_at "px"
    rw [mkBx_int]
    cases boxBad (.int (x + a)) (.int (y + b)) (.int w) (.int h) <;> walk_at "pp"
  · simp only [F_moved_by]
    walk_at "pp"
    rw [h3 _ rfl, isP_2]
    simp only [isI]
    walk_at "px"
    rw [mkBx_int]
    cases boxBad (.int (x + -a)) (.int (y + -b)) (.int w) (.int h) <;> walk_at "pp"
abbrev S_need_shift (g : Gf) : Prop := (∀ d, isClsD d = false → btw d 0 100 = true → g [.fz d] = .ok (.d .non) []) ∧ ∀ d, isClsD d = false → btw d 0 100 = false → g [.fz d] = .exc (4, [0], [d]) []
theorem need_shift_ok {cl : CallF} (h1 : S_is_between (cl 1)) : S_need_shift (runF cl F_need_shift) := by
  refine ⟨fun d h2 h3 => ?_, fun d h2 h3 => ?_⟩
  · simp only [F_need_shift]
    walk_at "px"
  · simp only [F_need_shift]
    walk_at "px"
def within (x y w h x' y' w' h' : Int) : Bool := decide (x' ≤ x) && decide (y' ≤ y) && decide (x + w ≤ x' + w') && decide (y + h ≤ y' + h')
abbrev S_is_within (g : Gf) : Prop := ∀ x y w h x' y' w' h', g [.fz (boxD x y w h), .fz (boxD x' y' w' h')] = .ok (.d (.bl (within x y w h x' y' w' h'))) []
theorem dec_nlt (a b : Int) : decide (a < b) = !decide (b ≤ a) := by
  by_cases h : b ≤ a
  · simp [h]
  · simp [h]; omega
theorem is_within_ok {cl : CallF} : S_is_within (runF cl F_is_within) := by
  intro x y w h x' y' w' h'
  simp only [F_is_within, within]
  walk_at "pp"
  simp only [dec_nlt]
  cases decide (x' ≤ x) <;> walk_at "pp"
  cases decide (y' ≤ y) <;> walk_at "pp"
  cases decide (x + w ≤ x' + w') <;> walk_at "pp"
def andBx (x y w h x' y' w' h' : Int) : RC := if max x x' < min (x + w) (x' + w') ∧ max y y' < min (y + h) (y' + h') then mkBx (.int (max x x')) (.int (max y y')) (.int (min (x + w) (x' + w') - max x x')) (.int (min (y + h) (y' + h') - max y y')) else .ok (.d .non) []
theorem ok_andBx (x y w h x' y' w' h' : Int) : okRC (andBx x y w h x' y' w' h') := by
  unfold andBx
  split
  · exact ok_mkBx _ _ _ _
  · exact trivial
abbrev S_common_box (g : Gf) : Prop := ∀ x y w h x' y' w' h', g [.fz (boxD x y w h), .fz (boxD x' y' w' h')] = andBx x y w h x' y' w' h'
theorem common_box_ok {cl : CallF} (hB : S_box_init (cl 6000)) : S_common_box (runF cl F_common_box) := by
  intro x y w h x' y' w' h'
  simp only [F_common_box, andBx]
  walk_at "px"
  by_cases h1 : max x x' < min (x + w) (x' + w')
  · by_cases h2 : max y y' < min (y + h) (y' + h')
    · rw [mkBx_int]
      walk_at "px"
      cases boxBad (.int (max x x')) (.int (max y y')) (.int (min (x + w) (x' + w') - max x x')) (.int (min (y + h) (y' + h') - max y y')) <;> walk_at "pp"
    · simp only [h1, h2, decide_true, decide_false, and_false, if_false]
      walk_at "pp"
  · simp only [h1, decide_false, false_and, if_false]
    walk_at "pp"
abbrev S_least_box (g : Gf) : Prop := ∀ x y w h x' y' w' h', g [.fz (boxD x y w h), .fz (boxD x' y' w' h')] =
  mkBx (.int (min x x')) (.int (min y y')) (.int (max (x + w) (x' + w') - min x x')) (.int (max (y + h) (y' + h') - min y y'))
theorem least_box_ok {cl : CallF} (hB : S_box_init (cl 6000)) : S_least_box (runF cl F_least_box) := by
  intro x y w h x' y' w' h'
  simp only [F_least_box]
  walk_at "px"
  rw [mkBx_int]
  cases boxBad (.int (min x x')) (.int (min y y')) (.int (max (x + w) (x' + w') - min x x')) (.int (max (y + h) (y' + h') - min y y')) <;> walk_at "pp"
abbrev S_square (g : Gf) : Prop := (∀ d, isClsD d = false → btw d 0 100 = false → g [.fz d] = .exc (2, [0], [d]) []) ∧ ∀ n : Int, 0 ≤ n → n ≤ 100 → g [.fz (.int n)] = .ok (.nw (boxD 0 0 (2 ^ n.toNat) (2 ^ n.toNat))) []
theorem pow_le_ms {n : Int} (h0 : 0 ≤ n) (h1 : n ≤ 100) : 1 ≤ (2 : Int) ^ n.toNat ∧ (2 : Int) ^ n.toNat ≤ 1267650600228229401496703205376 := by
  have e : (1267650600228229401496703205376 : Nat) = 2 ^ 100 := by decide
  have a : 1 ≤ 2 ^ n.toNat := Nat.one_le_two_pow
  have b : 2 ^ n.toNat ≤ 2 ^ 100 := Nat.pow_le_pow_right (by decide) (by omega)
  rw [← e] at b
  have c : (2 : Int) ^ n.toNat = ((2 ^ n.toNat : Nat) : Int) := by norm_cast
  omega
theorem square_ok {cl : CallF} (h2 : S_is_level (cl 2)) (hB : S_box_init (cl 6000)) : S_square (runF cl F_Box_square) := by
  refine ⟨fun d h1 h3 => ?_, fun n h0 h1 => ?_⟩
  · simp only [F_Box_square]
    walk_at "px"
  · simp only [F_Box_square]
    walk_at "pp"
    have hb : btw (.int n) 0 100 = true := by simp only [btw, h0, h1, decide_true, Bool.and_self]
    have hp := pow_le_ms h0 h1
    rw [h2 _ rfl]
    have e : boxBad (.int 0) (.int 0) (.int (2 ^ n.toNat)) (.int (2 ^ n.toNat)) = none := by
      simp only [boxBad, btw, hp.1, hp.2]
      rfl
    walk_at "px"
    simp only [Int.one_mul, e]
    walk_at "pp"
/-- an own operator with a box on the right -/
abbrev S_and (g : Gf) : Prop := (∀ b d, isClsD d = false → isBx d = false → g [.fz b, .fz d] = .exc (eBox "other") []) ∧ ∀ x y w h x' y' w' h', g [.fz (boxD x y w h), .fz (boxD x' y' w' h')] = andBx x y w h x' y' w' h'
theorem and_ok {cl : CallF} (h4 : S_need_box (cl 4)) (h8 : S_common_box (cl 8)) : S_and (runF cl F_Box__and__) := by
  refine ⟨fun b d h1 h2 => ?_, fun x y w h x' y' w' h' => ?_⟩
  · simp only [F_Box__and__]
    walk_at "pp"
    rw [h4.2 d h1 h2]
    walk_at "pp"
  · simp only [F_Box__and__]
    walk_at "pp"
    rw [h4.1]
    walk_at "pp"
    rw [h8]
    generalize hr : andBx _ _ _ _ _ _ _ _ = r
    rcases (hr ▸ ok_andBx _ _ _ _ _ _ _ _ : okRC r).cases with ⟨d, rfl⟩ | ⟨d, hm, rfl⟩ | ⟨x, rfl⟩ <;> walk_at "px"
abbrev S_or (g : Gf) : Prop := (∀ b d, isClsD d = false → isBx d = false → g [.fz b, .fz d] = .exc (eBox "other") []) ∧ ∀ x y w h x' y' w' h', g [.fz (boxD x y w h), .fz (boxD x' y' w' h')] =
  mkBx (.int (min x x')) (.int (min y y')) (.int (max (x + w) (x' + w') - min x x')) (.int (max (y + h) (y' + h') - min y y'))
theorem or_ok {cl : CallF} (h4 : S_need_box (cl 4)) (h9 : S_least_box (cl 9)) : S_or (runF cl F_Box__or__) := by
  refine ⟨fun b d h1 h2 => ?_, fun x y w h x' y' w' h' => ?_⟩
  · simp only [F_Box__or__]
    walk_at "pp"
    rw [h4.2 d h1 h2]
    walk_at "pp"
  · simp only [F_Box__or__]
    walk_at "pp"
    rw [h4.1]
    walk_at "pp"
    rw [h9]
    generalize hr : mkBx _ _ _ _ = r
    rcases (hr ▸ ok_mkBx _ _ _ _ : okRC r).cases with ⟨d, rfl⟩ | ⟨d, hm, rfl⟩ | ⟨x, rfl⟩ <;> walk_at "px"
abbrev S_add (g : Gf) : Prop := (∀ b d, okV d = true → isP d = false → g [.fz b, .fz d] = .exc (eBox "move") []) ∧
  ∀ x y w h a b, g [.fz (boxD x y w h), .fz (.tup [.int a, .int b])] = mkBx (.int (x + a)) (.int (y + b)) (.int w) (.int h)
abbrev S_sub (g : Gf) : Prop := (∀ b d, okV d = true → isP d = false → g [.fz b, .fz d] = .exc (eBox "move") []) ∧
  ∀ x y w h a b, g [.fz (boxD x y w h), .fz (.tup [.int a, .int b])] = mkBx (.int (x + -a)) (.int (y + -b)) (.int w) (.int h)
theorem add_ok {cl : CallF} (h5 : S_moved_by (cl 5)) : S_add (runF cl F_Box__add__) := by
  refine ⟨fun b d h1 h2 => ?_, fun x y w h a b => ?_⟩
  · simp only [F_Box__add__]
    walk_at "pp"
    rw [h5.1 b d 1 h1 h2]
    walk_at "pp"
  · simp only [F_Box__add__]
    walk_at "pp"
    rw [h5.2.1]
    generalize hr : mkBx _ _ _ _ = r
    rcases (hr ▸ ok_mkBx _ _ _ _ : okRC r).cases with ⟨d, rfl⟩ | ⟨d, hm, rfl⟩ | ⟨x, rfl⟩ <;> walk_at "px"
theorem sub_ok {cl : CallF} (h5 : S_moved_by (cl 5)) : S_sub (runF cl F_Box__sub__) := by
  refine ⟨fun b d h1 h2 => ?_, fun x y w h a b => ?_⟩
  · simp only [F_Box__sub__]
    walk_at "pp"
    rw [h5.1 b d (-1) h1 h2]
    walk_at "pp"
  · simp only [F_Box__sub__]
    walk_at "pp"
    rw [h5.2.2]
    generalize hr : mkBx _ _ _ _ = r
    rcases (hr ▸ ok_mkBx _ _ _ _ : okRC r).cases with ⟨d, rfl⟩ | ⟨d, hm, rfl⟩ | ⟨x, rfl⟩ <;> walk_at "px"
abbrev S_shr (g : Gf) : Prop := (∀ b d, isClsD d = false → btw d 0 100 = false → g [.fz b, .fz d] = .exc (4, [0], [d]) []) ∧
  ∀ x y w h n, 0 ≤ n → n ≤ 100 → g [.fz (boxD x y w h), .fz (.int n)] = mkBx (.int (x / 2 ^ n.toNat)) (.int (y / 2 ^ n.toNat)) (.int ((x + w - 1) / 2 ^ n.toNat - x / 2 ^ n.toNat + 1)) (.int ((y + h - 1) / 2 ^ n.toNat - y / 2 ^ n.toNat + 1))
theorem btw_n {n : Int} (h0 : 0 ≤ n) (h1 : n ≤ 100) : btw (.int n) 0 100 = true := by simp only [btw, h0, h1, decide_true, Bool.and_self]
theorem shr_ok {cl : CallF} (h6 : S_need_shift (cl 6)) (hB : S_box_init (cl 6000)) : S_shr (runF cl F_Box__rshift__) := by
  refine ⟨fun b d h1 h2 => ?_, fun x y w h n h0 h1 => ?_⟩
  · simp only [F_Box__rshift__]
    walk_at "pp"
    rw [h6.2 d h1 h2]
    walk_at "pp"
  · simp only [F_Box__rshift__]
    walk_at "pp"
    rw [h6.1 _ rfl (btw_n h0 h1)]
    walk_at "pp"
    simp only [o_shr_i h0]
    walk_at "px"
    simp only [mkBx]
    generalize boxBad _ _ _ _ = o
    cases o <;> walk_at "pp"
abbrev S_shl (g : Gf) : Prop := (∀ b d, isClsD d = false → btw d 0 100 = false → g [.fz b, .fz d] = .exc (4, [0], [d]) []) ∧
  ∀ x y w h n, 0 ≤ n → n ≤ 100 → smI x → smI y → smI w → smI h → g [.fz (boxD x y w h), .fz (.int n)] = mkBx (.int (x * 2 ^ n.toNat)) (.int (y * 2 ^ n.toNat)) (.int (w * 2 ^ n.toNat)) (.int (h * 2 ^ n.toNat))
theorem shl_ok {cl : CallF} (h6 : S_need_shift (cl 6)) (hB : S_box_init (cl 6000)) : S_shl (runF cl F_Box__lshift__) := by
  refine ⟨fun b d h1 h2 => ?_, fun x y w h n h0 h1 hx hy hw hh => ?_⟩
  · simp only [F_Box__lshift__]
    walk_at "pp"
    rw [h6.2 d h1 h2]
    walk_at "pp"
  · simp only [F_Box__lshift__]
    walk_at "pp"
    rw [h6.1 _ rfl (btw_n h0 h1)]
    walk_at "pp"
    walk_at "px"
    simp only [mkBx]
    generalize boxBad _ _ _ _ = o
    cases o <;> walk_at "pp"
/-- comparisons -/
abbrev S_cmpB (f : Int → Int → Int → Int → Int → Int → Int → Int → Bool) (g : Gf) : Prop := (∀ b d, isClsD d = false → isBx d = false → g [.fz b, .fz d] = .exc (eBox "other") []) ∧
  ∀ x y w h x' y' w' h', g [.fz (boxD x y w h), .fz (boxD x' y' w' h')] = .ok (.d (.bl (f x y w h x' y' w' h'))) []
theorem le_ok {cl : CallF} (h4 : S_need_box (cl 4)) (h7 : S_is_within (cl 7)) : S_cmpB within (runF cl F_Box__le__) := by
  refine ⟨fun b d h1 h2 => ?_, fun x y w h x' y' w' h' => ?_⟩
  · simp only [F_Box__le__]
    walk_at "pp"
    rw [h4.2 d h1 h2]
    walk_at "pp"
  · simp only [F_Box__le__]
    walk_at "pp"
    rw [h4.1]
    walk_at "pp"
    rw [h7]
    walk_at "pp"
theorem ge_ok {cl : CallF} (h4 : S_need_box (cl 4)) (h7 : S_is_within (cl 7)) : S_cmpB (fun x y w h x' y' w' h' => within x' y' w' h' x y w h) (runF cl F_Box__ge__) := by
  refine ⟨fun b d h1 h2 => ?_, fun x y w h x' y' w' h' => ?_⟩
  · simp only [F_Box__ge__]
    walk_at "pp"
    rw [h4.2 d h1 h2]
    walk_at "pp"
  · simp only [F_Box__ge__]
    walk_at "pp"
    rw [h4.1]
    walk_at "pp"
    rw [h7]
    walk_at "pp"
theorem lt_ok {cl : CallF} (h4 : S_need_box (cl 4)) (h7 : S_is_within (cl 7)) : S_cmpB (fun x y w h x' y' w' h' => within x y w h x' y' w' h' && !within x' y' w' h' x y w h) (runF cl F_Box__lt__) := by
  refine ⟨fun b d h1 h2 => ?_, fun x y w h x' y' w' h' => ?_⟩
  · simp only [F_Box__lt__]
    walk_at "pp"
    rw [h4.2 d h1 h2]
    walk_at "pp"
  · simp only [F_Box__lt__]
    walk_at "pp"
    rw [h4.1]
    walk_at "pp"
    rw [h7]
    walk_at "pp"
    cases within x y w h x' y' w' h'
    · walk_at "pp"
    · walk_at "pp"
      rw [h7]
      walk_at "pp"
theorem gt_ok {cl : CallF} (h4 : S_need_box (cl 4)) (h7 : S_is_within (cl 7)) : S_cmpB (fun x y w h x' y' w' h' => within x' y' w' h' x y w h && !within x y w h x' y' w' h') (runF cl F_Box__gt__) := by
  refine ⟨fun b d h1 h2 => ?_, fun x y w h x' y' w' h' => ?_⟩
  · simp only [F_Box__gt__]
    walk_at "pp"
    rw [h4.2 d h1 h2]
    walk_at "pp"
  · simp only [F_Box__gt__]
    walk_at "pp"
    rw [h4.1]
    walk_at "pp"
    rw [h7]
    walk_at "pp"
    cases within x' y' w' h' x y w h
    · walk_at "pp"
    · walk_at "pp"
      rw [h7]
      walk_at "pp"
/-- the text of a box -/
def txB (x y w h : Int) : Str := Str.empty ++ Str.ofString (toString x) ++ Str.ofString " " ++ Str.ofString (toString y) ++ Str.ofString " " ++ Str.ofString (toString w) ++ Str.ofString " " ++ Str.ofString (toString h)
abbrev S_str (g : Gf) : Prop := ∀ x y w h, smI x → smI y → smI w → smI h → g [.fz (boxD x y w h)] = .ok (.d (.str (txB x y w h))) []
theorem len_sp : (Str.ofString " ").length = 1 := by rw [len_ofS]; rfl
theorem str_ok {cl : CallF} : S_str (runF cl F_Box__str__) := by
  intro x y w h hx hy hw hh
  simp only [F_Box__str__, txB]
  have l1 := len_it hx
  have l2 := len_it hy
  have l3 := len_it hw
  have l4 := len_it hh
  have f1 := fmt_int hx
  have f2 := fmt_int hy
  have f3 := fmt_int hw
  have f4 := fmt_int hh
  have f5 : fmtD (.str (Str.ofString " ")) = some (Str.ofString " ") := fmt_str (by rw [len_sp]; decide)
  have e0 : Str.empty.length = 0 := rfl
  walk_at "pp"
  rw [evJ_s rfl rfl f1 (by simp only [len_app, e0]; omega), evJ_s rfl rfl f5 (by simp only [len_app, e0, len_sp]; omega), evJ_s rfl rfl f2 (by simp only [len_app, e0, len_sp]; omega), evJ_s rfl rfl f5 (by simp only [len_app, e0, len_sp]; omega),
    evJ_s rfl rfl f3 (by simp only [len_app, e0, len_sp]; omega), evJ_s rfl rfl f5 (by simp only [len_app, e0, len_sp]; omega), evJ_s rfl rfl f4 (by simp only [len_app, e0, len_sp]; omega)]
  walk_at "pp"
theorem ok_txB (x y w h : Int) : PyData.strOk (txB x y w h) = true := by
  simp only [txB, ok_app, ok_ofS, ok_empty, Bool.and_self]
end PP
end

section
set_option maxHeartbeats 400000
namespace PP
open PySem L2
/-! Texts that write numbers. -/
abbrev T (i : Int) : Str := Str.ofString (toString i)
abbrev digZ : Str := "0123456789"
def isDig (c : Nat) : Bool := decide (c ∈ digZ.cps.toList)
theorem isDig_iff (c : Nat) : isDig c = true ↔ 48 ≤ c ∧ c ≤ 57 := by
  have : digZ.cps.toList = [48, 49, 50, 51, 52, 53, 54, 55, 56, 57] := by decide
  unfold isDig
  rw [this]
  simp only [decide_eq_true_eq, List.mem_cons, List.not_mem_nil, or_false]
  omega
def digS (z : Str) : Bool := z.cps.toList.all isDig
theorem digS_iff (z : Str) : digS z = true ↔ NumText.AllDigits z.cps.toList := by
  unfold digS NumText.AllDigits
  rw [List.all_eq_true]
  exact ⟨fun h c hc => (isDig_iff c).mp (h c hc), fun h c hc => (isDig_iff c).mpr (h c hc)⟩
theorem T_nat {i : Int} (h : 0 ≤ i) : (T i).cps.toList = TL.numL i.toNat := by
  obtain ⟨n, rfl⟩ := Int.eq_ofNat_of_zero_le h
  exact TL.tl_num n
theorem len_tl (z : Str) : z.length = z.cps.toList.length := by rw [Array.length_toList]; rfl
theorem numL_head : ∀ (n : Nat) (r : List Nat), TL.numL n = 48 :: r → n = 0
  | n, r, h => by
    by_cases hn : n < 10
    · rw [TL.numL_lt hn] at h
      have := (List.cons.inj h).1
      omega
    · have e := TL.numL_step (n := n) (by omega)
      cases z : TL.numL (n / 10) with
      | nil => exact absurd z (TL.numL_ne _)
      | cons c r' =>
        rw [e, z] at h
        obtain ⟨h1, _⟩ := List.cons.inj h
        subst h1
        have := numL_head (n / 10) r' z
        omega
theorem val_lt : ∀ (n : Nat) (cs : List Nat), cs.length = n → NumText.AllDigits cs → NumText.digitsVal cs < 10 ^ n
  | 0, cs, h, _ => by
    have : cs = [] := List.length_eq_zero_iff.mp h
    subst this
    decide
  | n + 1, cs, h, hd => by
    have hne : cs ≠ [] := by intro e; subst e; simp at h
    have e := (List.dropLast_concat_getLast hne).symm
    generalize cs.dropLast = a at e
    generalize cs.getLast hne = c at e
    subst e
    rw [NumText.digitsVal_snoc]
    have h1 : a.length = n := by simpa using h
    have h2 := val_lt n a h1 fun d hd' => hd d (List.mem_append_left _ hd')
    have h3 := hd c (List.mem_append_right _ List.mem_cons_self)
    rw [Nat.pow_succ]
    omega
theorem numL_up {n : Nat} : n < 10 ^ (TL.numL n).length := by
  have := val_lt _ (TL.numL n) rfl (TL.numL_digits n)
  rwa [TL.numL_val] at this
theorem numL_mono {m n : Nat} (h : m ≤ n) : (TL.numL m).length ≤ (TL.numL n).length := by
  have h1 : 0 < (TL.numL n).length := List.length_pos_iff.mpr (TL.numL_ne n)
  exact TL.numL_len h1 (Nat.lt_of_le_of_lt h numL_up)
theorem canon {cs : List Nat} (h : NumText.AllDigits cs) (hne : cs ≠ []) (h0 : ∀ r, cs = 48 :: r → r = []) : TL.numL (NumText.digitsVal cs) = cs := by
  match cs, hne with
  | c :: r, _ =>
    have hc := h c List.mem_cons_self
    have key : r.length = 0 ∨ ∃ c' r', c :: r = c' :: r' ∧ 49 ≤ c' := by
      by_cases e : c = 48
      · subst e; rw [h0 r rfl]; exact .inl rfl
      · exact .inr ⟨c, r, rfl, by omega⟩
    unfold TL.numL
    rw [NumText.toDigits_digitsVal r.length (c :: r) rfl h key, List.map_map]
    conv => rhs; rw [← List.map_id (c :: r)]
    refine List.map_congr_left fun d hd => ?_
    have := h d hd
    show (Char.ofNat d).toNat = d
    exact (by decide : ∀ d : Nat, d < 58 → (Char.ofNat d).toNat = d) d (by omega)
/-- the number between two bounds that a text writes -/
def numOf (z : Str) (lo hi : Int) : Option Int := (intText? z).bind fun v => if lo ≤ v ∧ v ≤ hi ∧ T v = z then some v else none
theorem T_len {v hi : Int} (h0 : 0 ≤ v) (h : v ≤ hi) : (T v).length ≤ (T hi).length := by
  rw [len_tl, len_tl, T_nat h0, T_nat (by omega)]
  exact numL_mono (by omega)
theorem T_len40 {v : Int} (h0 : 0 ≤ v) (h : v < 10000000000000000000000000000000000000000) : (T v).length ≤ 40 := by
  rw [len_tl, T_nat h0]
  exact TL.numL_len (by decide) (by omega)
theorem int_T {v : Int} (h0 : 0 ≤ v) (h : v < 10000000000000000000000000000000000000000) : intText? (T v) = some v := by
  obtain ⟨n, rfl⟩ := Int.eq_ofNat_of_zero_le h0
  refine TL.int_num ?_
  have := TL.numL_len (n := n) (k := 40) (by decide) (by omega)
  omega
theorem num_some {z : Str} {lo hi v : Int} (h : numOf z lo hi = some v) : lo ≤ v ∧ v ≤ hi ∧ z = T v := by
  unfold numOf at h
  cases e : intText? z with
  | none => rw [e] at h; cases h
  | some w =>
    rw [e] at h
    simp only [Option.bind_some] at h
    split at h
    · cases h
      rename_i q
      exact ⟨q.1, q.2.1, q.2.2.symm⟩
    · cases h
theorem num_T {lo hi v : Int} (h0 : 0 ≤ v) (h : v < 10000000000000000000000000000000000000000) (h1 : lo ≤ v) (h2 : v ≤ hi) : numOf (T v) lo hi = some v := by
  unfold numOf
  rw [int_T h0 h]
  simp only [Option.bind_some]
  rw [if_pos ⟨h1, h2, trivial⟩]
theorem num_none {z : Str} {lo hi : Int} (h : ∀ v, lo ≤ v → v ≤ hi → z ≠ T v) : numOf z lo hi = none := by
  cases e : numOf z lo hi with
  | none => rfl
  | some v =>
    obtain ⟨a, b, c⟩ := num_some e
    exact absurd c (h v a b)
theorem T_dig {v : Int} (h : 0 ≤ v) : digS (T v) = true := by
  rw [digS_iff, T_nat h]
  exact TL.numL_digits _
theorem num_digs {z : Str} {lo hi : Int} (h0 : 0 ≤ lo) (h : digS z = false) : numOf z lo hi = none := num_none fun v a b e => by
  rw [e, T_dig (by omega)] at h
  cases h
theorem num_empty {lo hi : Int} (h0 : 0 ≤ lo) : numOf "" lo hi = none := num_none fun v a b e => by
  have := T_nat (i := v) (by omega)
  rw [← e] at this
  exact absurd this.symm (TL.numL_ne _)
theorem num_long {z : Str} {lo hi : Int} (h0 : 0 ≤ lo) (h : (T hi).length < z.length) : numOf z lo hi = none := num_none fun v a b e => by
  have := T_len (v := v) (by omega) b
  rw [← e] at this
  omega
theorem num_zero {z : Str} {lo hi : Int} {r : List Nat} (h0 : 0 ≤ lo) (h : z.cps.toList = 48 :: r) (hz : z ≠ "0") : numOf z lo hi = none := num_none fun v a b e => by
  have h1 := T_nat (i := v) (by omega)
  rw [← e, h] at h1
  have := numL_head _ _ h1.symm
  have hv : v = 0 := by omega
  subst hv
  exact hz e
/-- a text of digits without zeros ahead is the text of its number -/
theorem num_dig {z : Str} (hd : digS z = true) (hne : z ≠ "") (h0 : ∀ r, z.cps.toList = 48 :: r → z = "0") (hl : z.length ≤ 4300) : ∃ v, 0 ≤ v ∧ intText? z = some v ∧ z = T v := by
  rw [digS_iff] at hd
  have hne' : z.cps.toList ≠ [] := fun e => hne (TL.ext_tl e)
  refine ⟨((NumText.digitsVal z.cps.toList : Nat) : Int), by omega, PySem.intText_digits hd hne' hl, TL.ext_tl ?_⟩
  show z.cps.toList = (T _).cps.toList
  rw [T_nat (by omega)]
  exact (canon hd hne' fun r e => by
    have := h0 r e
    subst this
    exact (List.cons.inj (show (48 :: []) = 48 :: r from e)).2.symm).symm
theorem num_int {z : Str} (hd : digS z = true) (hne : z ≠ "") (hl : z.length ≤ 4300) : ∃ v, 0 ≤ v ∧ intText? z = some v := by
  rw [digS_iff] at hd
  have hne' : z.cps.toList ≠ [] := fun e => hne (TL.ext_tl e)
  exact ⟨((NumText.digitsVal z.cps.toList : Nat) : Int), by omega, PySem.intText_digits hd hne' hl⟩
theorem num_val {z : Str} {v lo hi : Int} (h : intText? z = some v) : numOf z lo hi = if lo ≤ v ∧ v ≤ hi ∧ T v = z then some v else none := by
  unfold numOf
  rw [h]
  rfl
end PP
end

section
set_option maxHeartbeats 400000
namespace PP
open PySem L2
/-! Comprehensions in the plain part. -/
/-- what a turn gives once its item stands at the target -/
def eltT (hc : Bool) (tst elt : Env → R U) (env1 : Env) : R (Option D) := match hc with
  | true => (tst env1).bind fun u env2 => orBad (rdU env2 u) fun x => orBad (truD x) fun t => match t with
    | true => (elt env2).bind fun u env3 => orBad (fzU env3 u) fun p => .ok (some p.1) p.2
    | false => .ok none env2
  | false => (elt env1).bind fun u env3 => orBad (fzU env3 u) fun p => .ok (some p.1) p.2
theorem turn_eq (vs : List Nat) (tg : Tg) (hc : Bool) (tst elt : Env → R U) (d : D) (env : Env) : lcTurn vs tg hc tst elt d env = orBad (storeG tg d (wipeE env vs)) (eltT hc tst elt) := rfl
theorem wipe_len : ∀ (vs : List Nat) (env : Env), (wipeE env vs).length = env.length
  | [], _ => rfl
  | v :: vs, env => by rw [wipeE, wipe_len vs, List.length_set]
theorem wipe_out : ∀ (vs : List Nat) (env : Env) (j : Nat), j ∉ vs → (wipeE env vs)[j]? = env[j]?
  | [], _, _, _ => rfl
  | v :: vs, env, j, h => by
    rw [wipeE, wipe_out vs _ j (fun x => h (List.mem_cons_of_mem _ x)), List.getElem?_set_ne (fun e : v = j => h (List.mem_cons.mpr (.inl e.symm)))]
theorem back_len (e0 : Env) : ∀ (vs : List Nat) (env : Env), (backE e0 env vs).length = env.length
  | [], _ => rfl
  | v :: vs, env => by rw [backE, back_len e0 vs, List.length_set]
theorem back_out (e0 : Env) : ∀ (vs : List Nat) (env : Env) (j : Nat), j ∉ vs → (backE e0 env vs)[j]? = env[j]?
  | [], _, _, _ => rfl
  | v :: vs, env, j, h => by
    rw [backE, back_out e0 vs _ j (fun x => h (List.mem_cons_of_mem _ x)), List.getElem?_set_ne (fun e : v = j => h (List.mem_cons.mpr (.inl e.symm)))]
theorem back_in (e0 : Env) : ∀ (vs : List Nat) (env : Env) (j : Nat), j ∈ vs → j < env.length → (backE e0 env vs)[j]? = some (getS e0 j)
  | v :: vs, env, j, h, hl => by
    rw [backE]
    by_cases hj : j ∈ vs
    · exact back_in e0 vs _ j hj (by rw [List.length_set]; exact hl)
    · rw [back_out e0 vs _ j hj]
      rcases List.mem_cons.mp h with rfl | h
      · rw [List.getElem?_set_self hl]
      · exact absurd h hj
theorem back_wipe (e0 : Env) (vs : List Nat) (env : Env) : backE e0 env vs = backE e0 (wipeE env vs) vs := by
  refine List.ext_getElem? fun j => ?_
  by_cases hj : j ∈ vs
  · by_cases hl : j < env.length
    · rw [back_in e0 vs env j hj hl, back_in e0 vs _ j hj (by rw [wipe_len]; exact hl)]
    · rw [List.getElem?_eq_none (by rw [back_len]; omega), List.getElem?_eq_none (by rw [back_len, wipe_len]; omega)]
  · rw [back_out e0 vs _ j hj, back_out e0 vs _ j hj, wipe_out vs _ j hj]
theorem back_self (vs : List Nat) (env : Env) : backE env env vs = env := by
  refine List.ext_getElem? fun j => ?_
  by_cases hj : j ∈ vs
  · by_cases hl : j < env.length
    · rw [back_in env vs env j hj hl]
      simp [getS, hl]
    · rw [List.getElem?_eq_none (by rw [back_len]; omega), List.getElem?_eq_none (by omega)]
  · rw [back_out env vs _ j hj]
/-- the turns, one after another -/
theorem lc_run {vs : List Nat} {tg : Tg} {hc : Bool} {tst elt : Env → R U} (I : Nat → Env → List D → Prop) : ∀ (ds : List D) (n : Nat) (env : Env) (acc : List D), I n (wipeE env vs) acc →
    (∀ (m : Nat) (d : D) (e : Env) (acc : List D), ds[m]? = some d → I (n + m) e acc → ∃ o e2, orBad (storeG tg d e) (eltT hc tst elt) = .ok o e2 ∧ acc.length < LIM ∧ I (n + m + 1) (wipeE e2 vs) (acc ++ o.toList)) →
    ∃ env' acc', lcD (lcTurn vs tg hc tst elt) ds env acc = .ok acc' env' ∧ I (n + ds.length) (wipeE env' vs) acc'
  | [], n, env, acc, h0, _ => ⟨env, acc, rfl, h0⟩
  | d :: r, n, env, acc, h0, hs => by
    obtain ⟨o, e2, h1, h2, h3⟩ := hs 0 d _ acc rfl h0
    have step : lcD (lcTurn vs tg hc tst elt) (d :: r) env acc = lcD (lcTurn vs tg hc tst elt) r e2 (acc ++ o.toList) := by
      simp only [lcD, turn_eq, h1]
      cases o with
      | none => simp
      | some x => simp [h2]
    obtain ⟨env', acc', h4, h5⟩ := lc_run I r (n + 1) e2 (acc ++ o.toList) (by simpa using h3) fun m d' e' acc'' hm hi => by
      have := hs (m + 1) d' e' acc'' hm (by rw [show n + (m + 1) = n + 1 + m by omega]; exact hi)
      rw [show n + (m + 1) + 1 = n + 1 + m + 1 by omega] at this
      exact this
    exact ⟨env', acc', step.trans h4, by rw [List.length_cons, show n + (r.length + 1) = n + 1 + r.length by omega]; exact h5⟩
theorem lc_use {vs : List Nat} {tg : Tg} {hc : Bool} {tst elt : Env → R U} {ds : List D} {env : Env} {q : R U} (hq : lcAll vs env (lcD (lcTurn vs tg hc tst elt) ds env []) = q) (I : Nat → Env → List D → Prop) (hcalm : (vs.all fun i => calmS (getS env i)) = true) (h0 : I 0 (wipeE env vs) [])
    (hs : ∀ (m : Nat) (d : D) (e : Env) (acc : List D), ds[m]? = some d → I m e acc → ∃ o e2, orBad (storeG tg d e) (eltT hc tst elt) = .ok o e2 ∧ acc.length < LIM ∧ I (m + 1) (wipeE e2 vs) (acc ++ o.toList)) :
    ∃ e acc, q = .ok (.nw (.lst acc)) (backE env e vs) ∧ I ds.length e acc := by
  subst hq
  obtain ⟨env', acc', h1, h2⟩ := lc_run I ds 0 env [] h0 (by simpa only [Nat.zero_add] using hs)
  refine ⟨wipeE env' vs, acc', ?_, by simpa using h2⟩
  rw [← back_wipe]
  unfold lcAll
  rw [hcalm, h1]
  rfl
/-- without draws: the items' values, the environment as before -/
theorem lc_map {vs : List Nat} {tg : Tg} {hc : Bool} {tst elt : Env → R U} {ds : List D} {env : Env} (q : D → Option D) (hcalm : (vs.all fun i => calmS (getS env i)) = true) (hl : ds.length ≤ LIM)
    (hs : ∀ d ∈ ds, ∃ e2, orBad (storeG tg d (wipeE env vs)) (eltT hc tst elt) = .ok (q d) e2 ∧ wipeE e2 vs = wipeE env vs) :
    lcAll vs env (lcD (lcTurn vs tg hc tst elt) ds env []) = .ok (.nw (.lst (ds.filterMap q))) env := by
  obtain ⟨e, acc, h1, h2, h3⟩ := lc_use (q := lcAll vs env (lcD (lcTurn vs tg hc tst elt) ds env [])) rfl (fun m e acc => e = wipeE env vs ∧ acc = (ds.take m).filterMap q) hcalm ⟨rfl, rfl⟩ fun m d e acc hm ⟨he, ha⟩ => by
    subst he
    obtain ⟨hml, hmd⟩ := List.getElem?_eq_some_iff.mp hm
    obtain ⟨e2, h1, h2⟩ := hs d (hmd ▸ List.getElem_mem hml)
    refine ⟨q d, e2, h1, ?_, h2, ?_⟩
    · subst ha
      have := List.length_filterMap_le q (ds.take m)
      rw [List.length_take] at this
      omega
    · subst ha
      rw [List.take_add_one, hm, List.filterMap_append]
      congr 1
  rw [h1]
  subst h2
  rw [h3, List.take_length, ← back_wipe, back_self]
/-- one turn gives o, and the rest of the names stay -/
def lcOk (r : R (Option D)) (o : Option D) (vs : List Nat) (env : Env) : Prop := ∃ e2, r = .ok o e2 ∧ wipeE e2 vs = wipeE env vs
theorem lcOk_i {o : Option D} {e2 : Env} {vs : List Nat} {env : Env} (h : wipeE e2 vs = wipeE env vs) : lcOk (.ok o e2) o vs env := ⟨e2, rfl, h⟩
theorem lc_mapO {vs : List Nat} {tg : Tg} {hc : Bool} {tst elt : Env → R U} {ds : List D} {env : Env} (q : D → Option D) (hcalm : (vs.all fun i => calmS (getS env i)) = true) (hl : ds.length ≤ LIM)
    (hs : ∀ d ∈ ds, lcOk (orBad (storeG tg d (wipeE env vs)) (eltT hc tst elt)) (q d) vs env) :
    lcAll vs env (lcD (lcTurn vs tg hc tst elt) ds env []) = .ok (.nw (.lst (ds.filterMap q))) env := lc_map q hcalm hl hs
end PP
end

section
set_option maxHeartbeats 400000
local macro_rules | `(tactic| walk_at "pp") => `(tactic| simp -implicitDefEqProofs only [PP.ev_w0, PP.ev_w1, PP.ev_w2, PP.ev_w3, PP.ev_w4, PP.ev_w5, PP.ev_w6, PP.ev_w7, PP.ev_w8, PP.ev_w9, PP.ev_w10, PP.ev_w11, PP.ev_w12, PP.ev_w13, PP.ev_w14, PP.ev_w15, PP.ev_w16, PP.ev_w17, PP.ev_w18, PP.ev_w19, PP.ev_w20, PP.ev_w21, PP.ev_w22, PP.ev_w23, PP.ev_w24, PP.ev_w25, PP.ev_w26, PP.ev_w27, PP.ev_w28, PP.ev_w29, PP.ev_w30, PP.ev_w31, PP.ev_w32, PP.ev_w33, PP.ev_w34, PP.ev_w35, PP.ev_w36, PP.ev_w37, PP.ev_w38, PP.ev_w39, PP.ev_w40, PP.ev_w41, PP.ev_w42, PP.ev_w43, PP.ev_w44, PP.evF_w0, PP.evF_w1, PP.evF_w2, PP.evR_w0, PP.evR_w1, PP.evR_w2, PP.evC_w0, PP.evC_w1, PP.evC_w2, PP.evC_w3, PP.ex_w0, PP.ex_w1, PP.ex_w2, PP.ex_w3, PP.ex_w4, PP.ex_w5, PP.ex_w6, PP.ex_w7, PP.ex_w8, PP.ex_w9, PP.ex_w10, PP.ex_w11, PP.ex_w12, PP.ex_w13, PP.ex_w14, PP.ex_w15, PP.ex_w16, PP.ex_w17, PP.ex_w18, PP.ex_w19, PP.ex_w20, PP.exs_w0, PP.exs_w1, PP.itD_w0, PP.itD_w1, PP.itD_w2, PP.itD_w3, PP.itD_w4, PP.itD_w5, PP.evT_w, PP.getS_0, PP.getS_s, PP.set_0, PP.set_s, PP.mul_1, PP.mul_m1, PP.fin_ok, PP.fin_exc, PP.finX_s, PP.finO_next, PP.finO_d, PP.finO_nw, PP.rdU_d, PP.rdU_nw, PP.rdU_sl, PP.rdS_fz, PP.rdS_ow, PP.rdS_io, PP.pend_d, PP.pend_nw, PP.pend_sl, PP.fzU_d, PP.fzU_nw, PP.fzU_sl, PP.asgU_d, PP.asgU_nw, PP.asgU_sl, PP.slOf_non, PP.slOf_bl, PP.slOf_int, PP.slOf_str, PP.slOf_tup, PP.slOf_lst, PP.slOf_dK, PP.isLs_ow, PP.isLs_io, PP.retU_d, PP.retU_nw, PP.retU_sl, PP.nrm_non, PP.nrm_bl, PP.nrm_int, PP.nrm_str, PP.nrm_tup, PP.nrm_lst, PP.nrm_dK, PP.setIO_ow, PP.setIO_io, PP.dupF_0, PP.dupF_1, PP.optP_f, PP.optP_t, PP.truD_bl, PP.truD_non, PP.truD_lst, PP.partD_eq, PP.ix_lst_0, PP.ix_lst_1, PP.ix_lst_2, PP.ix_lst_3, PP.ix_lst_4, PP.ix_lst_5, PP.ix_tup_0, PP.ix_tup_1, PP.ix_tup_2, PP.ix_tup_3, PP.ix_tup_4, PP.ix_tup_5, PP.ix_kst_0, PP.ix_kst_1, PP.ix_kst_2, PP.ix_kst_3, PP.ix_kst_4, PP.ix_kst_5, PP.set_l3_1, PP.set_l3_2, PP.bi_int_i, PP.bi_int_b, PP.bi_abs, PP.bi_len_l, PP.bi_len_t, PP.bi_isInt_non, PP.bi_isInt_bl, PP.bi_isInt_int, PP.bi_isInt_str, PP.bi_isInt_tup, PP.bi_isInt_lst, PP.bi_isInt_kst, PP.bi_isInt_dK, PP.bi_isBool_non, PP.bi_isBool_bl, PP.bi_isBool_int, PP.bi_isBool_str, PP.bi_isBool_tup, PP.bi_isBool_lst, PP.bi_isBool_kst, PP.bi_isBool_dK, PP.bi_isTuple_non, PP.bi_isTuple_bl, PP.bi_isTuple_int, PP.bi_isTuple_str, PP.bi_isTuple_tup, PP.bi_isTuple_lst, PP.bi_isTuple_kst, PP.bi_isTuple_dK, PP.bi_isList_non, PP.bi_isList_bl, PP.bi_isList_int, PP.bi_isList_str, PP.bi_isList_tup, PP.bi_isList_lst, PP.bi_isList_kst, PP.bi_isList_dK, PP.bi_isStr_non, PP.bi_isStr_bl, PP.bi_isStr_int, PP.bi_isStr_str, PP.bi_isStr_tup, PP.bi_isStr_lst, PP.bi_isStr_kst, PP.bi_isStr_dK, PP.le_lim, PP.lt_lim, PP.bi_isInt_dT, PP.bi_isBool_dT, PP.bi_isTuple_dT, PP.bi_isList_dT, PP.bi_isStr_dT, PP.pw_10_18, PP.o_gt_i, PP.o_lt_i, PP.o_ge_i, PP.o_le_i, PP.o_add_i, PP.o_sub_i, PP.o_neg_i, PP.o_eq_i, PP.o_ne_i, PP.o_eq_s, PP.o_ne_s, PP.o_eq_b, PP.ne_nil, PP.fldOf_o, PP.fldOf_e, PP.fldD_c, PP.putD_c, PP.putD_n, PP.isObj_o, PP.isObj_e, PP.isObj_non, PP.isObj_bl, PP.isObj_int, PP.isObj_str, PP.isObj_lst, PP.isObj_tup, PP.isObj_kst, PP.isObj_dK, PP.isCls_o, PP.isCls_e, PP.isCls_non, PP.isCls_bl, PP.isCls_int, PP.isCls_str, PP.isCls_lst, PP.isCls_tup, PP.isCls_kst, PP.isCls_dK, PP.runC_eq, PP.makeO_eq, PP.spec_eq, PP.allFz_0, PP.allFz_c, PP.recv_f, PP.recv_t, PP.ownOp_o, PP.ownIn_o, PP.ownNe_o, PP.opc_add, PP.opc_sub, PP.opc_mul, PP.opc_shl, PP.opc_shr, PP.opc_band, PP.opc_bor, PP.opc_lt, PP.opc_le, PP.opc_gt, PP.opc_ge, PP.opc_eq, PP.opc_ne, PP.okR_o, PP.okR_int, PP.okR_bl, PP.okR_non, PP.okR_str, PP.okR_lst, PP.okR_kst, PP.okR_tup, PP.cmp_lt, PP.cmp_le, PP.cmp_gt, PP.cmp_ge, PP.cmp_eq, PP.cmp_ne, PP.cmp_add, PP.cmp_sub, PP.cmp_band, PP.cmp_bor, PP.cmp_shl, PP.cmp_shr, PP.cmp_mul, PP.slOf_obj, PP.nrm_obj, PP.slOf_err, PP.hear_eq, PP.frz_0, PP.frz_c, PP.mask_c, PP.mask_n, PP.maskS_fz, PP.maskS_ow, PP.maskS_io, PP.maskS_un, PP.item_t, PP.item_l, PP.item_k, PP.bi_max2, PP.bi_min2, PP.bi_bool_b, PP.o_shr_i, PP.o_is_n, PP.o_isnot_n, PP.o_is_b, PP.o_isnot_b, PP.o_add_l, PP.o_mul_l, PP.set_l4_0, PP.set_l4_1, PP.set_l4_2, PP.set_l4_3, PP.ask_o, PP.outD_t, PP.outD_e, PP.keep_d, PP.noL_non, PP.noL_int, PP.noL_bl, PP.noL_str, PP.noL_tup, PP.noL_0, PP.noL_c, PP.evJ_0, PP.rv_split, PP.rv_join, PP.rv_ix_l, PP.rv_ix_k, PP.clsN_eq, PP.runF, PP.startE, PP.rdAll, PP.argsOf, PP.ioSlots, PP.putIO, PP.permL, PP.outsOf, PP.storeAll, PP.R.bind_ok, PP.R.bind_exc, PP.R.bind_bad, PP.orBad_some, PP.orBad_none, Int.reduceLE, Int.reduceLT, Int.reduceToNat, Int.reducePow, Int.reduceNeg, Int.reduceAdd, Int.reduceSub, Int.reduceMul, Int.reduceBEq, Int.cast_ofNat_Int, Int.natCast_zero, Int.natCast_one, Int.reduceBNe, Int.reduceEq, Int.reduceDiv, Int.reduceMod, Nat.reduceAdd, Nat.reduceMul, Nat.reduceSub, Nat.reducePow, Nat.reduceLeDiff, Nat.reduceLT, Nat.reduceEqDiff, Nat.reduceBEq, List.cons_append, List.nil_append, List.append_nil, Nat.zero_le, List.head?_cons, List.tail_cons, Option.map_some, Option.map_none, Option.bind_some, Option.bind_none, Bool.not_true, Bool.not_false, Bool.and_self, Bool.and_true, Bool.true_and, Bool.false_and, Bool.and_false, Bool.or_true, Bool.true_or, Bool.or_false, Bool.false_or, Bool.not_not, List.contains_cons, List.contains_nil, BEq.rfl, reduceCtorEq,
  eq_self, and_self, if_true, if_false, ite_true, ite_false, Bool.false_eq_true, reduceIte, List.length_cons, List.length_nil, List.filterMap_cons, List.filterMap_nil, List.getElem?_cons_zero, List.getElem?_cons_succ, List.map_cons, List.map_nil, List.replicate_succ, List.replicate_zero, List.flatten_cons, List.flatten_nil, List.reverse_cons, List.reverse_nil, decide_true, decide_false, Bool.not_eq_true, Bool.not_eq_false, Bool.cond_true, Bool.cond_false])
local macro_rules | `(tactic| walk_at "pq") => `(tactic| simp -implicitDefEqProofs (disch := first | assumption | (with_reducible show (_ : Bool) = _; exact id rfl) | (with_reducible show (_ : Int) < _; omega) | (with_reducible show (_ : Int) ≤ _; omega) | (with_reducible show (_ : Nat) ≤ _; omega) | (with_reducible show (_ : Nat) < _; omega) | exact id (by simp only [PP.wfD, PP.wfL, PP.dpD, PP.dpL, PP.ok_ofS, PP.ok_app, PP.ok_empty, Nat.max_self, Nat.zero_max, Nat.max_zero, Nat.reduceAdd, Nat.reduceLeDiff, Bool.and_self, PP.wf_ints, PP.dp_ints, Bool.and_true, Bool.true_and, *] ; done) | fail) only [*, PP.le_lim, PP.lt_lim, PP.o_shr_i, PP.shl_p, PP.mul_w, PP.fdiv_w, PP.mod_p, PP.pow_p, PP.nrm_mut, PP.bi_len_s, PP.bi_split, PP.op_eq, PP.op_ne, PP.v_str, PP.v_nil, PP.v_cons, PP.v_nc, PP.v_cn, PP.v_tup, PP.v_lst, PP.v_kl, PP.v_lt, PP.v_tl, PP.v_int, PP.v_bl, PP.v_nn, PP.v_nt, PP.v_tn, PP.v_ni, PP.v_in, PP.v_ints, PP.ev_w0, PP.ev_w1, PP.ev_w2, PP.ev_w3, PP.ev_w4, PP.ev_w5, PP.ev_w6, PP.ev_w7, PP.ev_w8, PP.ev_w9, PP.ev_w10, PP.ev_w11, PP.ev_w12, PP.ev_w13, PP.ev_w14, PP.ev_w15, PP.ev_w16, PP.ev_w17, PP.ev_w18, PP.ev_w19, PP.ev_w20, PP.ev_w21, PP.ev_w22, PP.ev_w23, PP.ev_w24, PP.ev_w25, PP.ev_w26, PP.ev_w27, PP.ev_w28, PP.ev_w29, PP.ev_w30, PP.ev_w31, PP.ev_w32, PP.ev_w33, PP.ev_w34, PP.ev_w35, PP.ev_w36, PP.ev_w37, PP.ev_w38, PP.ev_w39, PP.ev_w40, PP.ev_w41, PP.ev_w42, PP.ev_w43, PP.ev_w44, PP.evF_w0, PP.evF_w1, PP.evF_w2, PP.evR_w0, PP.evR_w1, PP.evR_w2, PP.evC_w0, PP.evC_w1, PP.evC_w2, PP.evC_w3, PP.ex_w0, PP.ex_w1, PP.ex_w2, PP.ex_w3, PP.ex_w4, PP.ex_w5, PP.ex_w6, PP.ex_w7, PP.ex_w8, PP.ex_w9, PP.ex_w10, PP.ex_w11, PP.ex_w12, PP.ex_w13, PP.ex_w14, PP.ex_w15, PP.ex_w16, PP.ex_w17, PP.ex_w18, PP.ex_w19, PP.ex_w20, PP.exs_w0, PP.exs_w1, PP.itD_w0, PP.itD_w1, PP.itD_w2, PP.itD_w3, PP.itD_w4, PP.itD_w5, PP.evT_w, PP.getS_0, PP.getS_s, PP.set_0, PP.set_s, PP.mul_1, PP.mul_m1, PP.fin_ok, PP.fin_exc, PP.finX_s, PP.finO_next, PP.finO_d, PP.finO_nw, PP.rdU_d, PP.rdU_nw, PP.rdU_sl, PP.rdS_fz, PP.rdS_ow, PP.rdS_io, PP.pend_d, PP.pend_nw, PP.pend_sl, PP.fzU_d, PP.fzU_nw, PP.fzU_sl, PP.asgU_d, PP.asgU_nw, PP.asgU_sl, PP.slOf_non, PP.slOf_bl, PP.slOf_int, PP.slOf_str, PP.slOf_tup, PP.slOf_lst, PP.slOf_dK, PP.isLs_ow, PP.isLs_io, PP.retU_d, PP.retU_nw, PP.retU_sl, PP.nrm_non, PP.nrm_bl, PP.nrm_int, PP.nrm_str, PP.nrm_tup, PP.nrm_lst, PP.nrm_dK, PP.setIO_ow, PP.setIO_io, PP.dupF_0, PP.dupF_1, PP.optP_f, PP.optP_t, PP.truD_bl, PP.truD_non, PP.truD_lst, PP.partD_eq, PP.ix_lst_0, PP.ix_lst_1, PP.ix_lst_2, PP.ix_lst_3, PP.ix_lst_4, PP.ix_lst_5, PP.ix_tup_0, PP.ix_tup_1, PP.ix_tup_2, PP.ix_tup_3, PP.ix_tup_4, PP.ix_tup_5, PP.ix_kst_0, PP.ix_kst_1, PP.ix_kst_2, PP.ix_kst_3, PP.ix_kst_4, PP.ix_kst_5, PP.set_l3_1, PP.set_l3_2, PP.bi_int_i, PP.bi_int_b, PP.bi_abs, PP.bi_len_l, PP.bi_len_t, PP.bi_isInt_non, PP.bi_isInt_bl, PP.bi_isInt_int, PP.bi_isInt_str, PP.bi_isInt_tup, PP.bi_isInt_lst, PP.bi_isInt_kst, PP.bi_isInt_dK, PP.bi_isBool_non, PP.bi_isBool_bl, PP.bi_isBool_int, PP.bi_isBool_str, PP.bi_isBool_tup, PP.bi_isBool_lst, PP.bi_isBool_kst, PP.bi_isBool_dK, PP.bi_isTuple_non, PP.bi_isTuple_bl, PP.bi_isTuple_int, PP.bi_isTuple_str, PP.bi_isTuple_tup, PP.bi_isTuple_lst, PP.bi_isTuple_kst, PP.bi_isTuple_dK, PP.bi_isList_non, PP.bi_isList_bl, PP.bi_isList_int, PP.bi_isList_str, PP.bi_isList_tup, PP.bi_isList_lst, PP.bi_isList_kst, PP.bi_isList_dK, PP.bi_isStr_non, PP.bi_isStr_bl, PP.bi_isStr_int, PP.bi_isStr_str, PP.bi_isStr_tup, PP.bi_isStr_lst, PP.bi_isStr_kst, PP.bi_isStr_dK, PP.le_lim, PP.lt_lim, PP.bi_isInt_dT, PP.bi_isBool_dT, PP.bi_isTuple_dT, PP.bi_isList_dT, PP.bi_isStr_dT, PP.pw_10_18, PP.o_gt_i, PP.o_lt_i, PP.o_ge_i, PP.o_le_i, PP.o_add_i, PP.o_sub_i, PP.o_neg_i, PP.o_eq_i, PP.o_ne_i, PP.o_eq_s, PP.o_ne_s, PP.o_eq_b, PP.ne_nil, PP.fldOf_o, PP.fldOf_e, PP.fldD_c, PP.putD_c, PP.putD_n, PP.isObj_o, PP.isObj_e, PP.isObj_non, PP.isObj_bl, PP.isObj_int, PP.isObj_str, PP.isObj_lst, PP.isObj_tup, PP.isObj_kst, PP.isObj_dK, PP.isCls_o, PP.isCls_e, PP.isCls_non, PP.isCls_bl, PP.isCls_int, PP.isCls_str, PP.isCls_lst, PP.isCls_tup, PP.isCls_kst, PP.isCls_dK, PP.runC_eq, PP.makeO_eq, PP.spec_eq, PP.allFz_0, PP.allFz_c, PP.recv_f, PP.recv_t, PP.ownOp_o, PP.ownIn_o, PP.ownNe_o, PP.opc_add, PP.opc_sub, PP.opc_mul, PP.opc_shl, PP.opc_shr, PP.opc_band, PP.opc_bor, PP.opc_lt, PP.opc_le, PP.opc_gt, PP.opc_ge, PP.opc_eq, PP.opc_ne, PP.okR_o, PP.okR_int, PP.okR_bl, PP.okR_non, PP.okR_str, PP.okR_lst, PP.okR_kst, PP.okR_tup, PP.cmp_lt, PP.cmp_le, PP.cmp_gt, PP.cmp_ge, PP.cmp_eq, PP.cmp_ne, PP.cmp_add, PP.cmp_sub, PP.cmp_band, PP.cmp_bor, PP.cmp_shl, PP.cmp_shr, PP.cmp_mul, PP.slOf_obj, PP.nrm_obj, PP.slOf_err, PP.hear_eq, PP.frz_0, PP.frz_c, PP.mask_c, PP.mask_n, PP.maskS_fz, PP.maskS_ow, PP.maskS_io, PP.maskS_un, PP.item_t, PP.item_l, PP.item_k, PP.bi_max2, PP.bi_min2, PP.bi_bool_b, PP.o_shr_i, PP.o_is_n, PP.o_isnot_n, PP.o_is_b, PP.o_isnot_b, PP.o_add_l, PP.o_mul_l, PP.set_l4_0, PP.set_l4_1, PP.set_l4_2, PP.set_l4_3, PP.ask_o, PP.outD_t, PP.outD_e, PP.keep_d, PP.noL_non, PP.noL_int, PP.noL_bl, PP.noL_str, PP.noL_tup, PP.noL_0, PP.noL_c, PP.evJ_0, PP.rv_split, PP.rv_join, PP.rv_ix_l, PP.rv_ix_k, PP.clsN_eq, PP.runF, PP.startE, PP.rdAll, PP.argsOf, PP.ioSlots, PP.putIO, PP.permL, PP.outsOf, PP.storeAll, PP.R.bind_ok, PP.R.bind_exc, PP.R.bind_bad, PP.orBad_some, PP.orBad_none, Int.reduceLE, Int.reduceLT, Int.reduceToNat, Int.reducePow, Int.reduceNeg, Int.reduceAdd, Int.reduceSub, Int.reduceMul, Int.reduceBEq, Int.cast_ofNat_Int, Int.natCast_zero, Int.natCast_one, Int.reduceBNe, Int.reduceEq, Int.reduceDiv, Int.reduceMod, Nat.reduceAdd, Nat.reduceMul, Nat.reduceSub, Nat.reducePow, Nat.reduceLeDiff, Nat.reduceLT, Nat.reduceEqDiff, Nat.reduceBEq, List.cons_append, List.nil_append, List.append_nil, Nat.zero_le, List.head?_cons, List.tail_cons, Option.map_some, Option.map_none, Option.bind_some, Option.bind_none, Bool.not_true, Bool.not_false, Bool.and_self, Bool.and_true, Bool.true_and, Bool.false_and, Bool.and_false, Bool.or_true, Bool.true_or, Bool.or_false, Bool.false_or, Bool.not_not, List.contains_cons, List.contains_nil, BEq.rfl, reduceCtorEq,
  eq_self, and_self, if_true, if_false, ite_true, ite_false, Bool.false_eq_true, reduceIte, List.length_cons, List.length_nil, List.filterMap_cons, List.filterMap_nil, List.getElem?_cons_zero, List.getElem?_cons_succ, List.map_cons, List.map_nil, List.replicate_succ, List.replicate_zero, List.flatten_cons, List.flatten_nil, List.reverse_cons, List.reverse_nil, decide_true, decide_false, Bool.not_eq_true, Bool.not_eq_false, Bool.cond_true, Bool.cond_false])
local macro_rules | `(tactic| walk_at "px") => `(tactic| simp -implicitDefEqProofs (disch := first | assumption | (with_reducible show (_ : Bool) = _; exact id rfl) | (with_reducible show (_ : Int) < _; omega) | (with_reducible show (_ : Int) ≤ _; omega) | (with_reducible show (_ : Nat) ≤ _; omega) | (with_reducible show (_ : Nat) < _; omega) | fail) only [*, PP.le_lim, PP.lt_lim, PP.o_shr_i, PP.shl_p, PP.mul_w, PP.fdiv_w, PP.mod_p, PP.pow_p, PP.nrm_mut, PP.bi_len_s, PP.bi_split, PP.ev_w0, PP.ev_w1, PP.ev_w2, PP.ev_w3, PP.ev_w4, PP.ev_w5, PP.ev_w6, PP.ev_w7, PP.ev_w8, PP.ev_w9, PP.ev_w10, PP.ev_w11, PP.ev_w12, PP.ev_w13, PP.ev_w14, PP.ev_w15, PP.ev_w16, PP.ev_w17, PP.ev_w18, PP.ev_w19, PP.ev_w20, PP.ev_w21, PP.ev_w22, PP.ev_w23, PP.ev_w24, PP.ev_w25, PP.ev_w26, PP.ev_w27, PP.ev_w28, PP.ev_w29, PP.ev_w30, PP.ev_w31, PP.ev_w32, PP.ev_w33, PP.ev_w34, PP.ev_w35, PP.ev_w36, PP.ev_w37, PP.ev_w38, PP.ev_w39, PP.ev_w40, PP.ev_w41, PP.ev_w42, PP.ev_w43, PP.ev_w44, PP.evF_w0, PP.evF_w1, PP.evF_w2, PP.evR_w0, PP.evR_w1, PP.evR_w2, PP.evC_w0, PP.evC_w1, PP.evC_w2, PP.evC_w3, PP.ex_w0, PP.ex_w1, PP.ex_w2, PP.ex_w3, PP.ex_w4, PP.ex_w5, PP.ex_w6, PP.ex_w7, PP.ex_w8, PP.ex_w9, PP.ex_w10, PP.ex_w11, PP.ex_w12, PP.ex_w13, PP.ex_w14, PP.ex_w15, PP.ex_w16, PP.ex_w17, PP.ex_w18, PP.ex_w19, PP.ex_w20, PP.exs_w0, PP.exs_w1, PP.itD_w0, PP.itD_w1, PP.itD_w2, PP.itD_w3, PP.itD_w4, PP.itD_w5, PP.evT_w, PP.getS_0, PP.getS_s, PP.set_0, PP.set_s, PP.mul_1, PP.mul_m1, PP.fin_ok, PP.fin_exc, PP.finX_s, PP.finO_next, PP.finO_d, PP.finO_nw, PP.rdU_d, PP.rdU_nw, PP.rdU_sl, PP.rdS_fz, PP.rdS_ow, PP.rdS_io, PP.pend_d, PP.pend_nw, PP.pend_sl, PP.fzU_d, PP.fzU_nw, PP.fzU_sl, PP.asgU_d, PP.asgU_nw, PP.asgU_sl, PP.slOf_non, PP.slOf_bl, PP.slOf_int, PP.slOf_str, PP.slOf_tup, PP.slOf_lst, PP.slOf_dK, PP.isLs_ow, PP.isLs_io, PP.retU_d, PP.retU_nw, PP.retU_sl, PP.nrm_non, PP.nrm_bl, PP.nrm_int, PP.nrm_str, PP.nrm_tup, PP.nrm_lst, PP.nrm_dK, PP.setIO_ow, PP.setIO_io, PP.dupF_0, PP.dupF_1, PP.optP_f, PP.optP_t, PP.truD_bl, PP.truD_non, PP.truD_lst, PP.partD_eq, PP.ix_lst_0, PP.ix_lst_1, PP.ix_lst_2, PP.ix_lst_3, PP.ix_lst_4, PP.ix_lst_5, PP.ix_tup_0, PP.ix_tup_1, PP.ix_tup_2, PP.ix_tup_3, PP.ix_tup_4, PP.ix_tup_5, PP.ix_kst_0, PP.ix_kst_1, PP.ix_kst_2, PP.ix_kst_3, PP.ix_kst_4, PP.ix_kst_5, PP.set_l3_1, PP.set_l3_2, PP.bi_int_i, PP.bi_int_b, PP.bi_abs, PP.bi_len_l, PP.bi_len_t, PP.bi_isInt_non, PP.bi_isInt_bl, PP.bi_isInt_int, PP.bi_isInt_str, PP.bi_isInt_tup, PP.bi_isInt_lst, PP.bi_isInt_kst, PP.bi_isInt_dK, PP.bi_isBool_non, PP.bi_isBool_bl, PP.bi_isBool_int, PP.bi_isBool_str, PP.bi_isBool_tup, PP.bi_isBool_lst, PP.bi_isBool_kst, PP.bi_isBool_dK, PP.bi_isTuple_non, PP.bi_isTuple_bl, PP.bi_isTuple_int, PP.bi_isTuple_str, PP.bi_isTuple_tup, PP.bi_isTuple_lst, PP.bi_isTuple_kst, PP.bi_isTuple_dK, PP.bi_isList_non, PP.bi_isList_bl, PP.bi_isList_int, PP.bi_isList_str, PP.bi_isList_tup, PP.bi_isList_lst, PP.bi_isList_kst, PP.bi_isList_dK, PP.bi_isStr_non, PP.bi_isStr_bl, PP.bi_isStr_int, PP.bi_isStr_str, PP.bi_isStr_tup, PP.bi_isStr_lst, PP.bi_isStr_kst, PP.bi_isStr_dK, PP.le_lim, PP.lt_lim, PP.bi_isInt_dT, PP.bi_isBool_dT, PP.bi_isTuple_dT, PP.bi_isList_dT, PP.bi_isStr_dT, PP.pw_10_18, PP.o_gt_i, PP.o_lt_i, PP.o_ge_i, PP.o_le_i, PP.o_add_i, PP.o_sub_i, PP.o_neg_i, PP.o_eq_i, PP.o_ne_i, PP.o_eq_s, PP.o_ne_s, PP.o_eq_b, PP.ne_nil, PP.fldOf_o, PP.fldOf_e, PP.fldD_c, PP.putD_c, PP.putD_n, PP.isObj_o, PP.isObj_e, PP.isObj_non, PP.isObj_bl, PP.isObj_int, PP.isObj_str, PP.isObj_lst, PP.isObj_tup, PP.isObj_kst, PP.isObj_dK, PP.isCls_o, PP.isCls_e, PP.isCls_non, PP.isCls_bl, PP.isCls_int, PP.isCls_str, PP.isCls_lst, PP.isCls_tup, PP.isCls_kst, PP.isCls_dK, PP.runC_eq, PP.makeO_eq, PP.spec_eq, PP.allFz_0, PP.allFz_c, PP.recv_f, PP.recv_t, PP.ownOp_o, PP.ownIn_o, PP.ownNe_o, PP.opc_add, PP.opc_sub, PP.opc_mul, PP.opc_shl, PP.opc_shr, PP.opc_band, PP.opc_bor, PP.opc_lt, PP.opc_le, PP.opc_gt, PP.opc_ge, PP.opc_eq, PP.opc_ne, PP.okR_o, PP.okR_int, PP.okR_bl, PP.okR_non, PP.okR_str, PP.okR_lst, PP.okR_kst, PP.okR_tup, PP.cmp_lt, PP.cmp_le, PP.cmp_gt, PP.cmp_ge, PP.cmp_eq, PP.cmp_ne, PP.cmp_add, PP.cmp_sub, PP.cmp_band, PP.cmp_bor, PP.cmp_shl, PP.cmp_shr, PP.cmp_mul, PP.slOf_obj, PP.nrm_obj, PP.slOf_err, PP.hear_eq, PP.frz_0, PP.frz_c, PP.mask_c, PP.mask_n, PP.maskS_fz, PP.maskS_ow, PP.maskS_io, PP.maskS_un, PP.item_t, PP.item_l, PP.item_k, PP.bi_max2, PP.bi_min2, PP.bi_bool_b, PP.o_shr_i, PP.o_is_n, PP.o_isnot_n, PP.o_is_b, PP.o_isnot_b, PP.o_add_l, PP.o_mul_l, PP.set_l4_0, PP.set_l4_1, PP.set_l4_2, PP.set_l4_3, PP.ask_o, PP.outD_t, PP.outD_e, PP.keep_d, PP.noL_non, PP.noL_int, PP.noL_bl, PP.noL_str, PP.noL_tup, PP.noL_0, PP.noL_c, PP.evJ_0, PP.rv_split, PP.rv_join, PP.rv_ix_l, PP.rv_ix_k, PP.clsN_eq, PP.runF, PP.startE, PP.rdAll, PP.argsOf, PP.ioSlots, PP.putIO, PP.permL, PP.outsOf, PP.storeAll, PP.R.bind_ok, PP.R.bind_exc, PP.R.bind_bad, PP.orBad_some, PP.orBad_none, Int.reduceLE, Int.reduceLT, Int.reduceToNat, Int.reducePow, Int.reduceNeg, Int.reduceAdd, Int.reduceSub, Int.reduceMul, Int.reduceBEq, Int.cast_ofNat_Int, Int.natCast_zero, Int.natCast_one, Int.reduceBNe, Int.reduceEq, Int.reduceDiv, Int.reduceMod, Nat.reduceAdd, Nat.reduceMul, Nat.reduceSub, Nat.reducePow, Nat.reduceLeDiff, Nat.reduceLT, Nat.reduceEqDiff, Nat.reduceBEq, List.cons_append, List.nil_append, List.append_nil, Nat.zero_le, List.head?_cons, List.tail_cons, Option.map_some, Option.map_none, Option.bind_some, Option.bind_none, Bool.not_true, Bool.not_false, Bool.and_self, Bool.and_true, Bool.true_and, Bool.false_and, Bool.and_false, Bool.or_true, Bool.true_or, Bool.or_false, Bool.false_or, Bool.not_not, List.contains_cons, List.contains_nil, BEq.rfl, reduceCtorEq,
  eq_self, and_self, if_true, if_false, ite_true, ite_false, Bool.false_eq_true, reduceIte, List.length_cons, List.length_nil, List.filterMap_cons, List.filterMap_nil, List.getElem?_cons_zero, List.getElem?_cons_succ, List.map_cons, List.map_nil, List.replicate_succ, List.replicate_zero, List.flatten_cons, List.flatten_nil, List.reverse_cons, List.reverse_nil, decide_true, decide_false, Bool.not_eq_true, Bool.not_eq_false, Bool.cond_true, Bool.cond_false])
namespace PP
open PySem L2
/-! specs: number_in -/
def optI : Option Int → D | none => .non | some v => .int v
abbrev lim40 : Int := 10000000000000000000000000000000000000000
theorem small40 {i : Int} (h0 : 0 ≤ i) (h : i < lim40) : smI i := ⟨by omega, by unfold lim40 at h; omega⟩
abbrev charsD (z : Str) : List D := z.cps.toList.map fun c => .str ⟨#[c]⟩
theorem chars_len (z : Str) : (charsD z).length = z.length := by rw [List.length_map, len_tl]
def dqA : D → Option D
  | .str w => match w.cps.toList with
    | [c] => some (.bl (isDig c))
    | _ => none
  | _ => none
theorem dqA_map (cs : List Nat) : (cs.map fun c => D.str ⟨#[c]⟩).filterMap dqA = (cs.map isDig).map .bl := by
  induction cs with
  | nil => rfl
  | cons c r ih => rw [List.map_cons, List.filterMap_cons, show dqA (.str ⟨#[c]⟩) = some (.bl (isDig c)) from rfl]; simp only [ih]; rfl
theorem bls_map : ∀ bs : List Bool, blsD (bs.map .bl) = some bs
  | [] => rfl
  | b :: r => by simp only [List.map_cons, blsD, bls_map r, Option.map_some]
theorem bi_all (bs : List Bool) : biD .all [.lst (bs.map .bl)] = some (.bl (bs.all id)) := by
  show (blsD _).map _ = _
  rw [bls_map]
  rfl
theorem in_dig (c : Nat) : op2 .isin (.str ⟨#[c]⟩) (.str "0123456789") = some (.bl (isDig c)) := rfl
theorem all_dig (z : Str) : (z.cps.toList.map isDig).all id = digS z := by
  unfold digS
  rw [List.all_map]
  rfl
abbrev S_number_in (g : Gf) : Prop := ∀ z lo hi, z.length ≤ 100000 → 0 ≤ lo → 0 ≤ hi → hi < 10000000000000000000000000000000000000000 → g [.fz (.str z), .fz (.int lo), .fz (.int hi)] = .ok (.d (optI (numOf z lo hi))) []
theorem one_ne {c : Nat} (h : c ≠ 48) : ¬ ((⟨#[c]⟩ : Str) = "0") := fun e => h (by
  have := congrArg (fun x : Str => x.cps.toList) e
  exact (List.cons.inj this).1)
theorem emp_app (y : Str) : Str.empty ++ y = y := TL.ext_tl (by rw [TL.tl_append]; rfl)
theorem number_in_ok {cl : CallF} : S_number_in (runF cl F_number_in) := by
  intro z lo hi hz h0 hh hl
  simp only [F_number_in]
  by_cases he : z = ""
  · subst he
    rw [num_empty h0]
    walk_at "px"
    rfl
  have hs := small40 hh hl
  have f2 := fmt_int hs
  have e0 : Str.empty.length = 0 := rfl
  have hT40 : (Str.ofString (toString hi)).length ≤ 40 := T_len40 hh hl
  walk_at "px"
  rw [evJ_s rfl rfl f2 (by simp only [len_app, e0]; omega), emp_app]
  have hT : (Str.ofString (toString hi)).length ≤ 100000 := by omega
  walk_at "px"
  by_cases hL : (Str.ofString (toString hi)).length < z.length
  · rw [num_long h0 hL]
    have hL' : ((Str.ofString (toString hi)).length : Int) < (z.length : Int) := by omega
    walk_at "px"
    rfl
  have hL' : ¬ ((Str.ofString (toString hi)).length : Int) < (z.length : Int) := by omega
  walk_at "px"
  rw [lc_map dqA rfl (by rw [chars_len]; exact hz) (fun d hd => by
    obtain ⟨c, _, rfl⟩ := List.mem_map.mp hd
    refine ⟨[.fz (.str z), .fz (.int lo), .fz (.int hi), .fz (.str ⟨#[c]⟩)], ?_, rfl⟩
    simp only [storeG, wipeE]
    walk_at "px"
    simp only [eltT]
    walk_at "px"
    rw [in_dig]
    walk_at "px"
    rfl), dqA_map]
  walk_at "px"
  rw [bi_all, all_dig]
  cases hd : digS z with
  | false =>
    rw [num_digs h0 hd]
    walk_at "px"
    rfl
  | true =>
    walk_at "px"
    cases hc : z.cps.toList with
    | nil => exact absurd (TL.ext_tl hc) he
    | cons c r =>
      rw [ix_str hz hc]
      have hz640 : z.length ≤ 640 := by omega
      by_cases h48 : c = 48
      · subst h48
        have h1 : ((⟨#[48]⟩ : Str) = "0") := rfl
        by_cases hq : z = "0"
        · obtain ⟨v, hv0, hv, hvT⟩ := num_dig hd he (fun _ _ => hq) (by omega)
          have hi1 := bi_int_s hz640 hv
          have hn := num_val (lo := lo) (hi := hi) hv
          simp only [← hvT, and_true] at hn
          rw [hn]
          clear hvT
          rw [hq] at hi1
          walk_at "px"
          by_cases hlo : lo ≤ v
          · by_cases hhi : v ≤ hi
            · walk_at "px"
              rfl
            · walk_at "px"
              rfl
          · walk_at "px"
            rfl
        · rw [num_zero h0 hc hq]
          walk_at "px"
          rfl
      · have h1 := one_ne h48
        obtain ⟨v, hv0, hv, hvT⟩ := num_dig hd he (fun r' e => absurd (List.cons.inj (hc.symm.trans e)).1 h48) (by omega)
        have hi1 := bi_int_s hz640 hv
        have hn := num_val (lo := lo) (hi := hi) hv
        simp only [← hvT, and_true] at hn
        rw [hn]
        clear hvT
        walk_at "px"
        by_cases hlo : lo ≤ v
        · by_cases hhi : v ≤ hi
          · walk_at "px"
            rfl
          · walk_at "px"
            rfl
        · walk_at "px"
          rfl
/-! specs: box_numbers, Box.read -/
abbrev eTxt (l w : Int) : Exn := (6, [7, 6], [.int w, .int l])
def wordAt (ws : List Str) (n : Nat) : Str := (ws[n]?).getD ""
def nA (ws : List Str) (n : Nat) : Option Int := numOf (wordAt ws n) (if n < 2 then 0 else 1) (if n < 2 then 1267650600228229401496703205375 else 1267650600228229401496703205376)
theorem nA_out {ws : List Str} {n : Nat} (h : ¬ n < ws.length) : nA ws n = none := by
  unfold nA wordAt
  rw [List.getElem?_eq_none (by omega), Option.getD_none]
  exact num_empty (by split <;> decide)
theorem nA_0 {ws : List Str} {w : Str} (h : ws[0]? = some w) : nA ws 0 = numOf w 0 1267650600228229401496703205375 := by unfold nA wordAt; rw [h]; rfl
theorem nA_1 {ws : List Str} {w : Str} (h : ws[1]? = some w) : nA ws 1 = numOf w 0 1267650600228229401496703205375 := by unfold nA wordAt; rw [h]; rfl
theorem nA_2 {ws : List Str} {w : Str} (h : ws[2]? = some w) : nA ws 2 = numOf w 1 1267650600228229401496703205376 := by unfold nA wordAt; rw [h]; rfl
theorem nA_3 {ws : List Str} {w : Str} (h : ws[3]? = some w) : nA ws 3 = numOf w 1 1267650600228229401496703205376 := by unfold nA wordAt; rw [h]; rfl
theorem ix_ws {ws : List Str} {n : Nat} {w : Str} (h : ws[n]? = some w) : ixD (.lst (ws.map D.str)) (.int (n : Int)) = some (.str w) := atI_c _ n _ (by rw [List.getElem?_map, h]; rfl)
def rdB (ws : List Str) : Nat ⊕ (Int × Int × Int × Int) := match nA ws 0 with
  | none => .inl 0
  | some x => match nA ws 1 with
    | none => .inl 1
    | some y => match nA ws 2 with
      | none => .inl 2
      | some w => match nA ws 3 with
        | none => .inl 3
        | some h => .inr (x, y, w, h)
abbrev S_box_numbers (g : Gf) : Prop := ∀ ws : List Str, (∀ w ∈ ws, w.length ≤ 100000) → g [.fz (.lst (ws.map D.str)), .fz (.int 0), .fz (.int 0)] = match rdB ws with
  | .inl n => .exc (eTxt 0 n) []
  | .inr (x, y, w, h) => .ok (.nw (.lst [.int x, .int y, .int w, .int h])) []
theorem forD_c {body : Env → R Fl} {i : Nat} {d : D} {r : List D} {env : Env} : forD body i (d :: r) env = (body (env.set i (.fz d))).bind fun fl env1 => match fl with
  | .next => forD body i r env1
  | .cont => forD body i r env1
  | .brk => .ok .next env1
  | .ret u => .ok (.ret u) env1 := rfl
theorem forD_n {body : Env → R Fl} {i : Nat} {env : Env} : forD body i [] env = .ok .next env := rfl
theorem optI_n : optI none = .non := rfl
theorem optI_s (v : Int) : optI (some v) = .int v := rfl
theorem get_lt {ws : List Str} {n : Nat} (h : n < ws.length) (hw : ∀ w ∈ ws, w.length ≤ 100000) : ∃ w, ws[n]? = some w ∧ w.length ≤ 100000 := ⟨ws[n], List.getElem?_eq_getElem h, hw _ (List.getElem_mem h)⟩
theorem box_numbers_ok {cl : CallF} (h10 : S_number_in (cl 10)) : S_box_numbers (runF cl F_box_numbers) := by
  intro ws hw
  simp only [F_box_numbers]
  walk_at "px"
  rw [show ((List.range 4).map fun k => D.int ((k : Nat) : Int)) = [.int 0, .int 1, .int 2, .int 3] from rfl]
  have hlen : ((ws.map D.str).length : Int) = ws.length := by rw [List.length_map]
  unfold rdB
  rw [forD_c]
  by_cases h0 : 0 < ws.length
  rotate_left
  · rw [nA_out h0]
    have h0' : ¬ (0 : Int) < (ws.length : Int) := by omega
    have hn := h10 "" 0 1267650600228229401496703205375 (by decide) (by decide) (by decide) (by decide)
    rw [num_empty (by decide), optI_n] at hn
    walk_at "px"
    try simp only [optI_n]
    try walk_at "px"
    try rfl
  obtain ⟨w0, e0, l0⟩ := get_lt h0 hw
  rw [nA_0 e0]
  have i0 : ixD (.lst (ws.map D.str)) (.int 0) = some (.str w0) := ix_ws e0
  have h0' : (0 : Int) < (ws.length : Int) := by omega
  have c0 := h10 w0 0 1267650600228229401496703205375 l0 (by decide) (by decide) (by decide)
  cases q0 : numOf w0 0 1267650600228229401496703205375 with
  | none =>
    rw [q0, optI_n] at c0
    walk_at "px"
    try simp only [optI_n]
    try walk_at "px"
    try rfl
  | some v0 =>
  rw [q0, optI_s] at c0
  walk_at "px"
  simp only [optI_s]
  walk_at "px"
  rw [forD_c]
  by_cases h1 : 1 < ws.length
  rotate_left
  · rw [nA_out h1]
    have h1' : ¬ (1 : Int) < (ws.length : Int) := by omega
    have hn := h10 "" 0 1267650600228229401496703205375 (by decide) (by decide) (by decide) (by decide)
    rw [num_empty (by decide), optI_n] at hn
    walk_at "px"
    try simp only [optI_n]
    try walk_at "px"
    try rfl
  obtain ⟨w1, e1, l1⟩ := get_lt h1 hw
  rw [nA_1 e1]
  have i1 : ixD (.lst (ws.map D.str)) (.int 1) = some (.str w1) := ix_ws e1
  have h1' : (1 : Int) < (ws.length : Int) := by omega
  have c1 := h10 w1 0 1267650600228229401496703205375 l1 (by decide) (by decide) (by decide)
  cases q1 : numOf w1 0 1267650600228229401496703205375 with
  | none =>
    rw [q1, optI_n] at c1
    walk_at "px"
    try simp only [optI_n]
    try walk_at "px"
    try rfl
  | some v1 =>
  rw [q1, optI_s] at c1
  walk_at "px"
  simp only [optI_s]
  walk_at "px"
  rw [forD_c]
  by_cases h2 : 2 < ws.length
  rotate_left
  · rw [nA_out h2]
    have h2' : ¬ (2 : Int) < (ws.length : Int) := by omega
    have hn := h10 "" 1 1267650600228229401496703205376 (by decide) (by decide) (by decide) (by decide)
    rw [num_empty (by decide), optI_n] at hn
    walk_at "px"
    try simp only [optI_n]
    try walk_at "px"
    try rfl
  obtain ⟨w2, e2, l2⟩ := get_lt h2 hw
  rw [nA_2 e2]
  have i2 : ixD (.lst (ws.map D.str)) (.int 2) = some (.str w2) := ix_ws e2
  have h2' : (2 : Int) < (ws.length : Int) := by omega
  have c2 := h10 w2 1 1267650600228229401496703205376 l2 (by decide) (by decide) (by decide)
  cases q2 : numOf w2 1 1267650600228229401496703205376 with
  | none =>
    rw [q2, optI_n] at c2
    walk_at "px"
    try simp only [optI_n]
    try walk_at "px"
    try rfl
  | some v2 =>
  rw [q2, optI_s] at c2
  walk_at "px"
  simp only [optI_s]
  walk_at "px"
  rw [forD_c]
  by_cases h3 : 3 < ws.length
  rotate_left
  · rw [nA_out h3]
    have h3' : ¬ (3 : Int) < (ws.length : Int) := by omega
    have hn := h10 "" 1 1267650600228229401496703205376 (by decide) (by decide) (by decide) (by decide)
    rw [num_empty (by decide), optI_n] at hn
    walk_at "px"
    try simp only [optI_n]
    try walk_at "px"
    try rfl
  obtain ⟨w3, e3, l3⟩ := get_lt h3 hw
  rw [nA_3 e3]
  have i3 : ixD (.lst (ws.map D.str)) (.int 3) = some (.str w3) := ix_ws e3
  have h3' : (3 : Int) < (ws.length : Int) := by omega
  have c3 := h10 w3 1 1267650600228229401496703205376 l3 (by decide) (by decide) (by decide)
  cases q3 : numOf w3 1 1267650600228229401496703205376 with
  | none =>
    rw [q3, optI_n] at c3
    walk_at "px"
    try simp only [optI_n]
    try walk_at "px"
    try rfl
  | some v3 =>
  rw [q3, optI_s] at c3
  walk_at "px"
  simp only [optI_s]
  walk_at "px"
  rw [forD_n]
  walk_at "px"
  try rfl
abbrev spW (z : Str) : List Str := Txt.split z " "
def rdX (z : Str) : RC := match rdB (spW z) with
  | .inl n => .exc (eTxt 0 n) []
  | .inr (x, y, w, h) => if 4 < (spW z).length then .exc (eTxt 0 4) [] else .ok (.nw (boxD x y w h)) []
theorem spl_le (S : List Nat) : ∀ (cs : List Nat) (k : Nat) (acc : List Nat), ∀ p ∈ TL.spl S k acc cs, p.length ≤ acc.length + cs.length
  | [], k, acc, p, h => by
    have h : p ∈ [acc] := by cases k <;> exact h
    rw [List.mem_singleton.mp h]
    omega
  | c :: r, 0, acc, p, h => by
    simp only [TL.spl] at h
    split at h
    · rcases List.mem_cons.mp h with rfl | h
      · omega
      · have := spl_le S r _ [] p h
        simp only [List.length_cons, List.length_nil] at this ⊢
        omega
    · have := spl_le S r 0 (acc ++ [c]) p h
      simp only [List.length_append, List.length_cons, List.length_nil] at this ⊢
      omega
  | c :: r, k + 1, acc, p, h => by
    have := spl_le S r k acc p h
    simp only [List.length_cons]
    omega
theorem sp_eq (z : Str) : spW z = (TL.spl [32] 0 [] z.cps.toList).map SX.S := by
  have := SX.split_S (a := z.cps.toList) (b := [32]) (by simp) (by decide)
  rw [SX.S_tl] at this
  exact this
theorem split_le (z : Str) : ∀ w ∈ spW z, w.length ≤ z.length := by
  intro w hw
  rw [sp_eq] at hw
  obtain ⟨p, hp, rfl⟩ := List.mem_map.mp hw
  have := spl_le _ _ _ _ p hp
  rw [SX.S_len, len_tl]
  simpa using this
theorem rdB_bad {ws : List Str} {x y w h : Int} (e : rdB ws = .inr (x, y, w, h)) : boxBad (.int x) (.int y) (.int w) (.int h) = none := by
  unfold rdB nA at e
  cases h0 : numOf (wordAt ws 0) (if 0 < 2 then 0 else 1) (if 0 < 2 then 1267650600228229401496703205375 else 1267650600228229401496703205376) with
  | none => rw [h0] at e; cases e
  | some x' =>
  rw [h0] at e
  cases h1 : numOf (wordAt ws 1) (if 1 < 2 then 0 else 1) (if 1 < 2 then 1267650600228229401496703205375 else 1267650600228229401496703205376) with
  | none => rw [h1] at e; cases e
  | some y' =>
  rw [h1] at e
  cases h2 : numOf (wordAt ws 2) (if 2 < 2 then 0 else 1) (if 2 < 2 then 1267650600228229401496703205375 else 1267650600228229401496703205376) with
  | none => rw [h2] at e; cases e
  | some w' =>
  rw [h2] at e
  cases h3 : numOf (wordAt ws 3) (if 3 < 2 then 0 else 1) (if 3 < 2 then 1267650600228229401496703205375 else 1267650600228229401496703205376) with
  | none => rw [h3] at e; cases e
  | some h' =>
  rw [h3] at e
  cases e
  obtain ⟨a0, b0, _⟩ := num_some h0
  obtain ⟨a1, b1, _⟩ := num_some h1
  obtain ⟨a2, b2, _⟩ := num_some h2
  obtain ⟨a3, b3, _⟩ := num_some h3
  simp only [Nat.reduceLT, if_true, if_false] at a0 b0 a1 b1 a2 b2 a3 b3
  simp only [boxBad, btw, a0, b0, a1, b1, a2, b2, a3, b3, decide_true, Bool.and_self]
abbrev S_read (g : Gf) : Prop := (∀ d, isClsD d = false → (∀ z, d ≠ .str z) → g [.fz (.cls 5), .fz d] = .exc (eTxt 0 0) []) ∧ ∀ z : Str, z.length ≤ 100000 → g [.fz (.cls 5), .fz (.str z)] = rdX z
theorem read_ok {cl : CallF} (h11 : S_box_numbers (cl 11)) (hB : S_box_init (cl 6000)) : S_read (runF cl F_Box_read) := by
  refine ⟨fun d h1 h2 => ?_, fun z hz => ?_⟩
  · simp only [F_Box_read]
    cases d with
    | str z => exact absurd rfl (h2 z)
    | cls _ => cases h1
    | _ => walk_at "px"; try rfl
  · simp only [F_Box_read]
    walk_at "px"
    unfold rdX
    have h := h11 (spW z) fun w hw => Nat.le_trans (split_le z w hw) hz
    cases e : rdB (spW z) with
    | inl n =>
      rw [e] at h
      simp only at h
      walk_at "px"
      try rfl
    | inr q =>
      obtain ⟨x, y, w, hh⟩ := q
      rw [e] at h
      simp only at h
      have hb := rdB_bad e
      have hlen : (((spW z).map D.str).length : Int) = (spW z).length := by rw [List.length_map]
      walk_at "px"
      by_cases hl : 4 < (spW z).length
      · have hl' : (4 : Int) < ((spW z).length : Int) := by omega
        walk_at "px"
        try rfl
      · have hl' : ¬ (4 : Int) < ((spW z).length : Int) := by omega
        walk_at "px"
        try rfl
end PP
end

section
set_option maxHeartbeats 400000
namespace PP
open PySem L2
/-! texts of boxes: written, split, read -/
abbrev spc : Str := Str.ofString " "
theorem tl_spc : TL.tl spc = [32] := by rw [TL.tl_ofString]; rfl
theorem nosp_T {v : Int} (h : 0 ≤ v) : 32 ∉ TL.tl (T v) := by
  intro hm
  have := T_dig h
  unfold digS at this
  rw [List.all_eq_true] at this
  have := this 32 hm
  rw [isDig_iff] at this
  omega
theorem join4 (a b c d : Str) : Txt.join spc [a, b, c, d] = Str.empty ++ a ++ spc ++ b ++ spc ++ c ++ spc ++ d := by
  rw [TL.join_eq]
  refine TL.ext_tl ?_
  rw [TL.tl_join]
  simp only [List.map_cons, List.map_nil, TL.joinL, TL.tl_append, List.append_assoc]
  rfl
theorem join_tx (x y w h : Int) : Txt.join spc [T x, T y, T w, T h] = txB x y w h := join4 _ _ _ _
theorem split4 {a b c d : Str} (ha : 32 ∉ TL.tl a) (hb : 32 ∉ TL.tl b) (hc : 32 ∉ TL.tl c) (hd : 32 ∉ TL.tl d) : spW (Str.empty ++ a ++ spc ++ b ++ spc ++ c ++ spc ++ d) = [a, b, c, d] := by
  rw [← join4]
  refine TL.split_join (s := 32) (S := []) tl_spc (by decide +kernel) (by simp) fun p hp => ?_
  simp only [List.mem_cons, List.not_mem_nil, or_false] at hp
  rcases hp with rfl | rfl | rfl | rfl <;> assumption
theorem spW_tx {x y w h : Int} (hx : 0 ≤ x) (hy : 0 ≤ y) (hw : 0 ≤ w) (hh : 0 ≤ h) : spW (txB x y w h) = [T x, T y, T w, T h] := split4 (nosp_T hx) (nosp_T hy) (nosp_T hw) (nosp_T hh)
theorem join_spW (z : Str) : Txt.join spc (spW z) = z := by
  rw [TL.join_eq]
  exact PySem.StrLaws.join_split z spc
def okN (x y w h : Int) : Prop := (0 ≤ x ∧ x ≤ 1267650600228229401496703205375) ∧ (0 ≤ y ∧ y ≤ 1267650600228229401496703205375) ∧ (1 ≤ w ∧ w ≤ 1267650600228229401496703205376) ∧ (1 ≤ h ∧ h ≤ 1267650600228229401496703205376)
theorem okN.bad {x y w h : Int} (k : okN x y w h) : boxBad (.int x) (.int y) (.int w) (.int h) = none := by
  obtain ⟨⟨a, b⟩, ⟨c, d⟩, ⟨e, f⟩, ⟨g, i⟩⟩ := k
  simp only [boxBad, btw, a, b, c, d, e, f, g, i, decide_true, Bool.and_self]
theorem rdB_tx {x y w h : Int} (k : okN x y w h) : rdB [T x, T y, T w, T h] = .inr (x, y, w, h) := by
  obtain ⟨⟨a, b⟩, ⟨c, d⟩, ⟨e, f⟩, ⟨g, i⟩⟩ := k
  unfold rdB
  rw [nA_0 rfl, nA_1 rfl, nA_2 rfl, nA_3 rfl, num_T a (by omega) a b, num_T c (by omega) c d, num_T (by omega) (by omega) e f, num_T (by omega) (by omega) g i]
theorem rdX_tx {x y w h : Int} (k : okN x y w h) : rdX (txB x y w h) = .ok (.nw (boxD x y w h)) [] := by
  have k' := k
  obtain ⟨⟨a, b⟩, ⟨c, d⟩, ⟨e, f⟩, ⟨g, i⟩⟩ := k'
  unfold rdX
  rw [spW_tx a c (by omega) (by omega), rdB_tx k]
  rfl
theorem nA_some {ws : List Str} {n : Nat} {v : Int} (h : nA ws n = some v) : n < ws.length ∧ ws[n]? = some (T v) := by
  by_cases hn : n < ws.length
  · refine ⟨hn, ?_⟩
    unfold nA wordAt at h
    rw [List.getElem?_eq_getElem hn] at h ⊢
    obtain ⟨_, _, e⟩ := num_some h
    exact congrArg some e
  · rw [nA_out hn] at h
    cases h
theorem nA_num {ws : List Str} {n : Nat} {v : Int} (h : nA ws n = some v) : (if n < 2 then 0 else 1) ≤ v ∧ v ≤ if n < 2 then 1267650600228229401496703205375 else 1267650600228229401496703205376 := by
  unfold nA at h
  obtain ⟨a, b, _⟩ := num_some h
  exact ⟨a, b⟩
/-- what is read is written just so -/
theorem rdB_inr {ws : List Str} {x y w h : Int} (e : rdB ws = .inr (x, y, w, h)) : okN x y w h ∧ ∃ r, ws = T x :: T y :: T w :: T h :: r := by
  unfold rdB at e
  cases h0 : nA ws 0 with
  | none => rw [h0] at e; cases e
  | some x' =>
  rw [h0] at e
  cases h1 : nA ws 1 with
  | none => rw [h1] at e; cases e
  | some y' =>
  rw [h1] at e
  cases h2 : nA ws 2 with
  | none => rw [h2] at e; cases e
  | some w' =>
  rw [h2] at e
  cases h3 : nA ws 3 with
  | none => rw [h3] at e; cases e
  | some h' =>
  rw [h3] at e
  cases e
  have b0 := nA_num h0
  have b1 := nA_num h1
  have b2 := nA_num h2
  have b3 := nA_num h3
  simp only [Nat.reduceLT, if_true, if_false] at b0 b1 b2 b3
  refine ⟨⟨b0, b1, b2, b3⟩, ?_⟩
  obtain ⟨l0, g0⟩ := nA_some h0
  obtain ⟨l1, g1⟩ := nA_some h1
  obtain ⟨l2, g2⟩ := nA_some h2
  obtain ⟨l3, g3⟩ := nA_some h3
  match ws, l3, g0, g1, g2, g3 with
  | a :: b :: c :: d :: r, _, g0, g1, g2, g3 =>
    simp only [List.getElem?_cons_zero, List.getElem?_cons_succ, Option.some.injEq] at g0 g1 g2 g3
    exact ⟨r, by rw [g0, g1, g2, g3]⟩
theorem rdX_ok {z : Str} {x y w h : Int} (e : rdB (spW z) = .inr (x, y, w, h)) (hl : ¬ 4 < (spW z).length) : okN x y w h ∧ txB x y w h = z := by
  obtain ⟨k, r, hr⟩ := rdB_inr e
  refine ⟨k, ?_⟩
  have : r = [] := by
    cases r with
    | nil => rfl
    | cons a r => rw [hr] at hl; simp at hl
  subst this
  rw [← join_tx, ← hr, join_spW]
theorem tx_len {x y w h : Int} (k : okN x y w h) : (txB x y w h).length ≤ 163 := by
  obtain ⟨⟨a, b⟩, ⟨c, d⟩, ⟨e, f⟩, ⟨g, i⟩⟩ := k
  have l1 : (Str.ofString (toString x)).length ≤ 40 := T_len40 a (by omega)
  have l2 : (Str.ofString (toString y)).length ≤ 40 := T_len40 c (by omega)
  have l3 : (Str.ofString (toString w)).length ≤ 40 := T_len40 (v := w) (by omega) (by omega)
  have l4 : (Str.ofString (toString h)).length ≤ 40 := T_len40 (v := h) (by omega) (by omega)
  unfold txB
  simp only [len_app, len_sp]
  have e0 : Str.empty.length = 0 := rfl
  omega
/-- a slice of a text -/
theorem cut_from {z : Str} {lo : Int} (h : 0 ≤ lo) : cutS z (some lo) none = ⟨(z.cps.toList.drop lo.toNat).toArray⟩ := by
  obtain ⟨n, rfl⟩ := Int.eq_ofNat_of_zero_le h
  unfold cutS
  rw [HT.sIx_nat, HT.sIx_none, Int.toNat_natCast]
  congr 2
  by_cases hn : n ≤ z.length
  · rw [Nat.min_eq_left hn, List.take_of_length_le (by rw [List.length_drop, ← len_tl]; exact Nat.le_refl _)]
  · rw [Nat.min_eq_right (by omega), Nat.sub_self, List.take_zero, List.drop_eq_nil_of_le (by rw [← len_tl]; omega)]
theorem cut_to {z : Str} {hi : Int} (h : 0 ≤ hi) : cutS z none (some hi) = ⟨(z.cps.toList.take hi.toNat).toArray⟩ := by
  obtain ⟨n, rfl⟩ := Int.eq_ofNat_of_zero_le h
  unfold cutS
  rw [HT.sIx_nat, HT.sIx_none, Int.toNat_natCast, List.drop_zero, Nat.sub_zero]
  congr 1
  by_cases hn : n ≤ z.length
  · rw [Nat.min_eq_left hn]
  · rw [Nat.min_eq_right (by omega), List.take_of_length_le (by rw [← len_tl]; exact Nat.le_refl _), List.take_of_length_le (by rw [← len_tl]; omega)]
theorem mk_len (l : List Nat) : (⟨l.toArray⟩ : Str).length = l.length := by rw [len_tl]
/-- a text of at most so many signs -/
def gS (z : Str) (n : Nat) : Prop := z.length ≤ n ∧ PyData.strOk z = true
theorem strOk_lt {z : Str} (h : PyData.strOk z = true) : ∀ c ∈ z.cps.toList, c < 1114112 := by
  intro c hc
  have h' : z.cps.all (fun c => decide (c < 1114112)) = true := h
  rw [Array.all_eq_true_iff_forall_mem] at h'
  simpa using h' c (by simpa using hc)
theorem strOk_of {z : Str} (h : ∀ c ∈ z.cps.toList, c < 1114112) : PyData.strOk z = true := by
  show z.cps.all (fun c => decide (c < 1114112)) = true
  rw [Array.all_eq_true_iff_forall_mem]
  intro c hc
  exact decide_eq_true (h c (by simpa using hc))
theorem gS_take {z : Str} {n : Nat} {hi : Int} (g : gS z n) (h : 0 ≤ hi) : gS (cutS z none (some hi)) hi.toNat := by
  rw [cut_to h]
  refine ⟨by rw [mk_len, List.length_take]; omega, strOk_of fun c hc => strOk_lt g.2 c (List.mem_of_mem_take hc)⟩
theorem gS_drop {z : Str} {n : Nat} {lo : Int} (g : gS z n) (h : 0 ≤ lo) : gS (cutS z (some lo) none) (n - lo.toNat) := by
  rw [cut_from h]
  refine ⟨?_, strOk_of fun c hc => strOk_lt g.2 c (List.mem_of_mem_drop hc)⟩
  have := g.1
  rw [mk_len, List.length_drop, ← len_tl]
  omega
theorem gS_app {a b : Str} {m n : Nat} (ha : gS a m) (hb : gS b n) : gS (a ++ b) (m + n) := by
  refine ⟨?_, by rw [ok_app, ha.2, hb.2]; rfl⟩
  have := ha.1
  have := hb.1
  rw [len_app]
  omega
theorem gS.mono {a : Str} {m n : Nat} (h : gS a m) (hm : m ≤ n) : gS a n := ⟨Nat.le_trans h.1 hm, h.2⟩
theorem gS_S (s : String) {n : Nat} (h : s.length ≤ n) : gS (Str.ofString s) n := ⟨by rw [len_ofS]; exact h, ok_ofS s⟩
theorem gS_T {v : Int} (h0 : 0 ≤ v) (h : v < 10000000000000000000000000000000000000000) : gS (T v) 40 := ⟨T_len40 h0 h, ok_ofS _⟩
theorem gS_tx {x y w h : Int} (k : okN x y w h) : gS (txB x y w h) 163 := ⟨tx_len k, ok_txB x y w h⟩
end PP
end

section
set_option maxHeartbeats 4000000

namespace LW
open PySem PySem.Spec PyProof.Rows L2 PP

def top (i : Nat) : Stmt := PySem.Challenge.pw_curveboxes_k06_texts_of_boxes.main.body.getD i (.Pass ⟨0, 0, 0, 0⟩)
/-- is_integer(value): 0 value -/
abbrev st0 : Stmt := top 4
-- F_is_integer: 0
/-- is_between(value, least, most): 0 value 1 least 2 most -/
abbrev st1 : Stmt := top 5
-- F_is_between: 1
/-- number_in(word, least, most): 0 word 1 least 2 most 3 sign -/
abbrev st2 : Stmt := top 7
-- F_number_in: 10
/-- BadBox.__init__(self, part): 0 self 1 part -/
abbrev st3 : Stmt := inClass (top 12) 0
/-- BadText.__init__(self, line, word): 0 self 1 line 2 word -/
abbrev st4 : Stmt := inClass (top 14) 0
/-- Box.__init__(self, x, y, width, height): 0 self 1 x 2 y 3 width 4 height -/
abbrev st5 : Stmt := inClass (top 25) 0
-- F_Box__init__: 6000
/-- Box.read(cls, text): 0 cls 1 text 2 words 3 x 4 y 5 width 6 height -/
abbrev st6 : Stmt := inClass (top 25) 2
-- F_Box_read: 6051
/-- Box.__str__(self): 0 self -/
abbrev st7 : Stmt := inClass (top 25) 19
-- F_Box__str__: 6021
/-- box_numbers(words, begin, line): 0 words 1 begin 2 line 3 found 4 at 5 word 6 told -/
abbrev st8 : Stmt := top 26
-- F_box_numbers: 11
/-- _law_top():  -/
abbrev st9 : Stmt := top 28
def fn9 : Fn := { n := 0, body := (.cons (.ret (.op2 .mul (.op2 .pow (.cst (.int 2)) (.cst (.int 50))) (.op2 .pow (.cst (.int 2)) (.cst (.int 50))))) .nil) }
/-- _law_pen(_law_script): 0 _law_script -/
abbrev st10 : Stmt := top 29
def fn10 : Fn := { n := 1, body := (.cons (.ret (.lst (.cons (.bi .list (.cons (.slice (.var 0) false true (.cst .non) (.cst (.int 63))) .nil)) (.cons (.cst (.int 0)) (.cons (.cst (.int 0)) .nil))))) .nil) }
/-- _law_draw(_law_pen_here, _law_many): 0 _law_pen_here 1 _law_many 2 _law_digit 3 _law_at 4 _law_cell 5 _law_great 6 _law_mixed -/
abbrev st11 : Stmt := top 30
def fn11 : Fn := { n := 7, body := (.cons (.iff (.op2 .gt (.ix (.var 0) (.cst (.int 2))) (.cst (.int 0))) (.cons (.asg 2 (.op2 .mod (.bi .int (.cons (.ix (.var 0) (.cst (.int 2))) .nil)) (.var 1))) (.cons (.setI 0 (.cst (.int 2)) (.op2 .fdiv (.bi .int (.cons (.ix (.var 0) (.cst (.int 2))) .nil)) (.var 1))) (.cons (.ret (.var 2)) .nil))) .nil) (.cons (.asg 3 (.ix (.var 0) (.cst (.int 1)))) (.cons (.setI 0 (.cst (.int 1)) (.op2 .add (.var 3) (.cst (.int 1)))) (.cons (.asg 4 (.op2 .add (.op2 .mul (.cst (.int 35227)) (.var 3)) (.cst (.int 3761)))) (.cons (.iff (.op2 .ne (.ix (.var 0) (.cst (.int 0))) (.lst .nil)) (.cons (.asg 4 (.ix (.ix (.var 0) (.cst (.int 0))) (.op2 .mod (.bi .int (.cons (.var 3) .nil)) (.bi .len (.cons (.ix (.var 0) (.cst (.int 0))) .nil))))) .nil) .nil) (.cons (.iff (.and (.op2 .lt (.var 3) (.bi .len (.cons (.ix (.var 0) (.cst (.int 0))) .nil))) (.op2 .ge (.bi .abs (.cons (.var 4) .nil)) (.op2 .pow (.cst (.int 10)) (.cst (.int 18))))) (.cons (.asg 5 (.op2 .add (.op2 .mul (.cst (.int 2)) (.op2 .sub (.bi .abs (.cons (.var 4) .nil)) (.op2 .pow (.cst (.int 10)) (.cst (.int 18))))) (.bi .int (.cons (.op2 .lt (.var 4) (.cst (.int 0))) .nil)))) (.cons (.setI 0 (.cst (.int 2)) (.op2 .fdiv (.bi .int (.cons (.var 5) .nil)) (.var 1))) (.cons (.ret (.op2 .mod (.bi .int (.cons (.var 5) .nil)) (.var 1))) .nil))) .nil) (.cons (.asg 6 (.op2 .mod (.bi .int (.cons (.op2 .pow (.op2 .add (.op2 .add (.op2 .mod (.bi .int (.cons (.var 4) .nil)) (.cst (.int 2147483549))) (.op2 .mul (.cst (.int 47737)) (.var 3))) (.cst (.int 853))) (.cst (.int 5))) .nil)) (.cst (.int 2147483629)))) (.cons (.asg 6 (.op2 .mod (.bi .int (.cons (.op2 .pow (.op2 .add (.op2 .add (.op2 .mul (.var 6) (.op2 .add (.op2 .mul (.cst (.int 2)) (.var 3)) (.cst (.int 419)))) (.op2 .mul (.op2 .mul (.cst (.int 53129)) (.var 3)) (.var 3))) (.cst (.int 97))) (.cst (.int 3))) .nil)) (.cst (.int 2147483587)))) (.cons (.ret (.op2 .mod (.bi .int (.cons (.op2 .fdiv (.var 6) (.cst (.int 32))) .nil)) (.var 1))) .nil))))))))) }
/-- _law_pick(_law_pen_here, _law_some): 0 _law_pen_here 1 _law_some -/
abbrev st12 : Stmt := top 31
def fn12 : Fn := { n := 2, body := (.cons (.ret (.ix (.var 1) (.call 502 [true, false] (.cons (.var 0) (.cons (.bi .len (.cons (.var 1) .nil)) .nil))))) .nil) }
/-- _law_number(_law_pen_here): 0 _law_pen_here -/
abbrev st13 : Stmt := top 32
def fn13 : Fn := { n := 1, body := (.cons (.ret (.call 503 [true, false] (.cons (.var 0) (.cons (.lst (.cons (.cst (.int 0)) (.cons (.cst (.int 1)) (.cons (.cst (.int 2)) (.cons (.cst (.int 3)) (.cons (.cst (.int 5)) (.cons (.cst (.int 8)) (.cons (.call 502 [true, false] (.cons (.var 0) (.cons (.cst (.int 20)) .nil))) (.cons (.op2 .sub (.op2 .fdiv (.call 500 [] .nil) (.cst (.int 2))) (.call 502 [true, false] (.cons (.var 0) (.cons (.cst (.int 3)) .nil)))) .nil))))))))) .nil)))) .nil) }
/-- _law_side(_law_pen_here): 0 _law_pen_here -/
abbrev st14 : Stmt := top 33
def fn14 : Fn := { n := 1, body := (.cons (.ret (.call 503 [true, false] (.cons (.var 0) (.cons (.lst (.cons (.cst (.int 1)) (.cons (.cst (.int 1)) (.cons (.cst (.int 2)) (.cons (.cst (.int 3)) (.cons (.cst (.int 4)) (.cons (.op2 .add (.cst (.int 1)) (.call 502 [true, false] (.cons (.var 0) (.cons (.cst (.int 9)) .nil)))) (.cons (.op2 .add (.op2 .fdiv (.call 500 [] .nil) (.cst (.int 2))) (.call 502 [true, false] (.cons (.var 0) (.cons (.cst (.int 3)) .nil)))) .nil)))))))) .nil)))) .nil) }
/-- _law_four(_law_pen_here): 0 _law_pen_here -/
abbrev st15 : Stmt := top 34
def fn15 : Fn := { n := 1, body := (.cons (.ret (.tup (.cons (.call 504 [true] (.cons (.var 0) .nil)) (.cons (.call 504 [true] (.cons (.var 0) .nil)) (.cons (.call 505 [true] (.cons (.var 0) .nil)) (.cons (.call 505 [true] (.cons (.var 0) .nil)) .nil)))))) .nil) }
/-- _law_told(_law_box): 0 _law_box -/
abbrev st16 : Stmt := top 36
def fn16 : Fn := { n := 1, body := (.cons (.ret (.tup (.cons (.fld (.var 0) 2) (.cons (.fld (.var 0) 3) (.cons (.fld (.var 0) 4) (.cons (.fld (.var 0) 5) .nil)))))) .nil) }
/-- _law_heard(_law_ask): 0 _law_ask 1 _law_caught 2 _law_found 3 error -/
abbrev st17 : Stmt := top 37
def fn17 : Fn := { n := 4, body := (.cons (.unp [1, 2] (.tup (.cons (.cst .non) (.cons (.cst .non) .nil)))) (.cons (.tryC (.cons (.asg 2 (.ask 0)) .nil) [0, 1, 3, 6] 3 1) (.cons (.iff (.op2 .is (.var 1) (.cst .non)) (.cons (.ret (.lst (.cons (.var 2) .nil))) .nil) .nil) (.cons (.ret (.ife (.isObj [6] (.var 1)) (.tup (.cons (.fld (.var 1) 6) (.cons (.fld (.var 1) 7) .nil))) (.tup (.cons (.cst (.str "odd")) (.cons (.cst .non) .nil))))) .nil)))), lam := true }
/-- _law_is_number(_law_word, _law_least, _law_most): 0 _law_word 1 _law_least 2 _law_most 3 _law_sign -/
abbrev st18 : Stmt := top 38
def fn18 : Fn := { n := 4, body := (.cons (.iff (.or (.op2 .eq (.var 0) (.cst (.str ""))) (.or (.op2 .gt (.bi .len (.cons (.var 0) .nil)) (.cst (.int 40))) (.op2 .ne (.lc [3] (.nm 3) (.str (.var 0)) true (.op2 .notin (.var 3) (.cst (.str "0123456789"))) (.var 3)) (.lst .nil)))) (.cons (.ret (.cst (.bl false))) .nil) .nil) (.cons (.ret (.and (.op2 .eq (.bi .str (.cons (.bi .int (.cons (.var 0) .nil)) .nil)) (.var 0)) (.chain .le .le (.var 1) (.bi .int (.cons (.var 0) .nil)) (.var 2)))) .nil)) }
/-- _law_wrong(_law_line): 0 _law_line 1 _law_words 2 _law_at 3 _law_least 4 _law_most -/
abbrev st19 : Stmt := top 39
def fn19 : Fn := { n := 5, body := (.cons (.asg 1 (.bm .split (.var 0) (.cst (.str " ")))) (.cons (.forr 2 (.cst (.int 4)) (.cons (.unp [3, 4] (.ife (.op2 .lt (.var 2) (.cst (.int 2))) (.tup (.cons (.cst (.int 0)) (.cons (.op2 .sub (.call 500 [] .nil) (.cst (.int 1))) .nil))) (.tup (.cons (.cst (.int 1)) (.cons (.call 500 [] .nil) .nil))))) (.cons (.iff (.or (.op2 .ge (.var 2) (.bi .len (.cons (.var 1) .nil))) (.not (.call 509 [false, false, false] (.cons (.ix (.var 1) (.var 2)) (.cons (.var 3) (.cons (.var 4) .nil)))))) (.cons (.ret (.var 2)) .nil) .nil) .nil))) (.cons (.ret (.ife (.op2 .gt (.bi .len (.cons (.var 1) .nil)) (.cst (.int 4))) (.cst (.int 4)) (.cst .non))) .nil))) }
/-- _law_bent(_law_pen_here, _law_line): 0 _law_pen_here 1 _law_line 2 _law_way 3 _law_spot 4 _law_some 5 _law_sign -/
abbrev st20 : Stmt := top 40
def fn20 : Fn := { n := 6, body := (.cons (.par [2, 3] (.cons (.call 502 [true, false] (.cons (.var 0) (.cons (.cst (.int 5)) .nil))) (.cons (.call 502 [true, false] (.cons (.var 0) (.cons (.op2 .add (.bi .len (.cons (.var 1) .nil)) (.cst (.int 1))) .nil))) .nil))) (.cons (.asg 4 (.lst (.cons (.cst (.str " ")) (.cons (.cst (.str "0")) (.cons (.cst (.str "1")) (.cons (.cst (.str "-")) (.cons (.cst (.str "+1")) (.cons (.cst (.str " 1")) (.cons (.cst (.str "x")) (.cons (.cst (.str "\n")) (.cons (.cst (.str "")) (.cons (.cst (.str "00")) (.cons (.cst (.str " 5 ")) (.cons (.bi .str (.cons (.call 500 [] .nil) .nil)) (.cons (.op2 .mul (.cst (.str "9")) (.cst (.int 41))) (.cons (.cst (.str ".")) .nil)))))))))))))))) (.cons (.asg 5 (.call 503 [true, false] (.cons (.var 0) (.cons (.op2 .add (.var 4) (.lst (.cons (.bi .str (.cons (.op2 .add (.call 500 [] .nil) (.cst (.int 1))) .nil)) .nil))) .nil)))) (.cons (.iff (.op2 .eq (.var 2) (.cst (.int 0))) (.cons (.ret (.op2 .add (.slice (.var 1) false true (.cst .non) (.var 3)) (.slice (.var 1) true false (.op2 .add (.var 3) (.cst (.int 1))) (.cst .non)))) .nil) .nil) (.cons (.iff (.op2 .lt (.var 2) (.cst (.int 3))) (.cons (.ret (.op2 .add (.op2 .add (.slice (.var 1) false true (.cst .non) (.var 3)) (.var 5)) (.slice (.var 1) true false (.op2 .sub (.op2 .add (.var 3) (.var 2)) (.cst (.int 1))) (.cst .non)))) .nil) .nil) (.cons (.ret (.ife (.op2 .eq (.var 2) (.cst (.int 3))) (.op2 .add (.var 1) (.var 5)) (.op2 .add (.var 5) (.var 1)))) .nil)))))) }
/-- law(_law_script): 0 _law_script 1 _law_pen_here 2 _law_turn 3 _law_great 4 _law_four_here 5 _law_line 6 _law_one 7 _law_bent_here 8 _law_wrong_here 9 _law_heard_here 10 _law_odd 11 _law_some 12 _law_due 13 _law_word -/
abbrev st21 : Stmt := top 41
def fn21 : Fn := { n := 14, body := (.cons (.asg 1 (.call 501 [false] (.cons (.var 0) .nil))) (.cons (.forr 2 (.cst (.int 9)) (.cons (.asg 3 (.tup (.cons (.op2 .sub (.call 500 [] .nil) (.cst (.int 1))) (.cons (.op2 .sub (.call 500 [] .nil) (.cst (.int 1))) (.cons (.call 500 [] .nil) (.cons (.call 500 [] .nil) .nil)))))) (.cons (.asg 4 (.call 503 [true, false] (.cons (.var 1) (.cons (.lst (.cons (.call 506 [true] (.cons (.var 1) .nil)) (.cons (.call 506 [true] (.cons (.var 1) .nil)) (.cons (.var 3) .nil)))) .nil)))) (.cons (.asg 5 (.bm .join (.cst (.str " ")) (.lc [6] (.nm 6) (.seq (.var 4)) false (.cst .non) (.bi .str (.cons (.var 6) .nil))))) (.cons (.iff (.or (.op2 .ne (.strO [5] (.mk 5 [false, false, false, false] (.cons (.ix (.var 4) (.cst (.int 0))) (.cons (.ix (.var 4) (.cst (.int 1))) (.cons (.ix (.var 4) (.cst (.int 2))) (.cons (.ix (.var 4) (.cst (.int 3))) .nil)))) [])) (.var 5)) (.op2 .ne (.call 507 [false] (.cons (.cmt 5 51 1 (.cons (.var 5) .nil)) .nil)) (.var 4))) (.cons (.ret (.cst (.bl false))) .nil) .nil) (.cons (.forl 7 (.lst (.cons (.call 511 [true, false] (.cons (.var 1) (.cons (.var 5) .nil))) (.cons (.call 511 [true, false] (.cons (.var 1) (.cons (.call 511 [true, false] (.cons (.var 1) (.cons (.var 5) .nil))) .nil))) .nil))) (.cons (.asg 8 (.call 510 [false] (.cons (.var 7) .nil))) (.cons (.asg 9 (.heard 508 [7] (.cmt 5 51 1 (.cons (.var 7) .nil)))) (.cons (.iff (.and (.op2 .isnot (.var 8) (.cst .non)) (.op2 .ne (.var 9) (.tup (.cons (.cst (.int 0)) (.cons (.var 8) .nil))))) (.cons (.ret (.cst (.bl false))) .nil) .nil) (.cons (.iff (.and (.op2 .is (.var 8) (.cst .non)) (.or (.not (.bi .isList (.cons (.var 9) .nil))) (.op2 .ne (.strO [5] (.ix (.var 9) (.cst (.int 0)))) (.var 7)))) (.cons (.ret (.cst (.bl false))) .nil) .nil) .nil))))) (.cons (.asg 10 (.call 503 [true, false] (.cons (.var 1) (.cons (.lst (.cons (.cst .non) (.cons (.cst (.int 0)) (.cons (.cst (.bl true)) (.cons (.lst (.cons (.var 5) .nil)) (.cons (.tup (.cons (.var 5) .nil)) (.cons .dic (.cons (.mk 5 [false, false] (.cons (.cst (.int 1)) (.cons (.cst (.int 1)) .nil)) [(.int 1), (.int 1)]) (.cons (.var 4) .nil))))))))) .nil)))) (.cons (.iff (.op2 .ne (.heard 508 [10] (.cmt 5 51 1 (.cons (.var 10) .nil))) (.tup (.cons (.cst (.int 0)) (.cons (.cst (.int 0)) .nil)))) (.cons (.ret (.cst (.bl false))) .nil) .nil) .nil)))))))) (.cons (.asg 11 (.lst (.cons (.cst (.str "")) (.cons (.cst (.str "1")) (.cons (.cst (.str "1 2 3")) (.cons (.cst (.str "1 1 0 2")) (.cons (.cst (.str "0 0 1 1 1")) (.cons (.cst (.str "-1 0 1 1")) (.cons (.cst (.str "0 0 1 01")) (.cons (.cst (.str " 0 0 1 1")) (.cons (.cst (.str "0 0 1 1 ")) (.cons (.cst (.str "0  0 1 1")) .nil)))))))))))) (.cons (.asg 11 (.op2 .add (.var 11) (.lst (.cons (.op2 .add (.bi .str (.cons (.call 500 [] .nil) .nil)) (.cst (.str " 0 1 1"))) (.cons (.op2 .add (.cst (.str "0 0 1 ")) (.bi .str (.cons (.op2 .add (.call 500 [] .nil) (.cst (.int 1))) .nil))) .nil))))) (.cons (.asg 12 (.lc [13] (.nm 13) (.seq (.lst (.cons (.cst (.int 0)) (.cons (.cst (.int 1)) (.cons (.cst (.int 3)) (.cons (.cst (.int 2)) (.cons (.cst (.int 4)) (.cons (.cst (.int 0)) (.cons (.cst (.int 3)) (.cons (.cst (.int 0)) (.cons (.cst (.int 4)) (.cons (.cst (.int 1)) (.cons (.cst (.int 0)) (.cons (.cst (.int 3)) .nil)))))))))))))) false (.cst .non) (.tup (.cons (.cst (.int 0)) (.cons (.var 13) .nil))))) (.cons (.ret (.op2 .eq (.lc [5] (.nm 5) (.seq (.var 11)) false (.cst .non) (.heard 508 [5] (.cmt 5 51 1 (.cons (.var 5) .nil)))) (.var 12))) .nil)))))) }
def fs : Nat → Option Fn
  | 0 => some F_is_integer
  | 1 => some F_is_between
  | 10 => some F_number_in
  | 6000 => some F_Box__init__
  | 6051 => some F_Box_read
  | 6021 => some F_Box__str__
  | 11 => some F_box_numbers
  | 500 => some fn9
  | 501 => some fn10
  | 502 => some fn11
  | 503 => some fn12
  | 504 => some fn13
  | 505 => some fn14
  | 506 => some fn15
  | 507 => some fn16
  | 509 => some fn18
  | 510 => some fn19
  | 511 => some fn20
  | 512 => some fn21
  | 508 => some fn17
  | _ => none
-- class 0 CurveError: 
-- class 1 BadInput: 
-- class 3 BadBox: 1 part
-- class 6 BadText: 6 line, 7 word
-- class 5 Box: 2 x, 3 y, 4 width, 5 height
def fnm : Nat → Str
  | 1 => "part"
  | 2 => "x"
  | 3 => "y"
  | 4 => "width"
  | 5 => "height"
  | 6 => "line"
  | 7 => "word"
  | _ => ""
def cnm (K : PySem.W.Frag) : Nat → Option Addr
  | 0 => adr K "CurveError"
  | 1 => adr K "BadInput"
  | 3 => adr K "BadBox"
  | 6 => adr K "BadText"
  | 5 => adr K "Box"
  | _ => none
def foL : List (Nat × Nat) := [(3, 1), (6, 6), (6, 7), (5, 2), (5, 3), (5, 4), (5, 5)]
def ecL : Nat → Bool
  | 0 => true
  | 1 => true
  | 3 => true
  | 6 => true
  | 5 => false
  | _ => false
def lamN : List Str := ["law"]
def tb (K : PySem.W.Frag) : Tbl := ⟨K, cnm K, fnm, fun c k => foL.contains (c, k), ttOf K lamN, ecL⟩
structure Tx (K : PySem.W.Frag) (mg : Str → Option Value) (fa ca pa cc ta : Nat → Addr) (fd : Nat → FuncData) : Prop where
  mC0 : mg "CurveError" = some (.ref (ca 0))
  cn0 : cnm K 0 = some (ca 0)
  mC1 : mg "BadInput" = some (.ref (ca 1))
  cn1 : cnm K 1 = some (ca 1)
  mC3 : mg "BadBox" = some (.ref (ca 3))
  cn3 : cnm K 3 = some (ca 3)
  mC6 : mg "BadText" = some (.ref (ca 6))
  cn6 : cnm K 6 = some (ca 6)
  mC5 : mg "Box" = some (.ref (ca 5))
  cn5 : cnm K 5 = some (ca 5)
  xr0 : XfC K (ca 0)
  xe0 : ExcC K (ca 0)
  na0 : ∀ f ∈ ([] : List Str), NoAttr K (ca 0) f
  xr1 : XfC K (ca 1)
  xe1 : ExcC K (ca 1)
  na1 : ∀ f ∈ ([] : List Str), NoAttr K (ca 1) f
  xr3 : XfC K (ca 3)
  xe3 : ExcC K (ca 3)
  na3 : ∀ f ∈ (["part"] : List Str), NoAttr K (ca 3) f
  ox3 : OexC K (ca 3)
  xi3 : PySem.W.findIn K (.ref (ca 3)) "__init__" = some (some (.ref (fa 3)))
  xt3 : PySem.W.typeIn K (.ref (fa 3)) = some (.type "function")
  cx3 : (tb K).cx 3 [1] = some (ca 3)
  xr6 : XfC K (ca 6)
  xe6 : ExcC K (ca 6)
  na6 : ∀ f ∈ (["line", "word"] : List Str), NoAttr K (ca 6) f
  ox6 : OexC K (ca 6)
  xi6 : PySem.W.findIn K (.ref (ca 6)) "__init__" = some (some (.ref (fa 4)))
  xt6 : PySem.W.typeIn K (.ref (fa 4)) = some (.type "function")
  cx6 : (tb K).cx 6 [7, 6] = some (ca 6)
  cl5 : Cls K (ca 5)
  cg5 : cgB K (ca 5) = true
  na5 : ∀ f ∈ (["x", "y", "width", "height"] : List Str), NoAttr K (ca 5) f
  ck5 : (tb K).ck 5 [] = some (ca 5)
  mk5 : Mk K (ca 5) (fa 5)
  m0 : mg "is_integer" = some (.ref (fa 0))
  f0 : FunV K "is_integer" "is_integer" st0 (fa 0) (fd 0)
  b0 : Binds K (fd 0) ["value"] []
  m1 : mg "is_between" = some (.ref (fa 1))
  f1 : FunV K "is_between" "is_between" st1 (fa 1) (fd 1)
  b1 : Binds K (fd 1) ["value", "least", "most"] []
  m2 : mg "number_in" = some (.ref (fa 2))
  f2 : FunV K "number_in" "number_in" st2 (fa 2) (fd 2)
  b2 : Binds K (fd 2) ["word", "least", "most"] []
  f3 : FunV K "__init__" "BadBox.__init__" st3 (fa 3) (fd 3)
  b3 : Binds K (fd 3) ["self", "part"] []
  f4 : FunV K "__init__" "BadText.__init__" st4 (fa 4) (fd 4)
  b4 : Binds K (fd 4) ["self", "line", "word"] []
  f5 : FunV K "__init__" "Box.__init__" st5 (fa 5) (fd 5)
  bd5_0 : ∃ dus, Vals ([.int 1, .int 1] : List V) dus ∧ Binds K (fd 5) ["self", "x", "y", "width", "height"] dus
  bd5_2 : ∃ dus, Vals ([] : List V) dus ∧ Binds K (fd 5) ["self", "x", "y", "width", "height"] dus
  b0d5 : Binds K (fd 5) ["self", "x", "y", "width", "height"] []
  cr6 : ClX.CRead K (ca 5) (.type "type")
  cm6 : ClX.CMet K (ca 5) (.type "type") "read" (pa 6) (fa 6)
  kc6 : KwBindsC (fd 6) ["cls", "text"] ["text"]
  f6 : FunV K "read" "Box.read" st6 (fa 6) (fd 6)
  b6 : Binds K (fd 6) ["cls", "text"] []
  me5_7 : Meth K (ca 5) "__str__" (fa 7)
  f7 : FunV K "__str__" "Box.__str__" st7 (fa 7) (fd 7)
  b7 : Binds K (fd 7) ["self"] []
  m8 : mg "box_numbers" = some (.ref (fa 8))
  f8 : FunV K "box_numbers" "box_numbers" st8 (fa 8) (fd 8)
  bd8_0 : ∃ dus, Vals ([.int 0, .int 0] : List V) dus ∧ Binds K (fd 8) ["words", "begin", "line"] dus
  m9 : mg "_law_top" = some (.ref (fa 9))
  f9 : FunV K "_law_top" "_law_top" st9 (fa 9) (fd 9)
  b9 : Binds K (fd 9) [] []
  m10 : mg "_law_pen" = some (.ref (fa 10))
  f10 : FunV K "_law_pen" "_law_pen" st10 (fa 10) (fd 10)
  b10 : Binds K (fd 10) ["_law_script"] []
  m11 : mg "_law_draw" = some (.ref (fa 11))
  f11 : FunV K "_law_draw" "_law_draw" st11 (fa 11) (fd 11)
  b11 : Binds K (fd 11) ["_law_pen_here", "_law_many"] []
  m12 : mg "_law_pick" = some (.ref (fa 12))
  f12 : FunV K "_law_pick" "_law_pick" st12 (fa 12) (fd 12)
  b12 : Binds K (fd 12) ["_law_pen_here", "_law_some"] []
  m13 : mg "_law_number" = some (.ref (fa 13))
  f13 : FunV K "_law_number" "_law_number" st13 (fa 13) (fd 13)
  b13 : Binds K (fd 13) ["_law_pen_here"] []
  m14 : mg "_law_side" = some (.ref (fa 14))
  f14 : FunV K "_law_side" "_law_side" st14 (fa 14) (fd 14)
  b14 : Binds K (fd 14) ["_law_pen_here"] []
  m15 : mg "_law_four" = some (.ref (fa 15))
  f15 : FunV K "_law_four" "_law_four" st15 (fa 15) (fd 15)
  b15 : Binds K (fd 15) ["_law_pen_here"] []
  m16 : mg "_law_told" = some (.ref (fa 16))
  f16 : FunV K "_law_told" "_law_told" st16 (fa 16) (fd 16)
  b16 : Binds K (fd 16) ["_law_box"] []
  m17 : mg "_law_heard" = some (.ref (fa 17))
  f17 : FunV K "_law_heard" "_law_heard" st17 (fa 17) (fd 17)
  h17 : Fun K "_law_heard" "_law_heard" st17 (fa 17) (fd 17)
  b17 : Binds K (fd 17) ["_law_ask"] []
  m18 : mg "_law_is_number" = some (.ref (fa 18))
  f18 : FunV K "_law_is_number" "_law_is_number" st18 (fa 18) (fd 18)
  b18 : Binds K (fd 18) ["_law_word", "_law_least", "_law_most"] []
  m19 : mg "_law_wrong" = some (.ref (fa 19))
  f19 : FunV K "_law_wrong" "_law_wrong" st19 (fa 19) (fd 19)
  b19 : Binds K (fd 19) ["_law_line"] []
  m20 : mg "_law_bent" = some (.ref (fa 20))
  f20 : FunV K "_law_bent" "_law_bent" st20 (fa 20) (fd 20)
  b20 : Binds K (fd 20) ["_law_pen_here", "_law_line"] []
  m21 : mg "law" = some (.ref (fa 21))
  f21 : FunV K "law" "law" st21 (fa 21) (fd 21)
  b21 : Binds K (fd 21) ["_law_script"] []
  q21 : (fd 21).code = .ref (cc 21)
  ti21 : PySem.W.tabIn K "law" = some (cc 21, ta 21)
  tt21 : (ta 21, ("law" : Str) ++ ".<locals>." ++ "<lambda>") ∈ ttOf K lamN
  tu21 : ∀ q ∈ ttOf K lamN, q.1 = ta 21 → q.2 = ("law" : Str) ++ ".<locals>." ++ "<lambda>"
  is6 : isoB K (ca 6) [(ca 0, false), (ca 1, false), (ca 3, false), (ca 6, true), (ca 5, false)] = true
  ib : isbB K [ca 0, ca 1, ca 3, ca 6, ca 5] = true
  em0 : exmB K (ca 0) [ca 0, ca 1, ca 3, ca 6] = true
  n_abs : mg "abs" = none
  n_all : mg "all" = none
  n_bool : mg "bool" = none
  n_int : mg "int" = none
  n_isinstance : mg "isinstance" = none
  n_len : mg "len" = none
  n_list : mg "list" = none
  n_range : mg "range" = none
  n_str : mg "str" = none
  g_FIGURES : ∃ t, mg "FIGURES" = some (.str "0123456789" t)
  g_MOST_SIDE : ∃ t, mg "MOST_SIDE" = some (.int 1267650600228229401496703205376 t)
structure Al (P : Program) (w : World) (K : PySem.W.Frag) (mg : Str → Option Value) (base : Heap) (fa cc ta : Nat → Addr) (fd : Nat → FuncData) (k : Nat) : Prop where
  o0 : FnG P w K mg base (5 * k) (fa 0) (fd 0) ["value"] (spF (tb K) (calls fs k) 0 1)
  o1 : FnG P w K mg base (5 * k) (fa 1) (fd 1) ["value", "least", "most"] (spF (tb K) (calls fs k) 1 3)
  o2 : FnG P w K mg base (5 * k) (fa 2) (fd 2) ["word", "least", "most"] (spF (tb K) (calls fs k) 10 3)
  o5 : FnG P w K mg base (5 * k) (fa 5) (fd 5) ["self", "x", "y", "width", "height"] (spF (tb K) (calls fs k) 6000 5)
  o6 : FnG P w K mg base (5 * k) (fa 6) (fd 6) ["cls", "text"] (spF (tb K) (calls fs k) 6051 2)
  o7 : FnG P w K mg base (5 * k) (fa 7) (fd 7) ["self"] (spF (tb K) (calls fs k) 6021 1)
  o8 : FnG P w K mg base (5 * k) (fa 8) (fd 8) ["words", "begin", "line"] (spF (tb K) (calls fs k) 11 3)
  o9 : FnG P w K mg base (5 * k) (fa 9) (fd 9) [] (spF (tb K) (calls fs k) 500 0)
  o10 : FnG P w K mg base (5 * k) (fa 10) (fd 10) ["_law_script"] (spF (tb K) (calls fs k) 501 1)
  o11 : FnG P w K mg base (5 * k) (fa 11) (fd 11) ["_law_pen_here", "_law_many"] (spF (tb K) (calls fs k) 502 2)
  o12 : FnG P w K mg base (5 * k) (fa 12) (fd 12) ["_law_pen_here", "_law_some"] (spF (tb K) (calls fs k) 503 2)
  o13 : FnG P w K mg base (5 * k) (fa 13) (fd 13) ["_law_pen_here"] (spF (tb K) (calls fs k) 504 1)
  o14 : FnG P w K mg base (5 * k) (fa 14) (fd 14) ["_law_pen_here"] (spF (tb K) (calls fs k) 505 1)
  o15 : FnG P w K mg base (5 * k) (fa 15) (fd 15) ["_law_pen_here"] (spF (tb K) (calls fs k) 506 1)
  o16 : FnG P w K mg base (5 * k) (fa 16) (fd 16) ["_law_box"] (spF (tb K) (calls fs k) 507 1)
  o18 : FnG P w K mg base (5 * k) (fa 18) (fd 18) ["_law_word", "_law_least", "_law_most"] (spF (tb K) (calls fs k) 509 3)
  o19 : FnG P w K mg base (5 * k) (fa 19) (fd 19) ["_law_line"] (spF (tb K) (calls fs k) 510 1)
  o20 : FnG P w K mg base (5 * k) (fa 20) (fd 20) ["_law_pen_here", "_law_line"] (spF (tb K) (calls fs k) 511 2)
  o21 : FnG P w K mg base (5 * k) (fa 21) (fd 21) ["_law_script"] (spF (tb K) (calls fs k) 512 1)
  t21 : LamX.TabB base mg (cc 21) (ta 21)
section
variable {P : Program} {w : World} {K : PySem.W.Frag} {mg : Str → Option Value} {base : Heap} {fa ca pa cc ta : Nat → Addr} {fd : Nat → FuncData} {k : Nat}
theorem cnc (T : Tx K mg fa ca pa cc ta fd) {c : Nat} {C : Addr} (h : (tb K).cn c = some C) : (c = 0 ∧ C = ca 0) ∨ (c = 1 ∧ C = ca 1) ∨ (c = 3 ∧ C = ca 3) ∨ (c = 6 ∧ C = ca 6) ∨ (c = 5 ∧ C = ca 5) := by
  have h0 : cnm K c = some C := h
  unfold cnm at h0
  split at h0
  · exact .inl (⟨rfl, Option.some.inj (h.symm.trans T.cn0)⟩)
  · exact .inr (.inl (⟨rfl, Option.some.inj (h.symm.trans T.cn1)⟩))
  · exact .inr (.inr (.inl (⟨rfl, Option.some.inj (h.symm.trans T.cn3)⟩)))
  · exact .inr (.inr (.inr (.inl (⟨rfl, Option.some.inj (h.symm.trans T.cn6)⟩))))
  · exact .inr (.inr (.inr (.inr (⟨rfl, Option.some.inj (h.symm.trans T.cn5)⟩))))
  · cases h0
theorem fld_1 (T : Tx K mg fa ca pa cc ta fd) : FldOk K (tb K) 1 "part" where
  nm := rfl
  inj := fun c j _ _ h => by
    have h0 : fnm j = "part" := h
    unfold fnm at h0
    split at h0 <;> first | rfl | exact absurd h0 (by decide)
  ok := fun c C h hf he => by
    rcases cnc T h with ⟨rfl, rfl⟩ | ⟨rfl, rfl⟩ | ⟨rfl, rfl⟩ | ⟨rfl, rfl⟩ | ⟨rfl, rfl⟩
    · cases (show false = true from hf)
    · cases (show false = true from hf)
    · cases (show true = false from he)
    · cases (show false = true from hf)
    · cases (show false = true from hf)
  ex := fun c C h hf he => by
    rcases cnc T h with ⟨rfl, rfl⟩ | ⟨rfl, rfl⟩ | ⟨rfl, rfl⟩ | ⟨rfl, rfl⟩ | ⟨rfl, rfl⟩
    · cases (show false = true from hf)
    · cases (show false = true from hf)
    · exact ⟨T.xr3, T.na3 _ (by decide)⟩
    · cases (show false = true from hf)
    · cases (show false = true from hf)
theorem fld_2 (T : Tx K mg fa ca pa cc ta fd) : FldOk K (tb K) 2 "x" where
  nm := rfl
  inj := fun c j _ _ h => by
    have h0 : fnm j = "x" := h
    unfold fnm at h0
    split at h0 <;> first | rfl | exact absurd h0 (by decide)
  ok := fun c C h hf he => by
    rcases cnc T h with ⟨rfl, rfl⟩ | ⟨rfl, rfl⟩ | ⟨rfl, rfl⟩ | ⟨rfl, rfl⟩ | ⟨rfl, rfl⟩
    · cases (show false = true from hf)
    · cases (show false = true from hf)
    · cases (show false = true from hf)
    · cases (show false = true from hf)
    · exact ⟨T.cl5, T.na5 _ (by decide)⟩
  ex := fun c C h hf he => by
    rcases cnc T h with ⟨rfl, rfl⟩ | ⟨rfl, rfl⟩ | ⟨rfl, rfl⟩ | ⟨rfl, rfl⟩ | ⟨rfl, rfl⟩
    · cases (show false = true from hf)
    · cases (show false = true from hf)
    · cases (show false = true from hf)
    · cases (show false = true from hf)
    · cases (show false = true from he)
theorem fld_3 (T : Tx K mg fa ca pa cc ta fd) : FldOk K (tb K) 3 "y" where
  nm := rfl
  inj := fun c j _ _ h => by
    have h0 : fnm j = "y" := h
    unfold fnm at h0
    split at h0 <;> first | rfl | exact absurd h0 (by decide)
  ok := fun c C h hf he => by
    rcases cnc T h with ⟨rfl, rfl⟩ | ⟨rfl, rfl⟩ | ⟨rfl, rfl⟩ | ⟨rfl, rfl⟩ | ⟨rfl, rfl⟩
    · cases (show false = true from hf)
    · cases (show false = true from hf)
    · cases (show false = true from hf)
    · cases (show false = true from hf)
    · exact ⟨T.cl5, T.na5 _ (by decide)⟩
  ex := fun c C h hf he => by
    rcases cnc T h with ⟨rfl, rfl⟩ | ⟨rfl, rfl⟩ | ⟨rfl, rfl⟩ | ⟨rfl, rfl⟩ | ⟨rfl, rfl⟩
    · cases (show false = true from hf)
    · cases (show false = true from hf)
    · cases (show false = true from hf)
    · cases (show false = true from hf)
    · cases (show false = true from he)
theorem fld_4 (T : Tx K mg fa ca pa cc ta fd) : FldOk K (tb K) 4 "width" where
  nm := rfl
  inj := fun c j _ _ h => by
    have h0 : fnm j = "width" := h
    unfold fnm at h0
    split at h0 <;> first | rfl | exact absurd h0 (by decide)
  ok := fun c C h hf he => by
    rcases cnc T h with ⟨rfl, rfl⟩ | ⟨rfl, rfl⟩ | ⟨rfl, rfl⟩ | ⟨rfl, rfl⟩ | ⟨rfl, rfl⟩
    · cases (show false = true from hf)
    · cases (show false = true from hf)
    · cases (show false = true from hf)
    · cases (show false = true from hf)
    · exact ⟨T.cl5, T.na5 _ (by decide)⟩
  ex := fun c C h hf he => by
    rcases cnc T h with ⟨rfl, rfl⟩ | ⟨rfl, rfl⟩ | ⟨rfl, rfl⟩ | ⟨rfl, rfl⟩ | ⟨rfl, rfl⟩
    · cases (show false = true from hf)
    · cases (show false = true from hf)
    · cases (show false = true from hf)
    · cases (show false = true from hf)
    · cases (show false = true from he)
theorem fld_5 (T : Tx K mg fa ca pa cc ta fd) : FldOk K (tb K) 5 "height" where
  nm := rfl
  inj := fun c j _ _ h => by
    have h0 : fnm j = "height" := h
    unfold fnm at h0
    split at h0 <;> first | rfl | exact absurd h0 (by decide)
  ok := fun c C h hf he => by
    rcases cnc T h with ⟨rfl, rfl⟩ | ⟨rfl, rfl⟩ | ⟨rfl, rfl⟩ | ⟨rfl, rfl⟩ | ⟨rfl, rfl⟩
    · cases (show false = true from hf)
    · cases (show false = true from hf)
    · cases (show false = true from hf)
    · cases (show false = true from hf)
    · exact ⟨T.cl5, T.na5 _ (by decide)⟩
  ex := fun c C h hf he => by
    rcases cnc T h with ⟨rfl, rfl⟩ | ⟨rfl, rfl⟩ | ⟨rfl, rfl⟩ | ⟨rfl, rfl⟩ | ⟨rfl, rfl⟩
    · cases (show false = true from hf)
    · cases (show false = true from hf)
    · cases (show false = true from hf)
    · cases (show false = true from hf)
    · cases (show false = true from he)
theorem fld_6 (T : Tx K mg fa ca pa cc ta fd) : FldOk K (tb K) 6 "line" where
  nm := rfl
  inj := fun c j _ _ h => by
    have h0 : fnm j = "line" := h
    unfold fnm at h0
    split at h0 <;> first | rfl | exact absurd h0 (by decide)
  ok := fun c C h hf he => by
    rcases cnc T h with ⟨rfl, rfl⟩ | ⟨rfl, rfl⟩ | ⟨rfl, rfl⟩ | ⟨rfl, rfl⟩ | ⟨rfl, rfl⟩
    · cases (show false = true from hf)
    · cases (show false = true from hf)
    · cases (show false = true from hf)
    · cases (show true = false from he)
    · cases (show false = true from hf)
  ex := fun c C h hf he => by
    rcases cnc T h with ⟨rfl, rfl⟩ | ⟨rfl, rfl⟩ | ⟨rfl, rfl⟩ | ⟨rfl, rfl⟩ | ⟨rfl, rfl⟩
    · cases (show false = true from hf)
    · cases (show false = true from hf)
    · cases (show false = true from hf)
    · exact ⟨T.xr6, T.na6 _ (by decide)⟩
    · cases (show false = true from hf)
theorem fld_7 (T : Tx K mg fa ca pa cc ta fd) : FldOk K (tb K) 7 "word" where
  nm := rfl
  inj := fun c j _ _ h => by
    have h0 : fnm j = "word" := h
    unfold fnm at h0
    split at h0 <;> first | rfl | exact absurd h0 (by decide)
  ok := fun c C h hf he => by
    rcases cnc T h with ⟨rfl, rfl⟩ | ⟨rfl, rfl⟩ | ⟨rfl, rfl⟩ | ⟨rfl, rfl⟩ | ⟨rfl, rfl⟩
    · cases (show false = true from hf)
    · cases (show false = true from hf)
    · cases (show false = true from hf)
    · cases (show true = false from he)
    · cases (show false = true from hf)
  ex := fun c C h hf he => by
    rcases cnc T h with ⟨rfl, rfl⟩ | ⟨rfl, rfl⟩ | ⟨rfl, rfl⟩ | ⟨rfl, rfl⟩ | ⟨rfl, rfl⟩
    · cases (show false = true from hf)
    · cases (show false = true from hf)
    · cases (show false = true from hf)
    · exact ⟨T.xr6, T.na6 _ (by decide)⟩
    · cases (show false = true from hf)
theorem iso_6 (T : Tx K mg fa ca pa cc ta fd) {X : Cx} (e : X.K = K) : IsO X (tb K) [6] (.ref (ca 6)) := by
  subst e
  refine iso_of T.is6 fun c C h => ?_
  rcases cnc T h with ⟨rfl, rfl⟩ | ⟨rfl, rfl⟩ | ⟨rfl, rfl⟩ | ⟨rfl, rfl⟩ | ⟨rfl, rfl⟩
  · exact ⟨by simp, fun _ => T.xe0, fun z => (by cases (show true = false from z))⟩
  · exact ⟨by simp, fun _ => T.xe1, fun z => (by cases (show true = false from z))⟩
  · exact ⟨by simp, fun _ => T.xe3, fun z => (by cases (show true = false from z))⟩
  · exact ⟨by simp, fun _ => T.xe6, fun z => (by cases (show true = false from z))⟩
  · exact ⟨by simp, fun z => (by cases (show false = true from z)), fun _ => ⟨T.cl5, T.cg5⟩⟩
theorem isb (T : Tx K mg fa ca pa cc ta fd) {X : Cx} (e : X.K = K) {t : String} (ht : t ∈ tys) : IsB X (tb K) (.type t) := by
  subst e
  refine isb_of T.ib ht fun c C h => ?_
  rcases cnc T h with ⟨rfl, rfl⟩ | ⟨rfl, rfl⟩ | ⟨rfl, rfl⟩ | ⟨rfl, rfl⟩ | ⟨rfl, rfl⟩
  · exact ⟨by simp, fun _ => T.xe0, fun z => (by cases (show true = false from z))⟩
  · exact ⟨by simp, fun _ => T.xe1, fun z => (by cases (show true = false from z))⟩
  · exact ⟨by simp, fun _ => T.xe3, fun z => (by cases (show true = false from z))⟩
  · exact ⟨by simp, fun _ => T.xe6, fun z => (by cases (show true = false from z))⟩
  · exact ⟨by simp, fun z => (by cases (show false = true from z)), fun _ => ⟨T.cl5, T.cg5⟩⟩
theorem exm_0 (T : Tx K mg fa ca pa cc ta fd) {X : Cx} (e : X.K = K) : ∀ c ∈ ([0, 1, 3, 6] : List Nat), ∀ Ca, (tb K).cn c = some Ca → PySem.W.exmOne X.K (.ref Ca) (.ref (ca 0)) = some true := by
  subst e
  intro c hc C h
  rcases cnc T h with ⟨rfl, rfl⟩ | ⟨rfl, rfl⟩ | ⟨rfl, rfl⟩ | ⟨rfl, rfl⟩ | ⟨rfl, rfl⟩
  · exact exm_of T.em0 (by simp)
  · exact exm_of T.em0 (by simp)
  · exact exm_of T.em0 (by simp)
  · exact exm_of T.em0 (by simp)
  · exact absurd hc (by decide)
theorem sp_mt__str___5 (T : Tx K mg fa ca pa cc ta fd) (A : Al P w K mg base fa cc ta fd k) {X : Cx} (e1 : X.prog = P) (e2 : X.w = w) (e3 : X.K = K) (e4 : X.mg = mg) (e5 : X.base = base) (hr : Room (5 * k + 2) X.A) : SpM X (tb K) (calls fs k) 21 "__str__" [5] := by
  subst e1 e2 e3 e4 e5
  intro c hc C h
  rcases cnc T h with ⟨rfl, rfl⟩ | ⟨rfl, rfl⟩ | ⟨rfl, rfl⟩ | ⟨rfl, rfl⟩ | ⟨rfl, rfl⟩
  · exact absurd hc (by decide)
  · exact absurd hc (by decide)
  · exact absurd hc (by decide)
  · exact absurd hc (by decide)
  · exact ⟨5 * k, fa 7, fd 7, _, T.me5_7, A.o7, hr, T.b7⟩
theorem sc0 : FnScope ["value"] ["value"] (defScope st0) := ⟨rfl, rfl, rfl, by decide +kernel, rfl, by decide +kernel, by decide +kernel⟩
theorem sc1 : FnScope ["value", "least", "most"] ["value", "least", "most"] (defScope st1) := ⟨rfl, rfl, rfl, by decide +kernel, rfl, by decide +kernel, by decide +kernel⟩
theorem sc2 : FnScope ["word", "least", "most", "sign"] ["word", "least", "most"] (defScope st2) := ⟨rfl, rfl, rfl, by decide +kernel, rfl, by decide +kernel, by decide +kernel⟩
theorem sc3 : FnScope ["self", "part"] ["self", "part"] (defScope st3) := ⟨rfl, rfl, rfl, by decide +kernel, rfl, by decide +kernel, by decide +kernel⟩
theorem sc4 : FnScope ["self", "line", "word"] ["self", "line", "word"] (defScope st4) := ⟨rfl, rfl, rfl, by decide +kernel, rfl, by decide +kernel, by decide +kernel⟩
theorem sc5 : FnScope ["self", "x", "y", "width", "height"] ["self", "x", "y", "width", "height"] (defScope st5) := ⟨rfl, rfl, rfl, by decide +kernel, rfl, by decide +kernel, by decide +kernel⟩
theorem sc6 : FnScope ["cls", "text", "words", "x", "y", "width", "height"] ["cls", "text"] (defScope st6) := ⟨rfl, rfl, rfl, by decide +kernel, rfl, by decide +kernel, by decide +kernel⟩
theorem sc7 : FnScope ["self"] ["self"] (defScope st7) := ⟨rfl, rfl, rfl, by decide +kernel, rfl, by decide +kernel, by decide +kernel⟩
theorem sc8 : FnScope ["words", "begin", "line", "found", "at", "word", "told"] ["words", "begin", "line"] (defScope st8) := ⟨rfl, rfl, rfl, by decide +kernel, rfl, by decide +kernel, by decide +kernel⟩
theorem sc9 : FnScope [] [] (defScope st9) := ⟨rfl, rfl, rfl, by decide +kernel, rfl, by decide +kernel, by decide +kernel⟩
theorem sc10 : FnScope ["_law_script"] ["_law_script"] (defScope st10) := ⟨rfl, rfl, rfl, by decide +kernel, rfl, by decide +kernel, by decide +kernel⟩
theorem sc11 : FnScope ["_law_pen_here", "_law_many", "_law_digit", "_law_at", "_law_cell", "_law_great", "_law_mixed"] ["_law_pen_here", "_law_many"] (defScope st11) := ⟨rfl, rfl, rfl, by decide +kernel, rfl, by decide +kernel, by decide +kernel⟩
theorem sc12 : FnScope ["_law_pen_here", "_law_some"] ["_law_pen_here", "_law_some"] (defScope st12) := ⟨rfl, rfl, rfl, by decide +kernel, rfl, by decide +kernel, by decide +kernel⟩
theorem sc13 : FnScope ["_law_pen_here"] ["_law_pen_here"] (defScope st13) := ⟨rfl, rfl, rfl, by decide +kernel, rfl, by decide +kernel, by decide +kernel⟩
theorem sc14 : FnScope ["_law_pen_here"] ["_law_pen_here"] (defScope st14) := ⟨rfl, rfl, rfl, by decide +kernel, rfl, by decide +kernel, by decide +kernel⟩
theorem sc15 : FnScope ["_law_pen_here"] ["_law_pen_here"] (defScope st15) := ⟨rfl, rfl, rfl, by decide +kernel, rfl, by decide +kernel, by decide +kernel⟩
theorem sc16 : FnScope ["_law_box"] ["_law_box"] (defScope st16) := ⟨rfl, rfl, rfl, by decide +kernel, rfl, by decide +kernel, by decide +kernel⟩
theorem sc17 : FnScope ["_law_ask", "_law_caught", "_law_found", "error"] ["_law_ask"] (defScope st17) := ⟨rfl, rfl, rfl, by decide +kernel, rfl, by decide +kernel, by decide +kernel⟩
theorem sc18 : FnScope ["_law_word", "_law_least", "_law_most", "_law_sign"] ["_law_word", "_law_least", "_law_most"] (defScope st18) := ⟨rfl, rfl, rfl, by decide +kernel, rfl, by decide +kernel, by decide +kernel⟩
theorem sc19 : FnScope ["_law_line", "_law_words", "_law_at", "_law_least", "_law_most"] ["_law_line"] (defScope st19) := ⟨rfl, rfl, rfl, by decide +kernel, rfl, by decide +kernel, by decide +kernel⟩
theorem sc20 : FnScope ["_law_pen_here", "_law_line", "_law_way", "_law_spot", "_law_some", "_law_sign"] ["_law_pen_here", "_law_line"] (defScope st20) := ⟨rfl, rfl, rfl, by decide +kernel, rfl, by decide +kernel, by decide +kernel⟩
theorem sc21 : FnScope ["_law_script", "_law_pen_here", "_law_turn", "_law_great", "_law_four_here", "_law_line", "_law_one", "_law_bent_here", "_law_wrong_here", "_law_heard_here", "_law_odd", "_law_some", "_law_due", "_law_word"] ["_law_script"] (defScope st21) := ⟨rfl, rfl, rfl, by decide +kernel, rfl, by decide +kernel, by decide +kernel⟩
theorem xf3 (T : Tx K mg fa ca pa cc ta fd) : FnG P w K mg base 1 (fa 3) (fd 3) ["self", "part"] (spI (ca 3) ["part"]) := exc_fn1 (k := 0) T.f3 sc3 rfl T.ox3 (T.na3 _ (by decide)) (fun {X} hX => by
    have sc := sc3
    obtain ⟨cdv, A0, outer, s0, H0, E0, rfl⟩ := hX
    exact (pss_cons (ps_ost (pv 0) (pv 1)) pss_nil))
theorem xf6 (T : Tx K mg fa ca pa cc ta fd) : FnG P w K mg base 1 (fa 4) (fd 4) ["self", "line", "word"] (spI (ca 6) ["line", "word"]) := exc_fn2 (k := 0) T.f4 sc4 rfl T.ox6 (T.na6 _ (by decide)) (T.na6 _ (by decide)) (fun {X} hX => by
    have sc := sc4
    obtain ⟨cdv, A0, outer, s0, H0, E0, rfl⟩ := hX
    exact (pss_cons (ps_ost (pv 0) (pv 1)) (pss_cons (ps_ost (pv 0) (pv 2)) pss_nil)))
theorem hg17 (T : Tx K mg fa ca pa cc ta fd) (A : Al P w K mg base fa cc ta fd (k - 1)) : HearG P w K mg base ["_law_ask", "_law_caught", "_law_found", "error"] "_law_heard" "_law_ask" st17 (fa 17) (tb K) (calls fs (k - 1)) fn17 (5 * k + 3) := by
  intro Z CZ WZ o hK hu hu2 hgd hr tk hp hX hask
  obtain ⟨cdv, A0_, outer_, s0_, H0_, E0_, rfl, hC⟩ := hX
  obtain ⟨CT, h0_, he_, io_, fa_⟩ := CZ
  have hC : CT = tb K := hC
  subst hC
  have sc := sc17
  have hcalm : (cxOf (L2.CX P w) P w K mg base ["_law_ask", "_law_caught", "_law_found", "error"] "_law_heard" (defScope st17) (fa 17) cdv A0_ outer_ s0_ H0_ E0_).calm = true := rfl
  have hu65 : (cxOf (L2.CX P w) P w K mg base ["_law_ask", "_law_caught", "_law_found", "error"] "_law_heard" (defScope st17) (fa 17) cdv A0_ outer_ s0_ H0_ E0_).A.units + 65 < cLine := by omega
  have hr0 : Room (5 * (k - 1)) _ := hr.mono (by omega)
  have hr1 : Room (5 * (k - 1) + 1) _ := hr.mono (by omega)
  have hr2 : Room (5 * (k - 1) + 2) _ := hr.mono (by omega)
  exact (ss_cons (s_unp (is := [1, 2]) rfl hK (ps_asg (c_tup (f_cons (c_cst pe_non (fun H => r_non _ H)) (f_cons (c_cst pe_non (fun H => r_non _ H)) f_nil))) (pg_un rfl (pgs_cons (pg_name (i := 1) sc.nd rfl (Or.inl rfl)) (pgs_cons (pg_name (i := 2) sc.nd rfl (Or.inl rfl)) pgs_nil)))))
      (ss_cons (s_try (i := 3) (j := 1) rfl rfl rfl sc.nd rfl rfl ⟨by rfl, by decide, .inl T.mC0⟩ tk (exm_0 T rfl) (by decide) (fun W' pn xe tk hp => (ss_cons (s_asg (ps_set (i := 2) sc.nd rfl (Or.inl rfl) (hask W' pn xe _ _ tk)))
      ss_nil)) (fun a oe pn => pss_cons (ps_set (i := 1) sc.nd rfl (Or.inl rfl) (pv 3)) pss_nil))
      (ss_cons (s_iff (t_cmp o_is (c_var (pv 1)) (c_cst pe_non (fun H => r_non _ H)) (nomark _)) (ss_cons (s_ret (c_lst (f_cons (c_var (pv 2)) f_nil)))
      ss_nil) ss_nil)
      (ss_cons (s_ret (c_ife (t_tru hK (c_isO hK (iso_6 T rfl) (by rfl) T.n_isinstance (c_var (pv 1)) (pe_glob (v := .ref (ca 6)) (by rfl) T.mC6 rfl))) (c_tup (f_cons (c_fld hK (c_var (pv 1)) (fld_6 T)) (f_cons (c_fld hK (c_var (pv 1)) (fld_7 T)) f_nil))) (c_tup (f_cons (c_cst pe_str (fun H => r_str _ H _)) (f_cons (c_cst pe_non (fun H => r_non _ H)) f_nil)))))
      ss_nil))))
theorem ok0 (T : Tx K mg fa ca pa cc ta fd) (A : Al P w K mg base fa cc ta fd k) (A' : Al P w K mg base fa cc ta fd (k - 1)) : FnG P w K mg base (5 * (k + 1)) (fa 0) (fd 0) ["value"] (spF (tb K) (calls fs (k + 1)) 0 1) := def_ok (F := F_is_integer) T.f0 sc0 rfl (by decide) rfl (fun _ => rfl) (fun {X} {C} {W} hK hu hu2 hgd hr tk hp hX => by
    have sc := sc0
    obtain ⟨qu, cdv, A0_, outer_, s0_, H0_, E0_, rfl, hC, rfl, hcd⟩ := hX
    obtain ⟨CT, h0_, he_, io_, fa_⟩ := C
    have hC : CT = tb K := hC
    subst hC
    have hcalm : (cxOf (L2.CX P w) P w K mg base ["value"] "is_integer" (defScope st0) (fa 0) cdv A0_ outer_ s0_ H0_ E0_).calm = true := rfl
    have hu65 : (cxOf (L2.CX P w) P w K mg base ["value"] "is_integer" (defScope st0) (fa 0) cdv A0_ outer_ s0_ H0_ E0_).A.units + 65 < cLine := by omega
    have hr0 : Room (5 * k) _ := hr.mono (by omega)
    have hr1 : Room (5 * k + 1) _ := hr.mono (by omega)
    have hr2 : Room (5 * k + 2) _ := hr.mono (by omega)
    exact (ss_cons (s_ret (c_and hK (c_isi hK isi_int (isb T rfl (by decide)) (by rfl) T.n_isinstance (c_var (pv 0)) (pe_bltn (by rfl) T.n_int (by decide +kernel) rfl)) (c_one (c_not hK (c_isi hK isi_bool (isb T rfl (by decide)) (by rfl) T.n_isinstance (c_var (pv 0)) (pe_bltn (by rfl) T.n_bool (by decide +kernel) rfl))))))
      ss_nil)) rfl
theorem ok1 (T : Tx K mg fa ca pa cc ta fd) (A : Al P w K mg base fa cc ta fd k) (A' : Al P w K mg base fa cc ta fd (k - 1)) : FnG P w K mg base (5 * (k + 1)) (fa 1) (fd 1) ["value", "least", "most"] (spF (tb K) (calls fs (k + 1)) 1 3) := def_ok (F := F_is_between) T.f1 sc1 rfl (by decide) rfl (fun _ => rfl) (fun {X} {C} {W} hK hu hu2 hgd hr tk hp hX => by
    have sc := sc1
    obtain ⟨qu, cdv, A0_, outer_, s0_, H0_, E0_, rfl, hC, rfl, hcd⟩ := hX
    obtain ⟨CT, h0_, he_, io_, fa_⟩ := C
    have hC : CT = tb K := hC
    subst hC
    have hcalm : (cxOf (L2.CX P w) P w K mg base ["value", "least", "most"] "is_between" (defScope st1) (fa 1) cdv A0_ outer_ s0_ H0_ E0_).calm = true := rfl
    have hu65 : (cxOf (L2.CX P w) P w K mg base ["value", "least", "most"] "is_between" (defScope st1) (fa 1) cdv A0_ outer_ s0_ H0_ E0_).A.units + 65 < cLine := by omega
    have hr0 : Room (5 * k) _ := hr.mono (by omega)
    have hr1 : Room (5 * k + 1) _ := hr.mono (by omega)
    have hr2 : Room (5 * k + 2) _ := hr.mono (by omega)
    exact (ss_cons (s_ret (c_and hK (c_call A.o0 hgd hr0 tk (by rfl) T.m0 T.f0.kp T.b0 (k_cons (m := false) (c_var (pv 0)) k_nil)) (c_one (c_chain o_le o_le (c_var (pv 1)) (c_var (pv 0)) (c_var (pv 2))))))
      ss_nil)) rfl
theorem ok2 (T : Tx K mg fa ca pa cc ta fd) (A : Al P w K mg base fa cc ta fd k) (A' : Al P w K mg base fa cc ta fd (k - 1)) : FnG P w K mg base (5 * (k + 1)) (fa 2) (fd 2) ["word", "least", "most"] (spF (tb K) (calls fs (k + 1)) 10 3) := def_ok (F := F_number_in) T.f2 sc2 rfl (by decide) rfl (fun _ => rfl) (fun {X} {C} {W} hK hu hu2 hgd hr tk hp hX => by
    have sc := sc2
    obtain ⟨qu, cdv, A0_, outer_, s0_, H0_, E0_, rfl, hC, rfl, hcd⟩ := hX
    obtain ⟨CT, h0_, he_, io_, fa_⟩ := C
    have hC : CT = tb K := hC
    subst hC
    have hcalm : (cxOf (L2.CX P w) P w K mg base ["word", "least", "most", "sign"] "number_in" (defScope st2) (fa 2) cdv A0_ outer_ s0_ H0_ E0_).calm = true := rfl
    have hu65 : (cxOf (L2.CX P w) P w K mg base ["word", "least", "most", "sign"] "number_in" (defScope st2) (fa 2) cdv A0_ outer_ s0_ H0_ E0_).A.units + 65 < cLine := by omega
    have hr0 : Room (5 * k) _ := hr.mono (by omega)
    have hr1 : Room (5 * k + 1) _ := hr.mono (by omega)
    have hr2 : Room (5 * k + 2) _ := hr.mono (by omega)
    exact (ss_cons (s_iff (PW.pt (w_or (t_cmp (o_eq hK hu) (c_var (pv 0)) (c_cst pe_str (fun H => r_str _ H _)) (nomark _)) (w_or (t_cmp o_gt (c_biB (B := .len) (b_len hK) (by rfl) T.n_len (by decide +kernel) (r_cons (c_var (pv 0)) r_nil)) (c_biB (B := .len) (b_len hK) (by rfl) T.n_len (by decide +kernel) (r_cons (c_fstr1 (pe_fmt (c_var (pv 2)))) r_nil)) (nomark _)) (w_or1 (t_not (t_tru hK (c_biB (B := .all) (b_all hcalm) (by rfl) T.n_all (by decide +kernel) (r_cons (c_lc (vs := [3]) hK hcalm sc.nd (i_str (c_var (pv 0))) (blkOk_by (own := [("sign", 3)]) (by kernel_rfl)) (fun _ _ _ _ _ => (pg_name (i := 3) sc.nd rfl (Or.inl rfl))) (fun _ _ _ _ _ => pt_tst0) (fun _ _ _ _ _ => pe_elt fun _ _ _ _ => (c_cmp (o_in hK hu65) (c_var (pv 3)) (c_cst (pe_glob (v := .str "0123456789") (by rfl) (T.g_FIGURES).choose_spec ⟨_, rfl⟩) (fun H => r_str _ H _)) (by rfl)))) r_nil)))))))) (ss_cons (s_ret (c_cst pe_non (fun H => r_non _ H)))
      ss_nil) ss_nil)
      (ss_cons (s_iff (PW.pt (w_or (PW.pt (w_and (t_cmp (o_eq hK hu) (c_ix hK (c_var (pv 0)) (c_cst pe_int (fun H => r_int _ H _))) (c_cst pe_str (fun H => r_str _ H _)) (nomark _)) (w_and1 (op := .And) (t_cmp (o_ne hK hu) (c_var (pv 0)) (c_cst pe_str (fun H => r_str _ H _)) (nomark _))))) (w_or1 (t_not (t_chain o_le o_le (c_var (pv 1)) (c_biT (B := .int) b_int (by rfl) T.n_int (by decide +kernel) (r_cons (c_var (pv 0)) r_nil)) (c_var (pv 2))))))) (ss_cons (s_ret (c_cst pe_non (fun H => r_non _ H)))
      ss_nil) ss_nil)
      (ss_cons (s_ret (c_biT (B := .int) b_int (by rfl) T.n_int (by decide +kernel) (r_cons (c_var (pv 0)) r_nil)))
      ss_nil)))) rfl
theorem ok5 (T : Tx K mg fa ca pa cc ta fd) (A : Al P w K mg base fa cc ta fd k) (A' : Al P w K mg base fa cc ta fd (k - 1)) : FnG P w K mg base (5 * (k + 1)) (fa 5) (fd 5) ["self", "x", "y", "width", "height"] (spF (tb K) (calls fs (k + 1)) 6000 5) := def_ok (F := F_Box__init__) T.f5 sc5 rfl (by decide) rfl (fun _ => rfl) (fun {X} {C} {W} hK hu hu2 hgd hr tk hp hX => by
    have sc := sc5
    obtain ⟨qu, cdv, A0_, outer_, s0_, H0_, E0_, rfl, hC, rfl, hcd⟩ := hX
    obtain ⟨CT, h0_, he_, io_, fa_⟩ := C
    have hC : CT = tb K := hC
    subst hC
    have hcalm : (cxOf (L2.CX P w) P w K mg base ["self", "x", "y", "width", "height"] "Box.__init__" (defScope st5) (fa 5) cdv A0_ outer_ s0_ H0_ E0_).calm = true := rfl
    have hu65 : (cxOf (L2.CX P w) P w K mg base ["self", "x", "y", "width", "height"] "Box.__init__" (defScope st5) (fa 5) cdv A0_ outer_ s0_ H0_ E0_).A.units + 65 < cLine := by omega
    have hr0 : Room (5 * k) _ := hr.mono (by omega)
    have hr1 : Room (5 * k + 1) _ := hr.mono (by omega)
    have hr2 : Room (5 * k + 2) _ := hr.mono (by omega)
    exact (ss_cons (s_iff (t_not (t_tru hK (c_call A.o1 hgd hr0 tk (by rfl) T.m1 T.f1.kp T.b1 (k_cons (m := false) (c_var (pv 1)) (k_cons (m := false) (c_cst pe_int (fun H => r_int _ H _)) (k_cons (m := false) (c_bin o_sub (c_cst (pe_glob (v := .int 1267650600228229401496703205376) (by rfl) (T.g_MOST_SIDE).choose_spec ⟨_, rfl⟩) (fun H => r_int _ H _)) (c_cst pe_int (fun H => r_int _ H _))) k_nil)))))) (ss_cons (s_raise (T.cx3) rfl hcalm tk (pmk_X T.ox3 T.xi3 T.xt3 ((xf3 T).up (by omega)) hgd hr2 T.b3 tk (by decide) (by rfl) T.mC3 (f_cons (c_cst pe_str (fun H => r_str _ H _)) f_nil)))
      ss_nil) ss_nil)
      (ss_cons (s_iff (t_not (t_tru hK (c_call A.o1 hgd hr0 tk (by rfl) T.m1 T.f1.kp T.b1 (k_cons (m := false) (c_var (pv 2)) (k_cons (m := false) (c_cst pe_int (fun H => r_int _ H _)) (k_cons (m := false) (c_bin o_sub (c_cst (pe_glob (v := .int 1267650600228229401496703205376) (by rfl) (T.g_MOST_SIDE).choose_spec ⟨_, rfl⟩) (fun H => r_int _ H _)) (c_cst pe_int (fun H => r_int _ H _))) k_nil)))))) (ss_cons (s_raise (T.cx3) rfl hcalm tk (pmk_X T.ox3 T.xi3 T.xt3 ((xf3 T).up (by omega)) hgd hr2 T.b3 tk (by decide) (by rfl) T.mC3 (f_cons (c_cst pe_str (fun H => r_str _ H _)) f_nil)))
      ss_nil) ss_nil)
      (ss_cons (s_iff (t_not (t_tru hK (c_call A.o1 hgd hr0 tk (by rfl) T.m1 T.f1.kp T.b1 (k_cons (m := false) (c_var (pv 3)) (k_cons (m := false) (c_cst pe_int (fun H => r_int _ H _)) (k_cons (m := false) (c_cst (pe_glob (v := .int 1267650600228229401496703205376) (by rfl) (T.g_MOST_SIDE).choose_spec ⟨_, rfl⟩) (fun H => r_int _ H _)) k_nil)))))) (ss_cons (s_raise (T.cx3) rfl hcalm tk (pmk_X T.ox3 T.xi3 T.xt3 ((xf3 T).up (by omega)) hgd hr2 T.b3 tk (by decide) (by rfl) T.mC3 (f_cons (c_cst pe_str (fun H => r_str _ H _)) f_nil)))
      ss_nil) ss_nil)
      (ss_cons (s_iff (t_not (t_tru hK (c_call A.o1 hgd hr0 tk (by rfl) T.m1 T.f1.kp T.b1 (k_cons (m := false) (c_var (pv 4)) (k_cons (m := false) (c_cst pe_int (fun H => r_int _ H _)) (k_cons (m := false) (c_cst (pe_glob (v := .int 1267650600228229401496703205376) (by rfl) (T.g_MOST_SIDE).choose_spec ⟨_, rfl⟩) (fun H => r_int _ H _)) k_nil)))))) (ss_cons (s_raise (T.cx3) rfl hcalm tk (pmk_X T.ox3 T.xi3 T.xt3 ((xf3 T).up (by omega)) hgd hr2 T.b3 tk (by decide) (by rfl) T.mC3 (f_cons (c_cst pe_str (fun H => r_str _ H _)) f_nil)))
      ss_nil) ss_nil)
      (ss_cons (s_setF (σ := []) (cs := [5]) hK (fld_2 T) (by intro c hc; (repeat (rcases List.mem_cons.mp hc with rfl | hc; rfl)); cases hc) (ps_fld (pv 0) (c_var (pv 1)) (by rfl)))
      (ss_cons (s_setF (σ := []) (cs := [5]) hK (fld_3 T) (by intro c hc; (repeat (rcases List.mem_cons.mp hc with rfl | hc; rfl)); cases hc) (ps_fld (pv 0) (c_var (pv 2)) (by rfl)))
      (ss_cons (s_setF (σ := []) (cs := [5]) hK (fld_4 T) (by intro c hc; (repeat (rcases List.mem_cons.mp hc with rfl | hc; rfl)); cases hc) (ps_fld (pv 0) (c_var (pv 3)) (by rfl)))
      (ss_cons (s_setF (σ := []) (cs := [5]) hK (fld_5 T) (by intro c hc; (repeat (rcases List.mem_cons.mp hc with rfl | hc; rfl)); cases hc) (ps_fld (pv 0) (c_var (pv 4)) (by rfl)))
      ss_nil))))))))) rfl
theorem ok6 (T : Tx K mg fa ca pa cc ta fd) (A : Al P w K mg base fa cc ta fd k) (A' : Al P w K mg base fa cc ta fd (k - 1)) : FnG P w K mg base (5 * (k + 1)) (fa 6) (fd 6) ["cls", "text"] (spF (tb K) (calls fs (k + 1)) 6051 2) := def_ok (F := F_Box_read) T.f6 sc6 rfl (by decide) rfl (fun _ => rfl) (fun {X} {C} {W} hK hu hu2 hgd hr tk hp hX => by
    have sc := sc6
    obtain ⟨qu, cdv, A0_, outer_, s0_, H0_, E0_, rfl, hC, rfl, hcd⟩ := hX
    obtain ⟨CT, h0_, he_, io_, fa_⟩ := C
    have hC : CT = tb K := hC
    subst hC
    have hcalm : (cxOf (L2.CX P w) P w K mg base ["cls", "text", "words", "x", "y", "width", "height"] "Box.read" (defScope st6) (fa 6) cdv A0_ outer_ s0_ H0_ E0_).calm = true := rfl
    have hu65 : (cxOf (L2.CX P w) P w K mg base ["cls", "text", "words", "x", "y", "width", "height"] "Box.read" (defScope st6) (fa 6) cdv A0_ outer_ s0_ H0_ E0_).A.units + 65 < cLine := by omega
    have hr0 : Room (5 * k) _ := hr.mono (by omega)
    have hr1 : Room (5 * k + 1) _ := hr.mono (by omega)
    have hr2 : Room (5 * k + 2) _ := hr.mono (by omega)
    exact (ss_cons (s_iff (t_not (t_tru hK (c_isi hK isi_str (isb T rfl (by decide)) (by rfl) T.n_isinstance (c_var (pv 1)) (pe_bltn (by rfl) T.n_str (by decide +kernel) rfl)))) (ss_cons (s_raise (T.cx6) rfl hcalm tk (pmk_X T.ox6 T.xi6 T.xt6 ((xf6 T).up (by omega)) hgd hr2 T.b4 tk (by decide) (by rfl) T.mC6 (f_cons (c_cst pe_int (fun H => r_int _ H _)) (f_cons (c_cst pe_int (fun H => r_int _ H _)) f_nil))))
      ss_nil) ss_nil)
      (ss_cons (s_asg (ps_set (i := 2) sc.nd rfl (Or.inl rfl) (c_bm hK PySem.F.plainAttrs_str PySem.F.slot_str_split PySem.F.type_str_split m_split rfl (c_var (pv 1)) (c_cst pe_str (fun H => r_str _ H _)))))
      (ss_cons (s_unp (is := [3, 4, 5, 6]) rfl hK (ps_asg (c_callD (ds := [(.int 0), (.int 0)]) A.o8 hgd hr0 tk (by rfl) T.m8 T.f8.kp T.bd8_0.choose_spec.2 T.bd8_0.choose_spec.1 (fun H => by simp only [RepAll, Rep]; exact ⟨_, _, rfl, rfl, _, _, rfl, rfl, rfl⟩) (k_cons (m := false) (c_var (pv 2)) k_nil)) (pg_un rfl (pgs_cons (pg_name (i := 3) sc.nd rfl (Or.inl rfl)) (pgs_cons (pg_name (i := 4) sc.nd rfl (Or.inl rfl)) (pgs_cons (pg_name (i := 5) sc.nd rfl (Or.inl rfl)) (pgs_cons (pg_name (i := 6) sc.nd rfl (Or.inl rfl)) pgs_nil)))))))
      (ss_cons (s_iff (t_cmp o_gt (c_biB (B := .len) (b_len hK) (by rfl) T.n_len (by decide +kernel) (r_cons (c_var (pv 2)) r_nil)) (c_cst pe_int (fun H => r_int _ H _)) (nomark _)) (ss_cons (s_raise (T.cx6) rfl hcalm tk (pmk_X T.ox6 T.xi6 T.xt6 ((xf6 T).up (by omega)) hgd hr2 T.b4 tk (by decide) (by rfl) T.mC6 (f_cons (c_cst pe_int (fun H => r_int _ H _)) (f_cons (c_cst pe_int (fun H => r_int _ H _)) f_nil))))
      ss_nil) ss_nil)
      (ss_cons (s_ret (c_mkL T.mk5 A.o5 hgd hr1 tk rfl (Or.inl rfl) T.ck5 T.b0d5 (f_cons (c_var (pv 3)) (f_cons (c_var (pv 4)) (f_cons (c_var (pv 5)) (f_cons (c_var (pv 6)) f_nil))))))
      ss_nil)))))) rfl
theorem ok7 (T : Tx K mg fa ca pa cc ta fd) (A : Al P w K mg base fa cc ta fd k) (A' : Al P w K mg base fa cc ta fd (k - 1)) : FnG P w K mg base (5 * (k + 1)) (fa 7) (fd 7) ["self"] (spF (tb K) (calls fs (k + 1)) 6021 1) := def_ok (F := F_Box__str__) T.f7 sc7 rfl (by decide) rfl (fun _ => rfl) (fun {X} {C} {W} hK hu hu2 hgd hr tk hp hX => by
    have sc := sc7
    obtain ⟨qu, cdv, A0_, outer_, s0_, H0_, E0_, rfl, hC, rfl, hcd⟩ := hX
    obtain ⟨CT, h0_, he_, io_, fa_⟩ := C
    have hC : CT = tb K := hC
    subst hC
    have hcalm : (cxOf (L2.CX P w) P w K mg base ["self"] "Box.__str__" (defScope st7) (fa 7) cdv A0_ outer_ s0_ H0_ E0_).calm = true := rfl
    have hu65 : (cxOf (L2.CX P w) P w K mg base ["self"] "Box.__str__" (defScope st7) (fa 7) cdv A0_ outer_ s0_ H0_ E0_).A.units + 65 < cLine := by omega
    have hr0 : Room (5 * k) _ := hr.mono (by omega)
    have hr1 : Room (5 * k + 1) _ := hr.mono (by omega)
    have hr2 : Room (5 * k + 2) _ := hr.mono (by omega)
    exact (ss_cons (s_ret (c_fstr (.cons (pe_fmt (c_fld hK (c_var (pv 0)) (fld_2 T))) (.cons p_cst (.cons (pe_fmt (c_fld hK (c_var (pv 0)) (fld_3 T))) (.cons p_cst (.cons (pe_fmt (c_fld hK (c_var (pv 0)) (fld_4 T))) (.cons p_cst (.cons (pe_fmt (c_fld hK (c_var (pv 0)) (fld_5 T))) .nil)))))))))
      ss_nil)) rfl
theorem ok8 (T : Tx K mg fa ca pa cc ta fd) (A : Al P w K mg base fa cc ta fd k) (A' : Al P w K mg base fa cc ta fd (k - 1)) : FnG P w K mg base (5 * (k + 1)) (fa 8) (fd 8) ["words", "begin", "line"] (spF (tb K) (calls fs (k + 1)) 11 3) := def_ok (F := F_box_numbers) T.f8 sc8 rfl (by decide) rfl (fun _ => rfl) (fun {X} {C} {W} hK hu hu2 hgd hr tk hp hX => by
    have sc := sc8
    obtain ⟨qu, cdv, A0_, outer_, s0_, H0_, E0_, rfl, hC, rfl, hcd⟩ := hX
    obtain ⟨CT, h0_, he_, io_, fa_⟩ := C
    have hC : CT = tb K := hC
    subst hC
    have hcalm : (cxOf (L2.CX P w) P w K mg base ["words", "begin", "line", "found", "at", "word", "told"] "box_numbers" (defScope st8) (fa 8) cdv A0_ outer_ s0_ H0_ E0_).calm = true := rfl
    have hu65 : (cxOf (L2.CX P w) P w K mg base ["words", "begin", "line", "found", "at", "word", "told"] "box_numbers" (defScope st8) (fa 8) cdv A0_ outer_ s0_ H0_ E0_).A.units + 65 < cLine := by omega
    have hr0 : Room (5 * k) _ := hr.mono (by omega)
    have hr1 : Room (5 * k + 1) _ := hr.mono (by omega)
    have hr2 : Room (5 * k + 2) _ := hr.mono (by omega)
    exact (ss_cons (s_asg (ps_set (i := 3) sc.nd rfl (Or.inl rfl) (c_lst f_nil)))
      (ss_cons (s_forr (ps_for hp rfl (pi_range1 (by rfl) T.n_range (pa_cons (c_cst pe_int (fun H => r_int _ H _)) pa_nil)) (pg_name (i := 4) sc.nd rfl (Or.inl rfl)) (ss_cons (s_asg (ps_set (i := 5) sc.nd rfl (Or.inl rfl) (c_ife (t_cmp o_lt (c_bin o_add (c_var (pv 1)) (c_var (pv 4))) (c_biB (B := .len) (b_len hK) (by rfl) T.n_len (by decide +kernel) (r_cons (c_var (pv 0)) r_nil)) (nomark _)) (c_ix hK (c_var (pv 0)) (c_bin o_add (c_var (pv 1)) (c_var (pv 4)))) (c_cst pe_str (fun H => r_str _ H _)))))
      (ss_cons (s_asg (ps_set (i := 6) sc.nd rfl (Or.inl rfl) (c_ife (t_cmp o_lt (c_var (pv 4)) (c_cst pe_int (fun H => r_int _ H _)) (nomark _)) (c_call A.o2 hgd hr0 tk (by rfl) T.m2 T.f2.kp T.b2 (k_cons (m := false) (c_var (pv 5)) (k_cons (m := false) (c_cst pe_int (fun H => r_int _ H _)) (k_cons (m := false) (c_bin o_sub (c_cst (pe_glob (v := .int 1267650600228229401496703205376) (by rfl) (T.g_MOST_SIDE).choose_spec ⟨_, rfl⟩) (fun H => r_int _ H _)) (c_cst pe_int (fun H => r_int _ H _))) k_nil)))) (c_call A.o2 hgd hr0 tk (by rfl) T.m2 T.f2.kp T.b2 (k_cons (m := false) (c_var (pv 5)) (k_cons (m := false) (c_cst pe_int (fun H => r_int _ H _)) (k_cons (m := false) (c_cst (pe_glob (v := .int 1267650600228229401496703205376) (by rfl) (T.g_MOST_SIDE).choose_spec ⟨_, rfl⟩) (fun H => r_int _ H _)) k_nil)))))))
      (ss_cons (s_iff (t_cmp o_is (c_var (pv 6)) (c_cst pe_non (fun H => r_non _ H)) (nomark _)) (ss_cons (s_raise (T.cx6) rfl hcalm tk (pmk_X T.ox6 T.xi6 T.xt6 ((xf6 T).up (by omega)) hgd hr2 T.b4 tk (by decide) (by rfl) T.mC6 (f_cons (c_var (pv 2)) (f_cons (c_bin o_add (c_var (pv 1)) (c_var (pv 4))) f_nil))))
      ss_nil) ss_nil)
      (ss_cons (s_app (ps_expr (pe_bm PySem.F.plainAttrs_list PySem.F.slot_list_append PySem.F.type_list_append mt_append (pv 3) (pa_cons (c_var (pv 6)) pa_nil))))
      ss_nil))))))
      (ss_cons (s_ret (c_var (pv 3)))
      ss_nil)))) rfl
theorem ok9 (T : Tx K mg fa ca pa cc ta fd) (A : Al P w K mg base fa cc ta fd k) (A' : Al P w K mg base fa cc ta fd (k - 1)) : FnG P w K mg base (5 * (k + 1)) (fa 9) (fd 9) [] (spF (tb K) (calls fs (k + 1)) 500 0) := def_ok (F := fn9) T.f9 sc9 rfl (by decide) rfl (fun _ => rfl) (fun {X} {C} {W} hK hu hu2 hgd hr tk hp hX => by
    have sc := sc9
    obtain ⟨qu, cdv, A0_, outer_, s0_, H0_, E0_, rfl, hC, rfl, hcd⟩ := hX
    obtain ⟨CT, h0_, he_, io_, fa_⟩ := C
    have hC : CT = tb K := hC
    subst hC
    have hcalm : (cxOf (L2.CX P w) P w K mg base [] "_law_top" (defScope st9) (fa 9) cdv A0_ outer_ s0_ H0_ E0_).calm = true := rfl
    have hu65 : (cxOf (L2.CX P w) P w K mg base [] "_law_top" (defScope st9) (fa 9) cdv A0_ outer_ s0_ H0_ E0_).A.units + 65 < cLine := by omega
    have hr0 : Room (5 * k) _ := hr.mono (by omega)
    have hr1 : Room (5 * k + 1) _ := hr.mono (by omega)
    have hr2 : Room (5 * k + 2) _ := hr.mono (by omega)
    exact (ss_cons (s_ret (c_bin o_mul (c_bin o_pow (c_cst pe_int (fun H => r_int _ H _)) (c_cst pe_int (fun H => r_int _ H _))) (c_bin o_pow (c_cst pe_int (fun H => r_int _ H _)) (c_cst pe_int (fun H => r_int _ H _)))))
      ss_nil)) rfl
theorem ok10 (T : Tx K mg fa ca pa cc ta fd) (A : Al P w K mg base fa cc ta fd k) (A' : Al P w K mg base fa cc ta fd (k - 1)) : FnG P w K mg base (5 * (k + 1)) (fa 10) (fd 10) ["_law_script"] (spF (tb K) (calls fs (k + 1)) 501 1) := def_ok (F := fn10) T.f10 sc10 rfl (by decide) rfl (fun _ => rfl) (fun {X} {C} {W} hK hu hu2 hgd hr tk hp hX => by
    have sc := sc10
    obtain ⟨qu, cdv, A0_, outer_, s0_, H0_, E0_, rfl, hC, rfl, hcd⟩ := hX
    obtain ⟨CT, h0_, he_, io_, fa_⟩ := C
    have hC : CT = tb K := hC
    subst hC
    have hcalm : (cxOf (L2.CX P w) P w K mg base ["_law_script"] "_law_pen" (defScope st10) (fa 10) cdv A0_ outer_ s0_ H0_ E0_).calm = true := rfl
    have hu65 : (cxOf (L2.CX P w) P w K mg base ["_law_script"] "_law_pen" (defScope st10) (fa 10) cdv A0_ outer_ s0_ H0_ E0_).A.units + 65 < cLine := by omega
    have hr0 : Room (5 * k) _ := hr.mono (by omega)
    have hr1 : Room (5 * k + 1) _ := hr.mono (by omega)
    have hr2 : Room (5 * k + 2) _ := hr.mono (by omega)
    exact (ss_cons (s_ret (c_lst (f_cons (c_biT (B := .list) (b_list hK) (by rfl) T.n_list (by decide +kernel) (r_cons (c_slice hK (c_var (pv 0)) so_none (so_some (c_cst pe_int (fun H => r_int _ H _)))) r_nil)) (f_cons (c_cst pe_int (fun H => r_int _ H _)) (f_cons (c_cst pe_int (fun H => r_int _ H _)) f_nil)))))
      ss_nil)) rfl
theorem ok11 (T : Tx K mg fa ca pa cc ta fd) (A : Al P w K mg base fa cc ta fd k) (A' : Al P w K mg base fa cc ta fd (k - 1)) : FnG P w K mg base (5 * (k + 1)) (fa 11) (fd 11) ["_law_pen_here", "_law_many"] (spF (tb K) (calls fs (k + 1)) 502 2) := def_ok (F := fn11) T.f11 sc11 rfl (by decide) rfl (fun _ => rfl) (fun {X} {C} {W} hK hu hu2 hgd hr tk hp hX => by
    have sc := sc11
    obtain ⟨qu, cdv, A0_, outer_, s0_, H0_, E0_, rfl, hC, rfl, hcd⟩ := hX
    obtain ⟨CT, h0_, he_, io_, fa_⟩ := C
    have hC : CT = tb K := hC
    subst hC
    have hcalm : (cxOf (L2.CX P w) P w K mg base ["_law_pen_here", "_law_many", "_law_digit", "_law_at", "_law_cell", "_law_great", "_law_mixed"] "_law_draw" (defScope st11) (fa 11) cdv A0_ outer_ s0_ H0_ E0_).calm = true := rfl
    have hu65 : (cxOf (L2.CX P w) P w K mg base ["_law_pen_here", "_law_many", "_law_digit", "_law_at", "_law_cell", "_law_great", "_law_mixed"] "_law_draw" (defScope st11) (fa 11) cdv A0_ outer_ s0_ H0_ E0_).A.units + 65 < cLine := by omega
    have hr0 : Room (5 * k) _ := hr.mono (by omega)
    have hr1 : Room (5 * k + 1) _ := hr.mono (by omega)
    have hr2 : Room (5 * k + 2) _ := hr.mono (by omega)
    exact (ss_cons (s_iff (t_cmp o_gt (c_ix hK (c_var (pv 0)) (c_cst pe_int (fun H => r_int _ H _))) (c_cst pe_int (fun H => r_int _ H _)) (nomark _)) (ss_cons (s_asg (ps_set (i := 2) sc.nd rfl (Or.inl rfl) (c_bin o_mod (c_biT (B := .int) b_int (by rfl) T.n_int (by decide +kernel) (r_cons (c_ix hK (c_var (pv 0)) (c_cst pe_int (fun H => r_int _ H _))) r_nil)) (c_var (pv 1)))))
      (ss_cons (s_setI (ps_asg (c_bin o_fdiv (c_biT (B := .int) b_int (by rfl) T.n_int (by decide +kernel) (r_cons (c_ix hK (c_var (pv 0)) (c_cst pe_int (fun H => r_int _ H _))) r_nil)) (c_var (pv 1))) (pg_sub (pv 0) (c_cst pe_int (fun H => r_int _ H _)) set_list)))
      (ss_cons (s_ret (c_var (pv 2)))
      ss_nil))) ss_nil)
      (ss_cons (s_asg (ps_set (i := 3) sc.nd rfl (Or.inl rfl) (c_ix hK (c_var (pv 0)) (c_cst pe_int (fun H => r_int _ H _)))))
      (ss_cons (s_setI (ps_asg (c_bin o_add (c_var (pv 3)) (c_cst pe_int (fun H => r_int _ H _))) (pg_sub (pv 0) (c_cst pe_int (fun H => r_int _ H _)) set_list)))
      (ss_cons (s_asg (ps_set (i := 4) sc.nd rfl (Or.inl rfl) (c_bin o_add (c_bin o_mul (c_cst pe_int (fun H => r_int _ H _)) (c_var (pv 3))) (c_cst pe_int (fun H => r_int _ H _)))))
      (ss_cons (s_iff (t_cmp (o_ne hK hu) (c_ix hK (c_var (pv 0)) (c_cst pe_int (fun H => r_int _ H _))) (c_lst f_nil) (nomark _)) (ss_cons (s_asg (ps_set (i := 4) sc.nd rfl (Or.inl rfl) (c_ix hK (c_ix hK (c_var (pv 0)) (c_cst pe_int (fun H => r_int _ H _))) (c_bin o_mod (c_biT (B := .int) b_int (by rfl) T.n_int (by decide +kernel) (r_cons (c_var (pv 3)) r_nil)) (c_biB (B := .len) (b_len hK) (by rfl) T.n_len (by decide +kernel) (r_cons (c_ix hK (c_var (pv 0)) (c_cst pe_int (fun H => r_int _ H _))) r_nil))))))
      ss_nil) ss_nil)
      (ss_cons (s_iff (PW.pt (w_and (t_cmp o_lt (c_var (pv 3)) (c_biB (B := .len) (b_len hK) (by rfl) T.n_len (by decide +kernel) (r_cons (c_ix hK (c_var (pv 0)) (c_cst pe_int (fun H => r_int _ H _))) r_nil)) (nomark _)) (w_and1 (op := .And) (t_cmp o_ge (c_biB (B := .abs) b_abs (by rfl) T.n_abs (by decide +kernel) (r_cons (c_var (pv 4)) r_nil)) (c_bin o_pow (c_cst pe_int (fun H => r_int _ H _)) (c_cst pe_int (fun H => r_int _ H _))) (nomark _))))) (ss_cons (s_asg (ps_set (i := 5) sc.nd rfl (Or.inl rfl) (c_bin o_add (c_bin o_mul (c_cst pe_int (fun H => r_int _ H _)) (c_bin o_sub (c_biB (B := .abs) b_abs (by rfl) T.n_abs (by decide +kernel) (r_cons (c_var (pv 4)) r_nil)) (c_bin o_pow (c_cst pe_int (fun H => r_int _ H _)) (c_cst pe_int (fun H => r_int _ H _))))) (c_biT (B := .int) b_int (by rfl) T.n_int (by decide +kernel) (r_cons (c_cmp o_lt (c_var (pv 4)) (c_cst pe_int (fun H => r_int _ H _)) (nomark _)) r_nil)))))
      (ss_cons (s_setI (ps_asg (c_bin o_fdiv (c_biT (B := .int) b_int (by rfl) T.n_int (by decide +kernel) (r_cons (c_var (pv 5)) r_nil)) (c_var (pv 1))) (pg_sub (pv 0) (c_cst pe_int (fun H => r_int _ H _)) set_list)))
      (ss_cons (s_ret (c_bin o_mod (c_biT (B := .int) b_int (by rfl) T.n_int (by decide +kernel) (r_cons (c_var (pv 5)) r_nil)) (c_var (pv 1))))
      ss_nil))) ss_nil)
      (ss_cons (s_asg (ps_set (i := 6) sc.nd rfl (Or.inl rfl) (c_bin o_mod (c_biT (B := .int) b_int (by rfl) T.n_int (by decide +kernel) (r_cons (c_bin o_pow (c_bin o_add (c_bin o_add (c_bin o_mod (c_biT (B := .int) b_int (by rfl) T.n_int (by decide +kernel) (r_cons (c_var (pv 4)) r_nil)) (c_cst pe_int (fun H => r_int _ H _))) (c_bin o_mul (c_cst pe_int (fun H => r_int _ H _)) (c_var (pv 3)))) (c_cst pe_int (fun H => r_int _ H _))) (c_cst pe_int (fun H => r_int _ H _))) r_nil)) (c_cst pe_int (fun H => r_int _ H _)))))
      (ss_cons (s_asg (ps_set (i := 6) sc.nd rfl (Or.inl rfl) (c_bin o_mod (c_biT (B := .int) b_int (by rfl) T.n_int (by decide +kernel) (r_cons (c_bin o_pow (c_bin o_add (c_bin o_add (c_bin o_mul (c_var (pv 6)) (c_bin o_add (c_bin o_mul (c_cst pe_int (fun H => r_int _ H _)) (c_var (pv 3))) (c_cst pe_int (fun H => r_int _ H _)))) (c_bin o_mul (c_bin o_mul (c_cst pe_int (fun H => r_int _ H _)) (c_var (pv 3))) (c_var (pv 3)))) (c_cst pe_int (fun H => r_int _ H _))) (c_cst pe_int (fun H => r_int _ H _))) r_nil)) (c_cst pe_int (fun H => r_int _ H _)))))
      (ss_cons (s_ret (c_bin o_mod (c_biT (B := .int) b_int (by rfl) T.n_int (by decide +kernel) (r_cons (c_bin o_fdiv (c_var (pv 6)) (c_cst pe_int (fun H => r_int _ H _))) r_nil)) (c_var (pv 1))))
      ss_nil)))))))))) rfl
theorem ok12 (T : Tx K mg fa ca pa cc ta fd) (A : Al P w K mg base fa cc ta fd k) (A' : Al P w K mg base fa cc ta fd (k - 1)) : FnG P w K mg base (5 * (k + 1)) (fa 12) (fd 12) ["_law_pen_here", "_law_some"] (spF (tb K) (calls fs (k + 1)) 503 2) := def_ok (F := fn12) T.f12 sc12 rfl (by decide) rfl (fun _ => rfl) (fun {X} {C} {W} hK hu hu2 hgd hr tk hp hX => by
    have sc := sc12
    obtain ⟨qu, cdv, A0_, outer_, s0_, H0_, E0_, rfl, hC, rfl, hcd⟩ := hX
    obtain ⟨CT, h0_, he_, io_, fa_⟩ := C
    have hC : CT = tb K := hC
    subst hC
    have hcalm : (cxOf (L2.CX P w) P w K mg base ["_law_pen_here", "_law_some"] "_law_pick" (defScope st12) (fa 12) cdv A0_ outer_ s0_ H0_ E0_).calm = true := rfl
    have hu65 : (cxOf (L2.CX P w) P w K mg base ["_law_pen_here", "_law_some"] "_law_pick" (defScope st12) (fa 12) cdv A0_ outer_ s0_ H0_ E0_).A.units + 65 < cLine := by omega
    have hr0 : Room (5 * k) _ := hr.mono (by omega)
    have hr1 : Room (5 * k + 1) _ := hr.mono (by omega)
    have hr2 : Room (5 * k + 2) _ := hr.mono (by omega)
    exact (ss_cons (s_ret (c_ix hK (c_var (pv 1)) (c_call A.o11 hgd hr0 tk (by rfl) T.m11 T.f11.kp T.b11 (k_cons (m := true) (c_var (pv 0)) (k_cons (m := false) (c_biB (B := .len) (b_len hK) (by rfl) T.n_len (by decide +kernel) (r_cons (c_var (pv 1)) r_nil)) k_nil)))))
      ss_nil)) rfl
theorem ok13 (T : Tx K mg fa ca pa cc ta fd) (A : Al P w K mg base fa cc ta fd k) (A' : Al P w K mg base fa cc ta fd (k - 1)) : FnG P w K mg base (5 * (k + 1)) (fa 13) (fd 13) ["_law_pen_here"] (spF (tb K) (calls fs (k + 1)) 504 1) := def_ok (F := fn13) T.f13 sc13 rfl (by decide) rfl (fun _ => rfl) (fun {X} {C} {W} hK hu hu2 hgd hr tk hp hX => by
    have sc := sc13
    obtain ⟨qu, cdv, A0_, outer_, s0_, H0_, E0_, rfl, hC, rfl, hcd⟩ := hX
    obtain ⟨CT, h0_, he_, io_, fa_⟩ := C
    have hC : CT = tb K := hC
    subst hC
    have hcalm : (cxOf (L2.CX P w) P w K mg base ["_law_pen_here"] "_law_number" (defScope st13) (fa 13) cdv A0_ outer_ s0_ H0_ E0_).calm = true := rfl
    have hu65 : (cxOf (L2.CX P w) P w K mg base ["_law_pen_here"] "_law_number" (defScope st13) (fa 13) cdv A0_ outer_ s0_ H0_ E0_).A.units + 65 < cLine := by omega
    have hr0 : Room (5 * k) _ := hr.mono (by omega)
    have hr1 : Room (5 * k + 1) _ := hr.mono (by omega)
    have hr2 : Room (5 * k + 2) _ := hr.mono (by omega)
    exact (ss_cons (s_ret (c_call A.o12 hgd hr0 tk (by rfl) T.m12 T.f12.kp T.b12 (k_cons (m := true) (c_var (pv 0)) (k_cons (m := false) (c_lst (f_cons (c_cst pe_int (fun H => r_int _ H _)) (f_cons (c_cst pe_int (fun H => r_int _ H _)) (f_cons (c_cst pe_int (fun H => r_int _ H _)) (f_cons (c_cst pe_int (fun H => r_int _ H _)) (f_cons (c_cst pe_int (fun H => r_int _ H _)) (f_cons (c_cst pe_int (fun H => r_int _ H _)) (f_cons (c_call A.o11 hgd hr0 tk (by rfl) T.m11 T.f11.kp T.b11 (k_cons (m := true) (c_var (pv 0)) (k_cons (m := false) (c_cst pe_int (fun H => r_int _ H _)) k_nil))) (f_cons (c_bin o_sub (c_bin o_fdiv (c_call0 A.o9 hgd hr0 tk (by rfl) T.m9 T.f9.kp T.b9) (c_cst pe_int (fun H => r_int _ H _))) (c_call A.o11 hgd hr0 tk (by rfl) T.m11 T.f11.kp T.b11 (k_cons (m := true) (c_var (pv 0)) (k_cons (m := false) (c_cst pe_int (fun H => r_int _ H _)) k_nil)))) f_nil))))))))) k_nil))))
      ss_nil)) rfl
theorem ok14 (T : Tx K mg fa ca pa cc ta fd) (A : Al P w K mg base fa cc ta fd k) (A' : Al P w K mg base fa cc ta fd (k - 1)) : FnG P w K mg base (5 * (k + 1)) (fa 14) (fd 14) ["_law_pen_here"] (spF (tb K) (calls fs (k + 1)) 505 1) := def_ok (F := fn14) T.f14 sc14 rfl (by decide) rfl (fun _ => rfl) (fun {X} {C} {W} hK hu hu2 hgd hr tk hp hX => by
    have sc := sc14
    obtain ⟨qu, cdv, A0_, outer_, s0_, H0_, E0_, rfl, hC, rfl, hcd⟩ := hX
    obtain ⟨CT, h0_, he_, io_, fa_⟩ := C
    have hC : CT = tb K := hC
    subst hC
    have hcalm : (cxOf (L2.CX P w) P w K mg base ["_law_pen_here"] "_law_side" (defScope st14) (fa 14) cdv A0_ outer_ s0_ H0_ E0_).calm = true := rfl
    have hu65 : (cxOf (L2.CX P w) P w K mg base ["_law_pen_here"] "_law_side" (defScope st14) (fa 14) cdv A0_ outer_ s0_ H0_ E0_).A.units + 65 < cLine := by omega
    have hr0 : Room (5 * k) _ := hr.mono (by omega)
    have hr1 : Room (5 * k + 1) _ := hr.mono (by omega)
    have hr2 : Room (5 * k + 2) _ := hr.mono (by omega)
    exact (ss_cons (s_ret (c_call A.o12 hgd hr0 tk (by rfl) T.m12 T.f12.kp T.b12 (k_cons (m := true) (c_var (pv 0)) (k_cons (m := false) (c_lst (f_cons (c_cst pe_int (fun H => r_int _ H _)) (f_cons (c_cst pe_int (fun H => r_int _ H _)) (f_cons (c_cst pe_int (fun H => r_int _ H _)) (f_cons (c_cst pe_int (fun H => r_int _ H _)) (f_cons (c_cst pe_int (fun H => r_int _ H _)) (f_cons (c_bin o_add (c_cst pe_int (fun H => r_int _ H _)) (c_call A.o11 hgd hr0 tk (by rfl) T.m11 T.f11.kp T.b11 (k_cons (m := true) (c_var (pv 0)) (k_cons (m := false) (c_cst pe_int (fun H => r_int _ H _)) k_nil)))) (f_cons (c_bin o_add (c_bin o_fdiv (c_call0 A.o9 hgd hr0 tk (by rfl) T.m9 T.f9.kp T.b9) (c_cst pe_int (fun H => r_int _ H _))) (c_call A.o11 hgd hr0 tk (by rfl) T.m11 T.f11.kp T.b11 (k_cons (m := true) (c_var (pv 0)) (k_cons (m := false) (c_cst pe_int (fun H => r_int _ H _)) k_nil)))) f_nil)))))))) k_nil))))
      ss_nil)) rfl
theorem ok15 (T : Tx K mg fa ca pa cc ta fd) (A : Al P w K mg base fa cc ta fd k) (A' : Al P w K mg base fa cc ta fd (k - 1)) : FnG P w K mg base (5 * (k + 1)) (fa 15) (fd 15) ["_law_pen_here"] (spF (tb K) (calls fs (k + 1)) 506 1) := def_ok (F := fn15) T.f15 sc15 rfl (by decide) rfl (fun _ => rfl) (fun {X} {C} {W} hK hu hu2 hgd hr tk hp hX => by
    have sc := sc15
    obtain ⟨qu, cdv, A0_, outer_, s0_, H0_, E0_, rfl, hC, rfl, hcd⟩ := hX
    obtain ⟨CT, h0_, he_, io_, fa_⟩ := C
    have hC : CT = tb K := hC
    subst hC
    have hcalm : (cxOf (L2.CX P w) P w K mg base ["_law_pen_here"] "_law_four" (defScope st15) (fa 15) cdv A0_ outer_ s0_ H0_ E0_).calm = true := rfl
    have hu65 : (cxOf (L2.CX P w) P w K mg base ["_law_pen_here"] "_law_four" (defScope st15) (fa 15) cdv A0_ outer_ s0_ H0_ E0_).A.units + 65 < cLine := by omega
    have hr0 : Room (5 * k) _ := hr.mono (by omega)
    have hr1 : Room (5 * k + 1) _ := hr.mono (by omega)
    have hr2 : Room (5 * k + 2) _ := hr.mono (by omega)
    exact (ss_cons (s_ret (c_tup (f_cons (c_call A.o13 hgd hr0 tk (by rfl) T.m13 T.f13.kp T.b13 (k_cons (m := true) (c_var (pv 0)) k_nil)) (f_cons (c_call A.o13 hgd hr0 tk (by rfl) T.m13 T.f13.kp T.b13 (k_cons (m := true) (c_var (pv 0)) k_nil)) (f_cons (c_call A.o14 hgd hr0 tk (by rfl) T.m14 T.f14.kp T.b14 (k_cons (m := true) (c_var (pv 0)) k_nil)) (f_cons (c_call A.o14 hgd hr0 tk (by rfl) T.m14 T.f14.kp T.b14 (k_cons (m := true) (c_var (pv 0)) k_nil)) f_nil))))))
      ss_nil)) rfl
theorem ok16 (T : Tx K mg fa ca pa cc ta fd) (A : Al P w K mg base fa cc ta fd k) (A' : Al P w K mg base fa cc ta fd (k - 1)) : FnG P w K mg base (5 * (k + 1)) (fa 16) (fd 16) ["_law_box"] (spF (tb K) (calls fs (k + 1)) 507 1) := def_ok (F := fn16) T.f16 sc16 rfl (by decide) rfl (fun _ => rfl) (fun {X} {C} {W} hK hu hu2 hgd hr tk hp hX => by
    have sc := sc16
    obtain ⟨qu, cdv, A0_, outer_, s0_, H0_, E0_, rfl, hC, rfl, hcd⟩ := hX
    obtain ⟨CT, h0_, he_, io_, fa_⟩ := C
    have hC : CT = tb K := hC
    subst hC
    have hcalm : (cxOf (L2.CX P w) P w K mg base ["_law_box"] "_law_told" (defScope st16) (fa 16) cdv A0_ outer_ s0_ H0_ E0_).calm = true := rfl
    have hu65 : (cxOf (L2.CX P w) P w K mg base ["_law_box"] "_law_told" (defScope st16) (fa 16) cdv A0_ outer_ s0_ H0_ E0_).A.units + 65 < cLine := by omega
    have hr0 : Room (5 * k) _ := hr.mono (by omega)
    have hr1 : Room (5 * k + 1) _ := hr.mono (by omega)
    have hr2 : Room (5 * k + 2) _ := hr.mono (by omega)
    exact (ss_cons (s_ret (c_tup (f_cons (c_fld hK (c_var (pv 0)) (fld_2 T)) (f_cons (c_fld hK (c_var (pv 0)) (fld_3 T)) (f_cons (c_fld hK (c_var (pv 0)) (fld_4 T)) (f_cons (c_fld hK (c_var (pv 0)) (fld_5 T)) f_nil))))))
      ss_nil)) rfl
theorem ok18 (T : Tx K mg fa ca pa cc ta fd) (A : Al P w K mg base fa cc ta fd k) (A' : Al P w K mg base fa cc ta fd (k - 1)) : FnG P w K mg base (5 * (k + 1)) (fa 18) (fd 18) ["_law_word", "_law_least", "_law_most"] (spF (tb K) (calls fs (k + 1)) 509 3) := def_ok (F := fn18) T.f18 sc18 rfl (by decide) rfl (fun _ => rfl) (fun {X} {C} {W} hK hu hu2 hgd hr tk hp hX => by
    have sc := sc18
    obtain ⟨qu, cdv, A0_, outer_, s0_, H0_, E0_, rfl, hC, rfl, hcd⟩ := hX
    obtain ⟨CT, h0_, he_, io_, fa_⟩ := C
    have hC : CT = tb K := hC
    subst hC
    have hcalm : (cxOf (L2.CX P w) P w K mg base ["_law_word", "_law_least", "_law_most", "_law_sign"] "_law_is_number" (defScope st18) (fa 18) cdv A0_ outer_ s0_ H0_ E0_).calm = true := rfl
    have hu65 : (cxOf (L2.CX P w) P w K mg base ["_law_word", "_law_least", "_law_most", "_law_sign"] "_law_is_number" (defScope st18) (fa 18) cdv A0_ outer_ s0_ H0_ E0_).A.units + 65 < cLine := by omega
    have hr0 : Room (5 * k) _ := hr.mono (by omega)
    have hr1 : Room (5 * k + 1) _ := hr.mono (by omega)
    have hr2 : Room (5 * k + 2) _ := hr.mono (by omega)
    exact (ss_cons (s_iff (PW.pt (w_or (t_cmp (o_eq hK hu) (c_var (pv 0)) (c_cst pe_str (fun H => r_str _ H _)) (nomark _)) (w_or (t_cmp o_gt (c_biB (B := .len) (b_len hK) (by rfl) T.n_len (by decide +kernel) (r_cons (c_var (pv 0)) r_nil)) (c_cst pe_int (fun H => r_int _ H _)) (nomark _)) (w_or1 (t_cmp (o_ne hK hu) (c_lc (vs := [3]) hK hcalm sc.nd (i_str (c_var (pv 0))) (blkOk_by (own := [("_law_sign", 3)]) (by kernel_rfl)) (fun _ _ _ _ _ => (pg_name (i := 3) sc.nd rfl (Or.inl rfl))) (fun _ _ _ _ _ => pt_tst fun _ _ _ _ => (t_cmp (o_notin hK hu65) (c_var (pv 3)) (c_cst pe_str (fun H => r_str _ H _)) (by rfl))) (fun _ _ _ _ _ => pe_elt fun _ _ _ _ => (c_var (pv 3)))) (c_lst f_nil) (nomark _)))))) (ss_cons (s_ret (c_cst pe_bl (fun H => r_bl _ H _)))
      ss_nil) ss_nil)
      (ss_cons (s_ret (c_and hK (c_cmp (o_eq hK hu) (c_biT (B := .str) b_str (by rfl) T.n_str (by decide +kernel) (r_cons (c_biT (B := .int) b_int (by rfl) T.n_int (by decide +kernel) (r_cons (c_var (pv 0)) r_nil)) r_nil)) (c_var (pv 0)) (nomark _)) (c_one (c_chain o_le o_le (c_var (pv 1)) (c_biT (B := .int) b_int (by rfl) T.n_int (by decide +kernel) (r_cons (c_var (pv 0)) r_nil)) (c_var (pv 2))))))
      ss_nil))) rfl
theorem ok19 (T : Tx K mg fa ca pa cc ta fd) (A : Al P w K mg base fa cc ta fd k) (A' : Al P w K mg base fa cc ta fd (k - 1)) : FnG P w K mg base (5 * (k + 1)) (fa 19) (fd 19) ["_law_line"] (spF (tb K) (calls fs (k + 1)) 510 1) := def_ok (F := fn19) T.f19 sc19 rfl (by decide) rfl (fun _ => rfl) (fun {X} {C} {W} hK hu hu2 hgd hr tk hp hX => by
    have sc := sc19
    obtain ⟨qu, cdv, A0_, outer_, s0_, H0_, E0_, rfl, hC, rfl, hcd⟩ := hX
    obtain ⟨CT, h0_, he_, io_, fa_⟩ := C
    have hC : CT = tb K := hC
    subst hC
    have hcalm : (cxOf (L2.CX P w) P w K mg base ["_law_line", "_law_words", "_law_at", "_law_least", "_law_most"] "_law_wrong" (defScope st19) (fa 19) cdv A0_ outer_ s0_ H0_ E0_).calm = true := rfl
    have hu65 : (cxOf (L2.CX P w) P w K mg base ["_law_line", "_law_words", "_law_at", "_law_least", "_law_most"] "_law_wrong" (defScope st19) (fa 19) cdv A0_ outer_ s0_ H0_ E0_).A.units + 65 < cLine := by omega
    have hr0 : Room (5 * k) _ := hr.mono (by omega)
    have hr1 : Room (5 * k + 1) _ := hr.mono (by omega)
    have hr2 : Room (5 * k + 2) _ := hr.mono (by omega)
    exact (ss_cons (s_asg (ps_set (i := 1) sc.nd rfl (Or.inl rfl) (c_bm hK PySem.F.plainAttrs_str PySem.F.slot_str_split PySem.F.type_str_split m_split rfl (c_var (pv 0)) (c_cst pe_str (fun H => r_str _ H _)))))
      (ss_cons (s_forr (ps_for hp rfl (pi_range1 (by rfl) T.n_range (pa_cons (c_cst pe_int (fun H => r_int _ H _)) pa_nil)) (pg_name (i := 2) sc.nd rfl (Or.inl rfl)) (ss_cons (s_unp (is := [3, 4]) rfl hK (ps_asg (c_ife (t_cmp o_lt (c_var (pv 2)) (c_cst pe_int (fun H => r_int _ H _)) (nomark _)) (c_tup (f_cons (c_cst pe_int (fun H => r_int _ H _)) (f_cons (c_bin o_sub (c_call0 A.o9 hgd hr0 tk (by rfl) T.m9 T.f9.kp T.b9) (c_cst pe_int (fun H => r_int _ H _))) f_nil))) (c_tup (f_cons (c_cst pe_int (fun H => r_int _ H _)) (f_cons (c_call0 A.o9 hgd hr0 tk (by rfl) T.m9 T.f9.kp T.b9) f_nil)))) (pg_un rfl (pgs_cons (pg_name (i := 3) sc.nd rfl (Or.inl rfl)) (pgs_cons (pg_name (i := 4) sc.nd rfl (Or.inl rfl)) pgs_nil)))))
      (ss_cons (s_iff (PW.pt (w_or (t_cmp o_ge (c_var (pv 2)) (c_biB (B := .len) (b_len hK) (by rfl) T.n_len (by decide +kernel) (r_cons (c_var (pv 1)) r_nil)) (nomark _)) (w_or1 (t_not (t_tru hK (c_call A.o18 hgd hr0 tk (by rfl) T.m18 T.f18.kp T.b18 (k_cons (m := false) (c_ix hK (c_var (pv 1)) (c_var (pv 2))) (k_cons (m := false) (c_var (pv 3)) (k_cons (m := false) (c_var (pv 4)) k_nil))))))))) (ss_cons (s_ret (c_var (pv 2)))
      ss_nil) ss_nil)
      ss_nil))))
      (ss_cons (s_ret (c_ife (t_cmp o_gt (c_biB (B := .len) (b_len hK) (by rfl) T.n_len (by decide +kernel) (r_cons (c_var (pv 1)) r_nil)) (c_cst pe_int (fun H => r_int _ H _)) (nomark _)) (c_cst pe_int (fun H => r_int _ H _)) (c_cst pe_non (fun H => r_non _ H))))
      ss_nil)))) rfl
theorem ok20 (T : Tx K mg fa ca pa cc ta fd) (A : Al P w K mg base fa cc ta fd k) (A' : Al P w K mg base fa cc ta fd (k - 1)) : FnG P w K mg base (5 * (k + 1)) (fa 20) (fd 20) ["_law_pen_here", "_law_line"] (spF (tb K) (calls fs (k + 1)) 511 2) := def_ok (F := fn20) T.f20 sc20 rfl (by decide) rfl (fun _ => rfl) (fun {X} {C} {W} hK hu hu2 hgd hr tk hp hX => by
    have sc := sc20
    obtain ⟨qu, cdv, A0_, outer_, s0_, H0_, E0_, rfl, hC, rfl, hcd⟩ := hX
    obtain ⟨CT, h0_, he_, io_, fa_⟩ := C
    have hC : CT = tb K := hC
    subst hC
    have hcalm : (cxOf (L2.CX P w) P w K mg base ["_law_pen_here", "_law_line", "_law_way", "_law_spot", "_law_some", "_law_sign"] "_law_bent" (defScope st20) (fa 20) cdv A0_ outer_ s0_ H0_ E0_).calm = true := rfl
    have hu65 : (cxOf (L2.CX P w) P w K mg base ["_law_pen_here", "_law_line", "_law_way", "_law_spot", "_law_some", "_law_sign"] "_law_bent" (defScope st20) (fa 20) cdv A0_ outer_ s0_ H0_ E0_).A.units + 65 < cLine := by omega
    have hr0 : Room (5 * k) _ := hr.mono (by omega)
    have hr1 : Room (5 * k + 1) _ := hr.mono (by omega)
    have hr2 : Room (5 * k + 2) _ := hr.mono (by omega)
    exact (ss_cons (s_par2 (ps_par (i := 2) (j := 3) rfl sc.nd rfl rfl (by decide) rfl rfl (f_cons (c_call A.o11 hgd hr0 tk (by rfl) T.m11 T.f11.kp T.b11 (k_cons (m := true) (c_var (pv 0)) (k_cons (m := false) (c_cst pe_int (fun H => r_int _ H _)) k_nil))) (f_cons (c_call A.o11 hgd hr0 tk (by rfl) T.m11 T.f11.kp T.b11 (k_cons (m := true) (c_var (pv 0)) (k_cons (m := false) (c_bin o_add (c_biB (B := .len) (b_len hK) (by rfl) T.n_len (by decide +kernel) (r_cons (c_var (pv 1)) r_nil)) (c_cst pe_int (fun H => r_int _ H _))) k_nil))) f_nil)) (by rfl)))
      (ss_cons (s_asg (ps_set (i := 4) sc.nd rfl (Or.inl rfl) (c_lst (f_cons (c_cst pe_str (fun H => r_str _ H _)) (f_cons (c_cst pe_str (fun H => r_str _ H _)) (f_cons (c_cst pe_str (fun H => r_str _ H _)) (f_cons (c_cst pe_str (fun H => r_str _ H _)) (f_cons (c_cst pe_str (fun H => r_str _ H _)) (f_cons (c_cst pe_str (fun H => r_str _ H _)) (f_cons (c_cst pe_str (fun H => r_str _ H _)) (f_cons (c_cst pe_str (fun H => r_str _ H _)) (f_cons (c_cst pe_str (fun H => r_str _ H _)) (f_cons (c_cst pe_str (fun H => r_str _ H _)) (f_cons (c_cst pe_str (fun H => r_str _ H _)) (f_cons (c_biT (B := .str) b_str (by rfl) T.n_str (by decide +kernel) (r_cons (c_call0 A.o9 hgd hr0 tk (by rfl) T.m9 T.f9.kp T.b9) r_nil)) (f_cons (c_bin o_mul (c_cst pe_str (fun H => r_str _ H _)) (c_cst pe_int (fun H => r_int _ H _))) (f_cons (c_cst pe_str (fun H => r_str _ H _)) f_nil)))))))))))))))))
      (ss_cons (s_asg (ps_set (i := 5) sc.nd rfl (Or.inl rfl) (c_call A.o12 hgd hr0 tk (by rfl) T.m12 T.f12.kp T.b12 (k_cons (m := true) (c_var (pv 0)) (k_cons (m := false) (c_bin o_add (c_var (pv 4)) (c_lst (f_cons (c_biT (B := .str) b_str (by rfl) T.n_str (by decide +kernel) (r_cons (c_bin o_add (c_call0 A.o9 hgd hr0 tk (by rfl) T.m9 T.f9.kp T.b9) (c_cst pe_int (fun H => r_int _ H _))) r_nil)) f_nil))) k_nil)))))
      (ss_cons (s_iff (t_cmp (o_eq hK hu) (c_var (pv 2)) (c_cst pe_int (fun H => r_int _ H _)) (nomark _)) (ss_cons (s_ret (c_bin o_add (c_slice hK (c_var (pv 1)) so_none (so_some (c_var (pv 3)))) (c_slice hK (c_var (pv 1)) (so_some (c_bin o_add (c_var (pv 3)) (c_cst pe_int (fun H => r_int _ H _)))) so_none)))
      ss_nil) ss_nil)
      (ss_cons (s_iff (t_cmp o_lt (c_var (pv 2)) (c_cst pe_int (fun H => r_int _ H _)) (nomark _)) (ss_cons (s_ret (c_bin o_add (c_bin o_add (c_slice hK (c_var (pv 1)) so_none (so_some (c_var (pv 3)))) (c_var (pv 5))) (c_slice hK (c_var (pv 1)) (so_some (c_bin o_sub (c_bin o_add (c_var (pv 3)) (c_var (pv 2))) (c_cst pe_int (fun H => r_int _ H _)))) so_none)))
      ss_nil) ss_nil)
      (ss_cons (s_ret (c_ife (t_cmp (o_eq hK hu) (c_var (pv 2)) (c_cst pe_int (fun H => r_int _ H _)) (nomark _)) (c_bin o_add (c_var (pv 1)) (c_var (pv 5))) (c_bin o_add (c_var (pv 5)) (c_var (pv 1)))))
      ss_nil))))))) rfl
theorem ok21 (T : Tx K mg fa ca pa cc ta fd) (A : Al P w K mg base fa cc ta fd k) (A' : Al P w K mg base fa cc ta fd (k - 1)) : FnG P w K mg base (5 * (k + 1)) (fa 21) (fd 21) ["_law_script"] (spF (tb K) (calls fs (k + 1)) 512 1) := def_ok (F := fn21) T.f21 sc21 rfl (by decide) rfl (fun _ => rfl) (fun {X} {C} {W} hK hu hu2 hgd hr tk hp hX => by
    have sc := sc21
    obtain ⟨qu, cdv, A0_, outer_, s0_, H0_, E0_, rfl, hC, rfl, hcd⟩ := hX
    obtain ⟨CT, h0_, he_, io_, fa_⟩ := C
    have hC : CT = tb K := hC
    subst hC
    have hcalm : (cxOf (L2.CX P w) P w K mg base ["_law_script", "_law_pen_here", "_law_turn", "_law_great", "_law_four_here", "_law_line", "_law_one", "_law_bent_here", "_law_wrong_here", "_law_heard_here", "_law_odd", "_law_some", "_law_due", "_law_word"] "law" (defScope st21) (fa 21) cdv A0_ outer_ s0_ H0_ E0_).calm = true := rfl
    have hu65 : (cxOf (L2.CX P w) P w K mg base ["_law_script", "_law_pen_here", "_law_turn", "_law_great", "_law_four_here", "_law_line", "_law_one", "_law_bent_here", "_law_wrong_here", "_law_heard_here", "_law_odd", "_law_some", "_law_due", "_law_word"] "law" (defScope st21) (fa 21) cdv A0_ outer_ s0_ H0_ E0_).A.units + 65 < cLine := by omega
    have hr0 : Room (5 * k) _ := hr.mono (by omega)
    have hr1 : Room (5 * k + 1) _ := hr.mono (by omega)
    have hr2 : Room (5 * k + 2) _ := hr.mono (by omega)
    have hcode : cdv = .ref (cc 21) := hcd.symm.trans T.q21
    exact (ss_cons (s_asg (ps_set (i := 1) sc.nd rfl (Or.inl rfl) (c_call A.o10 hgd hr0 tk (by rfl) T.m10 T.f10.kp T.b10 (k_cons (m := false) (c_var (pv 0)) k_nil))))
      (ss_cons (s_forr (ps_for hp rfl (pi_range1 (by rfl) T.n_range (pa_cons (c_cst pe_int (fun H => r_int _ H _)) pa_nil)) (pg_name (i := 2) sc.nd rfl (Or.inl rfl)) (ss_cons (s_asg (ps_set (i := 3) sc.nd rfl (Or.inl rfl) (c_tup (f_cons (c_bin o_sub (c_call0 A.o9 hgd hr0 tk (by rfl) T.m9 T.f9.kp T.b9) (c_cst pe_int (fun H => r_int _ H _))) (f_cons (c_bin o_sub (c_call0 A.o9 hgd hr0 tk (by rfl) T.m9 T.f9.kp T.b9) (c_cst pe_int (fun H => r_int _ H _))) (f_cons (c_call0 A.o9 hgd hr0 tk (by rfl) T.m9 T.f9.kp T.b9) (f_cons (c_call0 A.o9 hgd hr0 tk (by rfl) T.m9 T.f9.kp T.b9) f_nil)))))))
      (ss_cons (s_asg (ps_set (i := 4) sc.nd rfl (Or.inl rfl) (c_call A.o12 hgd hr0 tk (by rfl) T.m12 T.f12.kp T.b12 (k_cons (m := true) (c_var (pv 1)) (k_cons (m := false) (c_lst (f_cons (c_call A.o15 hgd hr0 tk (by rfl) T.m15 T.f15.kp T.b15 (k_cons (m := true) (c_var (pv 1)) k_nil)) (f_cons (c_call A.o15 hgd hr0 tk (by rfl) T.m15 T.f15.kp T.b15 (k_cons (m := true) (c_var (pv 1)) k_nil)) (f_cons (c_var (pv 3)) f_nil)))) k_nil)))))
      (ss_cons (s_asg (ps_set (i := 5) sc.nd rfl (Or.inl rfl) (c_bm hK PySem.F.plainAttrs_str PySem.F.slot_str_join PySem.F.type_str_join (m_join hK) rfl (c_cst pe_str (fun H => r_str _ H _)) (c_lc (vs := [6]) hK hcalm sc.nd (i_seq hK (c_var (pv 4))) (blkOk_by (own := [("_law_one", 6)]) (by kernel_rfl)) (fun _ _ _ _ _ => (pg_name (i := 6) sc.nd rfl (Or.inl rfl))) (fun _ _ _ _ _ => pt_tst0) (fun _ _ _ _ _ => pe_elt fun _ _ _ _ => (c_biT (B := .str) b_str (by rfl) T.n_str (by decide +kernel) (r_cons (c_var (pv 6)) r_nil)))))))
      (ss_cons (s_iff (PW.pt (w_or (t_cmp (o_ne hK hu) (c_strO (sp_mt__str___5 T A rfl rfl rfl rfl rfl hr2) hgd tk (by rfl) T.n_str (c_mk (ds := []) T.mk5 A.o5 hgd hr1 tk (by rfl) T.mC5 T.ck5 T.bd5_2.choose_spec.2 T.bd5_2.choose_spec.1 (fun H => by simp only [RepAll, Rep]) (k_cons (m := false) (c_ix hK (c_var (pv 4)) (c_cst pe_int (fun H => r_int _ H _))) (k_cons (m := false) (c_ix hK (c_var (pv 4)) (c_cst pe_int (fun H => r_int _ H _))) (k_cons (m := false) (c_ix hK (c_var (pv 4)) (c_cst pe_int (fun H => r_int _ H _))) (k_cons (m := false) (c_ix hK (c_var (pv 4)) (c_cst pe_int (fun H => r_int _ H _))) k_nil)))))) (c_var (pv 5)) (nomark _)) (w_or1 (t_cmp (o_ne hK hu) (c_call A.o16 hgd hr0 tk (by rfl) T.m16 T.f16.kp T.b16 (k_cons (m := false) (c_cmtP A.o6 hgd hr0 tk (by rfl) T.mC5 T.cn5 T.cr6 T.cm6 T.kc6 (f_pk (c_var (pv 5)) f_pk0)) k_nil)) (c_var (pv 4)) (nomark _))))) (ss_cons (s_ret (c_cst pe_bl (fun H => r_bl _ H _)))
      ss_nil) ss_nil)
      (ss_cons (s_forl (ps_for hp rfl (i_any hK (c_lst (f_cons (c_call A.o20 hgd hr0 tk (by rfl) T.m20 T.f20.kp T.b20 (k_cons (m := true) (c_var (pv 1)) (k_cons (m := false) (c_var (pv 5)) k_nil))) (f_cons (c_call A.o20 hgd hr0 tk (by rfl) T.m20 T.f20.kp T.b20 (k_cons (m := true) (c_var (pv 1)) (k_cons (m := false) (c_call A.o20 hgd hr0 tk (by rfl) T.m20 T.f20.kp T.b20 (k_cons (m := true) (c_var (pv 1)) (k_cons (m := false) (c_var (pv 5)) k_nil))) k_nil))) f_nil)))) (pg_name (i := 7) sc.nd rfl (Or.inr rfl)) (ss_cons (s_asg (ps_set (i := 8) sc.nd rfl (Or.inl rfl) (c_call A.o19 hgd hr0 tk (by rfl) T.m19 T.f19.kp T.b19 (k_cons (m := false) (c_var (pv 7)) k_nil))))
      (ss_cons (s_asg (ps_set (i := 9) sc.nd rfl (Or.inl rfl) (c_heard (j := 5 * k + 2) (by rfl) T.m17 T.h17 sc17 rfl (Or.inl rfl) rfl T.b17 (fun o => hear_calls rfl rfl) (hg17 T A') A.t21 hcode T.tt21 T.tu21 hK hgd hr tk (LamX.lamS_by (by kernel_rfl)) rfl (fun _ _ _ _ _ => rfl)
        (fun {Y} {CY} {WY} hK hu hu2 hgd hr tk hp hY => by
          obtain ⟨A1_, o1_, s1_, H1_, E1_, f1_, c1_, rfl, hC⟩ := hY
          obtain ⟨CT, h0_, he_, io_, fa_⟩ := CY
          have hC : CT = tb K := hC
          subst hC
          have hr0 : Room (5 * k) _ := hr.mono (by omega)
          have hr1 : Room (5 * k + 1) _ := hr.mono (by omega)
          have hr2 : Room (5 * k + 2) _ := hr.mono (by omega)
          exact (c_cmt A.o6 hgd hr0 tk (by rfl) T.mC5 T.cn5 T.cr6 T.cm6 T.b6 (f_cons (c_var (pv 7)) f_nil))))))
      (ss_cons (s_iff (PW.pt (w_and (t_cmp o_isnot (c_var (pv 8)) (c_cst pe_non (fun H => r_non _ H)) (nomark _)) (w_and1 (op := .And) (t_cmp (o_ne hK hu) (c_var (pv 9)) (c_tup (f_cons (c_cst pe_int (fun H => r_int _ H _)) (f_cons (c_var (pv 8)) f_nil))) (nomark _))))) (ss_cons (s_ret (c_cst pe_bl (fun H => r_bl _ H _)))
      ss_nil) ss_nil)
      (ss_cons (s_iff (PW.pt (w_and (t_cmp o_is (c_var (pv 8)) (c_cst pe_non (fun H => r_non _ H)) (nomark _)) (w_and1 (op := .And) (PW.pt (w_or (t_not (t_tru hK (c_isi hK isi_list (isb T rfl (by decide)) (by rfl) T.n_isinstance (c_var (pv 9)) (pe_bltn (by rfl) T.n_list (by decide +kernel) rfl)))) (w_or1 (t_cmp (o_ne hK hu) (c_strO (sp_mt__str___5 T A rfl rfl rfl rfl rfl hr2) hgd tk (by rfl) T.n_str (c_ix hK (c_var (pv 9)) (c_cst pe_int (fun H => r_int _ H _)))) (c_var (pv 7)) (nomark _)))))))) (ss_cons (s_ret (c_cst pe_bl (fun H => r_bl _ H _)))
      ss_nil) ss_nil)
      ss_nil))))))
      (ss_cons (s_asg (ps_set (i := 10) sc.nd rfl (Or.inr rfl) (c_call A.o12 hgd hr0 tk (by rfl) T.m12 T.f12.kp T.b12 (k_cons (m := true) (c_var (pv 1)) (k_cons (m := false) (c_lst (f_cons (c_cst pe_non (fun H => r_non _ H)) (f_cons (c_cst pe_int (fun H => r_int _ H _)) (f_cons (c_cst pe_bl (fun H => r_bl _ H _)) (f_cons (c_lst (f_cons (c_var (pv 5)) f_nil)) (f_cons (c_tup (f_cons (c_var (pv 5)) f_nil)) (f_cons c_dic (f_cons (c_mk (ds := [(.int 1), (.int 1)]) T.mk5 A.o5 hgd hr1 tk (by rfl) T.mC5 T.ck5 T.bd5_0.choose_spec.2 T.bd5_0.choose_spec.1 (fun H => by simp only [RepAll, Rep]; exact ⟨_, _, rfl, rfl, _, _, rfl, rfl, rfl⟩) (k_cons (m := false) (c_cst pe_int (fun H => r_int _ H _)) (k_cons (m := false) (c_cst pe_int (fun H => r_int _ H _)) k_nil))) (f_cons (c_var (pv 4)) f_nil))))))))) k_nil)))))
      (ss_cons (s_iff (t_cmp (o_ne hK hu) (c_heard (j := 5 * k + 2) (by rfl) T.m17 T.h17 sc17 rfl (Or.inl rfl) rfl T.b17 (fun o => hear_calls rfl rfl) (hg17 T A') A.t21 hcode T.tt21 T.tu21 hK hgd hr tk (LamX.lamS_by (by kernel_rfl)) rfl (fun _ _ _ _ _ => rfl)
        (fun {Y} {CY} {WY} hK hu hu2 hgd hr tk hp hY => by
          obtain ⟨A1_, o1_, s1_, H1_, E1_, f1_, c1_, rfl, hC⟩ := hY
          obtain ⟨CT, h0_, he_, io_, fa_⟩ := CY
          have hC : CT = tb K := hC
          subst hC
          have hr0 : Room (5 * k) _ := hr.mono (by omega)
          have hr1 : Room (5 * k + 1) _ := hr.mono (by omega)
          have hr2 : Room (5 * k + 2) _ := hr.mono (by omega)
          exact (c_cmt A.o6 hgd hr0 tk (by rfl) T.mC5 T.cn5 T.cr6 T.cm6 T.b6 (f_cons (c_var (pv 10)) f_nil)))) (c_tup (f_cons (c_cst pe_int (fun H => r_int _ H _)) (f_cons (c_cst pe_int (fun H => r_int _ H _)) f_nil))) (nomark _)) (ss_cons (s_ret (c_cst pe_bl (fun H => r_bl _ H _)))
      ss_nil) ss_nil)
      ss_nil)))))))))
      (ss_cons (s_asg (ps_set (i := 11) sc.nd rfl (Or.inl rfl) (c_lst (f_cons (c_cst pe_str (fun H => r_str _ H _)) (f_cons (c_cst pe_str (fun H => r_str _ H _)) (f_cons (c_cst pe_str (fun H => r_str _ H _)) (f_cons (c_cst pe_str (fun H => r_str _ H _)) (f_cons (c_cst pe_str (fun H => r_str _ H _)) (f_cons (c_cst pe_str (fun H => r_str _ H _)) (f_cons (c_cst pe_str (fun H => r_str _ H _)) (f_cons (c_cst pe_str (fun H => r_str _ H _)) (f_cons (c_cst pe_str (fun H => r_str _ H _)) (f_cons (c_cst pe_str (fun H => r_str _ H _)) f_nil)))))))))))))
      (ss_cons (s_asg (ps_set (i := 11) sc.nd rfl (Or.inl rfl) (c_bin o_add (c_var (pv 11)) (c_lst (f_cons (c_bin o_add (c_biT (B := .str) b_str (by rfl) T.n_str (by decide +kernel) (r_cons (c_call0 A.o9 hgd hr0 tk (by rfl) T.m9 T.f9.kp T.b9) r_nil)) (c_cst pe_str (fun H => r_str _ H _))) (f_cons (c_bin o_add (c_cst pe_str (fun H => r_str _ H _)) (c_biT (B := .str) b_str (by rfl) T.n_str (by decide +kernel) (r_cons (c_bin o_add (c_call0 A.o9 hgd hr0 tk (by rfl) T.m9 T.f9.kp T.b9) (c_cst pe_int (fun H => r_int _ H _))) r_nil))) f_nil))))))
      (ss_cons (s_asgLc (vs := [13]) hK hcalm sc.nd rfl rfl (by rfl) (i_seq hK (c_lst (f_cons (c_cst pe_int (fun H => r_int _ H _)) (f_cons (c_cst pe_int (fun H => r_int _ H _)) (f_cons (c_cst pe_int (fun H => r_int _ H _)) (f_cons (c_cst pe_int (fun H => r_int _ H _)) (f_cons (c_cst pe_int (fun H => r_int _ H _)) (f_cons (c_cst pe_int (fun H => r_int _ H _)) (f_cons (c_cst pe_int (fun H => r_int _ H _)) (f_cons (c_cst pe_int (fun H => r_int _ H _)) (f_cons (c_cst pe_int (fun H => r_int _ H _)) (f_cons (c_cst pe_int (fun H => r_int _ H _)) (f_cons (c_cst pe_int (fun H => r_int _ H _)) (f_cons (c_cst pe_int (fun H => r_int _ H _)) f_nil)))))))))))))) (blkOk_by (own := [("_law_word", 13)]) (by kernel_rfl)) (fun _ _ _ _ _ => (pg_name (i := 13) sc.nd rfl (Or.inl rfl))) (fun _ _ _ _ _ => pt_tst0) (fun _ _ _ _ _ => pe_elt fun _ _ _ _ => (c_tup (f_cons (c_cst pe_int (fun H => r_int _ H _)) (f_cons (c_var (pv 13)) f_nil)))))
      (ss_cons (s_ret (c_cmp (o_eq hK hu) (c_lc (vs := [5]) hK hcalm sc.nd (i_seq hK (c_var (pv 11))) (blkOk_by (own := [("_law_line", 5)]) (by kernel_rfl)) (fun _ _ _ _ _ => (pg_name (i := 5) sc.nd rfl (Or.inr rfl))) (fun _ _ _ _ _ => pt_tst0) (fun _ _ _ _ _ => pe_elt fun _ _ _ _ => (c_heard (j := 5 * k + 2) (by rfl) T.m17 T.h17 sc17 rfl (Or.inl rfl) rfl T.b17 (fun o => hear_calls rfl rfl) (hg17 T A') A.t21 hcode T.tt21 T.tu21 hK hgd hr takesW0 (LamX.lamS_by (by kernel_rfl)) rfl (fun _ _ _ _ _ => rfl)
        (fun {Y} {CY} {WY} hK hu hu2 hgd hr takesW0 hp hY => by
          obtain ⟨A1_, o1_, s1_, H1_, E1_, f1_, c1_, rfl, hC⟩ := hY
          obtain ⟨CT, h0_, he_, io_, fa_⟩ := CY
          have hC : CT = tb K := hC
          subst hC
          have hr0 : Room (5 * k) _ := hr.mono (by omega)
          have hr1 : Room (5 * k + 1) _ := hr.mono (by omega)
          have hr2 : Room (5 * k + 2) _ := hr.mono (by omega)
          exact (c_cmt A.o6 hgd hr0 takesW0 (by rfl) T.mC5 T.cn5 T.cr6 T.cm6 T.b6 (f_cons (c_var (pv 5)) f_nil)))))) (c_var (pv 12)) (nomark _)))
      ss_nil))))))) rfl
theorem step (T : Tx K mg fa ca pa cc ta fd) (A : Al P w K mg base fa cc ta fd k) (A' : Al P w K mg base fa cc ta fd (k - 1)) : Al P w K mg base fa cc ta fd (k + 1) := ⟨ok0 T A A', ok1 T A A', ok2 T A A', ok5 T A A', ok6 T A A', ok7 T A A', ok8 T A A', ok9 T A A', ok10 T A A', ok11 T A A', ok12 T A A', ok13 T A A', ok14 T A A', ok15 T A A', ok16 T A A', ok18 T A A', ok19 T A A', ok20 T A A', ok21 T A A', A.t21⟩
theorem al (T : Tx K mg fa ca pa cc ta fd) (h21 : LamX.TabB base mg (cc 21) (ta 21)) : ∀ k, Al P w K mg base fa cc ta fd k ∧ Al P w K mg base fa cc ta fd (k - 1)
  | 0 => ⟨⟨fn_zero rfl, fn_zero rfl, fn_zero rfl, fn_zero rfl, fn_zero rfl, fn_zero rfl, fn_zero rfl, fn_zero rfl, fn_zero rfl, fn_zero rfl, fn_zero rfl, fn_zero rfl, fn_zero rfl, fn_zero rfl, fn_zero rfl, fn_zero rfl, fn_zero rfl, fn_zero rfl, fn_zero rfl, h21⟩, ⟨fn_zero rfl, fn_zero rfl, fn_zero rfl, fn_zero rfl, fn_zero rfl, fn_zero rfl, fn_zero rfl, fn_zero rfl, fn_zero rfl, fn_zero rfl, fn_zero rfl, fn_zero rfl, fn_zero rfl, fn_zero rfl, fn_zero rfl, fn_zero rfl, fn_zero rfl, fn_zero rfl, fn_zero rfl, h21⟩⟩
  | k + 1 => ⟨step T (al T h21 k).1 (al T h21 k).2, (al T h21 k).1⟩
end
theorem all_mk {P : Program} {w : World} {K : PySem.W.Frag} {h : Heap} {mg : Str → Option Value} {fl : Addr} (X : K.In h) (G : h.Ns mainGlobals mg) (hfl : mg "law" = some (.ref fl)) {C0 C1 C3 C6 C5 f0 f1 f2 f3 f4 f5 T5 f6 p6 f7 f8 T8 f9 f10 f11 f12 f13 f14 f15 f16 f17 f18 f19 f20 f21 cc21 ta21 : Addr}
    {nm3 q3 : Str} {N3 : Addr} {bs3 bm3 : List Value} {sn3 : List Str} {sub3 : List Value} {ab3 : Bool} {col3 : Option Bool} {dd3 : Option Addr} {k03 k13 k23 k33 k53 : Option Value}
    {nm6 q6 : Str} {N6 : Addr} {bs6 bm6 : List Value} {sn6 : List Str} {sub6 : List Value} {ab6 : Bool} {col6 : Option Bool} {dd6 : Option Addr} {k06 k16 k26 k36 k56 : Option Value}
    {od0 an0 : Option Addr} {sl0 : Array (Option Value)} {oc0 kV0 dc0 pm0 ct0 : Value} {cd0 : Value}
    {od1 an1 : Option Addr} {sl1 : Array (Option Value)} {oc1 kV1 dc1 pm1 ct1 : Value} {cd1 : Value}
    {od2 an2 : Option Addr} {sl2 : Array (Option Value)} {oc2 kV2 dc2 pm2 ct2 : Value} {cd2 : Value}
    {od3 an3 : Option Addr} {sl3 : Array (Option Value)} {oc3 kV3 dc3 pm3 ct3 : Value} {cd3 : Value}
    {od4 an4 : Option Addr} {sl4 : Array (Option Value)} {oc4 kV4 dc4 pm4 ct4 : Value} {cd4 : Value}
    {od5 an5 : Option Addr} {sl5 : Array (Option Value)} {oc5 kV5 dc5 pm5 ct5 : Value} {cd5 : Value}
    {tD5_0 tD5_1 : Tok} {oD5 : Value} {dD5 : Option Addr} {nD5 : Nat} {sD5 : Array (Option Value)}
    {rs6 : List Value}
    {od6 an6 : Option Addr} {sl6 : Array (Option Value)} {oc6 kV6 dc6 pm6 ct6 : Value} {cd6 : Value}
    {od7 an7 : Option Addr} {sl7 : Array (Option Value)} {oc7 kV7 dc7 pm7 ct7 : Value} {cd7 : Value}
    {od8 an8 : Option Addr} {sl8 : Array (Option Value)} {oc8 kV8 dc8 pm8 ct8 : Value} {cd8 : Value}
    {tD8_0 tD8_1 : Tok} {oD8 : Value} {dD8 : Option Addr} {nD8 : Nat} {sD8 : Array (Option Value)}
    {od9 an9 : Option Addr} {sl9 : Array (Option Value)} {oc9 kV9 dc9 pm9 ct9 : Value} {cd9 : Value}
    {od10 an10 : Option Addr} {sl10 : Array (Option Value)} {oc10 kV10 dc10 pm10 ct10 : Value} {cd10 : Value}
    {od11 an11 : Option Addr} {sl11 : Array (Option Value)} {oc11 kV11 dc11 pm11 ct11 : Value} {cd11 : Value}
    {od12 an12 : Option Addr} {sl12 : Array (Option Value)} {oc12 kV12 dc12 pm12 ct12 : Value} {cd12 : Value}
    {od13 an13 : Option Addr} {sl13 : Array (Option Value)} {oc13 kV13 dc13 pm13 ct13 : Value} {cd13 : Value}
    {od14 an14 : Option Addr} {sl14 : Array (Option Value)} {oc14 kV14 dc14 pm14 ct14 : Value} {cd14 : Value}
    {od15 an15 : Option Addr} {sl15 : Array (Option Value)} {oc15 kV15 dc15 pm15 ct15 : Value} {cd15 : Value}
    {od16 an16 : Option Addr} {sl16 : Array (Option Value)} {oc16 kV16 dc16 pm16 ct16 : Value} {cd16 : Value}
    {od17 an17 : Option Addr} {sl17 : Array (Option Value)} {oc17 kV17 dc17 pm17 ct17 : Value} {cd17 : Value}
    {od18 an18 : Option Addr} {sl18 : Array (Option Value)} {oc18 kV18 dc18 pm18 ct18 : Value} {cd18 : Value}
    {od19 an19 : Option Addr} {sl19 : Array (Option Value)} {oc19 kV19 dc19 pm19 ct19 : Value} {cd19 : Value}
    {od20 an20 : Option Addr} {sl20 : Array (Option Value)} {oc20 kV20 dc20 pm20 ct20 : Value} {cd20 : Value}
    {od21 an21 : Option Addr} {sl21 : Array (Option Value)} {oc21 kV21 dc21 pm21 ct21 : Value}
    {oX21 : Value} {dX21 : Option Addr} {vX21 : Array Value} {sX21 : Array (Option Value)}
    {t_FIGURES : Tok}
    {t_MOST_SIDE : Tok}
    (aC0 : PySem.W.nsIn K mainGlobals "CurveError" = some (some (.ref C0)))
    (aC1 : PySem.W.nsIn K mainGlobals "BadInput" = some (some (.ref C1)))
    (aC3 : PySem.W.nsIn K mainGlobals "BadBox" = some (some (.ref C3)))
    (aC6 : PySem.W.nsIn K mainGlobals "BadText" = some (some (.ref C6)))
    (aC5 : PySem.W.nsIn K mainGlobals "Box" = some (some (.ref C5)))
    (xc0 : xcB K C0 = true)
    (na0 : naB K C0 [] = true)
    (xc1 : xcB K C1 = true)
    (na1 : naB K C1 [] = true)
    (xc3 : xcB K C3 = true)
    (na3 : naB K C3 ["part"] = true)
    (xL3 : K.lookup C3 = some (excClassObj nm3 q3 C3 N3 bs3 bm3 true sn3 sub3 ab3 col3 dd3 k03 k13 k23 k33 k53 "ValueError.__new__"))
    (xR3 : PySem.HandSPX.refsVE bm3 = true)
    (xS3 : (decide (PySem.W.findIn K (.ref C3) "__setattr__" = some (some (.builtin "object.__setattr__"))) && (decide (PySem.W.subIn K (.ref C3) (.type "BaseException") = some true) && (decide (PySem.W.typeIn K (.ref C3) = some (.type "type")) && PySem.W.keepIn K (.ref C3)))) = true)
    (xi3 : PySem.W.findIn K (.ref C3) "__init__" = some (some (.ref f3)))
    (xt3 : PySem.W.typeIn K (.ref f3) = some (.type "function"))
    (xc6 : xcB K C6 = true)
    (na6 : naB K C6 ["line", "word"] = true)
    (xL6 : K.lookup C6 = some (excClassObj nm6 q6 C6 N6 bs6 bm6 true sn6 sub6 ab6 col6 dd6 k06 k16 k26 k36 k56 "ValueError.__new__"))
    (xR6 : PySem.HandSPX.refsVE bm6 = true)
    (xS6 : (decide (PySem.W.findIn K (.ref C6) "__setattr__" = some (some (.builtin "object.__setattr__"))) && (decide (PySem.W.subIn K (.ref C6) (.type "BaseException") = some true) && (decide (PySem.W.typeIn K (.ref C6) = some (.type "type")) && PySem.W.keepIn K (.ref C6)))) = true)
    (xi6 : PySem.W.findIn K (.ref C6) "__init__" = some (some (.ref f4)))
    (xt6 : PySem.W.typeIn K (.ref f4) = some (.type "function"))
    (cl5 : clsB K C5 = true)
    (cg5 : cgB K C5 = true)
    (na5 : naB K C5 ["x", "y", "width", "height"] = true)
    (ni5 : PySem.W.findIn K (.ref C5) "__init__" = some (some (.ref f5)))
    (nk5 : PySem.W.makesIn K C5 = true)
    (nf5 : PySem.W.isFn K (.ref f5) = true)
    (np5 : PySem.W.keepIn K (.ref C5) = true)
    (a0 : PySem.W.nsIn K mainGlobals "is_integer" = some (some (.ref f0)))
    (l0 : K.lookup f0 = some ⟨oc0, od0, .func (PySem.W.fnOf "is_integer" "is_integer" (defArgs st0) (defBody st0) (defScope st0) .none kV0 dc0 pm0 an0 cd0 ct0), sl0⟩)
    (c0 : PySem.W.codeIn K cd0 "is_integer" = true)
    (k0 : PySem.W.keepIn K (.ref f0) = true)
    (a1 : PySem.W.nsIn K mainGlobals "is_between" = some (some (.ref f1)))
    (l1 : K.lookup f1 = some ⟨oc1, od1, .func (PySem.W.fnOf "is_between" "is_between" (defArgs st1) (defBody st1) (defScope st1) .none kV1 dc1 pm1 an1 cd1 ct1), sl1⟩)
    (c1 : PySem.W.codeIn K cd1 "is_between" = true)
    (k1 : PySem.W.keepIn K (.ref f1) = true)
    (a2 : PySem.W.nsIn K mainGlobals "number_in" = some (some (.ref f2)))
    (l2 : K.lookup f2 = some ⟨oc2, od2, .func (PySem.W.fnOf "number_in" "number_in" (defArgs st2) (defBody st2) (defScope st2) .none kV2 dc2 pm2 an2 cd2 ct2), sl2⟩)
    (c2 : PySem.W.codeIn K cd2 "number_in" = true)
    (k2 : PySem.W.keepIn K (.ref f2) = true)
    (l3 : K.lookup f3 = some ⟨oc3, od3, .func (PySem.W.fnOf "__init__" "BadBox.__init__" (defArgs st3) (defBody st3) (defScope st3) .none kV3 dc3 pm3 an3 cd3 ct3), sl3⟩)
    (c3 : PySem.W.codeIn K cd3 "BadBox.__init__" = true)
    (k3 : PySem.W.keepIn K (.ref f3) = true)
    (l4 : K.lookup f4 = some ⟨oc4, od4, .func (PySem.W.fnOf "__init__" "BadText.__init__" (defArgs st4) (defBody st4) (defScope st4) .none kV4 dc4 pm4 an4 cd4 ct4), sl4⟩)
    (c4 : PySem.W.codeIn K cd4 "BadText.__init__" = true)
    (k4 : PySem.W.keepIn K (.ref f4) = true)
    (l5 : K.lookup f5 = some ⟨oc5, od5, .func (PySem.W.fnOf "__init__" "Box.__init__" (defArgs st5) (defBody st5) (defScope st5) (.ref T5) kV5 dc5 pm5 an5 cd5 ct5), sl5⟩)
    (c5 : PySem.W.codeIn K cd5 "Box.__init__" = true)
    (k5 : PySem.W.keepIn K (.ref f5) = true)
    (dD5 : K.lookup T5 = some ⟨oD5, dD5, .seq #[.int 1 tD5_0, .int 1 tD5_1] nD5, sD5⟩)
    (sa6 : PySem.W.findCls K (.ref C5) (.type "type") "read" = some (.get (.builtin "classmethod.__get__") (.ref p6) .none (.ref C5)))
    (sr6 : PySem.W.recIn K p6 "classmethod" = some (.ref f6 :: rs6))
    (sd6 : PySem.W.readsIn K C5 (.type "type") = true)
    (sg6 : PySem.W.specialIn K (.ref C5) "__getattribute__" = some (some (.builtin "type.__getattribute__")))
    (sf6 : PySem.W.fnIn K f6 = true)
    (l6 : K.lookup f6 = some ⟨oc6, od6, .func (PySem.W.fnOf "read" "Box.read" (defArgs st6) (defBody st6) (defScope st6) .none kV6 dc6 pm6 an6 cd6 ct6), sl6⟩)
    (c6 : PySem.W.codeIn K cd6 "Box.read" = true)
    (k6 : PySem.W.keepIn K (.ref f6) = true)
    (ma5_7 : PySem.W.findIn K (.ref C5) "__str__" = some (some (.ref f7)))
    (mb7 : PySem.W.isFn K (.ref f7) = true)
    (l7 : K.lookup f7 = some ⟨oc7, od7, .func (PySem.W.fnOf "__str__" "Box.__str__" (defArgs st7) (defBody st7) (defScope st7) .none kV7 dc7 pm7 an7 cd7 ct7), sl7⟩)
    (c7 : PySem.W.codeIn K cd7 "Box.__str__" = true)
    (k7 : PySem.W.keepIn K (.ref f7) = true)
    (a8 : PySem.W.nsIn K mainGlobals "box_numbers" = some (some (.ref f8)))
    (l8 : K.lookup f8 = some ⟨oc8, od8, .func (PySem.W.fnOf "box_numbers" "box_numbers" (defArgs st8) (defBody st8) (defScope st8) (.ref T8) kV8 dc8 pm8 an8 cd8 ct8), sl8⟩)
    (c8 : PySem.W.codeIn K cd8 "box_numbers" = true)
    (k8 : PySem.W.keepIn K (.ref f8) = true)
    (dD8 : K.lookup T8 = some ⟨oD8, dD8, .seq #[.int 0 tD8_0, .int 0 tD8_1] nD8, sD8⟩)
    (a9 : PySem.W.nsIn K mainGlobals "_law_top" = some (some (.ref f9)))
    (l9 : K.lookup f9 = some ⟨oc9, od9, .func (PySem.W.fnOf "_law_top" "_law_top" (defArgs st9) (defBody st9) (defScope st9) .none kV9 dc9 pm9 an9 cd9 ct9), sl9⟩)
    (c9 : PySem.W.codeIn K cd9 "_law_top" = true)
    (k9 : PySem.W.keepIn K (.ref f9) = true)
    (a10 : PySem.W.nsIn K mainGlobals "_law_pen" = some (some (.ref f10)))
    (l10 : K.lookup f10 = some ⟨oc10, od10, .func (PySem.W.fnOf "_law_pen" "_law_pen" (defArgs st10) (defBody st10) (defScope st10) .none kV10 dc10 pm10 an10 cd10 ct10), sl10⟩)
    (c10 : PySem.W.codeIn K cd10 "_law_pen" = true)
    (k10 : PySem.W.keepIn K (.ref f10) = true)
    (a11 : PySem.W.nsIn K mainGlobals "_law_draw" = some (some (.ref f11)))
    (l11 : K.lookup f11 = some ⟨oc11, od11, .func (PySem.W.fnOf "_law_draw" "_law_draw" (defArgs st11) (defBody st11) (defScope st11) .none kV11 dc11 pm11 an11 cd11 ct11), sl11⟩)
    (c11 : PySem.W.codeIn K cd11 "_law_draw" = true)
    (k11 : PySem.W.keepIn K (.ref f11) = true)
    (a12 : PySem.W.nsIn K mainGlobals "_law_pick" = some (some (.ref f12)))
    (l12 : K.lookup f12 = some ⟨oc12, od12, .func (PySem.W.fnOf "_law_pick" "_law_pick" (defArgs st12) (defBody st12) (defScope st12) .none kV12 dc12 pm12 an12 cd12 ct12), sl12⟩)
    (c12 : PySem.W.codeIn K cd12 "_law_pick" = true)
    (k12 : PySem.W.keepIn K (.ref f12) = true)
    (a13 : PySem.W.nsIn K mainGlobals "_law_number" = some (some (.ref f13)))
    (l13 : K.lookup f13 = some ⟨oc13, od13, .func (PySem.W.fnOf "_law_number" "_law_number" (defArgs st13) (defBody st13) (defScope st13) .none kV13 dc13 pm13 an13 cd13 ct13), sl13⟩)
    (c13 : PySem.W.codeIn K cd13 "_law_number" = true)
    (k13 : PySem.W.keepIn K (.ref f13) = true)
    (a14 : PySem.W.nsIn K mainGlobals "_law_side" = some (some (.ref f14)))
    (l14 : K.lookup f14 = some ⟨oc14, od14, .func (PySem.W.fnOf "_law_side" "_law_side" (defArgs st14) (defBody st14) (defScope st14) .none kV14 dc14 pm14 an14 cd14 ct14), sl14⟩)
    (c14 : PySem.W.codeIn K cd14 "_law_side" = true)
    (k14 : PySem.W.keepIn K (.ref f14) = true)
    (a15 : PySem.W.nsIn K mainGlobals "_law_four" = some (some (.ref f15)))
    (l15 : K.lookup f15 = some ⟨oc15, od15, .func (PySem.W.fnOf "_law_four" "_law_four" (defArgs st15) (defBody st15) (defScope st15) .none kV15 dc15 pm15 an15 cd15 ct15), sl15⟩)
    (c15 : PySem.W.codeIn K cd15 "_law_four" = true)
    (k15 : PySem.W.keepIn K (.ref f15) = true)
    (a16 : PySem.W.nsIn K mainGlobals "_law_told" = some (some (.ref f16)))
    (l16 : K.lookup f16 = some ⟨oc16, od16, .func (PySem.W.fnOf "_law_told" "_law_told" (defArgs st16) (defBody st16) (defScope st16) .none kV16 dc16 pm16 an16 cd16 ct16), sl16⟩)
    (c16 : PySem.W.codeIn K cd16 "_law_told" = true)
    (k16 : PySem.W.keepIn K (.ref f16) = true)
    (a17 : PySem.W.nsIn K mainGlobals "_law_heard" = some (some (.ref f17)))
    (l17 : K.lookup f17 = some ⟨oc17, od17, .func (PySem.W.fnOf "_law_heard" "_law_heard" (defArgs st17) (defBody st17) (defScope st17) .none kV17 dc17 pm17 an17 cd17 ct17), sl17⟩)
    (c17 : PySem.W.codeIn K cd17 "_law_heard" = true)
    (k17 : PySem.W.keepIn K (.ref f17) = true)
    (a18 : PySem.W.nsIn K mainGlobals "_law_is_number" = some (some (.ref f18)))
    (l18 : K.lookup f18 = some ⟨oc18, od18, .func (PySem.W.fnOf "_law_is_number" "_law_is_number" (defArgs st18) (defBody st18) (defScope st18) .none kV18 dc18 pm18 an18 cd18 ct18), sl18⟩)
    (c18 : PySem.W.codeIn K cd18 "_law_is_number" = true)
    (k18 : PySem.W.keepIn K (.ref f18) = true)
    (a19 : PySem.W.nsIn K mainGlobals "_law_wrong" = some (some (.ref f19)))
    (l19 : K.lookup f19 = some ⟨oc19, od19, .func (PySem.W.fnOf "_law_wrong" "_law_wrong" (defArgs st19) (defBody st19) (defScope st19) .none kV19 dc19 pm19 an19 cd19 ct19), sl19⟩)
    (c19 : PySem.W.codeIn K cd19 "_law_wrong" = true)
    (k19 : PySem.W.keepIn K (.ref f19) = true)
    (a20 : PySem.W.nsIn K mainGlobals "_law_bent" = some (some (.ref f20)))
    (l20 : K.lookup f20 = some ⟨oc20, od20, .func (PySem.W.fnOf "_law_bent" "_law_bent" (defArgs st20) (defBody st20) (defScope st20) .none kV20 dc20 pm20 an20 cd20 ct20), sl20⟩)
    (c20 : PySem.W.codeIn K cd20 "_law_bent" = true)
    (k20 : PySem.W.keepIn K (.ref f20) = true)
    (a21 : PySem.W.nsIn K mainGlobals "law" = some (some (.ref f21)))
    (l21 : K.lookup f21 = some ⟨oc21, od21, .func (PySem.W.fnOf "law" "law" (defArgs st21) (defBody st21) (defScope st21) .none kV21 dc21 pm21 an21 (.ref cc21) ct21), sl21⟩)
    (c21 : PySem.W.codeIn K (.ref cc21) "law" = true)
    (k21 : PySem.W.keepIn K (.ref f21) = true)
    (lc21 : K.lookup cc21 = some ⟨oX21, dX21, .fields vX21, sX21⟩)
    (lp21 : (vX21[11]? : Option Value) = some (.ref ta21))
    (lt21 : PySem.W.tabIn K "law" = some (cc21, ta21))
    (lu21 : ttB K lamN ta21 (("law" : Str) ++ ".<locals>." ++ "<lambda>") = true)
    (is6 : isoB K C6 [(C0, false), (C1, false), (C3, false), (C6, true), (C5, false)] = true)
    (ib : isbB K [C0, C1, C3, C6, C5] = true)
    (em0 : exmB K C0 [C0, C1, C3, C6] = true)
    (z_abs : PySem.W.nsIn K mainGlobals "abs" = some none)
    (z_all : PySem.W.nsIn K mainGlobals "all" = some none)
    (z_bool : PySem.W.nsIn K mainGlobals "bool" = some none)
    (z_int : PySem.W.nsIn K mainGlobals "int" = some none)
    (z_isinstance : PySem.W.nsIn K mainGlobals "isinstance" = some none)
    (z_len : PySem.W.nsIn K mainGlobals "len" = some none)
    (z_list : PySem.W.nsIn K mainGlobals "list" = some none)
    (z_range : PySem.W.nsIn K mainGlobals "range" = some none)
    (z_str : PySem.W.nsIn K mainGlobals "str" = some none)
    (y_FIGURES : PySem.W.nsIn K mainGlobals "FIGURES" = some (some (.str "0123456789" t_FIGURES)))
    (y_MOST_SIDE : PySem.W.nsIn K mainGlobals "MOST_SIDE" = some (some (.int 1267650600228229401496703205376 t_MOST_SIDE)))
    : ∃ fd : FuncData, (∀ (s : Shared) (u : Value), BindsTo s fd ⟨[u], []⟩ [("_law_script", u)]) ∧ ∀ base : Heap, K.In base → base.Ns mainGlobals mg → (∀ x ∈ lamN, ∀ c P, PySem.W.tabIn K x = some (c, P) → LamX.TabB base mg c P) → FnG P w K mg base 60 fl fd ["_law_script"] (spF (tb K) (calls fs 12) 512 1) := by
  have e := hfl.symm.trans (PySem.W.mg_of X G a21)
  cases e
  have F0 := fun_mk (st := st0) l0 c0 k0
  have B0 := F0.binds (ps := ["value"]) fun _ _ _ _ _ _ us hl => match us, hl with | [_], _ => rfl
  have F1 := fun_mk (st := st1) l1 c1 k1
  have B1 := F1.binds (ps := ["value", "least", "most"]) fun _ _ _ _ _ _ us hl => match us, hl with | [_, _, _], _ => rfl
  have F2 := fun_mk (st := st2) l2 c2 k2
  have B2 := F2.binds (ps := ["word", "least", "most"]) fun _ _ _ _ _ _ us hl => match us, hl with | [_, _, _], _ => rfl
  have F3 := fun_mk (st := st3) l3 c3 k3
  have B3 := F3.binds (ps := ["self", "part"]) fun _ _ _ _ _ _ us hl => match us, hl with | [_, _], _ => rfl
  have F4 := fun_mk (st := st4) l4 c4 k4
  have B4 := F4.binds (ps := ["self", "line", "word"]) fun _ _ _ _ _ _ us hl => match us, hl with | [_, _, _], _ => rfl
  have FD5 : FunD K "__init__" "Box.__init__" (defArgs st5) (defBody st5) (defScope st5) [.int 1, .int 1] [] f5 (PySem.W.fnOf "__init__" "Box.__init__" (defArgs st5) (defBody st5) (defScope st5) (.ref T5) kV5 dc5 pm5 an5 cd5 ct5) := ⟨⟨_, _, _, _, _, _, _, _, _, _, rfl, l5, c5, .inr ⟨by simp, T5, _, _, _, rfl, dD5, rfl, (.cons ⟨tD5_0, rfl⟩ (.cons ⟨tD5_1, rfl⟩ .nil))⟩, .inl rfl⟩, k5⟩
  have F6 := fun_mk (st := st6) l6 c6 k6
  have B6 := F6.binds (ps := ["cls", "text"]) fun _ _ _ _ _ _ us hl => match us, hl with | [_, _], _ => rfl
  have F7 := fun_mk (st := st7) l7 c7 k7
  have B7 := F7.binds (ps := ["self"]) fun _ _ _ _ _ _ us hl => match us, hl with | [_], _ => rfl
  have FD8 : FunD K "box_numbers" "box_numbers" (defArgs st8) (defBody st8) (defScope st8) [.int 0, .int 0] [] f8 (PySem.W.fnOf "box_numbers" "box_numbers" (defArgs st8) (defBody st8) (defScope st8) (.ref T8) kV8 dc8 pm8 an8 cd8 ct8) := ⟨⟨_, _, _, _, _, _, _, _, _, _, rfl, l8, c8, .inr ⟨by simp, T8, _, _, _, rfl, dD8, rfl, (.cons ⟨tD8_0, rfl⟩ (.cons ⟨tD8_1, rfl⟩ .nil))⟩, .inl rfl⟩, k8⟩
  have F9 := fun_mk (st := st9) l9 c9 k9
  have B9 := F9.binds (ps := []) fun _ _ _ _ _ _ us hl => match us, hl with | [], _ => rfl
  have F10 := fun_mk (st := st10) l10 c10 k10
  have B10 := F10.binds (ps := ["_law_script"]) fun _ _ _ _ _ _ us hl => match us, hl with | [_], _ => rfl
  have F11 := fun_mk (st := st11) l11 c11 k11
  have B11 := F11.binds (ps := ["_law_pen_here", "_law_many"]) fun _ _ _ _ _ _ us hl => match us, hl with | [_, _], _ => rfl
  have F12 := fun_mk (st := st12) l12 c12 k12
  have B12 := F12.binds (ps := ["_law_pen_here", "_law_some"]) fun _ _ _ _ _ _ us hl => match us, hl with | [_, _], _ => rfl
  have F13 := fun_mk (st := st13) l13 c13 k13
  have B13 := F13.binds (ps := ["_law_pen_here"]) fun _ _ _ _ _ _ us hl => match us, hl with | [_], _ => rfl
  have F14 := fun_mk (st := st14) l14 c14 k14
  have B14 := F14.binds (ps := ["_law_pen_here"]) fun _ _ _ _ _ _ us hl => match us, hl with | [_], _ => rfl
  have F15 := fun_mk (st := st15) l15 c15 k15
  have B15 := F15.binds (ps := ["_law_pen_here"]) fun _ _ _ _ _ _ us hl => match us, hl with | [_], _ => rfl
  have F16 := fun_mk (st := st16) l16 c16 k16
  have B16 := F16.binds (ps := ["_law_box"]) fun _ _ _ _ _ _ us hl => match us, hl with | [_], _ => rfl
  have F17 := fun_mk (st := st17) l17 c17 k17
  have B17 := F17.binds (ps := ["_law_ask"]) fun _ _ _ _ _ _ us hl => match us, hl with | [_], _ => rfl
  have F18 := fun_mk (st := st18) l18 c18 k18
  have B18 := F18.binds (ps := ["_law_word", "_law_least", "_law_most"]) fun _ _ _ _ _ _ us hl => match us, hl with | [_, _, _], _ => rfl
  have F19 := fun_mk (st := st19) l19 c19 k19
  have B19 := F19.binds (ps := ["_law_line"]) fun _ _ _ _ _ _ us hl => match us, hl with | [_], _ => rfl
  have F20 := fun_mk (st := st20) l20 c20 k20
  have B20 := F20.binds (ps := ["_law_pen_here", "_law_line"]) fun _ _ _ _ _ _ us hl => match us, hl with | [_, _], _ => rfl
  have F21 := fun_mk (st := st21) l21 c21 k21
  have B21 := F21.binds (ps := ["_law_script"]) fun _ _ _ _ _ _ us hl => match us, hl with | [_], _ => rfl
  have T : Tx K mg (fun i => match i with | 0 => f0 | 1 => f1 | 2 => f2 | 3 => f3 | 4 => f4 | 5 => f5 | 6 => f6 | 7 => f7 | 8 => f8 | 9 => f9 | 10 => f10 | 11 => f11 | 12 => f12 | 13 => f13 | 14 => f14 | 15 => f15 | 16 => f16 | 17 => f17 | 18 => f18 | 19 => f19 | 20 => f20 | 21 => fl | _ => 0) (fun i => match i with | 0 => C0 | 1 => C1 | 3 => C3 | 6 => C6 | 5 => C5 | _ => 0) (fun i => match i with | 6 => p6 | _ => 0) (fun i => match i with | 21 => cc21 | _ => 0) (fun i => match i with | 21 => ta21 | _ => 0) (fun i => match i with | 0 => PySem.W.fnOf "is_integer" "is_integer" (defArgs st0) (defBody st0) (defScope st0) .none kV0 dc0 pm0 an0 cd0 ct0 | 1 => PySem.W.fnOf "is_between" "is_between" (defArgs st1) (defBody st1) (defScope st1) .none kV1 dc1 pm1 an1 cd1 ct1 | 2 => PySem.W.fnOf "number_in" "number_in" (defArgs st2) (defBody st2) (defScope st2) .none kV2 dc2 pm2 an2 cd2 ct2 | 3 => PySem.W.fnOf "__init__" "BadBox.__init__" (defArgs st3) (defBody st3) (defScope st3) .none kV3 dc3 pm3 an3 cd3 ct3 | 4 => PySem.W.fnOf "__init__" "BadText.__init__" (defArgs st4) (defBody st4) (defScope st4) .none kV4 dc4 pm4 an4 cd4 ct4 | 5 => PySem.W.fnOf "__init__" "Box.__init__" (defArgs st5) (defBody st5) (defScope st5) (.ref T5) kV5 dc5 pm5 an5 cd5 ct5 | 6 => PySem.W.fnOf "read" "Box.read" (defArgs st6) (defBody st6) (defScope st6) .none kV6 dc6 pm6 an6 cd6 ct6 | 7 => PySem.W.fnOf "__str__" "Box.__str__" (defArgs st7) (defBody st7) (defScope st7) .none kV7 dc7 pm7 an7 cd7 ct7 | 8 => PySem.W.fnOf "box_numbers" "box_numbers" (defArgs st8) (defBody st8) (defScope st8) (.ref T8) kV8 dc8 pm8 an8 cd8 ct8 | 9 => PySem.W.fnOf "_law_top" "_law_top" (defArgs st9) (defBody st9) (defScope st9) .none kV9 dc9 pm9 an9 cd9 ct9 | 10 => PySem.W.fnOf "_law_pen" "_law_pen" (defArgs st10) (defBody st10) (defScope st10) .none kV10 dc10 pm10 an10 cd10 ct10 | 11 => PySem.W.fnOf "_law_draw" "_law_draw" (defArgs st11) (defBody st11) (defScope st11) .none kV11 dc11 pm11 an11 cd11 ct11 | 12 => PySem.W.fnOf "_law_pick" "_law_pick" (defArgs st12) (defBody st12) (defScope st12) .none kV12 dc12 pm12 an12 cd12 ct12 | 13 => PySem.W.fnOf "_law_number" "_law_number" (defArgs st13) (defBody st13) (defScope st13) .none kV13 dc13 pm13 an13 cd13 ct13 | 14 => PySem.W.fnOf "_law_side" "_law_side" (defArgs st14) (defBody st14) (defScope st14) .none kV14 dc14 pm14 an14 cd14 ct14 | 15 => PySem.W.fnOf "_law_four" "_law_four" (defArgs st15) (defBody st15) (defScope st15) .none kV15 dc15 pm15 an15 cd15 ct15 | 16 => PySem.W.fnOf "_law_told" "_law_told" (defArgs st16) (defBody st16) (defScope st16) .none kV16 dc16 pm16 an16 cd16 ct16 | 17 => PySem.W.fnOf "_law_heard" "_law_heard" (defArgs st17) (defBody st17) (defScope st17) .none kV17 dc17 pm17 an17 cd17 ct17 | 18 => PySem.W.fnOf "_law_is_number" "_law_is_number" (defArgs st18) (defBody st18) (defScope st18) .none kV18 dc18 pm18 an18 cd18 ct18 | 19 => PySem.W.fnOf "_law_wrong" "_law_wrong" (defArgs st19) (defBody st19) (defScope st19) .none kV19 dc19 pm19 an19 cd19 ct19 | 20 => PySem.W.fnOf "_law_bent" "_law_bent" (defArgs st20) (defBody st20) (defScope st20) .none kV20 dc20 pm20 an20 cd20 ct20 | 21 => PySem.W.fnOf "law" "law" (defArgs st21) (defBody st21) (defScope st21) .none kV21 dc21 pm21 an21 (.ref cc21) ct21 | _ => PySem.W.fnOf "" "" (defArgs st0) [] (defScope st0) .none .none .none .none .none .none .none) := {
    mC0 := PySem.W.mg_of X G aC0
    cn0 := adr_of aC0
    mC1 := PySem.W.mg_of X G aC1
    cn1 := adr_of aC1
    mC3 := PySem.W.mg_of X G aC3
    cn3 := adr_of aC3
    mC6 := PySem.W.mg_of X G aC6
    cn6 := adr_of aC6
    mC5 := PySem.W.mg_of X G aC5
    cn5 := adr_of aC5
    xr0 := xf_of xc0
    xe0 := xc_of xc0
    na0 := na_of na0
    xr1 := xf_of xc1
    xe1 := xc_of xc1
    na1 := na_of na1
    xr3 := xf_of xc3
    xe3 := xc_of xc3
    na3 := na_of na3
    ox3 := oex_of xL3 xR3 xS3
    xi3 := xi3
    xt3 := xt3
    cx3 := adr_of aC3
    xr6 := xf_of xc6
    xe6 := xc_of xc6
    na6 := na_of na6
    ox6 := oex_of xL6 xR6 xS6
    xi6 := xi6
    xt6 := xt6
    cx6 := adr_of aC6
    cl5 := cls_of cl5
    cg5 := cg5
    na5 := na_of na5
    ck5 := adr_of aC5
    mk5 := ⟨nk5, ni5, nf5, np5⟩
    m0 := PySem.W.mg_of X G a0
    f0 := funV F0
    b0 := B0
    m1 := PySem.W.mg_of X G a1
    f1 := funV F1
    b1 := B1
    m2 := PySem.W.mg_of X G a2
    f2 := funV F2
    b2 := B2
    f3 := funV F3
    b3 := B3
    f4 := funV F4
    b4 := B4
    f5 := funD_V FD5
    bd5_0 := binds_of FD5 3 0 (by simp) (by rfl) (fun _ _ _ _ _ _ _ us its hu hi => match us, its, hu, hi with | [_, _, _], [_, _], _, _ => ⟨_, rfl, rfl⟩)
    bd5_2 := binds_of FD5 5 2 (by simp) (by rfl) (fun _ _ _ _ _ _ _ us its hu hi => match us, its, hu, hi with | [_, _, _, _, _], [_, _], _, _ => ⟨_, rfl, rfl⟩)
    b0d5 := by obtain ⟨_, h, k⟩ := binds_of FD5 5 2 (ps := ["self", "x", "y", "width", "height"]) (by simp) (by rfl) (fun _ _ _ _ _ _ _ us its hu hi => match us, its, hu, hi with | [_, _, _, _, _], [_, _], _, _ => ⟨_, rfl, rfl⟩); cases h; exact k
    cr6 := ⟨sd6, sg6⟩
    cm6 := ⟨sa6, ⟨_, sr6⟩, sf6⟩
    kc6 := fun s u ws hl => match ws, hl with | [_], _ => .of_eq rfl
    f6 := funV F6
    b6 := B6
    me5_7 := ⟨ma5_7, mb7, k7⟩
    f7 := funV F7
    b7 := B7
    m8 := PySem.W.mg_of X G a8
    f8 := funD_V FD8
    bd8_0 := binds_of FD8 1 0 (by simp) (by rfl) (fun _ _ _ _ _ _ _ us its hu hi => match us, its, hu, hi with | [_], [_, _], _, _ => ⟨_, rfl, rfl⟩)
    m9 := PySem.W.mg_of X G a9
    f9 := funV F9
    b9 := B9
    m10 := PySem.W.mg_of X G a10
    f10 := funV F10
    b10 := B10
    m11 := PySem.W.mg_of X G a11
    f11 := funV F11
    b11 := B11
    m12 := PySem.W.mg_of X G a12
    f12 := funV F12
    b12 := B12
    m13 := PySem.W.mg_of X G a13
    f13 := funV F13
    b13 := B13
    m14 := PySem.W.mg_of X G a14
    f14 := funV F14
    b14 := B14
    m15 := PySem.W.mg_of X G a15
    f15 := funV F15
    b15 := B15
    m16 := PySem.W.mg_of X G a16
    f16 := funV F16
    b16 := B16
    m17 := PySem.W.mg_of X G a17
    f17 := funV F17
    h17 := F17
    b17 := B17
    m18 := PySem.W.mg_of X G a18
    f18 := funV F18
    b18 := B18
    m19 := PySem.W.mg_of X G a19
    f19 := funV F19
    b19 := B19
    m20 := PySem.W.mg_of X G a20
    f20 := funV F20
    b20 := B20
    m21 := PySem.W.mg_of X G a21
    f21 := funV F21
    b21 := B21
    q21 := rfl
    ti21 := lt21
    tt21 := tt_mem lt21 (by decide)
    tu21 := tt_un lu21
    is6 := is6
    ib := ib
    em0 := em0
    n_abs := PySem.W.mg_none_of X G z_abs
    n_all := PySem.W.mg_none_of X G z_all
    n_bool := PySem.W.mg_none_of X G z_bool
    n_int := PySem.W.mg_none_of X G z_int
    n_isinstance := PySem.W.mg_none_of X G z_isinstance
    n_len := PySem.W.mg_none_of X G z_len
    n_list := PySem.W.mg_none_of X G z_list
    n_range := PySem.W.mg_none_of X G z_range
    n_str := PySem.W.mg_none_of X G z_str
    g_FIGURES := ⟨_, PySem.W.mg_of X G y_FIGURES⟩
    g_MOST_SIDE := ⟨_, PySem.W.mg_of X G y_MOST_SIDE⟩
  }
  exact ⟨_, fun s u => .of_eq rfl, fun base _ _ hT => (al (base := base) T (hT _ (by decide) _ _ lt21) 12).1.o21⟩
end LW
end

section
namespace LW
open PP PySem L2
theorem k_is_integer {k : Nat} : S_is_integer (calls fs (k + 1) 0) := by
  rw [calls_fn fs (k + 0) 0 (F := F_is_integer) rfl]
  exact is_integer_ok 
theorem k_is_between {k : Nat} : S_is_between (calls fs (k + 2) 1) := by
  rw [calls_fn fs (k + 1) 1 (F := F_is_between) rfl]
  exact is_between_ok k_is_integer
theorem k_number_in {k : Nat} : S_number_in (calls fs (k + 1) 10) := by
  rw [calls_fn fs (k + 0) 10 (F := F_number_in) rfl]
  exact number_in_ok 
theorem k_Box__init__ {k : Nat} : S_box_init (calls fs (k + 3) 6000) := by
  rw [calls_fn fs (k + 2) 6000 (F := F_Box__init__) rfl]
  exact box_init_ok k_is_between
theorem k_box_numbers {k : Nat} : S_box_numbers (calls fs (k + 2) 11) := by
  rw [calls_fn fs (k + 1) 11 (F := F_box_numbers) rfl]
  exact box_numbers_ok k_number_in
theorem k_Box_read {k : Nat} : S_read (calls fs (k + 4) 6051) := by
  rw [calls_fn fs (k + 3) 6051 (F := F_Box_read) rfl]
  exact read_ok k_box_numbers k_Box__init__
theorem k_Box__str__ {k : Nat} : S_str (calls fs (k + 1) 6021) := by
  rw [calls_fn fs (k + 0) 6021 (F := F_Box__str__) rfl]
  exact str_ok 
theorem k_pen {k : Nat} (ns : List Int) (h : ns.length ≤ 63) : calls fs (k + 1) 501 [.fz (.kst (ns.map D.int))] = .ok (.nw (.lst [.lst (ns.map D.int), .int 0, .int 0])) [] := (calls_eq fs k 501 (F := penFn) rfl _).trans (pen_ok h).1
theorem k_draw {k : Nat} : DrawOk (calls fs (k + 1)) 502 := by
  intro n p m hp hn hm hm2
  rw [calls_eq fs k 502 (F := drawFn 35227 3761 2147483549 47737 853 2147483629 419 53129 97 2147483587) rfl]
  exact draw_ok (by decide) (by decide) (by decide) (by decide) (by decide) (by decide) (by decide) (by decide) (by decide) hp hn hm hm2
theorem k_pick {k : Nat} : PickOk (calls fs (k + 2)) 503 := by
  intro n p xs hp hn h0 h1
  rw [calls_eq fs (k + 1) 503 (F := pickFn 502) rfl]
  exact pick_ok k_draw hp hn h0 h1
end LW
end

section
set_option maxHeartbeats 1000000
local macro_rules | `(tactic| walk_at "pp") => `(tactic| simp -implicitDefEqProofs only [PP.ev_w0, PP.ev_w1, PP.ev_w2, PP.ev_w3, PP.ev_w4, PP.ev_w5, PP.ev_w6, PP.ev_w7, PP.ev_w8, PP.ev_w9, PP.ev_w10, PP.ev_w11, PP.ev_w12, PP.ev_w13, PP.ev_w14, PP.ev_w15, PP.ev_w16, PP.ev_w17, PP.ev_w18, PP.ev_w19, PP.ev_w20, PP.ev_w21, PP.ev_w22, PP.ev_w23, PP.ev_w24, PP.ev_w25, PP.ev_w26, PP.ev_w27, PP.ev_w28, PP.ev_w29, PP.ev_w30, PP.ev_w31, PP.ev_w32, PP.ev_w33, PP.ev_w34, PP.ev_w35, PP.ev_w36, PP.ev_w37, PP.ev_w38, PP.ev_w39, PP.ev_w40, PP.ev_w41, PP.ev_w42, PP.ev_w43, PP.ev_w44, PP.evF_w0, PP.evF_w1, PP.evF_w2, PP.evR_w0, PP.evR_w1, PP.evR_w2, PP.evC_w0, PP.evC_w1, PP.evC_w2, PP.evC_w3, PP.ex_w0, PP.ex_w1, PP.ex_w2, PP.ex_w3, PP.ex_w4, PP.ex_w5, PP.ex_w6, PP.ex_w7, PP.ex_w8, PP.ex_w9, PP.ex_w10, PP.ex_w11, PP.ex_w12, PP.ex_w13, PP.ex_w14, PP.ex_w15, PP.ex_w16, PP.ex_w17, PP.ex_w18, PP.ex_w19, PP.ex_w20, PP.exs_w0, PP.exs_w1, PP.itD_w0, PP.itD_w1, PP.itD_w2, PP.itD_w3, PP.itD_w4, PP.itD_w5, PP.evT_w, PP.getS_0, PP.getS_s, PP.set_0, PP.set_s, PP.mul_1, PP.mul_m1, PP.fin_ok, PP.fin_exc, PP.finX_s, PP.finO_next, PP.finO_d, PP.finO_nw, PP.rdU_d, PP.rdU_nw, PP.rdU_sl, PP.rdS_fz, PP.rdS_ow, PP.rdS_io, PP.pend_d, PP.pend_nw, PP.pend_sl, PP.fzU_d, PP.fzU_nw, PP.fzU_sl, PP.asgU_d, PP.asgU_nw, PP.asgU_sl, PP.slOf_non, PP.slOf_bl, PP.slOf_int, PP.slOf_str, PP.slOf_tup, PP.slOf_lst, PP.slOf_dK, PP.isLs_ow, PP.isLs_io, PP.retU_d, PP.retU_nw, PP.retU_sl, PP.nrm_non, PP.nrm_bl, PP.nrm_int, PP.nrm_str, PP.nrm_tup, PP.nrm_lst, PP.nrm_dK, PP.setIO_ow, PP.setIO_io, PP.dupF_0, PP.dupF_1, PP.optP_f, PP.optP_t, PP.truD_bl, PP.truD_non, PP.truD_lst, PP.partD_eq, PP.ix_lst_0, PP.ix_lst_1, PP.ix_lst_2, PP.ix_lst_3, PP.ix_lst_4, PP.ix_lst_5, PP.ix_tup_0, PP.ix_tup_1, PP.ix_tup_2, PP.ix_tup_3, PP.ix_tup_4, PP.ix_tup_5, PP.ix_kst_0, PP.ix_kst_1, PP.ix_kst_2, PP.ix_kst_3, PP.ix_kst_4, PP.ix_kst_5, PP.set_l3_1, PP.set_l3_2, PP.bi_int_i, PP.bi_int_b, PP.bi_abs, PP.bi_len_l, PP.bi_len_t, PP.bi_isInt_non, PP.bi_isInt_bl, PP.bi_isInt_int, PP.bi_isInt_str, PP.bi_isInt_tup, PP.bi_isInt_lst, PP.bi_isInt_kst, PP.bi_isInt_dK, PP.bi_isBool_non, PP.bi_isBool_bl, PP.bi_isBool_int, PP.bi_isBool_str, PP.bi_isBool_tup, PP.bi_isBool_lst, PP.bi_isBool_kst, PP.bi_isBool_dK, PP.bi_isTuple_non, PP.bi_isTuple_bl, PP.bi_isTuple_int, PP.bi_isTuple_str, PP.bi_isTuple_tup, PP.bi_isTuple_lst, PP.bi_isTuple_kst, PP.bi_isTuple_dK, PP.bi_isList_non, PP.bi_isList_bl, PP.bi_isList_int, PP.bi_isList_str, PP.bi_isList_tup, PP.bi_isList_lst, PP.bi_isList_kst, PP.bi_isList_dK, PP.bi_isStr_non, PP.bi_isStr_bl, PP.bi_isStr_int, PP.bi_isStr_str, PP.bi_isStr_tup, PP.bi_isStr_lst, PP.bi_isStr_kst, PP.bi_isStr_dK, PP.le_lim, PP.lt_lim, PP.bi_isInt_dT, PP.bi_isBool_dT, PP.bi_isTuple_dT, PP.bi_isList_dT, PP.bi_isStr_dT, PP.pw_10_18, PP.o_gt_i, PP.o_lt_i, PP.o_ge_i, PP.o_le_i, PP.o_add_i, PP.o_sub_i, PP.o_neg_i, PP.o_eq_i, PP.o_ne_i, PP.o_eq_s, PP.o_ne_s, PP.o_eq_b, PP.ne_nil, PP.fldOf_o, PP.fldOf_e, PP.fldD_c, PP.putD_c, PP.putD_n, PP.isObj_o, PP.isObj_e, PP.isObj_non, PP.isObj_bl, PP.isObj_int, PP.isObj_str, PP.isObj_lst, PP.isObj_tup, PP.isObj_kst, PP.isObj_dK, PP.isCls_o, PP.isCls_e, PP.isCls_non, PP.isCls_bl, PP.isCls_int, PP.isCls_str, PP.isCls_lst, PP.isCls_tup, PP.isCls_kst, PP.isCls_dK, PP.runC_eq, PP.makeO_eq, PP.spec_eq, PP.allFz_0, PP.allFz_c, PP.recv_f, PP.recv_t, PP.ownOp_o, PP.ownIn_o, PP.ownNe_o, PP.opc_add, PP.opc_sub, PP.opc_mul, PP.opc_shl, PP.opc_shr, PP.opc_band, PP.opc_bor, PP.opc_lt, PP.opc_le, PP.opc_gt, PP.opc_ge, PP.opc_eq, PP.opc_ne, PP.okR_o, PP.okR_int, PP.okR_bl, PP.okR_non, PP.okR_str, PP.okR_lst, PP.okR_kst, PP.okR_tup, PP.cmp_lt, PP.cmp_le, PP.cmp_gt, PP.cmp_ge, PP.cmp_eq, PP.cmp_ne, PP.cmp_add, PP.cmp_sub, PP.cmp_band, PP.cmp_bor, PP.cmp_shl, PP.cmp_shr, PP.cmp_mul, PP.slOf_obj, PP.nrm_obj, PP.slOf_err, PP.hear_eq, PP.frz_0, PP.frz_c, PP.mask_c, PP.mask_n, PP.maskS_fz, PP.maskS_ow, PP.maskS_io, PP.maskS_un, PP.item_t, PP.item_l, PP.item_k, PP.bi_max2, PP.bi_min2, PP.bi_bool_b, PP.o_shr_i, PP.o_is_n, PP.o_isnot_n, PP.o_is_b, PP.o_isnot_b, PP.o_add_l, PP.o_mul_l, PP.set_l4_0, PP.set_l4_1, PP.set_l4_2, PP.set_l4_3, PP.ask_o, PP.outD_t, PP.outD_e, PP.keep_d, PP.noL_non, PP.noL_int, PP.noL_bl, PP.noL_str, PP.noL_tup, PP.noL_0, PP.noL_c, PP.evJ_0, PP.rv_split, PP.rv_join, PP.rv_ix_l, PP.rv_ix_k, PP.clsN_eq, PP.runF, PP.startE, PP.rdAll, PP.argsOf, PP.ioSlots, PP.putIO, PP.permL, PP.outsOf, PP.storeAll, PP.R.bind_ok, PP.R.bind_exc, PP.R.bind_bad, PP.orBad_some, PP.orBad_none, Int.reduceLE, Int.reduceLT, Int.reduceToNat, Int.reducePow, Int.reduceNeg, Int.reduceAdd, Int.reduceSub, Int.reduceMul, Int.reduceBEq, Int.cast_ofNat_Int, Int.natCast_zero, Int.natCast_one, Int.reduceBNe, Int.reduceEq, Int.reduceDiv, Int.reduceMod, Nat.reduceAdd, Nat.reduceMul, Nat.reduceSub, Nat.reducePow, Nat.reduceLeDiff, Nat.reduceLT, Nat.reduceEqDiff, Nat.reduceBEq, List.cons_append, List.nil_append, List.append_nil, Nat.zero_le, List.head?_cons, List.tail_cons, Option.map_some, Option.map_none, Option.bind_some, Option.bind_none, Bool.not_true, Bool.not_false, Bool.and_self, Bool.and_true, Bool.true_and, Bool.false_and, Bool.and_false, Bool.or_true, Bool.true_or, Bool.or_false, Bool.false_or, Bool.not_not, List.contains_cons, List.contains_nil, BEq.rfl, reduceCtorEq,
  eq_self, and_self, if_true, if_false, ite_true, ite_false, Bool.false_eq_true, reduceIte, List.length_cons, List.length_nil, List.filterMap_cons, List.filterMap_nil, List.getElem?_cons_zero, List.getElem?_cons_succ, List.map_cons, List.map_nil, List.replicate_succ, List.replicate_zero, List.flatten_cons, List.flatten_nil, List.reverse_cons, List.reverse_nil, decide_true, decide_false, Bool.not_eq_true, Bool.not_eq_false, Bool.cond_true, Bool.cond_false])
local macro_rules | `(tactic| walk_at "pq") => `(tactic| simp -implicitDefEqProofs (disch := first | assumption | (with_reducible show (_ : Bool) = _; exact id rfl) | (with_reducible show (_ : Int) < _; omega) | (with_reducible show (_ : Int) ≤ _; omega) | (with_reducible show (_ : Nat) ≤ _; omega) | (with_reducible show (_ : Nat) < _; omega) | exact id (by simp only [PP.wfD, PP.wfL, PP.dpD, PP.dpL, PP.ok_ofS, PP.ok_app, PP.ok_empty, Nat.max_self, Nat.zero_max, Nat.max_zero, Nat.reduceAdd, Nat.reduceLeDiff, Bool.and_self, PP.wf_ints, PP.dp_ints, Bool.and_true, Bool.true_and, *] ; done) | fail) only [*, PP.le_lim, PP.lt_lim, PP.o_shr_i, PP.shl_p, PP.mul_w, PP.fdiv_w, PP.mod_p, PP.pow_p, PP.nrm_mut, PP.bi_len_s, PP.bi_split, PP.op_eq, PP.op_ne, PP.v_str, PP.v_nil, PP.v_cons, PP.v_nc, PP.v_cn, PP.v_tup, PP.v_lst, PP.v_kl, PP.v_lt, PP.v_tl, PP.v_int, PP.v_bl, PP.v_nn, PP.v_nt, PP.v_tn, PP.v_ni, PP.v_in, PP.v_ints, PP.ev_w0, PP.ev_w1, PP.ev_w2, PP.ev_w3, PP.ev_w4, PP.ev_w5, PP.ev_w6, PP.ev_w7, PP.ev_w8, PP.ev_w9, PP.ev_w10, PP.ev_w11, PP.ev_w12, PP.ev_w13, PP.ev_w14, PP.ev_w15, PP.ev_w16, PP.ev_w17, PP.ev_w18, PP.ev_w19, PP.ev_w20, PP.ev_w21, PP.ev_w22, PP.ev_w23, PP.ev_w24, PP.ev_w25, PP.ev_w26, PP.ev_w27, PP.ev_w28, PP.ev_w29, PP.ev_w30, PP.ev_w31, PP.ev_w32, PP.ev_w33, PP.ev_w34, PP.ev_w35, PP.ev_w36, PP.ev_w37, PP.ev_w38, PP.ev_w39, PP.ev_w40, PP.ev_w41, PP.ev_w42, PP.ev_w43, PP.ev_w44, PP.evF_w0, PP.evF_w1, PP.evF_w2, PP.evR_w0, PP.evR_w1, PP.evR_w2, PP.evC_w0, PP.evC_w1, PP.evC_w2, PP.evC_w3, PP.ex_w0, PP.ex_w1, PP.ex_w2, PP.ex_w3, PP.ex_w4, PP.ex_w5, PP.ex_w6, PP.ex_w7, PP.ex_w8, PP.ex_w9, PP.ex_w10, PP.ex_w11, PP.ex_w12, PP.ex_w13, PP.ex_w14, PP.ex_w15, PP.ex_w16, PP.ex_w17, PP.ex_w18, PP.ex_w19, PP.ex_w20, PP.exs_w0, PP.exs_w1, PP.itD_w0, PP.itD_w1, PP.itD_w2, PP.itD_w3, PP.itD_w4, PP.itD_w5, PP.evT_w, PP.getS_0, PP.getS_s, PP.set_0, PP.set_s, PP.mul_1, PP.mul_m1, PP.fin_ok, PP.fin_exc, PP.finX_s, PP.finO_next, PP.finO_d, PP.finO_nw, PP.rdU_d, PP.rdU_nw, PP.rdU_sl, PP.rdS_fz, PP.rdS_ow, PP.rdS_io, PP.pend_d, PP.pend_nw, PP.pend_sl, PP.fzU_d, PP.fzU_nw, PP.fzU_sl, PP.asgU_d, PP.asgU_nw, PP.asgU_sl, PP.slOf_non, PP.slOf_bl, PP.slOf_int, PP.slOf_str, PP.slOf_tup, PP.slOf_lst, PP.slOf_dK, PP.isLs_ow, PP.isLs_io, PP.retU_d, PP.retU_nw, PP.retU_sl, PP.nrm_non, PP.nrm_bl, PP.nrm_int, PP.nrm_str, PP.nrm_tup, PP.nrm_lst, PP.nrm_dK, PP.setIO_ow, PP.setIO_io, PP.dupF_0, PP.dupF_1, PP.optP_f, PP.optP_t, PP.truD_bl, PP.truD_non, PP.truD_lst, PP.partD_eq, PP.ix_lst_0, PP.ix_lst_1, PP.ix_lst_2, PP.ix_lst_3, PP.ix_lst_4, PP.ix_lst_5, PP.ix_tup_0, PP.ix_tup_1, PP.ix_tup_2, PP.ix_tup_3, PP.ix_tup_4, PP.ix_tup_5, PP.ix_kst_0, PP.ix_kst_1, PP.ix_kst_2, PP.ix_kst_3, PP.ix_kst_4, PP.ix_kst_5, PP.set_l3_1, PP.set_l3_2, PP.bi_int_i, PP.bi_int_b, PP.bi_abs, PP.bi_len_l, PP.bi_len_t, PP.bi_isInt_non, PP.bi_isInt_bl, PP.bi_isInt_int, PP.bi_isInt_str, PP.bi_isInt_tup, PP.bi_isInt_lst, PP.bi_isInt_kst, PP.bi_isInt_dK, PP.bi_isBool_non, PP.bi_isBool_bl, PP.bi_isBool_int, PP.bi_isBool_str, PP.bi_isBool_tup, PP.bi_isBool_lst, PP.bi_isBool_kst, PP.bi_isBool_dK, PP.bi_isTuple_non, PP.bi_isTuple_bl, PP.bi_isTuple_int, PP.bi_isTuple_str, PP.bi_isTuple_tup, PP.bi_isTuple_lst, PP.bi_isTuple_kst, PP.bi_isTuple_dK, PP.bi_isList_non, PP.bi_isList_bl, PP.bi_isList_int, PP.bi_isList_str, PP.bi_isList_tup, PP.bi_isList_lst, PP.bi_isList_kst, PP.bi_isList_dK, PP.bi_isStr_non, PP.bi_isStr_bl, PP.bi_isStr_int, PP.bi_isStr_str, PP.bi_isStr_tup, PP.bi_isStr_lst, PP.bi_isStr_kst, PP.bi_isStr_dK, PP.le_lim, PP.lt_lim, PP.bi_isInt_dT, PP.bi_isBool_dT, PP.bi_isTuple_dT, PP.bi_isList_dT, PP.bi_isStr_dT, PP.pw_10_18, PP.o_gt_i, PP.o_lt_i, PP.o_ge_i, PP.o_le_i, PP.o_add_i, PP.o_sub_i, PP.o_neg_i, PP.o_eq_i, PP.o_ne_i, PP.o_eq_s, PP.o_ne_s, PP.o_eq_b, PP.ne_nil, PP.fldOf_o, PP.fldOf_e, PP.fldD_c, PP.putD_c, PP.putD_n, PP.isObj_o, PP.isObj_e, PP.isObj_non, PP.isObj_bl, PP.isObj_int, PP.isObj_str, PP.isObj_lst, PP.isObj_tup, PP.isObj_kst, PP.isObj_dK, PP.isCls_o, PP.isCls_e, PP.isCls_non, PP.isCls_bl, PP.isCls_int, PP.isCls_str, PP.isCls_lst, PP.isCls_tup, PP.isCls_kst, PP.isCls_dK, PP.runC_eq, PP.makeO_eq, PP.spec_eq, PP.allFz_0, PP.allFz_c, PP.recv_f, PP.recv_t, PP.ownOp_o, PP.ownIn_o, PP.ownNe_o, PP.opc_add, PP.opc_sub, PP.opc_mul, PP.opc_shl, PP.opc_shr, PP.opc_band, PP.opc_bor, PP.opc_lt, PP.opc_le, PP.opc_gt, PP.opc_ge, PP.opc_eq, PP.opc_ne, PP.okR_o, PP.okR_int, PP.okR_bl, PP.okR_non, PP.okR_str, PP.okR_lst, PP.okR_kst, PP.okR_tup, PP.cmp_lt, PP.cmp_le, PP.cmp_gt, PP.cmp_ge, PP.cmp_eq, PP.cmp_ne, PP.cmp_add, PP.cmp_sub, PP.cmp_band, PP.cmp_bor, PP.cmp_shl, PP.cmp_shr, PP.cmp_mul, PP.slOf_obj, PP.nrm_obj, PP.slOf_err, PP.hear_eq, PP.frz_0, PP.frz_c, PP.mask_c, PP.mask_n, PP.maskS_fz, PP.maskS_ow, PP.maskS_io, PP.maskS_un, PP.item_t, PP.item_l, PP.item_k, PP.bi_max2, PP.bi_min2, PP.bi_bool_b, PP.o_shr_i, PP.o_is_n, PP.o_isnot_n, PP.o_is_b, PP.o_isnot_b, PP.o_add_l, PP.o_mul_l, PP.set_l4_0, PP.set_l4_1, PP.set_l4_2, PP.set_l4_3, PP.ask_o, PP.outD_t, PP.outD_e, PP.keep_d, PP.noL_non, PP.noL_int, PP.noL_bl, PP.noL_str, PP.noL_tup, PP.noL_0, PP.noL_c, PP.evJ_0, PP.rv_split, PP.rv_join, PP.rv_ix_l, PP.rv_ix_k, PP.clsN_eq, PP.runF, PP.startE, PP.rdAll, PP.argsOf, PP.ioSlots, PP.putIO, PP.permL, PP.outsOf, PP.storeAll, PP.R.bind_ok, PP.R.bind_exc, PP.R.bind_bad, PP.orBad_some, PP.orBad_none, Int.reduceLE, Int.reduceLT, Int.reduceToNat, Int.reducePow, Int.reduceNeg, Int.reduceAdd, Int.reduceSub, Int.reduceMul, Int.reduceBEq, Int.cast_ofNat_Int, Int.natCast_zero, Int.natCast_one, Int.reduceBNe, Int.reduceEq, Int.reduceDiv, Int.reduceMod, Nat.reduceAdd, Nat.reduceMul, Nat.reduceSub, Nat.reducePow, Nat.reduceLeDiff, Nat.reduceLT, Nat.reduceEqDiff, Nat.reduceBEq, List.cons_append, List.nil_append, List.append_nil, Nat.zero_le, List.head?_cons, List.tail_cons, Option.map_some, Option.map_none, Option.bind_some, Option.bind_none, Bool.not_true, Bool.not_false, Bool.and_self, Bool.and_true, Bool.true_and, Bool.false_and, Bool.and_false, Bool.or_true, Bool.true_or, Bool.or_false, Bool.false_or, Bool.not_not, List.contains_cons, List.contains_nil, BEq.rfl, reduceCtorEq,
  eq_self, and_self, if_true, if_false, ite_true, ite_false, Bool.false_eq_true, reduceIte, List.length_cons, List.length_nil, List.filterMap_cons, List.filterMap_nil, List.getElem?_cons_zero, List.getElem?_cons_succ, List.map_cons, List.map_nil, List.replicate_succ, List.replicate_zero, List.flatten_cons, List.flatten_nil, List.reverse_cons, List.reverse_nil, decide_true, decide_false, Bool.not_eq_true, Bool.not_eq_false, Bool.cond_true, Bool.cond_false])
local macro_rules | `(tactic| walk_at "px") => `(tactic| simp -implicitDefEqProofs (disch := first | assumption | (with_reducible show (_ : Bool) = _; exact id rfl) | (with_reducible show (_ : Int) < _; omega) | (with_reducible show (_ : Int) ≤ _; omega) | (with_reducible show (_ : Nat) ≤ _; omega) | (with_reducible show (_ : Nat) < _; omega) | fail) only [*, PP.le_lim, PP.lt_lim, PP.o_shr_i, PP.shl_p, PP.mul_w, PP.fdiv_w, PP.mod_p, PP.pow_p, PP.nrm_mut, PP.bi_len_s, PP.bi_split, PP.ev_w0, PP.ev_w1, PP.ev_w2, PP.ev_w3, PP.ev_w4, PP.ev_w5, PP.ev_w6, PP.ev_w7, PP.ev_w8, PP.ev_w9, PP.ev_w10, PP.ev_w11, PP.ev_w12, PP.ev_w13, PP.ev_w14, PP.ev_w15, PP.ev_w16, PP.ev_w17, PP.ev_w18, PP.ev_w19, PP.ev_w20, PP.ev_w21, PP.ev_w22, PP.ev_w23, PP.ev_w24, PP.ev_w25, PP.ev_w26, PP.ev_w27, PP.ev_w28, PP.ev_w29, PP.ev_w30, PP.ev_w31, PP.ev_w32, PP.ev_w33, PP.ev_w34, PP.ev_w35, PP.ev_w36, PP.ev_w37, PP.ev_w38, PP.ev_w39, PP.ev_w40, PP.ev_w41, PP.ev_w42, PP.ev_w43, PP.ev_w44, PP.evF_w0, PP.evF_w1, PP.evF_w2, PP.evR_w0, PP.evR_w1, PP.evR_w2, PP.evC_w0, PP.evC_w1, PP.evC_w2, PP.evC_w3, PP.ex_w0, PP.ex_w1, PP.ex_w2, PP.ex_w3, PP.ex_w4, PP.ex_w5, PP.ex_w6, PP.ex_w7, PP.ex_w8, PP.ex_w9, PP.ex_w10, PP.ex_w11, PP.ex_w12, PP.ex_w13, PP.ex_w14, PP.ex_w15, PP.ex_w16, PP.ex_w17, PP.ex_w18, PP.ex_w19, PP.ex_w20, PP.exs_w0, PP.exs_w1, PP.itD_w0, PP.itD_w1, PP.itD_w2, PP.itD_w3, PP.itD_w4, PP.itD_w5, PP.evT_w, PP.getS_0, PP.getS_s, PP.set_0, PP.set_s, PP.mul_1, PP.mul_m1, PP.fin_ok, PP.fin_exc, PP.finX_s, PP.finO_next, PP.finO_d, PP.finO_nw, PP.rdU_d, PP.rdU_nw, PP.rdU_sl, PP.rdS_fz, PP.rdS_ow, PP.rdS_io, PP.pend_d, PP.pend_nw, PP.pend_sl, PP.fzU_d, PP.fzU_nw, PP.fzU_sl, PP.asgU_d, PP.asgU_nw, PP.asgU_sl, PP.slOf_non, PP.slOf_bl, PP.slOf_int, PP.slOf_str, PP.slOf_tup, PP.slOf_lst, PP.slOf_dK, PP.isLs_ow, PP.isLs_io, PP.retU_d, PP.retU_nw, PP.retU_sl, PP.nrm_non, PP.nrm_bl, PP.nrm_int, PP.nrm_str, PP.nrm_tup, PP.nrm_lst, PP.nrm_dK, PP.setIO_ow, PP.setIO_io, PP.dupF_0, PP.dupF_1, PP.optP_f, PP.optP_t, PP.truD_bl, PP.truD_non, PP.truD_lst, PP.partD_eq, PP.ix_lst_0, PP.ix_lst_1, PP.ix_lst_2, PP.ix_lst_3, PP.ix_lst_4, PP.ix_lst_5, PP.ix_tup_0, PP.ix_tup_1, PP.ix_tup_2, PP.ix_tup_3, PP.ix_tup_4, PP.ix_tup_5, PP.ix_kst_0, PP.ix_kst_1, PP.ix_kst_2, PP.ix_kst_3, PP.ix_kst_4, PP.ix_kst_5, PP.set_l3_1, PP.set_l3_2, PP.bi_int_i, PP.bi_int_b, PP.bi_abs, PP.bi_len_l, PP.bi_len_t, PP.bi_isInt_non, PP.bi_isInt_bl, PP.bi_isInt_int, PP.bi_isInt_str, PP.bi_isInt_tup, PP.bi_isInt_lst, PP.bi_isInt_kst, PP.bi_isInt_dK, PP.bi_isBool_non, PP.bi_isBool_bl, PP.bi_isBool_int, PP.bi_isBool_str, PP.bi_isBool_tup, PP.bi_isBool_lst, PP.bi_isBool_kst, PP.bi_isBool_dK, PP.bi_isTuple_non, PP.bi_isTuple_bl, PP.bi_isTuple_int, PP.bi_isTuple_str, PP.bi_isTuple_tup, PP.bi_isTuple_lst, PP.bi_isTuple_kst, PP.bi_isTuple_dK, PP.bi_isList_non, PP.bi_isList_bl, PP.bi_isList_int, PP.bi_isList_str, PP.bi_isList_tup, PP.bi_isList_lst, PP.bi_isList_kst, PP.bi_isList_dK, PP.bi_isStr_non, PP.bi_isStr_bl, PP.bi_isStr_int, PP.bi_isStr_str, PP.bi_isStr_tup, PP.bi_isStr_lst, PP.bi_isStr_kst, PP.bi_isStr_dK, PP.le_lim, PP.lt_lim, PP.bi_isInt_dT, PP.bi_isBool_dT, PP.bi_isTuple_dT, PP.bi_isList_dT, PP.bi_isStr_dT, PP.pw_10_18, PP.o_gt_i, PP.o_lt_i, PP.o_ge_i, PP.o_le_i, PP.o_add_i, PP.o_sub_i, PP.o_neg_i, PP.o_eq_i, PP.o_ne_i, PP.o_eq_s, PP.o_ne_s, PP.o_eq_b, PP.ne_nil, PP.fldOf_o, PP.fldOf_e, PP.fldD_c, PP.putD_c, PP.putD_n, PP.isObj_o, PP.isObj_e, PP.isObj_non, PP.isObj_bl, PP.isObj_int, PP.isObj_str, PP.isObj_lst, PP.isObj_tup, PP.isObj_kst, PP.isObj_dK, PP.isCls_o, PP.isCls_e, PP.isCls_non, PP.isCls_bl, PP.isCls_int, PP.isCls_str, PP.isCls_lst, PP.isCls_tup, PP.isCls_kst, PP.isCls_dK, PP.runC_eq, PP.makeO_eq, PP.spec_eq, PP.allFz_0, PP.allFz_c, PP.recv_f, PP.recv_t, PP.ownOp_o, PP.ownIn_o, PP.ownNe_o, PP.opc_add, PP.opc_sub, PP.opc_mul, PP.opc_shl, PP.opc_shr, PP.opc_band, PP.opc_bor, PP.opc_lt, PP.opc_le, PP.opc_gt, PP.opc_ge, PP.opc_eq, PP.opc_ne, PP.okR_o, PP.okR_int, PP.okR_bl, PP.okR_non, PP.okR_str, PP.okR_lst, PP.okR_kst, PP.okR_tup, PP.cmp_lt, PP.cmp_le, PP.cmp_gt, PP.cmp_ge, PP.cmp_eq, PP.cmp_ne, PP.cmp_add, PP.cmp_sub, PP.cmp_band, PP.cmp_bor, PP.cmp_shl, PP.cmp_shr, PP.cmp_mul, PP.slOf_obj, PP.nrm_obj, PP.slOf_err, PP.hear_eq, PP.frz_0, PP.frz_c, PP.mask_c, PP.mask_n, PP.maskS_fz, PP.maskS_ow, PP.maskS_io, PP.maskS_un, PP.item_t, PP.item_l, PP.item_k, PP.bi_max2, PP.bi_min2, PP.bi_bool_b, PP.o_shr_i, PP.o_is_n, PP.o_isnot_n, PP.o_is_b, PP.o_isnot_b, PP.o_add_l, PP.o_mul_l, PP.set_l4_0, PP.set_l4_1, PP.set_l4_2, PP.set_l4_3, PP.ask_o, PP.outD_t, PP.outD_e, PP.keep_d, PP.noL_non, PP.noL_int, PP.noL_bl, PP.noL_str, PP.noL_tup, PP.noL_0, PP.noL_c, PP.evJ_0, PP.rv_split, PP.rv_join, PP.rv_ix_l, PP.rv_ix_k, PP.clsN_eq, PP.runF, PP.startE, PP.rdAll, PP.argsOf, PP.ioSlots, PP.putIO, PP.permL, PP.outsOf, PP.storeAll, PP.R.bind_ok, PP.R.bind_exc, PP.R.bind_bad, PP.orBad_some, PP.orBad_none, Int.reduceLE, Int.reduceLT, Int.reduceToNat, Int.reducePow, Int.reduceNeg, Int.reduceAdd, Int.reduceSub, Int.reduceMul, Int.reduceBEq, Int.cast_ofNat_Int, Int.natCast_zero, Int.natCast_one, Int.reduceBNe, Int.reduceEq, Int.reduceDiv, Int.reduceMod, Nat.reduceAdd, Nat.reduceMul, Nat.reduceSub, Nat.reducePow, Nat.reduceLeDiff, Nat.reduceLT, Nat.reduceEqDiff, Nat.reduceBEq, List.cons_append, List.nil_append, List.append_nil, Nat.zero_le, List.head?_cons, List.tail_cons, Option.map_some, Option.map_none, Option.bind_some, Option.bind_none, Bool.not_true, Bool.not_false, Bool.and_self, Bool.and_true, Bool.true_and, Bool.false_and, Bool.and_false, Bool.or_true, Bool.true_or, Bool.or_false, Bool.false_or, Bool.not_not, List.contains_cons, List.contains_nil, BEq.rfl, reduceCtorEq,
  eq_self, and_self, if_true, if_false, ite_true, ite_false, Bool.false_eq_true, reduceIte, List.length_cons, List.length_nil, List.filterMap_cons, List.filterMap_nil, List.getElem?_cons_zero, List.getElem?_cons_succ, List.map_cons, List.map_nil, List.replicate_succ, List.replicate_zero, List.flatten_cons, List.flatten_nil, List.reverse_cons, List.reverse_nil, decide_true, decide_false, Bool.not_eq_true, Bool.not_eq_false, Bool.cond_true, Bool.cond_false])
namespace LW
open PP PySem L2
theorem lam_eq (k : Nat) (o : D) : calls fs (k + 1) 508 [.fz o] = finR [] (exs (askCl o (calls fs k)) fn17.body [.fn, .un, .un, .un]) := rfl
abbrev S_heard (g : Gf) : Prop := (∀ d, g [.fz (.tup [.non, d])] = .ok (.nw (.lst [d])) []) ∧ ∀ l w : Int, g [.fz (.err 6 [7, 6] [.int w, .int l])] = .ok (.d (.tup [.int l, .int w])) []
theorem k_heard {k : Nat} : S_heard (calls fs (k + 1) 508) := by
  refine ⟨fun d => ?_, fun l w => ?_⟩
  · rw [lam_eq]
    simp only [fn17]
    walk_at "px"
  · rw [lam_eq]
    simp only [fn17]
    walk_at "px"
theorem k_top {k : Nat} : calls fs (k + 1) 500 [] = .ok (.d (.int 1267650600228229401496703205376)) [] := by
  rw [calls_eq fs k 500 (F := fn9) rfl]
  rfl
theorem use_pickI {cl : CallF} {f : Nat} (h : PickOk cl f) {n : Nat} {p : D} {xs : List D} {rc : RC} (lo hi : Int) (hr : cl f [.io p, .fz (.lst xs)] = rc) (hp : PenOk n p) (hn : n ≤ 1000000) (h0 : 0 < xs.length) (h1 : xs.length < 1000) (hx : ∀ d ∈ xs, btw d lo hi = true) :
    ∃ i p', rc = .ok (.d (.int i)) [p'] ∧ PenOk (n + 1) p' ∧ lo ≤ i ∧ i ≤ hi := by
  obtain ⟨d, hd, p', e, h2⟩ := use_pick h hr hp hn h0 h1
  have := hx d hd
  cases d with
  | int i =>
    simp only [btw, Bool.and_eq_true, decide_eq_true_eq] at this
    exact ⟨i, p', e, h2, this.1, this.2⟩
  | _ => cases this
theorem btw_i {i lo hi : Int} (h : lo ≤ i ∧ i ≤ hi) : btw (.int i) lo hi = true := by simp only [btw, h.1, h.2, decide_true, Bool.and_self]
theorem k_number {k n : Nat} {p : D} (hp : PenOk n p) (hn : n ≤ 900000) : ∃ i p', calls fs (k + 3) 504 [.io p] = .ok (.d (.int i)) [p'] ∧ PenOk (n + 3) p' ∧ 0 ≤ i ∧ i ≤ 1267650600228229401496703205375 := by
  rw [calls_eq fs (k + 2) 504 (F := fn13) rfl]
  have ht := @k_top (k + 1)
  have hpk := @k_pick k
  have hdr := @k_draw (k + 1)
  generalize calls fs (k + 2) = cl at *
  simp only [fn13]
  walk_at "px"
  generalize hrc : cl 502 _ = rc
  obtain ⟨r, p1, rfl, a1, b1, h1⟩ := use_draw hdr hrc hp (by omega) (by decide) (by decide)
  walk_at "px"
  generalize hrc : cl 502 _ = rc
  obtain ⟨r2, p2, rfl, a2, b2, h2⟩ := use_draw hdr hrc h1 (by omega) (by decide) (by decide)
  walk_at "px"
  generalize hrc : cl 503 _ = rc
  obtain ⟨i, p3, rfl, h3, c1, c2⟩ := use_pickI hpk 0 1267650600228229401496703205375 hrc h2 (by omega) (by simp) (by simp) (fun d hd => by
    simp only [List.mem_cons, List.not_mem_nil, or_false] at hd
    rcases hd with rfl | rfl | rfl | rfl | rfl | rfl | rfl | rfl <;> exact btw_i (by omega))
  walk_at "px"
  exact ⟨_, _, rfl, h3, c1, c2⟩
theorem k_side {k n : Nat} {p : D} (hp : PenOk n p) (hn : n ≤ 900000) : ∃ i p', calls fs (k + 3) 505 [.io p] = .ok (.d (.int i)) [p'] ∧ PenOk (n + 3) p' ∧ 1 ≤ i ∧ i ≤ 1267650600228229401496703205376 := by
  rw [calls_eq fs (k + 2) 505 (F := fn14) rfl]
  have ht := @k_top (k + 1)
  have hpk := @k_pick k
  have hdr := @k_draw (k + 1)
  generalize calls fs (k + 2) = cl at *
  simp only [fn14]
  walk_at "px"
  generalize hrc : cl 502 _ = rc
  obtain ⟨r, p1, rfl, a1, b1, h1⟩ := use_draw hdr hrc hp (by omega) (by decide) (by decide)
  walk_at "px"
  generalize hrc : cl 502 _ = rc
  obtain ⟨r2, p2, rfl, a2, b2, h2⟩ := use_draw hdr hrc h1 (by omega) (by decide) (by decide)
  walk_at "px"
  generalize hrc : cl 503 _ = rc
  obtain ⟨i, p3, rfl, h3, c1, c2⟩ := use_pickI hpk 1 1267650600228229401496703205376 hrc h2 (by omega) (by simp) (by simp) (fun d hd => by
    simp only [List.mem_cons, List.not_mem_nil, or_false] at hd
    rcases hd with rfl | rfl | rfl | rfl | rfl | rfl | rfl <;> exact btw_i (by omega))
  walk_at "px"
  exact ⟨_, _, rfl, h3, c1, c2⟩
theorem k_four {k n : Nat} {p : D} (hp : PenOk n p) (hn : n ≤ 800000) : ∃ x y w h p', calls fs (k + 4) 506 [.io p] = .ok (.d (.tup [.int x, .int y, .int w, .int h])) [p'] ∧ PenOk (n + 12) p' ∧ okN x y w h := by
  rw [calls_eq fs (k + 3) 506 (F := fn15) rfl]
  have hN := @k_number k
  have hS := @k_side k
  generalize calls fs (k + 3) = cl at *
  obtain ⟨x, p1, e1, h1, c1⟩ := hN hp (by omega)
  obtain ⟨y, p2, e2, h2, c2⟩ := hN h1 (by omega)
  obtain ⟨w, p3, e3, h3, c3⟩ := hS h2 (by omega)
  obtain ⟨h, p4, e4, h4, c4⟩ := hS h3 (by omega)
  clear hN hS
  simp only [fn15]
  walk_at "px"
  exact ⟨x, y, w, h, p4, rfl, h4, c1, c2, c3, c4⟩
theorem k_told {k : Nat} (x y w h : Int) : calls fs (k + 1) 507 [.fz (boxD x y w h)] = .ok (.d (.tup [.int x, .int y, .int w, .int h])) [] := by
  rw [calls_eq fs k 507 (F := fn16) rfl]
  simp only [fn16]
  walk_at "px"
/-! is_number -/
def dqN : D → Option D
  | .str w => match w.cps.toList with
    | [c] => if isDig c then none else some (.str w)
    | _ => none
  | _ => none
theorem dqN_map (cs : List Nat) : (cs.map fun c => D.str ⟨#[c]⟩).filterMap dqN = (cs.filter fun c => !isDig c).map fun c => .str ⟨#[c]⟩ := by
  induction cs with
  | nil => rfl
  | cons c r ih =>
    rw [List.map_cons, List.filterMap_cons, show dqN (.str ⟨#[c]⟩) = if isDig c then none else some (.str ⟨#[c]⟩) from rfl, List.filter_cons]
    cases isDig c with
    | true => simp only [if_true, Bool.not_true, Bool.false_eq_true, if_false]; exact ih
    | false => simp only [Bool.false_eq_true, if_false, Bool.not_false, if_true, List.map_cons, ih]
theorem notin_dig (c : Nat) : op2 .notin (.str ⟨#[c]⟩) (.str "0123456789") = some (.bl (!isDig c)) := rfl
theorem wf_chars : ∀ cs : List Nat, (∀ c ∈ cs, c < 1114112) → wfL (cs.map fun c => D.str ⟨#[c]⟩) = true ∧ dpL (cs.map fun c => D.str ⟨#[c]⟩) = 0
  | [], _ => ⟨rfl, rfl⟩
  | c :: r, h => by
    obtain ⟨h1, h2⟩ := wf_chars r fun d hd => h d (List.mem_cons_of_mem _ hd)
    have : PyData.strOk ⟨#[c]⟩ = true := by simp [PyData.strOk]; exact h c List.mem_cons_self
    simp [wfL, wfD, dpL, dpD, h1, h2, this]
theorem ne_chars (cs : List Nat) (h : ∀ c ∈ cs, c < 1114112) : op2 .ne (.lst (cs.map fun c => D.str ⟨#[c]⟩)) (.lst []) = some (.bl (!cs.isEmpty)) := by
  obtain ⟨h1, h2⟩ := wf_chars cs h
  rw [op_ne (by simp only [wfD]; exact h1) rfl (by simp only [dpD, h2]; decide) (by decide), v_lst]
  cases cs with
  | nil => rfl
  | cons c r => rw [List.map_cons, v_cn]; rfl
theorem dig_filter (z : Str) : (z.cps.toList.filter fun c => !isDig c).isEmpty = digS z := by
  unfold digS
  generalize z.cps.toList = cs
  induction cs with
  | nil => rfl
  | cons c r ih =>
    rw [List.filter_cons, List.all_cons]
    cases isDig c with
    | true => simpa using ih
    | false => simp
abbrev S_isnum (g : Gf) : Prop := ∀ z lo hi, z.length ≤ 100000 → PyData.strOk z = true → 0 ≤ lo → 0 ≤ hi → hi < 10000000000000000000000000000000000000000 → g [.fz (.str z), .fz (.int lo), .fz (.int hi)] = .ok (.d (.bl (numOf z lo hi).isSome)) []
theorem bi_str_i {i : Int} (h : smI i) : biD .str [.int i] = some (.str (T i)) := by
  have := h.log
  show (if _ then _ else _) = _
  rw [if_pos (by rw [decide_eq_true_eq]; omega)]
theorem num_int40 {z : Str} (hd : digS z = true) (hne : z ≠ "") (hl : z.length ≤ 40) : ∃ v, 0 ≤ v ∧ v < lim40 ∧ intText? z = some v := by
  rw [digS_iff] at hd
  have hne' : z.cps.toList ≠ [] := fun e => hne (TL.ext_tl e)
  refine ⟨((NumText.digitsVal z.cps.toList : Nat) : Int), by omega, ?_, PySem.intText_digits hd hne' (by omega)⟩
  have h1 := val_lt _ z.cps.toList rfl hd
  rw [← len_tl] at h1
  have h2 := Nat.pow_le_pow_right (n := 10) (by decide) hl
  have h3 : (10 : Nat) ^ 40 = 10000000000000000000000000000000000000000 := by decide
  unfold lim40
  omega
theorem k_isnum {k : Nat} : S_isnum (calls fs (k + 1) 509) := by
  intro z lo hi hz ok h0 hh hl
  rw [calls_eq fs k 509 (F := fn18) rfl]
  generalize calls fs k = cl at *
  simp only [fn18]
  by_cases he : z = ""
  · subst he
    rw [num_empty h0]
    walk_at "px"
    try rfl
  walk_at "px"
  by_cases hL : 40 < z.length
  · rw [num_long h0 (Nat.lt_of_le_of_lt (T_len40 hh hl) hL)]
    have hL' : (40 : Int) < (z.length : Int) := by omega
    walk_at "px"
    try rfl
  have hL' : ¬ (40 : Int) < (z.length : Int) := by omega
  walk_at "px"
  rw [lc_map dqN rfl (by rw [chars_len]; exact hz) (fun d hd => by
    obtain ⟨c, _, rfl⟩ := List.mem_map.mp hd
    refine ⟨[.fz (.str z), .fz (.int lo), .fz (.int hi), .fz (.str ⟨#[c]⟩)], ?_, rfl⟩
    simp only [storeG, wipeE]
    walk_at "px"
    simp only [eltT]
    walk_at "px"
    rw [notin_dig]
    walk_at "px"
    rw [show dqN (.str ⟨#[c]⟩) = if isDig c then none else some (.str ⟨#[c]⟩) from rfl]
    cases isDig c with
    | true => walk_at "px"; try rfl
    | false => walk_at "px"; try rfl), dqN_map]
  walk_at "px"
  rw [ne_chars _ (fun c hc => strOk_lt ok c (List.mem_filter.mp hc).1), dig_filter]
  cases hd : digS z with
  | false =>
    rw [num_digs h0 hd]
    walk_at "px"
    try rfl
  | true =>
    obtain ⟨v, hv0, hv40, hv⟩ := num_int40 hd he (by omega)
    have hi1 := bi_int_s (z := z) (by omega) hv
    have hn := num_val (lo := lo) (hi := hi) hv
    rw [hn]
    have hs1 := bi_str_i (small40 hv0 hv40)
    clear hn hv
    walk_at "px"
    by_cases ht : T v = z
    · simp only [ht, decide_true, and_true]
      by_cases hlo : lo ≤ v
      · by_cases hhi : v ≤ hi
        · walk_at "px"
          try rfl
        · walk_at "px"
          try rfl
      · walk_at "px"
        try rfl
    · simp only [ht, decide_false, and_false]
      walk_at "px"
      try rfl
/-! wrong -/
theorem spl_mem (S : List Nat) : ∀ (cs : List Nat) (k : Nat) (acc : List Nat), ∀ p ∈ TL.spl S k acc cs, ∀ c ∈ p, c ∈ acc ∨ c ∈ cs
  | [], k, acc, p, h, c, hc => by
    have h : p ∈ [acc] := by cases k <;> exact h
    rw [List.mem_singleton.mp h] at hc
    exact .inl hc
  | d :: r, 0, acc, p, h, c, hc => by
    simp only [TL.spl] at h
    split at h
    · rcases List.mem_cons.mp h with rfl | h
      · exact .inl hc
      · rcases spl_mem S r _ [] p h c hc with q | q
        · cases q
        · exact .inr (List.mem_cons_of_mem _ q)
    · rcases spl_mem S r 0 (acc ++ [d]) p h c hc with q | q
      · rcases List.mem_append.mp q with q | q
        · exact .inl q
        · rw [List.mem_singleton.mp q]; exact .inr List.mem_cons_self
      · exact .inr (List.mem_cons_of_mem _ q)
  | d :: r, k + 1, acc, p, h, c, hc => (spl_mem S r k acc p h c hc).imp id (List.mem_cons_of_mem _)
theorem split_ok {z : Str} (h : PyData.strOk z = true) : ∀ w ∈ spW z, PyData.strOk w = true := by
  intro w hw
  rw [sp_eq] at hw
  obtain ⟨p, hp, rfl⟩ := List.mem_map.mp hw
  refine strOk_of fun c hc => ?_
  rcases spl_mem _ _ _ _ p hp c (by simpa using hc) with q | q
  · cases q
  · exact strOk_lt h c q
def wrD (z : Str) : D := match rdB (spW z) with
  | .inl n => .int n
  | .inr _ => if 4 < (spW z).length then .int 4 else .non
theorem get_ok {ws : List Str} {n : Nat} (h : n < ws.length) (hw : ∀ w ∈ ws, w.length ≤ 100000) (ho : ∀ w ∈ ws, PyData.strOk w = true) : ∃ w, ws[n]? = some w ∧ w.length ≤ 100000 ∧ PyData.strOk w = true := ⟨ws[n], List.getElem?_eq_getElem h, hw _ (List.getElem_mem h), ho _ (List.getElem_mem h)⟩
theorem k_wrong {k : Nat} {z : Str} (hz : z.length ≤ 100000) (ok : PyData.strOk z = true) : calls fs (k + 2) 510 [.fz (.str z)] = .ok (.d (wrD z)) [] := by
  rw [calls_eq fs (k + 1) 510 (F := fn19) rfl]
  have ht := @k_top k
  have hi := @k_isnum k
  generalize calls fs (k + 1) = cl at *
  have hw : ∀ w ∈ spW z, w.length ≤ 100000 := fun w h => Nat.le_trans (split_le z w h) hz
  have ho := split_ok ok
  simp only [fn19]
  walk_at "px"
  unfold wrD
  rw [show Txt.split z (Str.ofString " ") = spW z from rfl]
  generalize spW z = ws at *
  rw [show ((List.range 4).map fun k => D.int ((k : Nat) : Int)) = [.int 0, .int 1, .int 2, .int 3] from rfl]
  have hlen : ((ws.map D.str).length : Int) = ws.length := by rw [List.length_map]
  unfold rdB
  rw [forD_c]
  by_cases h0 : 0 < ws.length
  rotate_left
  · rw [nA_out h0]
    have h0' : (ws.length : Int) ≤ (0 : Int) := by omega
    walk_at "px"
    try rfl
  obtain ⟨w0, e0, l0, o0⟩ := get_ok h0 hw ho
  rw [nA_0 e0]
  have i0 : ixD (.lst (ws.map D.str)) (.int 0) = some (.str w0) := ix_ws e0
  have h0' : ¬ (ws.length : Int) ≤ (0 : Int) := by omega
  have c0 := hi w0 0 1267650600228229401496703205375 l0 o0 (by decide) (by decide) (by decide)
  cases q0 : numOf w0 0 1267650600228229401496703205375 with
  | none =>
    rw [q0, Option.isSome_none] at c0
    walk_at "px"
    try simp only [Option.isSome_none]
    try walk_at "px"
    try rfl
  | some v0 =>
  rw [q0, Option.isSome_some] at c0
  walk_at "px"
  try simp only [Option.isSome_some]
  try walk_at "px"
  rw [forD_c]
  by_cases h1 : 1 < ws.length
  rotate_left
  · rw [nA_out h1]
    have h1' : (ws.length : Int) ≤ (1 : Int) := by omega
    walk_at "px"
    try rfl
  obtain ⟨w1, e1, l1, o1⟩ := get_ok h1 hw ho
  rw [nA_1 e1]
  have i1 : ixD (.lst (ws.map D.str)) (.int 1) = some (.str w1) := ix_ws e1
  have h1' : ¬ (ws.length : Int) ≤ (1 : Int) := by omega
  have c1 := hi w1 0 1267650600228229401496703205375 l1 o1 (by decide) (by decide) (by decide)
  cases q1 : numOf w1 0 1267650600228229401496703205375 with
  | none =>
    rw [q1, Option.isSome_none] at c1
    walk_at "px"
    try simp only [Option.isSome_none]
    try walk_at "px"
    try rfl
  | some v1 =>
  rw [q1, Option.isSome_some] at c1
  walk_at "px"
  try simp only [Option.isSome_some]
  try walk_at "px"
  rw [forD_c]
  by_cases h2 : 2 < ws.length
  rotate_left
  · rw [nA_out h2]
    have h2' : (ws.length : Int) ≤ (2 : Int) := by omega
    walk_at "px"
    try rfl
  obtain ⟨w2, e2, l2, o2⟩ := get_ok h2 hw ho
  rw [nA_2 e2]
  have i2 : ixD (.lst (ws.map D.str)) (.int 2) = some (.str w2) := ix_ws e2
  have h2' : ¬ (ws.length : Int) ≤ (2 : Int) := by omega
  have c2 := hi w2 1 1267650600228229401496703205376 l2 o2 (by decide) (by decide) (by decide)
  cases q2 : numOf w2 1 1267650600228229401496703205376 with
  | none =>
    rw [q2, Option.isSome_none] at c2
    walk_at "px"
    try simp only [Option.isSome_none]
    try walk_at "px"
    try rfl
  | some v2 =>
  rw [q2, Option.isSome_some] at c2
  walk_at "px"
  try simp only [Option.isSome_some]
  try walk_at "px"
  rw [forD_c]
  by_cases h3 : 3 < ws.length
  rotate_left
  · rw [nA_out h3]
    have h3' : (ws.length : Int) ≤ (3 : Int) := by omega
    walk_at "px"
    try rfl
  obtain ⟨w3, e3, l3, o3⟩ := get_ok h3 hw ho
  rw [nA_3 e3]
  have i3 : ixD (.lst (ws.map D.str)) (.int 3) = some (.str w3) := ix_ws e3
  have h3' : ¬ (ws.length : Int) ≤ (3 : Int) := by omega
  have c3 := hi w3 1 1267650600228229401496703205376 l3 o3 (by decide) (by decide) (by decide)
  cases q3 : numOf w3 1 1267650600228229401496703205376 with
  | none =>
    rw [q3, Option.isSome_none] at c3
    walk_at "px"
    try simp only [Option.isSome_none]
    try walk_at "px"
    try rfl
  | some v3 =>
  rw [q3, Option.isSome_some] at c3
  walk_at "px"
  try simp only [Option.isSome_some]
  try walk_at "px"
  rw [forD_n]
  walk_at "px"
  by_cases hl : 4 < ws.length
  · have hl' : (4 : Int) < (ws.length : Int) := by omega
    walk_at "px"
    try rfl
  · have hl' : ¬ (4 : Int) < (ws.length : Int) := by omega
    walk_at "px"
    try rfl
theorem add_s {a b : Str} {m n : Nat} (ha : gS a m) (hb : gS b n) (h : m + n ≤ 100000) : op2 .add (.str a) (.str b) = some (.str (a ++ b)) := by
  have := ha.1
  have := hb.1
  show (if _ then _ else _) = _
  rw [if_pos (by unfold LIM; omega)]
theorem k_bent {k n L : Nat} {p : D} {z : Str} (hp : PenOk n p) (hn : n ≤ 800000) (g : gS z L) (hL : L ≤ 50000) : ∃ z' p', calls fs (k + 3) 511 [.io p, .fz (.str z)] = .ok (.d (.str z')) [p'] ∧ PenOk (n + 3) p' ∧ gS z' (L + 41) := by
  rw [calls_eq fs (k + 2) 511 (F := fn20) rfl]
  have ht := @k_top (k + 1)
  have hpk := @k_pick k
  have hdr := @k_draw (k + 1)
  generalize calls fs (k + 2) = cl at *
  have hz := g.1
  have e1 : biD .str [.int 1267650600228229401496703205376] = some (.str (T 1267650600228229401496703205376)) := bi_str_i (small40 (by decide) (by decide))
  have e2 : biD .str [.int 1267650600228229401496703205377] = some (.str (T 1267650600228229401496703205377)) := bi_str_i (small40 (by decide) (by decide))
  have e3 : op2 .mul (.str "9") (.int 41) = some (.str (repS "9" 41)) := rfl
  simp only [fn20]
  walk_at "px"
  generalize hrc : cl 502 _ = rc
  obtain ⟨r, p1, rfl, a1, b1, h1⟩ := use_draw hdr hrc hp (by omega) (by decide) (by decide)
  walk_at "px"
  generalize hrc : cl 502 _ = rc
  obtain ⟨s, p2, rfl, a2, b2, h2⟩ := use_draw hdr hrc h1 (by omega) (by omega) (by omega)
  walk_at "px"
  generalize hrc : cl 503 _ = rc
  obtain ⟨d, hd, p3, rfl, h3⟩ := use_pick hpk hrc h2 (by omega) (by simp) (by simp)
  have hd2 : ∃ y, d = .str y ∧ gS y 41 := by
    simp only [List.mem_cons, List.not_mem_nil, or_false] at hd
    rcases hd with rfl | rfl | rfl | rfl | rfl | rfl | rfl | rfl | rfl | rfl | rfl | rfl | rfl | rfl | rfl
    all_goals refine ⟨_, rfl, ?_⟩
    all_goals first | exact gS_S _ (by decide) | exact (gS_T (by decide) (by decide)).mono (by decide) | exact ⟨by decide, by decide +kernel⟩
  obtain ⟨y, rfl, gy⟩ := hd2
  clear hd
  walk_at "px"
  cases hr : r == 0 with
  | true =>
    have g1 := gS_take (hi := s) g a2
    have g2 := gS_drop (lo := s + 1) g (by omega)
    have ea := add_s g1 g2 (by omega)
    walk_at "px"
    exact ⟨_, _, rfl, h3, (gS_app g1 g2).mono (by omega)⟩
  | false =>
    walk_at "px"
    by_cases h3' : r < 3
    · have hr0 : r ≠ 0 := by simpa using hr
      have g1 := gS_take (hi := s) g a2
      have g2 := gS_drop (lo := s + r - 1) g (by omega)
      have g3 := gS_app g1 gy
      have ea := add_s g1 gy (by omega)
      have eb := add_s g3 g2 (by omega)
      walk_at "px"
      exact ⟨_, _, rfl, h3, (gS_app g3 g2).mono (by omega)⟩
    · walk_at "px"
      have ea := add_s g gy (by omega)
      have eb := add_s gy g (by omega)
      cases hr3 : r == 3 with
      | true =>
        walk_at "px"
        exact ⟨_, _, rfl, h3, gS_app g gy⟩
      | false =>
        walk_at "px"
        exact ⟨_, _, rfl, h3, (gS_app gy g).mono (by omega)⟩
/-! the law -/
theorem strs_map (zs : List Str) : strsD (zs.map D.str) = some zs := by
  induction zs with
  | nil => rfl
  | cons z r ih => rw [List.map_cons, strsD, ih]; rfl
theorem bi_join4 {a b c d : Str} (ha : gS a 40) (hb : gS b 40) (hc : gS c 40) (hd : gS d 40) : biD .join [.str spc, .lst [.str a, .str b, .str c, .str d]] = some (.str (Txt.join spc [a, b, c, d])) := by
  have h1 := ha.1
  have h2 := hb.1
  have h3 := hc.1
  have h4 := hd.1
  show biD .join [.str spc, .lst ([a, b, c, d].map D.str)] = _
  rw [show biD .join [.str spc, .lst ([a, b, c, d].map D.str)] = (strsD ([a, b, c, d].map D.str)).bind (fun zs => if (zs.map (·.length)).sum + zs.length * spc.length ≤ LIM then some (.str (Txt.join spc zs)) else none) from rfl]
  rw [strs_map, Option.bind_some, if_pos (by
    have : spc.length = 1 := len_sp
    rw [this]
    simp only [List.map_cons, List.map_nil, List.sum_cons, List.sum_nil, List.length_cons, List.length_nil]
    unfold LIM
    omega)]
def tD : D → Option D
  | .int i => some (.str (T i))
  | _ => none
def hrd (z : Str) : D := match rdB (spW z) with
  | .inl n => .tup [.int 0, .int n]
  | .inr _ => .tup [.int 0, .int 4]
def isBad (z : Str) : Bool := match rdB (spW z) with
  | .inl _ => true
  | .inr _ => decide (4 < (spW z).length)
theorem isBad_x {z : Str} (h : isBad z = true) : ∃ n : Int, rdX z = .exc (eTxt 0 n) [] ∧ hrd z = .tup [.int 0, .int n] := by
  unfold isBad at h
  unfold rdX hrd
  cases e : rdB (spW z) with
  | inl n => exact ⟨n, rfl, rfl⟩
  | inr v =>
    rw [e] at h
    refine ⟨4, ?_, rfl⟩
    show (if _ then _ else _) = _
    rw [if_pos (of_decide_eq_true h)]
def hD : D → Option D
  | .str z => some (hrd z)
  | _ => none
def zD : D → Option D
  | .int z => some (.tup [.int 0, .int z])
  | _ => none
theorem law_true (ns : List Int) (h : ns.length ≤ 63) : ∃ outs, calls fs 12 512 [.fz (.kst (ns.map D.int))] = .ok (.d (.bl true)) outs := by
  rw [calls_eq fs 11 512 (F := fn21) rfl]
  have hpen := @k_pen 10 ns h
  have hpk := @k_pick 9
  have ht := @k_top 10
  have hh1 := (@k_heard 10).1
  have hh2 := (@k_heard 10).2
  have hB := @k_Box__init__ 8
  have hS := @k_Box__str__ 10
  have hR1 := (@k_Box_read 7).1
  have hR2 := (@k_Box_read 7).2
  have hF := @k_four 7
  have hT := @k_told 10
  have hW := @k_wrong 9
  have hN := @k_bent 8
  have hp0 := (pen_ok (cl := calls fs 11) h).2
  generalize calls fs 11 = cl at *
  simp only [fn21]
  walk_at "px"
  generalize hq : forD _ _ _ _ = q
  have hf := use_for hq (fun j env => ∃ p a2 a3 a4 a5 a7 a8 a9 a10, calmS a5 = true ∧ PenOk (100 * j) p ∧ env = [.fz (D.kst (ns.map D.int)), .ow p, a2, a3, a4, a5, .un, a7, a8, a9, a10, .un, .un, .un]) ⟨_, _, _, _, _, _, _, _, _, rfl, hp0, rfl⟩
  obtain ⟨env', rfl, p, a2, a3, a4, a5, a7, a8, a9, a10, ca, hp, rfl⟩ := hf (by
    rintro j d env hj hd ⟨p, a2, a3, a4, a5, a7, a8, a9, a10, ca, hp, rfl⟩
    clear hf
    rw [List.length_map, List.length_range] at hj
    have hj : j < 9 := hj
    walk_at "px"
    obtain ⟨x1, y1, w1, l1, p1, e1, h1, k1⟩ := hF hp (by omega)
    obtain ⟨x2, y2, w2, l2, p2, e2, h2, k2⟩ := hF h1 (by omega)
    walk_at "px"
    generalize hrc : cl 503 _ = rc
    obtain ⟨fo, hfo, p3, rfl, h3⟩ := use_pick hpk hrc h2 (by omega) (by simp) (by simp)
    have hfo2 : ∃ x y w l, fo = .tup [.int x, .int y, .int w, .int l] ∧ okN x y w l := by
      simp only [List.mem_cons, List.not_mem_nil, or_false] at hfo
      rcases hfo with rfl | rfl | rfl
      · exact ⟨_, _, _, _, rfl, k1⟩
      · exact ⟨_, _, _, _, rfl, k2⟩
      · exact ⟨_, _, _, _, rfl, by unfold okN; decide⟩
    obtain ⟨x, y, w, l, rfl, kN⟩ := hfo2
    clear hrc hfo k1 k2 e1 e2
    walk_at "px"
    have g1 : gS (T x) 40 := gS_T kN.1.1 (by have := kN.1.2; omega)
    have g2 : gS (T y) 40 := gS_T kN.2.1.1 (by have := kN.2.1.2; omega)
    have g3 : gS (T w) 40 := gS_T (by have := kN.2.2.1.1; omega) (by have := kN.2.2.1.2; omega)
    have g4 : gS (T l) 40 := gS_T (by have := kN.2.2.2.1; omega) (by have := kN.2.2.2.2; omega)
    have sx : smI x := small40 kN.1.1 (by have := kN.1.2; unfold lim40; omega)
    have sy : smI y := small40 kN.2.1.1 (by have := kN.2.1.2; unfold lim40; omega)
    have sw : smI w := small40 (by have := kN.2.2.1.1; omega) (by have := kN.2.2.1.2; unfold lim40; omega)
    have sl : smI l := small40 (by have := kN.2.2.2.1; omega) (by have := kN.2.2.2.2; unfold lim40; omega)
    have b1 := bi_str_i sx
    have b2 := bi_str_i sy
    have b3 := bi_str_i sw
    have b4 := bi_str_i sl
    rw [lc_mapO tD rfl (by simp only [List.length_cons, List.length_nil]; decide) (fun d hd => by
      simp only [List.mem_cons, List.not_mem_nil, or_false] at hd
      rcases hd with rfl | rfl | rfl | rfl
      all_goals (simp only [storeG, wipeE]; walk_at "px"; simp only [eltT]; walk_at "px"; exact ⟨_, rfl, rfl⟩))]
    simp only [List.filterMap_cons, List.filterMap_nil, tD]
    have bj := bi_join4 g1 g2 g3 g4
    rw [join_tx] at bj
    have bb := kN.bad
    have gz := gS_tx kN
    have er := (hR2 _ (Nat.le_trans gz.1 (by decide))).trans (rdX_tx kN)
    have hT1 := hT x y w l
    walk_at "px"
    walk_at "pq"
    obtain ⟨z1, p4, f1, h4, q1⟩ := hN h3 (by omega) gz (by decide)
    obtain ⟨z2, p5, f2, h5, q2⟩ := hN h4 (by omega) gz (by decide)
    obtain ⟨z3, p6, f3, h6, q3⟩ := hN h5 (by omega) q2 (by decide)
    clear er hT1
    walk_at "px"
    generalize hq2 : forD _ _ _ _ = qq
    have hf2 := use_for hq2 (fun _ env => ∃ a7 a8 a9, env = [.fz (D.kst (ns.map D.int)), .ow p6, .fz d, .fz (D.tup [D.int 1267650600228229401496703205375, D.int 1267650600228229401496703205375, D.int 1267650600228229401496703205376, D.int 1267650600228229401496703205376]), .fz (D.tup [D.int x, D.int y, D.int w, D.int l]), .fz (D.str (txB x y w l)), .un, a7, a8, a9, a10, .un, .un, .un]) ⟨_, _, _, rfl⟩
    obtain ⟨env', rfl, a7, a8, a9, rfl⟩ := hf2 (by
      rintro j2 d2 env2 hj2 hd2 ⟨a7, a8, a9, rfl⟩
      clear hf2
      have hz : ∃ z, d2 = .str z ∧ gS z 300 := by
        simp only [List.mem_cons, List.not_mem_nil, or_false] at hd2
        rcases hd2 with rfl | rfl
        · exact ⟨_, rfl, q1.mono (by decide)⟩
        · exact ⟨_, rfl, q3.mono (by decide)⟩
      obtain ⟨z, rfl, q⟩ := hz
      have okz := q.2
      have hw := hW (z := z) (Nat.le_trans q.1 (by decide)) q.2
      have hr := hR2 z (Nat.le_trans q.1 (by decide))
      unfold wrD at hw
      unfold rdX at hr
      cases e : rdB (spW z) with
      | inl n =>
        rw [e] at hw hr
        have hr2 := hh2 0 n
        simp only [] at hw hr
        walk_at "pq"
        exact ⟨_, rfl, _, _, _, rfl⟩
      | inr v =>
        obtain ⟨x', y', w', l'⟩ := v
        rw [e] at hw hr
        simp only [] at hw hr
        by_cases hl : 4 < (spW z).length
        · rw [if_pos hl] at hw hr
          have hr2 := hh2 0 4
          walk_at "pq"
          exact ⟨_, rfl, _, _, _, rfl⟩
        · rw [if_neg hl] at hw hr
          have hr2 := hh1 (boxD x' y' w' l')
          obtain ⟨kz, ez⟩ := rdX_ok e hl
          have hs := hS x' y' w' l' (small40 kz.1.1 (by have := kz.1.2; unfold lim40; omega)) (small40 kz.2.1.1 (by have := kz.2.1.2; unfold lim40; omega)) (small40 (by have := kz.2.2.1.1; omega) (by have := kz.2.2.1.2; unfold lim40; omega)) (small40 (by have := kz.2.2.2.1; omega) (by have := kz.2.2.2.2; unfold lim40; omega))
          rw [ez] at hs
          clear hS
          walk_at "px"
          exact ⟨_, rfl, _, _, _, rfl⟩)
    clear hf2
    have bs1 : boxBad (.int 1) (.int 1) (.int 1) (.int 1) = none := by decide
    walk_at "px"
    generalize hrc : cl 503 _ = rc
    obtain ⟨od, hod, p7, rfl, h7⟩ := use_pick hpk hrc h6 (by omega) (by simp) (by simp)
    have ho : isClsD od = false ∧ ∀ z, od ≠ .str z := by
      simp only [List.mem_cons, List.not_mem_nil, or_false] at hod
      rcases hod with rfl | rfl | rfl | rfl | rfl | rfl | rfl | rfl
      all_goals exact ⟨rfl, fun z => by simp⟩
    have hr := hR1 od ho.1 ho.2
    have hr2 := hh2 0 0
    clear hrc hod
    walk_at "pq"
    exact ⟨_, rfl, _, _, _, _, _, _, _, _, _, rfl, h7.mono (by omega), rfl⟩)
  clear hf
  have e1 : biD .str [.int 1267650600228229401496703205376] = some (.str (T 1267650600228229401496703205376)) := bi_str_i (small40 (by decide) (by decide))
  have e2 : biD .str [.int 1267650600228229401496703205377] = some (.str (T 1267650600228229401496703205377)) := bi_str_i (small40 (by decide) (by decide))
  have e3 := add_s (gS_T (v := 1267650600228229401496703205376) (by decide) (by decide)) (gS_S " 0 1 1" (n := 10) (by decide)) (by decide)
  have e4 := add_s (gS_S "0 0 1 " (n := 10) (by decide)) (gS_T (v := 1267650600228229401496703205377) (by decide) (by decide)) (by decide)
  walk_at "px"
  rw [lc_mapO zD rfl (by simp only [List.length_cons, List.length_nil]; decide) (fun d hd => by
    simp only [List.mem_cons, List.not_mem_nil, or_false] at hd
    rcases hd with rfl | rfl | rfl | rfl | rfl | rfl | rfl | rfl | rfl | rfl | rfl | rfl
    all_goals (simp only [storeG, wipeE]; walk_at "px"; simp only [eltT]; walk_at "px"; exact ⟨_, rfl, rfl⟩))]
  simp only [List.filterMap_cons, List.filterMap_nil, zD]
  walk_at "px"
  rw [lc_mapO hD (by simp only [List.all_cons, List.all_nil, getS, List.getD_cons_succ, List.getD_cons_zero, ca, Bool.and_self]) (by simp only [List.length_cons, List.length_nil]; decide) (fun d hd => by
    simp only [List.mem_cons, List.not_mem_nil, or_false] at hd
    have hz : ∃ z, d = .str z ∧ gS z 100 ∧ isBad z = true := by
      rcases hd with rfl | rfl | rfl | rfl | rfl | rfl | rfl | rfl | rfl | rfl | rfl | rfl
      all_goals refine ⟨_, rfl, ?_, by decide +kernel⟩
      all_goals first | exact gS_S _ (by decide) | exact (gS_app (gS_T (v := 1267650600228229401496703205376) (by decide) (by decide)) (gS_S " 0 1 1" (n := 10) (by decide))).mono (by decide) | exact (gS_app (gS_S "0 0 1 " (n := 10) (by decide)) (gS_T (v := 1267650600228229401496703205377) (by decide) (by decide))).mono (by decide)
    obtain ⟨z, rfl, q, hbad⟩ := hz
    obtain ⟨n, hn, hn2⟩ := isBad_x hbad
    have hr := (hR2 z (Nat.le_trans q.1 (by decide))).trans hn
    have hr2 := hh2 0 n
    simp only [storeG, wipeE]; walk_at "px"; simp only [eltT]; walk_at "px"
    rw [show hD (.str z) = some (.tup [.int 0, .int n]) from congrArg some hn2]
    exact ⟨_, rfl, rfl⟩)]
  have r1 : rdB (spW "") = .inl 0 := by decide +kernel
  have r2 : rdB (spW "1") = .inl 1 := by decide +kernel
  have r3 : rdB (spW "1 2 3") = .inl 3 := by decide +kernel
  have r4 : rdB (spW "1 1 0 2") = .inl 2 := by decide +kernel
  have r5 : rdB (spW "0 0 1 1 1") = .inr (0, 0, 1, 1) := by decide +kernel
  have r6 : rdB (spW "-1 0 1 1") = .inl 0 := by decide +kernel
  have r7 : rdB (spW "0 0 1 01") = .inl 3 := by decide +kernel
  have r8 : rdB (spW " 0 0 1 1") = .inl 0 := by decide +kernel
  have r9 : rdB (spW "0 0 1 1 ") = .inr (0, 0, 1, 1) := by decide +kernel
  have r10 : rdB (spW "0  0 1 1") = .inl 1 := by decide +kernel
  have r11 : rdB (spW ((T 1267650600228229401496703205376) ++ (Str.ofString " 0 1 1"))) = .inl 0 := by decide +kernel
  have r12 : rdB (spW ((Str.ofString "0 0 1 ") ++ (T 1267650600228229401496703205377))) = .inl 3 := by decide +kernel
  simp only [List.filterMap_cons, List.filterMap_nil, hD, hrd, r1, r2, r3, r4, r5, r6, r7, r8, r9, r10, r11, r12]
  walk_at "pq"
  exact ⟨_, rfl⟩
end LW
end

open PySem PySem.W PyProof.Rows in
set_option maxRecDepth 100000 in
set_option maxHeartbeats 0 in
theorem PySem.Challenge.cw_curveboxes_k06_texts_of_boxes_holds : PySem.Challenge.rw_curveboxes_k06_texts_of_boxes.Holds := by
  w_on; o_law; k_head; (case hw => w_witness2)
  k_fill
  refine PP.law_walkN (l := PySem.Challenge.rw_curveboxes_k06_texts_of_boxes) (n := 63) (k := 60) (sp := fun K => PP.spF (LW.tb K) (PP.calls LW.fs 12) 512 1) (x := "_law_script") LW.lamN rfl (by decide) rfl ⟨rfl, by decide, by decide⟩ (fun w h Y => by first | exact PySem.W.kIn_of Y | exact PySem.W.km_in_of Y) ?Q ?L ?F (PP.law_sp (T := LW.tb) (cs := PP.csOf LW.lamN) (fun _ => rfl) (fun K => PP.cs_tt) LW.law_true)
  case Q => kernel_rfl
  case L => intro w; kernel_rfl
  case F =>
    intro w mg fa h KX G hmg
    refine' LW.all_mk KX G hmg ?aC0 ?aC1 ?aC3 ?aC6 ?aC5 ?xc0 ?na0 ?xc1 ?na1 ?xc3 ?na3 ?xL3 ?xR3 ?xS3 ?xi3 ?xt3 ?xc6 ?na6 ?xL6 ?xR6 ?xS6 ?xi6 ?xt6 ?cl5 ?cg5 ?na5 ?ni5 ?nk5 ?nf5 ?np5 ?a0 ?l0 ?c0 ?k0 ?a1 ?l1 ?c1 ?k1 ?a2 ?l2 ?c2 ?k2 ?l3 ?c3 ?k3 ?l4 ?c4 ?k4 ?l5 ?c5 ?k5 ?dD5 ?sa6 ?sr6 ?sd6 ?sg6 ?sf6 ?l6 ?c6 ?k6 ?ma5_7 ?mb7 ?l7 ?c7 ?k7 ?a8 ?l8 ?c8 ?k8 ?dD8 ?a9 ?l9 ?c9 ?k9 ?a10 ?l10 ?c10 ?k10 ?a11 ?l11 ?c11 ?k11 ?a12 ?l12 ?c12 ?k12 ?a13 ?l13 ?c13 ?k13 ?a14 ?l14 ?c14 ?k14 ?a15 ?l15 ?c15 ?k15 ?a16 ?l16 ?c16 ?k16 ?a17 ?l17 ?c17 ?k17 ?a18 ?l18 ?c18 ?k18 ?a19 ?l19 ?c19 ?k19 ?a20 ?l20 ?c20 ?k20 ?a21 ?l21 ?c21 ?k21 ?lc21 ?lp21 ?lt21 ?lu21 ?is6 ?ib ?em0 ?z_abs ?z_all ?z_bool ?z_int ?z_isinstance ?z_len ?z_list ?z_range ?z_str ?y_FIGURES ?y_MOST_SIDE
    (case aC0 => k_is)
    (case aC1 => k_is)
    (case aC3 => k_is)
    (case aC6 => k_is)
    (case aC5 => k_is)
    (case xc0 => kernel_rfl)
    (case na0 => kernel_rfl)
    (case xc1 => kernel_rfl)
    (case na1 => kernel_rfl)
    (case xc3 => kernel_rfl)
    (case na3 => kernel_rfl)
    (case xL3 => k_is)
    (case xR3 => kernel_rfl)
    (case xS3 => kernel_rfl)
    (case xi3 => k_is)
    (case xt3 => k_is)
    (case xc6 => kernel_rfl)
    (case na6 => kernel_rfl)
    (case xL6 => k_is)
    (case xR6 => kernel_rfl)
    (case xS6 => kernel_rfl)
    (case xi6 => k_is)
    (case xt6 => k_is)
    (case cl5 => kernel_rfl)
    (case cg5 => kernel_rfl)
    (case na5 => kernel_rfl)
    (case ni5 => k_is)
    (case nk5 => k_is)
    (case nf5 => k_is)
    (case np5 => k_is)
    (case a0 => k_is)
    (case l0 => k_is)
    (case c0 => k_is)
    (case k0 => k_is)
    (case a1 => k_is)
    (case l1 => k_is)
    (case c1 => k_is)
    (case k1 => k_is)
    (case a2 => k_is)
    (case l2 => k_is)
    (case c2 => k_is)
    (case k2 => k_is)
    (case l3 => k_is)
    (case c3 => k_is)
    (case k3 => k_is)
    (case l4 => k_is)
    (case c4 => k_is)
    (case k4 => k_is)
    (case l5 => k_is)
    (case c5 => k_is)
    (case k5 => k_is)
    (case dD5 => k_is)
    (case sa6 => k_is)
    (case sr6 => k_is)
    (case sd6 => k_is)
    (case sg6 => k_is)
    (case sf6 => k_is)
    (case l6 => k_is)
    (case c6 => k_is)
    (case k6 => k_is)
    (case ma5_7 => k_is)
    (case mb7 => k_is)
    (case l7 => k_is)
    (case c7 => k_is)
    (case k7 => k_is)
    (case a8 => k_is)
    (case l8 => k_is)
    (case c8 => k_is)
    (case k8 => k_is)
    (case dD8 => k_is)
    (case a9 => k_is)
    (case l9 => k_is)
    (case c9 => k_is)
    (case k9 => k_is)
    (case a10 => k_is)
    (case l10 => k_is)
    (case c10 => k_is)
    (case k10 => k_is)
    (case a11 => k_is)
    (case l11 => k_is)
    (case c11 => k_is)
    (case k11 => k_is)
    (case a12 => k_is)
    (case l12 => k_is)
    (case c12 => k_is)
    (case k12 => k_is)
    (case a13 => k_is)
    (case l13 => k_is)
    (case c13 => k_is)
    (case k13 => k_is)
    (case a14 => k_is)
    (case l14 => k_is)
    (case c14 => k_is)
    (case k14 => k_is)
    (case a15 => k_is)
    (case l15 => k_is)
    (case c15 => k_is)
    (case k15 => k_is)
    (case a16 => k_is)
    (case l16 => k_is)
    (case c16 => k_is)
    (case k16 => k_is)
    (case a17 => k_is)
    (case l17 => k_is)
    (case c17 => k_is)
    (case k17 => k_is)
    (case a18 => k_is)
    (case l18 => k_is)
    (case c18 => k_is)
    (case k18 => k_is)
    (case a19 => k_is)
    (case l19 => k_is)
    (case c19 => k_is)
    (case k19 => k_is)
    (case a20 => k_is)
    (case l20 => k_is)
    (case c20 => k_is)
    (case k20 => k_is)
    (case a21 => k_is)
    (case l21 => k_is)
    (case c21 => k_is)
    (case k21 => k_is)
    (case lc21 => k_is)
    (case lp21 => rfl)
    (case lt21 => kernel_rfl)
    (case lu21 => kernel_rfl)
    (case is6 => kernel_rfl)
    (case ib => kernel_rfl)
    (case em0 => kernel_rfl)
    (case z_abs => k_is)
    (case z_all => k_is)
    (case z_bool => k_is)
    (case z_int => k_is)
    (case z_isinstance => k_is)
    (case z_len => k_is)
    (case z_list => k_is)
    (case z_range => k_is)
    (case z_str => k_is)
    (case y_FIGURES => k_is)
    (case y_MOST_SIDE => k_is)
