import PyProof.Rows.All
import Wide.All
import OpenK.AllK
import Wide.FinOn
import HandS.Base
import HandS.Call
import HandS.List
import HandS.Comp
import HandS.Ends
import HandS.Exc
import HandS.ExcOwn
import HandS.Flow
import HandS.Dict
import HandS.IsInst
import HandS.RaiseMore
import PyProof.ReprRoads
import HandS.Words
import HandS.WordsExc
import HandS.Style
import PySem.Challenge.RW_curveboxes_k08_looks_at_values
set_option Elab.async false
set_option linter.all false
set_option maxRecDepth 100000
section
/-! Pure data, the small syntax, its interpreter. -/
namespace PP
open PySem L2

inductive D where
  | non | bl (b : Bool) | int (i : Int) | str (s : Str)
  | lst (xs : List D) | tup (xs : List D) | kst (xs : List D)
  | dK (ks : List Key) (vs : List D) | dT (ks : List (List Key)) (vs : List D)
  | obj (c : Nat) (ks : List Nat) (vs : List D)

/-- as plain data; none where a dict or an object is within -/
inductive O2 where
  | add | sub | mul | fdiv | mod | pow | shl | shr | band | bor | bxor | lt | le | gt | ge | eq | ne | isin | notin | is | isnot
inductive O1 where
  | neg | inv
inductive B where
  | len | int | abs | list | tuple | repr | str | isInt | isBool | isTuple | isList | isStr | max2 | min2 | bool
mutual
inductive Ex where
  | var (i : Nat)
  | cst (d : D)
  | op2 (o : O2) (a b : Ex)
  | op1 (o : O1) (a : Ex)
  | chain (o p : O2) (a b c : Ex)
  | and (a b : Ex) | or (a b : Ex) | not (a : Ex)
  | ife (c a b : Ex)
  | tup (es : Exs) | lst (es : Exs) | dic
  | call (f : Nat) (ms : List Bool) (es : Exs)
  | callP (f : Nat) (ms : List Bool) (pm : List Nat) (es : Exs)
  | bi (b : B) (es : Exs)
  | ix (a i : Ex)
  | slice (a : Ex) (bl bh : Bool) (lo hi : Ex)
inductive Exs where
  | nil | cons (e : Ex) (es : Exs)
end
mutual
inductive S where
  | asg (i : Nat) (e : Ex)
  | setI (i : Nat) (x e : Ex)
  | app (i : Nat) (e : Ex)
  | aug (i : Nat) (o : O2) (e : Ex)
  | ex (e : Ex)
  | iff (c : Ex) (a b : Ss)
  | forr (i : Nat) (n : Ex) (b : Ss)
  | forl (i : Nat) (l : Ex) (b : Ss)
  | whil (c : Ex) (b : Ss)
  | ret (e : Ex) | retN | pass | brk | cont | never
  | par (is : List Nat) (es : Exs)
  | unp (is : List Nat) (e : Ex)
inductive Ss where
  | nil | cons (s : S) (r : Ss)
end

inductive Sl where
  | un | fz (d : D) | ow (d : D) | io (d : D)
abbrev Env := List Sl
inductive U where
  | d (x : D) | sl (i : Nat) | nw (x : D)
abbrev Exn := Nat × List Nat × List D
inductive R (α : Type) where
  | ok (a : α) (env : Env) | exc (x : Exn) (env : Env) | bad
def R.bind {α β : Type} (r : R α) (f : α → Env → R β) : R β := match r with
  | .ok a env => f a env
  | .exc x env => .exc x env
  | .bad => .bad
@[simp] theorem R.bind_ok {α β : Type} (a : α) (env : Env) (f : α → Env → R β) : (R.ok a env).bind f = f a env := rfl
@[simp] theorem R.bind_exc {α β : Type} (x : Exn) (env : Env) (f : α → Env → R β) : (R.exc x env : R α).bind f = .exc x env := rfl
@[simp] theorem R.bind_bad {α β : Type} (f : α → Env → R β) : (R.bad : R α).bind f = .bad := rfl
def orBad {α β : Type} (o : Option α) (f : α → R β) : R β := match o with
  | some a => f a
  | none => .bad
@[simp] theorem orBad_some {α β : Type} (a : α) (f : α → R β) : orBad (some a) f = f a := rfl
@[simp] theorem orBad_none {α β : Type} (f : α → R β) : orBad (none : Option α) f = .bad := rfl

def getS (env : Env) (i : Nat) : Sl := env.getD i .un
def rdS : Sl → Option D
  | .fz d => some d | .ow d => some d | .io d => some d | .un => none
def rdU (env : Env) : U → Option D
  | .d x => some x | .nw x => some x | .sl i => rdS (getS env i)
def rdAll (env : Env) : List U → Option (List D)
  | [] => some []
  | u :: us => match rdU env u, rdAll env us with
    | some d, some ds => some (d :: ds)
    | _, _ => none
def pend : U → U
  | .nw x => .d x | u => u
/-- take a value for good: an owned list is owned no more -/
def fzU (env : Env) : U → Option (D × Env)
  | .d x => some (x, env) | .nw x => some (x, env)
  | .sl i => match getS env i with
    | .fz d => some (d, env) | .ow d => some (d, env.set i (.fz d)) | _ => none

/-! ### values -/
def LIM : Nat := 100000
def truD : D → Option Bool
  | .non => some false | .bl b => some b | .int i => some (i != 0)
  | .str s => if s.length ≤ LIM then some ((s.length : Int) != 0) else none
  | .lst xs => some (!xs.isEmpty) | .tup xs => some (!xs.isEmpty) | .kst xs => some (!xs.isEmpty)
  | .dK ks _ => some (!ks.isEmpty) | _ => none
mutual
def toPy : D → Option PyData
  | .non => some .none | .bl b => some (.bool b) | .int i => some (.int i) | .str s => some (.str s)
  | .lst xs => (toPyAll xs).map .list | .tup xs => (toPyAll xs).map .tuple | .kst xs => (toPyAll xs).map .list
  | _ => none
def toPyAll : List D → Option (List PyData)
  | [] => some []
  | d :: ds => match toPy d, toPyAll ds with
    | some p, some ps => some (p :: ps)
    | _, _ => none
end
def eqP (x y : D) : Option Bool := match toPy x, toPy y with
  | some p, some q => if SeqAt.shaped p && SeqAt.shaped q then some (PyData.eqv p q) else none
  | _, _ => none
def eqD (x y : D) : Option Bool := match x, y with
  | .str a, .str b => some (decide (a = b))
  | x, y => eqP x y
def bnd64 (i : Int) : Bool := decide (-(2 ^ 64) < i) && decide (i < 2 ^ 64)
def powOk (i j : Int) : Bool := decide (0 ≤ j) && decide (j ≤ 1000000) && decide (i.natAbs < 2 ^ 64)
def op2 : O2 → D → D → Option D
  | .add, .int i, .int j => some (.int (i + j))
  | .add, .lst xs, .lst ys => if xs.length + ys.length ≤ LIM then some (.lst (xs ++ ys)) else none
  | .sub, .int i, .int j => some (.int (i - j))
  | .mul, .int i, .int j => if bnd64 i || bnd64 j then some (.int (i * j)) else none
  | .fdiv, .int i, .int j => if decide (0 < j) && decide (j < 1073741824) then some (.int (i / j)) else none
  | .mod, .int i, .int j => if 0 < j then some (.int (i % j)) else none
  | .pow, .int i, .int j => if powOk i j then some (.int (i ^ j.toNat)) else none
  | .shl, .int i, .int j => if powOk i j then some (.int (i * 2 ^ j.toNat)) else none
  | .shr, .int i, .int j => if 0 ≤ j then some (.int (i / 2 ^ j.toNat)) else none
  | .band, .int i, .int j => some (.int (Builtin.bitAnd i j))
  | .bor, .int i, .int j => some (.int (Builtin.bitOr i j))
  | .bxor, .int i, .int j => some (.int (Builtin.bitXor i j))
  | .lt, .int i, .int j => some (.bl (decide (i < j)))
  | .le, .int i, .int j => some (.bl (decide (i ≤ j)))
  | .gt, .int i, .int j => some (.bl (decide (j < i)))
  | .ge, .int i, .int j => some (.bl (decide (j ≤ i)))
  | .eq, x, y => (eqD x y).map .bl
  | .ne, x, y => (eqD x y).map fun b => .bl (!b)
  | .is, x, .non => some (.bl (match x with | .non => true | _ => false))
  | .isnot, x, .non => some (.bl (match x with | .non => false | _ => true))
  | .is, x, .bl b => some (.bl (match x with | .bl c => b == c | _ => false))
  | .isnot, x, .bl b => some (.bl (match x with | .bl c => !(b == c) | _ => true))
  | _, _, _ => none
def op1 : O1 → D → Option D
  | .neg, .int i => some (.int (-i))
  | .inv, .int i => some (.int (Builtin.bitNot i))
  | _, _ => none
def cutD (xs : List D) (lo hi : Option Int) : List D := (xs.drop (HT.sIx xs.length 0 lo)).take (HT.sIx xs.length xs.length hi - HT.sIx xs.length 0 lo)
/-- the item at an int -/
def atD (xs : List D) (i : Int) : Option D := atI xs i
def ixD : D → D → Option D
  | .lst xs, .int i => atI xs i
  | .tup xs, .int i => atI xs i
  | .kst xs, .int i => atI xs i
  | _, _ => none
/-- built-in functions: what they give (fresh lists come as .nw) -/
def biD : B → List D → Option D
  | .len, [.lst xs] => some (.int xs.length)
  | .len, [.tup xs] => some (.int xs.length)
  | .len, [.kst xs] => some (.int xs.length)
  | .int, [.int i] => some (.int i)
  | .int, [.bl b] => some (.int (if b then 1 else 0))
  | .bool, [.bl b] => some (.bl b)
  | .bool, [.int i] => some (.bl (i != 0))
  | .abs, [.int i] => some (.int (if i < 0 then -i else i))
  | .max2, [.int i, .int j] => some (.int (if j > i then j else i))
  | .min2, [.int i, .int j] => some (.int (if j < i then j else i))
  | .list, [.lst xs] => some (.lst xs)
  | .list, [.tup xs] => some (.lst xs)
  | .list, [.kst xs] => some (.lst xs)
  | .isInt, [x] => match x with | .obj _ _ _ => none | .int _ => some (.bl true) | .bl _ => some (.bl true) | _ => some (.bl false)
  | .isBool, [x] => match x with | .obj _ _ _ => none | .bl _ => some (.bl true) | _ => some (.bl false)
  | .isTuple, [x] => match x with | .obj _ _ _ => none | .tup _ => some (.bl true) | _ => some (.bl false)
  | .isList, [x] => match x with | .obj _ _ _ => none | .lst _ => some (.bl true) | .kst _ => some (.bl true) | _ => some (.bl false)
  | .isStr, [x] => match x with | .obj _ _ _ => none | .str _ => some (.bl true) | _ => some (.bl false)
  | .repr, [x] => match toPy x with
    | some p => if p.showable && !p.hasDict && decide (p.shown.length ≤ LIM) && decide (p.depth ≤ 64) then some (.str p.shown) else none
    | none => none
  | _, _ => none

/-! ### the interpreter -/
inductive Ar where
  | fz (d : D) | io (d : D)
inductive RC where
  | ok (r : U) (outs : List D) | exc (x : Exn) (outs : List D) | bad
abbrev CallF := Nat → List Ar → RC
/-- the arguments of a call, once all are evaluated -/
def argsOf (env : Env) : List Bool → List U → Option (List Ar)
  | [], [] => some []
  | false :: ms, .d x :: us => (argsOf env ms us).map (.fz x :: ·)
  | true :: ms, .sl i :: us => match getS env i with
    | .ow d => (argsOf env ms us).map (.io d :: ·)
    | .io d => (argsOf env ms us).map (.io d :: ·)
    | _ => none
  | _, _ => none
/-- the slots that a call may change -/
def ioSlots : List U → List Nat
  | [] => []
  | .sl i :: us => i :: ioSlots us
  | _ :: us => ioSlots us
def setIO (s : Sl) (d : D) : Sl := match s with
  | .ow _ => .ow d | .io _ => .io d | s => s
def putIO (env : Env) : List Nat → List D → Env
  | i :: is, d :: ds => putIO (env.set i (setIO (getS env i) d)) is ds
  | _, _ => env
def dupFree : List Nat → Bool
  | [] => true
  | i :: is => !is.contains i && dupFree is

/-- in another order -/
def permL {α : Type} (pm : List Nat) (xs : List α) : List α := pm.filterMap fun i => xs[i]?
/-- a bound of a slice -/
def partD (u : U) (env : Env) : R (Option Int) := orBad (rdU env u) fun d => match d with
  | .int i => .ok (some i) env
  | _ => .bad
def optP (b : Bool) (f : Env → R U) (env : Env) : R (Option Int) := match b with
  | true => (f env).bind partD
  | false => .ok none env
mutual
def ev (cl : CallF) : Ex → Env → R U
  | .var i, env => match getS env i with
    | .un => .bad
    | .fz d => .ok (.d d) env
    | _ => .ok (.sl i) env
  | .cst d, env => .ok (.d d) env
  | .op2 o a b, env => (ev cl a env).bind fun u env1 => (ev cl b env1).bind fun w env2 =>
      orBad (rdU env2 (pend u)) fun x => orBad (rdU env2 w) fun y => orBad (op2 o x y) fun z => .ok (.nw z) env2
  | .op1 o a, env => (ev cl a env).bind fun u env1 => orBad (rdU env1 u) fun x => orBad (op1 o x) fun z => .ok (.nw z) env1
  | .chain o p a b c, env => (ev cl a env).bind fun u env1 => (ev cl b env1).bind fun w env2 =>
      orBad (rdU env2 (pend u)) fun x => orBad (rdU env2 (pend w)) fun y => orBad (op2 o x y) fun z => match z with
        | .bl true => (ev cl c env2).bind fun q env3 => orBad (rdU env3 (pend w)) fun y' => orBad (rdU env3 q) fun r => orBad (op2 p y' r) fun z' => .ok (.nw z') env3
        | .bl false => .ok (.nw (.bl false)) env2
        | _ => .bad
  | .and a b, env => (ev cl a env).bind fun u env1 => orBad (rdU env1 u) fun x => orBad (truD x) fun t => match t with
        | true => ev cl b env1
        | false => .ok (pend u) env1
  | .or a b, env => (ev cl a env).bind fun u env1 => orBad (rdU env1 u) fun x => orBad (truD x) fun t => match t with
        | true => .ok (pend u) env1
        | false => ev cl b env1
  | .not a, env => (ev cl a env).bind fun u env1 => orBad (rdU env1 u) fun x => orBad (truD x) fun t => .ok (.nw (.bl (!t))) env1
  | .ife c a b, env => (ev cl c env).bind fun u env1 => orBad (rdU env1 u) fun x => orBad (truD x) fun t => match t with
        | true => ev cl a env1
        | false => ev cl b env1
  | .tup es, env => (evF cl es env).bind fun ds env1 => if ds.length ≤ LIM then .ok (.nw (.tup ds)) env1 else .bad
  | .lst es, env => (evF cl es env).bind fun ds env1 => if ds.length ≤ LIM then .ok (.nw (.lst ds)) env1 else .bad
  | .dic, env => .ok (.nw (.dK [] [])) env
  | .call f ms es, env => (evC cl ms es env).bind fun us env1 => orBad (argsOf env1 ms us) fun as =>
      if dupFree (ioSlots us) then match cl f as with
        | .ok r outs => .ok r (putIO env1 (ioSlots us) outs)
        | .exc x outs => .exc x (putIO env1 (ioSlots us) outs)
        | .bad => .bad
      else .bad
  | .callP f ms pm es, env => (evC cl (ms.map fun _ => false) es env).bind fun us env1 => orBad (argsOf env1 ms (permL pm us)) fun as =>
      if dupFree (ioSlots (permL pm us)) && decide (us.length = ms.length) then match cl f as with
        | .ok r outs => .ok r (putIO env1 (ioSlots (permL pm us)) outs)
        | .exc x outs => .exc x (putIO env1 (ioSlots (permL pm us)) outs)
        | .bad => .bad
      else .bad
  | .bi b es, env => (evR cl es env).bind fun us env1 => orBad (rdAll env1 us) fun ds => orBad (biD b ds) fun z => .ok (.nw z) env1
  | .ix a i, env => (ev cl a env).bind fun u env1 => (ev cl i env1).bind fun w env2 =>
      orBad (rdU env2 (pend u)) fun x => orBad (rdU env2 w) fun y => orBad (ixD x y) fun z => .ok (.d z) env2
  | .slice a bl bh lo hi, env => (ev cl a env).bind fun u env1 => (optP bl (ev cl lo) env1).bind fun l env2 => (optP bh (ev cl hi) env2).bind fun h env3 => orBad (rdU env3 (pend u)) fun x => match x with
        | .lst xs => .ok (.nw (.lst (cutD xs l h))) env3
        | .kst xs => .ok (.nw (.lst (cutD xs l h))) env3
        | _ => .bad
/-- all taken for good -/
def evF (cl : CallF) : Exs → Env → R (List D)
  | .nil, env => .ok [] env
  | .cons e es, env => (ev cl e env).bind fun u env1 => orBad (fzU env1 u) fun p => (evF cl es p.2).bind fun ds env2 => .ok (p.1 :: ds) env2
/-- all read -/
def evR (cl : CallF) : Exs → Env → R (List U)
  | .nil, env => .ok [] env
  | .cons e es, env => (ev cl e env).bind fun u env1 => (evR cl es env1).bind fun us env2 => .ok (pend u :: us) env2
/-- a call's: taken for good, or handed in to be changed -/
def evC (cl : CallF) : List Bool → Exs → Env → R (List U)
  | _, .nil, env => .ok [] env
  | m :: ms, .cons e es, env => (ev cl e env).bind fun u env1 => match m with
      | true => match u with
        | .sl i => (evC cl ms es env1).bind fun us env2 => .ok (.sl i :: us) env2
        | _ => .bad
      | false => orBad (fzU env1 u) fun p => (evC cl ms es p.2).bind fun us env2 => .ok (.d p.1 :: us) env2
  | [], .cons _ _, _ => .bad
end

inductive Fl where
  | next | brk | cont | ret (u : U)
/-- what is stored at a name: an owned thing, or a frozen one -/
def slOf : U → D → Sl
  | .nw _, .lst ds => .ow (.lst ds)
  | .nw _, .dK ks vs => .ow (.dK ks vs)
  | .nw _, .dT ks vs => .ow (.dT ks vs)
  | .nw _, .obj c ks vs => .ow (.obj c ks vs)
  | _, d => .fz d
def isIO : Sl → Bool
  | .io _ => true | _ => false
/-- name = value -/
def asgU (env : Env) (i : Nat) (u : U) : Option Env :=
  match u with
  | .nw d => some (env.set i (slOf (.nw d) d))
  | .d d => some (env.set i (.fz d))
  | .sl j => (fzU env (.sl j)).map fun p => p.2.set i (.fz p.1)
/-- an owned list -/
def isLs : Sl → Bool
  | .ow (.lst _) => true | .io (.lst _) => true | _ => false
/-- several names -/
def storeAll : List Nat → List D → Env → Option Env
  | [], [], env => some env
  | i :: is, d :: ds, env => storeAll is ds (env.set i (.fz d))
  | _, _, _ => none
def setD (xs : List D) (i : Int) (d : D) : Option (List D) := (ixN xs.length i).map fun j => xs.set j d
/-- the loop over items -/
def forD (body : Env → R Fl) (i : Nat) : List D → Env → R Fl
  | [], env => .ok .next env
  | d :: r, env => (body (env.set i (.fz d))).bind fun fl env1 => match fl with
      | .next => forD body i r env1
      | .cont => forD body i r env1
      | .brk => .ok .next env1
      | .ret u => .ok (.ret u) env1
def whD (test : Env → R Bool) (body : Env → R Fl) : Nat → Env → R Fl
  | 0, _ => .bad
  | n + 1, env => (test env).bind fun t env1 => match t with
      | false => .ok .next env1
      | true => (body env1).bind fun fl env2 => match fl with
        | .next => whD test body n env2
        | .cont => whD test body n env2
        | .brk => .ok .next env2
        | .ret u => .ok (.ret u) env2
def evT (cl : CallF) (e : Ex) (env : Env) : R Bool := (ev cl e env).bind fun u env1 => orBad (rdU env1 u) fun x => orBad (truD x) fun t => .ok t env1
def FUEL : Nat := 100000
def retU (env : Env) : U → Option (U × Env)
  | .d x => some (.d x, env) | .nw x => some (.nw x, env)
  | .sl i => match getS env i with
    | .ow x => some (.nw x, env.set i .un) | .fz x => some (.d x, env) | _ => none
mutual
def ex (cl : CallF) : S → Env → R Fl
  | .asg i e, env => (ev cl e env).bind fun u env1 => orBad (asgU env1 i u) fun env2 => .ok .next env2
  | .setI i x e, env => (ev cl e env).bind fun u env1 => orBad (fzU env1 u) fun p => if !isLs (getS p.2 i) then .bad else (ev cl x p.2).bind fun w env2 =>
      orBad (rdU env2 w) fun k => match getS env2 i, k with
        | .ow (.lst xs), .int n => orBad (setD xs n p.1) fun ys => .ok .next (env2.set i (.ow (.lst ys)))
        | .io (.lst xs), .int n => orBad (setD xs n p.1) fun ys => .ok .next (env2.set i (.io (.lst ys)))
        | _, _ => .bad
  | .app i e, env => if !isLs (getS env i) then .bad else (ev cl e env).bind fun u env1 => orBad (fzU env1 u) fun p => match getS p.2 i with
        | .ow (.lst xs) => if xs.length < LIM then .ok .next (p.2.set i (.ow (.lst (xs ++ [p.1])))) else .bad
        | .io (.lst xs) => if xs.length < LIM then .ok .next (p.2.set i (.io (.lst (xs ++ [p.1])))) else .bad
        | _ => .bad
  | .aug i o e, env => match getS env i with
        | .fz (.int n) => (ev cl e env).bind fun u env1 => orBad (rdU env1 u) fun y => match y with
          | .int m => match o with
            | .add => .ok .next (env1.set i (.fz (.int (n + m))))
            | .sub => .ok .next (env1.set i (.fz (.int (n - m))))
            | _ => .bad
          | _ => .bad
        | _ => .bad
  | .ex e, env => (ev cl e env).bind fun _ env1 => .ok .next env1
  | .iff c a b, env => (evT cl c env).bind fun t env1 => match t with
      | true => exs cl a env1
      | false => exs cl b env1
  | .forr i n b, env => (ev cl n env).bind fun u env1 => orBad (rdU env1 u) fun y => match y with
      | .int m => if decide (-(2 ^ 40) ≤ m) && decide (m < 2 ^ 40) then forD (exs cl b) i ((List.range m.toNat).map fun (k : Nat) => .int k) env1 else .bad
      | _ => .bad
  | .forl i l b, env => (ev cl l env).bind fun u env1 => orBad (fzU env1 u) fun p => match p.1 with
      | .lst xs => forD (exs cl b) i xs p.2
      | .tup xs => forD (exs cl b) i xs p.2
      | .kst xs => forD (exs cl b) i xs p.2
      | _ => .bad
  | .whil c b, env => whD (evT cl c) (exs cl b) FUEL env
  | .ret e, env => (ev cl e env).bind fun u env1 => orBad (retU env1 u) fun r => .ok (.ret r.1) r.2
  | .retN, env => .ok (.ret (.d .non)) env
  | .pass, env => .ok .next env
  | .never, _ => .bad
  | .par is es, env => (evF cl es env).bind fun ds env1 => orBad (storeAll is ds env1) fun env2 => .ok .next env2
  | .unp is e, env => (ev cl e env).bind fun u env1 => orBad (rdU env1 u) fun d => match d with
      | .tup ds => orBad (storeAll is ds env1) fun env2 => .ok .next env2
      | _ => .bad
  | .brk, env => .ok .brk env
  | .cont, env => .ok .cont env
def exs (cl : CallF) : Ss → Env → R Fl
  | .nil, env => .ok .next env
  | .cons s r, env => (ex cl s env).bind fun fl env1 => match fl with
      | .next => exs cl r env1
      | f => .ok f env1
end

/-- a def: how many names, its body -/
structure Fn where
  n : Nat
  body : Ss
def startE : Nat → List Ar → Env
  | n + 1, .fz d :: as => .fz d :: startE n as
  | n + 1, .io d :: as => .io d :: startE n as
  | n + 1, [] => .un :: startE n []
  | 0, _ => []
/-- what stands in the slots that were handed in -/
def outsOf : List Ar → Env → Option (List D)
  | [], _ => some []
  | .fz _ :: as, env => outsOf as env.tail
  | .io _ :: as, env => match env.head? with
    | some (.io d) => (outsOf as env.tail).map (d :: ·)
    | _ => none
/-- a result that can't be owned is a plain one -/
def isMutD : D → Bool
  | .lst _ => true | .dK _ _ => true | .dT _ _ => true | .obj _ _ _ => true | _ => false
def nrm (x : D) : U := if isMutD x = true then .nw x else .d x
def finO : Option (List D) → Fl → RC
  | some outs, .next => .ok (.d .non) outs
  | some outs, .ret (.d x) => .ok (.d x) outs
  | some outs, .ret (.nw x) => .ok (nrm x) outs
  | _, _ => .bad
def finX : Option (List D) → Exn → RC
  | some outs, x => .exc x outs
  | none, _ => .bad
def finR (as : List Ar) : R Fl → RC
  | .ok fl env => finO (outsOf as env) fl
  | .exc x env => finX (outsOf as env) x
  | .bad => .bad
def runF (cl : CallF) (F : Fn) (as : List Ar) : RC := finR as (exs cl F.body (startE F.n as))
/-- calls, to a depth -/
def calls (fs : Nat → Option Fn) : Nat → CallF
  | 0, _, _ => .bad
  | k + 1, f, as => match fs f with
    | some F => runF (calls fs k) F as
    | none => .bad
end PP
end

section
set_option maxHeartbeats 1000000
/-! What the data stand for in the heap; the readings of the small syntax. -/
namespace PP
open PySem L2

structure Tbl where
  K : PySem.W.Frag
  cn : Nat → Option Addr
  fn : Nat → Str
abbrev Ext (H H' : Hp) : Prop := ∀ a o, H a = some o → H' a = some o
theorem Ext.rfl' (H : Hp) : Ext H H := fun _ _ h => h
theorem Ext.tr {H H1 H2 : Hp} (a : Ext H H1) (b : Ext H1 H2) : Ext H H2 := fun x o h => b x o (a x o h)
theorem ext_upd {H : Hp} {p : Addr} {o : HO} (h : H p = none) : Ext H (upd H p o) := fun a u e => by
  rw [upd_ne (ne_of_none e h)]; exact e
theorem Ext.sqL {K : PySem.W.Frag} {H H' : Hp} {a : Addr} {xs : List V} (e : Ext H H') (h : SqL K H a xs) : SqL K H' a xs := by
  rcases h with (h | ⟨o, h⟩) | h
  · exact .inl (.inl (e _ _ h))
  · exact .inl (.inr ⟨o, e _ _ h⟩)
  · exact .inr h
theorem Ext.rd {H H' : Hp} {a : Addr} {o : HO} (e : Ext H H') (h : Rd H a o) : Rd H' a o := by
  rcases h with h | ⟨u, h⟩
  · exact .inl (e _ _ h)
  · exact .inr ⟨u, e _ _ h⟩
theorem Ext.sqT {K : PySem.W.Frag} {H H' : Hp} {a : Addr} {xs : List V} (e : Ext H H') (h : SqT K H a xs) : SqT K H' a xs := by
  rcases h with (h | ⟨o, h⟩) | h
  · exact .inl (.inl (e _ _ h))
  · exact .inl (.inr ⟨o, e _ _ h⟩)
  · exact .inr h
theorem Ext.no {H H' : Hp} (e : Ext H H') {a : Addr} (h : H' a = none) : H a = none := by
  cases q : H a with
  | none => rfl
  | some o => rw [e a o q] at h; cases h

mutual
/-- the value v stands for the data, in the heap H -/
def Rep (T : Tbl) (H : Hp) : D → V → Prop
  | .non, v => v = .non
  | .bl b, v => v = .bl b
  | .int i, v => v = .int i
  | .str s, v => v = .str s
  | .lst ds, v => ∃ a xs, v = .ref a ∧ Rd H a (.lst xs) ∧ RepAll T H ds xs
  | .tup ds, v => ∃ a xs, v = .ref a ∧ SqT T.K H a xs ∧ RepAll T H ds xs
  | .kst ds, v => ∃ a xs, v = .ref a ∧ SqL T.K H a xs ∧ RepAll T H ds xs
  | .dK ks vs, v => ∃ a xs, v = .ref a ∧ H a = some (.dK (ks.zip xs)) ∧ xs.length = ks.length ∧ RepAll T H vs xs
  | .dT ks vs, v => ∃ a xs, v = .ref a ∧ H a = some (.dT (ks.zip xs)) ∧ xs.length = ks.length ∧ RepAll T H vs xs
  | .obj c ks vs, v => ∃ a C dx xs, v = .ref a ∧ T.cn c = some C ∧ H a = some (.ins C dx ((ks.map T.fn).zip xs)) ∧ xs.length = ks.length ∧ RepAll T H vs xs
def RepAll (T : Tbl) (H : Hp) : List D → List V → Prop
  | [], vs => vs = []
  | d :: ds, vs => ∃ v r, vs = v :: r ∧ Rep T H d v ∧ RepAll T H ds r
end
/-- an owned thing: its own object isn't frozen, its parts are -/
def RepO (T : Tbl) (H0 H : Hp) : D → V → Prop
  | .lst ds, v => ∃ a xs, v = .ref a ∧ H0 a = none ∧ H a = some (.lst xs) ∧ RepAll T H0 ds xs
  | .dK ks vs, v => ∃ a xs, v = .ref a ∧ H0 a = none ∧ H a = some (.dK (ks.zip xs)) ∧ xs.length = ks.length ∧ RepAll T H0 vs xs
  | .dT ks vs, v => ∃ a xs, v = .ref a ∧ H0 a = none ∧ H a = some (.dT (ks.zip xs)) ∧ xs.length = ks.length ∧ RepAll T H0 vs xs
  | .obj c ks vs, v => ∃ a C dx xs, v = .ref a ∧ H0 a = none ∧ T.cn c = some C ∧ H a = some (.ins C dx ((ks.map T.fn).zip xs)) ∧ xs.length = ks.length ∧ RepAll T H0 vs xs
  | _, _ => False
/-- a value to be read: frozen, or owned -/
def RdV (T : Tbl) (H0 H : Hp) (d : D) (v : V) : Prop := Rep T H0 d v ∨ RepO T H0 H d v
/-- what an operation gives: a new thing (not of H), or a frozen one -/
def RepG (T : Tbl) (H0' H' H : Hp) (d : D) (v : V) : Prop := if isMutD d = true then ∃ a, v = .ref a ∧ H a = none ∧ RepO T H0' H' d v else Rep T H0' d v

mutual
theorem Rep.mono {T : Tbl} {H H' : Hp} (e : Ext H H') : ∀ (d : D) (v : V), Rep T H d v → Rep T H' d v
  | .non, _, h => by simpa only [Rep] using h
  | .bl _, _, h => by simpa only [Rep] using h
  | .int _, _, h => by simpa only [Rep] using h
  | .str _, _, h => by simpa only [Rep] using h
  | .lst ds, _, h => by
    simp only [Rep] at h ⊢
    obtain ⟨a, xs, h1, h2, h3⟩ := h
    exact ⟨a, xs, h1, e.rd h2, RepAll.mono e _ _ h3⟩
  | .tup ds, _, h => by
    simp only [Rep] at h ⊢
    obtain ⟨a, xs, h1, h2, h3⟩ := h
    exact ⟨a, xs, h1, e.sqT h2, RepAll.mono e _ _ h3⟩
  | .kst ds, _, h => by
    simp only [Rep] at h ⊢
    obtain ⟨a, xs, h1, h2, h3⟩ := h
    exact ⟨a, xs, h1, e.sqL h2, RepAll.mono e _ _ h3⟩
  | .dK ks vs, _, h => by
    simp only [Rep] at h ⊢
    obtain ⟨a, xs, h1, h2, hl, h3⟩ := h
    exact ⟨a, xs, h1, e _ _ h2, hl, RepAll.mono e _ _ h3⟩
  | .dT ks vs, _, h => by
    simp only [Rep] at h ⊢
    obtain ⟨a, xs, h1, h2, hl, h3⟩ := h
    exact ⟨a, xs, h1, e _ _ h2, hl, RepAll.mono e _ _ h3⟩
  | .obj c ks vs, _, h => by
    simp only [Rep] at h ⊢
    obtain ⟨a, C, dx, xs, h1, hc, h2, hl, h3⟩ := h
    exact ⟨a, C, dx, xs, h1, hc, e _ _ h2, hl, RepAll.mono e _ _ h3⟩
theorem RepAll.mono {T : Tbl} {H H' : Hp} (e : Ext H H') : ∀ (ds : List D) (vs : List V), RepAll T H ds vs → RepAll T H' ds vs
  | [], _, h => by simpa only [RepAll] using h
  | d :: ds, _, h => by
    simp only [RepAll] at h ⊢
    obtain ⟨v, r, h1, h2, h3⟩ := h
    exact ⟨v, r, h1, Rep.mono e _ _ h2, RepAll.mono e _ _ h3⟩
end
theorem RepAll.len {T : Tbl} {H : Hp} : ∀ {ds : List D} {vs : List V}, RepAll T H ds vs → vs.length = ds.length
  | [], _, h => by simp only [RepAll] at h; subst h; rfl
  | d :: ds, _, h => by
    simp only [RepAll] at h
    obtain ⟨v, r, rfl, _, h3⟩ := h
    simp [RepAll.len h3]
theorem RepAll.app {T : Tbl} {H : Hp} : ∀ {ds es : List D} {vs us : List V}, RepAll T H ds vs → RepAll T H es us → RepAll T H (ds ++ es) (vs ++ us)
  | [], _, _, _, h, h' => by simp only [RepAll] at h; subst h; simpa using h'
  | d :: ds, _, _, _, h, h' => by
    simp only [RepAll] at h
    obtain ⟨v, r, rfl, h2, h3⟩ := h
    simp only [List.cons_append, RepAll]
    exact ⟨v, _, rfl, h2, RepAll.app h3 h'⟩
theorem RepAll.get {T : Tbl} {H : Hp} : ∀ {ds : List D} {vs : List V} {i : Nat} {d : D}, RepAll T H ds vs → ds[i]? = some d → ∃ v, vs[i]? = some v ∧ Rep T H d v
  | [], _, _, _, h, e => by simp at e
  | d :: ds, _, 0, _, h, e => by
    simp only [RepAll] at h
    obtain ⟨v, r, rfl, h2, h3⟩ := h
    simp at e; subst e
    exact ⟨v, rfl, h2⟩
  | d :: ds, _, i + 1, _, h, e => by
    simp only [RepAll] at h
    obtain ⟨v, r, rfl, h2, h3⟩ := h
    simpa using RepAll.get h3 (by simpa using e)
theorem RepAll.get' {T : Tbl} {H : Hp} : ∀ {ds : List D} {vs : List V} {i : Nat} {v : V}, RepAll T H ds vs → vs[i]? = some v → ∃ d, ds[i]? = some d ∧ Rep T H d v
  | [], _, _, _, h, e => by simp only [RepAll] at h; subst h; simp at e
  | d :: ds, _, 0, _, h, e => by
    simp only [RepAll] at h
    obtain ⟨v, r, rfl, h2, h3⟩ := h
    simp at e; subst e
    exact ⟨d, rfl, h2⟩
  | d :: ds, _, i + 1, _, h, e => by
    simp only [RepAll] at h
    obtain ⟨v, r, rfl, h2, h3⟩ := h
    simpa using RepAll.get' h3 (by simpa using e)
theorem RepAll.set {T : Tbl} {H : Hp} {d : D} {v : V} (hd : Rep T H d v) : ∀ {ds : List D} {vs : List V} (i : Nat), RepAll T H ds vs → RepAll T H (ds.set i d) (vs.set i v)
  | [], _, _, h => by simp only [RepAll] at h; subst h; simp [RepAll]
  | e :: ds, _, 0, h => by
    simp only [RepAll] at h
    obtain ⟨u, r, rfl, h2, h3⟩ := h
    simp only [List.set_cons_zero, RepAll]
    exact ⟨v, r, rfl, hd, h3⟩
  | e :: ds, _, i + 1, h => by
    simp only [RepAll] at h
    obtain ⟨u, r, rfl, h2, h3⟩ := h
    simp only [List.set_cons_succ, RepAll]
    exact ⟨u, _, rfl, h2, RepAll.set hd i h3⟩
theorem RepAll.take {T : Tbl} {H : Hp} : ∀ {ds : List D} {vs : List V} (n : Nat), RepAll T H ds vs → RepAll T H (ds.take n) (vs.take n)
  | _, _, 0, h => by simp [RepAll]
  | [], _, _ + 1, h => by simp only [RepAll] at h; subst h; simp [RepAll]
  | e :: ds, _, i + 1, h => by
    simp only [RepAll] at h
    obtain ⟨u, r, rfl, h2, h3⟩ := h
    simp only [List.take_succ_cons, RepAll]
    exact ⟨u, _, rfl, h2, RepAll.take i h3⟩
theorem RepAll.drop {T : Tbl} {H : Hp} : ∀ {ds : List D} {vs : List V} (n : Nat), RepAll T H ds vs → RepAll T H (ds.drop n) (vs.drop n)
  | _, _, 0, h => by simpa using h
  | [], _, _ + 1, h => by simp only [RepAll] at h; subst h; simp [RepAll]
  | e :: ds, _, i + 1, h => by
    simp only [RepAll] at h
    obtain ⟨u, r, rfl, h2, h3⟩ := h
    simpa using RepAll.drop i h3
theorem RepAll.atI {T : Tbl} {H : Hp} {ds : List D} {vs : List V} {i : Int} {d : D} (h : RepAll T H ds vs) (e : L2.atI ds i = some d) : ∃ v, L2.atI vs i = some v ∧ Rep T H d v := by
  unfold L2.atI at e ⊢
  rw [h.len]
  cases q : ixN ds.length i with
  | none => rw [q] at e; cases e
  | some j =>
    rw [q] at e
    exact RepAll.get h e

structure Ctx where
  T : Tbl
  H0e : Hp
  He : Hp
  ioAt : List (Option Addr)
def Ctx.io (C : Ctx) (a : Addr) : Prop := some a ∈ C.ioAt
structure Ctx.Ok (C : Ctx) : Prop where
  ioNo : ∀ a, C.io a → C.H0e a = none ∧ C.He a ≠ none
  ex : Ext C.H0e C.He
def ownS : Sl → Bool
  | .ow _ => true | .io _ => true | _ => false
def SlOk (C : Ctx) (H0 H : Hp) (i : Nat) (o : Option (Option V)) : Sl → Prop
  | .un => True
  | .fz d => ∃ v, o = some (some v) ∧ Rep C.T H0 d v
  | .ow d => ∃ a, o = some (some (.ref a)) ∧ C.He a = none ∧ RepO C.T H0 H d (.ref a)
  | .io d => ∃ a, o = some (some (.ref a)) ∧ C.ioAt[i]? = some (some a) ∧ RepO C.T H0 H d (.ref a)
structure Sim (C : Ctx) (σ : L2.St) (H0 H : Hp) (env : Env) : Prop where
  ok : C.Ok
  ex : Ext H0 H
  ex0 : Ext C.H0e H0
  fresh : ∀ a, C.H0e a = none → H0 a ≠ none → C.He a = none
  keep : ∀ a o, C.He a = some o → ¬ C.io a → H a = some o
  ioH : ∀ a, C.io a → H a ≠ none
  len : env.length = σ.length
  slots : ∀ i, SlOk C H0 H i (σ[i]?) (getS env i)
  inj : ∀ i j a, i ≠ j → ownS (getS env i) = true → ownS (getS env j) = true → σ[i]? = some (some (.ref a)) → σ[j]? = some (some (.ref a)) → False
/-- a new thing -/
def RepN (C : Ctx) (σ : L2.St) (H0 H : Hp) (env : Env) (d : D) (v : V) : Prop :=
  if isMutD d = true then ∃ a, v = .ref a ∧ C.He a = none ∧ RepO C.T H0 H d v ∧ ∀ i, ownS (getS env i) = true → σ[i]? ≠ some (some (.ref a)) else Rep C.T H0 d v
def UOk (C : Ctx) (σ : L2.St) (H0 H : Hp) (env : Env) : U → V → Prop
  | .d x, v => Rep C.T H0 x v
  | .sl i, v => σ[i]? = some (some v)
  | .nw x, v => RepN C σ H0 H env x v
/-- an exception: its class, its own dict -/
def XOk (T : Tbl) (H0 H : Hp) (x : Exn) (cls : Value) (d : Option Addr) : Prop :=
  ∃ C, T.cn x.1 = some C ∧ cls = .ref C ∧ (x.2.1 = [] ∨ ∃ dd xs, d = some dd ∧ H dd = some (.xd ((x.2.1.map T.fn).zip xs)) ∧ xs.length = x.2.1.length ∧ RepAll T H0 x.2.2 xs)

/-! ### growing -/
structure Gr (H0 H H0' H' : Hp) : Prop where
  e0 : Ext H0 H0'
  e : Ext H H'
  e01 : Ext H0' H'
  new : ∀ a, H0 a = none → H0' a ≠ none → H a = none
theorem Gr.rfl' {H0 H : Hp} (e : Ext H0 H) : Gr H0 H H0 H := ⟨Ext.rfl' _, Ext.rfl' _, e, fun a h h' => (h' h).elim⟩
theorem Gr.tr {H0 H H0' H' H0'' H'' : Hp} (a : Gr H0 H H0' H') (b : Gr H0' H' H0'' H'') : Gr H0 H H0'' H'' :=
  ⟨a.e0.tr b.e0, a.e.tr b.e, b.e01, fun x h h' => by
    cases q : H0' x with
    | none => exact a.e.no (b.new x q h')
    | some o => exact a.new x h (by rw [q]; exact nofun)⟩
/-- a frozen new object -/
theorem Gr.froz {H0 H : Hp} {p : Addr} {o : HO} (e : Ext H0 H) (hp : H p = none) : Gr H0 H (upd H0 p o) (upd H p o) := by
  refine ⟨ext_upd (e.no hp), ext_upd hp, fun a u h => ?_, fun a h h' => ?_⟩
  · by_cases z : a = p
    · subst z; rw [upd_same] at h ⊢; exact h
    · rw [upd_ne z] at h ⊢; exact e _ _ h
  · by_cases z : a = p
    · subst z; exact hp
    · rw [upd_ne z] at h'; exact (h' h).elim
/-- an owned new object -/
theorem Gr.own {H0 H : Hp} {p : Addr} {o : HO} (e : Ext H0 H) (hp : H p = none) : Gr H0 H H0 (upd H p o) :=
  ⟨Ext.rfl' _, ext_upd hp, e.tr (ext_upd hp), fun a h h' => (h' h).elim⟩

section
variable {C : Ctx} {σ : L2.St} {H0 H H0' H' : Hp} {env : Env}
theorem RepO.keep {T : Tbl} {d : D} {a : Addr} (e0 : Ext H0 H0') (hn : H0' a = none) (hk : H' a = H a) (h : RepO T H0 H d (.ref a)) : RepO T H0' H' d (.ref a) := by
  cases d with
  | lst ds =>
    obtain ⟨b, xs, e, h1, h2, h3⟩ := h
    cases e
    exact ⟨a, xs, rfl, hn, hk.trans h2, RepAll.mono e0 _ _ h3⟩
  | dK ks vs =>
    obtain ⟨b, xs, e, h1, h2, hl, h3⟩ := h
    cases e
    exact ⟨a, xs, rfl, hn, hk.trans h2, hl, RepAll.mono e0 _ _ h3⟩
  | dT ks vs =>
    obtain ⟨b, xs, e, h1, h2, hl, h3⟩ := h
    cases e
    exact ⟨a, xs, rfl, hn, hk.trans h2, hl, RepAll.mono e0 _ _ h3⟩
  | obj c ks vs =>
    obtain ⟨b, Ca, dx, xs, e, h1, hc, h2, hl, h3⟩ := h
    cases e
    exact ⟨a, Ca, dx, xs, rfl, hn, hc, hk.trans h2, hl, RepAll.mono e0 _ _ h3⟩
  | _ => exact h.elim
theorem RepO.some {T : Tbl} {d : D} {a : Addr} (h : RepO T H0 H d (.ref a)) : H0 a = none ∧ ∃ o, H a = .some o := by
  cases d with
  | lst ds => obtain ⟨b, xs, e, h1, h2, h3⟩ := h; cases e; exact ⟨h1, _, h2⟩
  | dK ks vs => obtain ⟨b, xs, e, h1, h2, hl, h3⟩ := h; cases e; exact ⟨h1, _, h2⟩
  | dT ks vs => obtain ⟨b, xs, e, h1, h2, hl, h3⟩ := h; cases e; exact ⟨h1, _, h2⟩
  | obj c ks vs => obtain ⟨b, Ca, dx, xs, e, h1, hc, h2, hl, h3⟩ := h; cases e; exact ⟨h1, _, h2⟩
  | _ => exact h.elim
theorem RepO.ref {T : Tbl} {d : D} {v : V} (h : RepO T H0 H d v) : isMutD d = true ∧ ∃ a, v = .ref a := by
  cases d with
  | lst ds => obtain ⟨b, xs, e, h1, h2, h3⟩ := h; exact ⟨rfl, b, e⟩
  | dK ks vs => obtain ⟨b, xs, e, h1, h2, hl, h3⟩ := h; exact ⟨rfl, b, e⟩
  | dT ks vs => obtain ⟨b, xs, e, h1, h2, hl, h3⟩ := h; exact ⟨rfl, b, e⟩
  | obj c ks vs => obtain ⟨b, Ca, dx, xs, e, h1, hc, h2, hl, h3⟩ := h; exact ⟨rfl, b, e⟩
  | _ => exact h.elim
/-- an owned thing becomes frozen -/
theorem RepO.froz {T : Tbl} {d : D} {a : Addr} {o : HO} (ho : H a = .some o) (h : RepO T H0 H d (.ref a)) : Rep T (upd H0 a o) d (.ref a) := by
  have en : Ext H0 (upd H0 a o) := ext_upd h.some.1
  cases d with
  | lst ds =>
    obtain ⟨b, xs, e, h1, h2, h3⟩ := h
    cases e
    rw [ho] at h2; cases h2
    simp only [Rep]
    exact ⟨a, xs, rfl, .inl upd_same, RepAll.mono en _ _ h3⟩
  | dK ks vs =>
    obtain ⟨b, xs, e, h1, h2, hl, h3⟩ := h
    cases e
    rw [ho] at h2; cases h2
    simp only [Rep]
    exact ⟨a, xs, rfl, upd_same, hl, RepAll.mono en _ _ h3⟩
  | dT ks vs =>
    obtain ⟨b, xs, e, h1, h2, hl, h3⟩ := h
    cases e
    rw [ho] at h2; cases h2
    simp only [Rep]
    exact ⟨a, xs, rfl, upd_same, hl, RepAll.mono en _ _ h3⟩
  | obj c ks vs =>
    obtain ⟨b, Ca, dx, xs, e, h1, hc, h2, hl, h3⟩ := h
    cases e
    rw [ho] at h2; cases h2
    simp only [Rep]
    exact ⟨a, Ca, dx, xs, rfl, hc, upd_same, hl, RepAll.mono en _ _ h3⟩
  | _ => exact h.elim

/-- the slots are as they were where the owned objects stand as they stood -/
theorem SlOk.step {i : Nat} {o : Option (Option V)} {s : Sl} (e0 : Ext H0 H0') (hk : ∀ a, ownS s = true → o = some (some (.ref a)) → H0' a = none ∧ H' a = H a) (h : SlOk C H0 H i o s) : SlOk C H0' H' i o s := by
  cases s with
  | un => trivial
  | fz d => obtain ⟨v, h1, h2⟩ := h; exact ⟨v, h1, Rep.mono e0 _ _ h2⟩
  | ow d => obtain ⟨a, h1, h2, h3⟩ := h; exact ⟨a, h1, h2, h3.keep e0 (hk a rfl h1).1 (hk a rfl h1).2⟩
  | io d => obtain ⟨a, h1, h2, h3⟩ := h; exact ⟨a, h1, h2, h3.keep e0 (hk a rfl h1).1 (hk a rfl h1).2⟩
theorem Sim.own (S : Sim C σ H0 H env) {i : Nat} {a : Addr} (h : ownS (getS env i) = true) (e : σ[i]? = some (some (.ref a))) : H0 a = none ∧ ∃ o, H a = some o := by
  have q := S.slots i
  cases z : getS env i with
  | un => rw [z] at h; cases h
  | fz d => rw [z] at h; cases h
  | ow d => rw [z] at q; obtain ⟨b, h1, h2, h3⟩ := q; rw [e] at h1; cases h1; exact h3.some
  | io d => rw [z] at q; obtain ⟨b, h1, h2, h3⟩ := q; rw [e] at h1; cases h1; exact h3.some
theorem Sim.he (S : Sim C σ H0 H env) {a : Addr} (h : H a = none) : C.He a = none := by
  cases q : C.He a with
  | none => rfl
  | some o =>
    by_cases z : C.io a
    · exact (S.ioH a z h).elim
    · rw [S.keep a o q z] at h; cases h
theorem Sim.gr (S : Sim C σ H0 H env) (g : Gr H0 H H0' H') : Sim C σ H0' H' env where
  ok := S.ok
  ex := g.e01
  ex0 := S.ex0.tr g.e0
  fresh := fun a h h' => by
    cases q : H0 a with
    | none => exact S.he (g.new a q h')
    | some o => exact S.fresh a h (by rw [q]; exact nofun)
  keep := fun a o h h' => g.e _ _ (S.keep a o h h')
  ioH := fun a h h' => by
    cases q : H a with
    | none => exact S.ioH a h q
    | some o => rw [g.e _ _ q] at h'; cases h'
  len := S.len
  slots := fun i => (S.slots i).step g.e0 fun a ho e => by
    obtain ⟨h0, o, h1⟩ := S.own ho e
    refine ⟨?_, by rw [g.e _ _ h1, h1]⟩
    cases q : H0' a with
    | none => rfl
    | some u => rw [g.new a h0 (by rw [q]; exact nofun)] at h1; cases h1
  inj := S.inj
theorem RepG.nw (S : Sim C σ H0 H env) {d : D} {v : V} (h : RepG C.T H0' H' H d v) : RepN C σ H0' H' env d v := by
  unfold RepN; unfold RepG at h
  split
  · rename_i z
    rw [if_pos z] at h
    obtain ⟨a, rfl, h1, h2⟩ := h
    refine ⟨a, rfl, S.he h1, h2, fun i ho e => ?_⟩
    obtain ⟨_, o, q⟩ := S.own ho e
    rw [h1] at q; cases q
  · rename_i z
    rw [if_neg z] at h
    exact h
/-- freezing an object that is owned by no slot -/
theorem Sim.frozN (S : Sim C σ H0 H env) {a : Addr} {o : HO} (h0 : H0 a = none) (he : C.He a = none) (h : H a = some o) (hs : ∀ i, ownS (getS env i) = true → σ[i]? ≠ some (some (.ref a))) : Sim C σ (upd H0 a o) H env where
  ok := S.ok
  ex := fun b u q => by
    by_cases z : b = a
    · subst z; rw [upd_same] at q; cases q; exact h
    · rw [upd_ne z] at q; exact S.ex _ _ q
  ex0 := S.ex0.tr (ext_upd h0)
  fresh := fun b q q' => by
    by_cases z : b = a
    · subst z; exact he
    · rw [upd_ne z] at q'; exact S.fresh b q q'
  keep := S.keep
  ioH := S.ioH
  len := S.len
  slots := fun i => (S.slots i).step (ext_upd h0) fun b ho e => by
    have z : b ≠ a := fun z => hs i ho (by rw [← z]; exact e)
    exact ⟨by rw [upd_ne z]; exact (S.own ho e).1, rfl⟩
  inj := S.inj
/-- a value that waits: a new thing is frozen -/
theorem Sim.pend (S : Sim C σ H0 H env) {u : U} {v : V} (h : UOk C σ H0 H env u v) : ∃ H0', Ext H0 H0' ∧ Sim C σ H0' H env ∧ UOk C σ H0' H env (PP.pend u) v := by
  cases u with
  | d x => exact ⟨H0, Ext.rfl' _, S, h⟩
  | sl i => exact ⟨H0, Ext.rfl' _, S, h⟩
  | nw x =>
    have h' : RepN C σ H0 H env x v := h
    unfold RepN at h'
    split at h'
    · obtain ⟨a, rfl, h1, h2, h3⟩ := h'
      obtain ⟨h0, o, ho⟩ := h2.some
      exact ⟨upd H0 a o, ext_upd h0, S.frozN h0 h1 ho h3, h2.froz ho⟩
    · exact ⟨H0, Ext.rfl' _, S, h'⟩
/-- what waits, waits on -/
theorem UOk.wait {u : U} {v : V} {env' : Env} {H1 : Hp} (h : UOk C σ H0 H env (PP.pend u) v) (e : Ext H0 H0') : UOk C σ H0' H1 env' (PP.pend u) v := by
  cases u with
  | d x => exact Rep.mono e _ _ h
  | sl i => exact h
  | nw x => exact Rep.mono e _ _ h
/-- reading -/
theorem Sim.rd (S : Sim C σ H0 H env) {u : U} {v : V} {d : D} (h : UOk C σ H0 H env u v) (hr : rdU env u = some d) : RdV C.T H0 H d v := by
  cases u with
  | d x => cases hr; exact .inl h
  | nw x =>
    cases hr
    have h' : RepN C σ H0 H env d v := h
    unfold RepN at h'
    split at h'
    · obtain ⟨a, rfl, h1, h2, h3⟩ := h'
      exact .inr h2
    · exact .inl h'
  | sl i =>
    have q := S.slots i
    have e : σ[i]? = some (some v) := h
    unfold rdU rdS at hr
    cases z : getS env i with
    | un => simp [z] at hr
    | fz x => simp [z] at hr; subst hr; rw [z] at q; obtain ⟨w, h1, h2⟩ := q; rw [e] at h1; cases h1; exact .inl h2
    | ow x => simp [z] at hr; subst hr; rw [z] at q; obtain ⟨w, h1, h2, h3⟩ := q; rw [e] at h1; cases h1; exact .inr h3
    | io x => simp [z] at hr; subst hr; rw [z] at q; obtain ⟨w, h1, h2, h3⟩ := q; rw [e] at h1; cases h1; exact .inr h3
end
end PP
end

section
set_option maxHeartbeats 1000000
namespace PP
open PySem L2

/-- what is wanted of a result -/
def RQ {α : Type} (C : Ctx) (W : WX) (σ : L2.St) (K : α → Env → Hp → Hp → Prop) (H0 : Hp) : R α → Prop
  | .ok a env => ∀ H0' H', Ext H0 H0' → Sim C σ H0' H' env → K a env H0' H'
  | .exc x env => ∀ cls d H0' H', Ext H0 H0' → Sim C σ H0' H' env → XOk C.T H0' H' x cls d → W cls d σ H'
  | .bad => False
def KV (C : Ctx) (σ : L2.St) (Q : VK) : U → Env → Hp → Hp → Prop := fun u env H0 H => ∀ v, UOk C σ H0 H env u v → Q v H
/-- an expression of the small syntax, read -/
def tI (C : Ctx) (W : WX) (cl : CallF) (e : Ex) : TE := fun σ H Q => ∃ H0 env, Sim C σ H0 H env ∧ RQ C W σ (KV C σ Q) H0 (ev cl e env)
def tT (C : Ctx) (W : WX) (cl : CallF) (e : Ex) : TT := fun σ H Q => ∃ H0 env, Sim C σ H0 H env ∧ RQ C W σ (fun b _ _ H' => Q b H') H0 (evT cl e env)
theorem RQ.mono {α : Type} {C : Ctx} {W : WX} {σ : L2.St} {K : α → Env → Hp → Hp → Prop} {H0 H1 : Hp} (e : Ext H0 H1) {r : R α} (h : RQ C W σ K H0 r) : RQ C W σ K H1 r := by
  cases r with
  | ok a env => exact fun H0' H' e' s => h H0' H' (e.tr e') s
  | exc x env => exact fun cls d H0' H' e' s x => h cls d H0' H' (e.tr e') s x
  | bad => exact h
theorem RQ.orB {α β : Type} {C : Ctx} {W : WX} {σ : L2.St} {K : β → Env → Hp → Hp → Prop} {H0 : Hp} {o : Option α} {f : α → R β} (h : RQ C W σ K H0 (orBad o f)) : ∃ a, o = some a ∧ RQ C W σ K H0 (f a) := by
  cases o with
  | none => exact h.elim
  | some a => exact ⟨a, rfl, h⟩
section
variable {C : Ctx} {W : WX} {σ : L2.St} {cl : CallF} {H0 H : Hp} {env : Env} {β : Type} {K : β → Env → Hp → Hp → Prop}
/-- an expression, then the rest -/
theorem seqI {a : Ex} {f : U → Env → R β} (S : Sim C σ H0 H env) (h : RQ C W σ K H0 ((ev cl a env).bind f)) {Q : VK}
    (hQ : ∀ u env1 v H01 H1, Ext H0 H01 → Sim C σ H01 H1 env1 → UOk C σ H01 H1 env1 u v → RQ C W σ K H01 (f u env1) → Q v H1) : tI C W cl a σ H Q := by
  refine ⟨H0, env, S, ?_⟩
  cases q : ev cl a env with
  | ok u env1 =>
    rw [q] at h
    exact fun H01 H1 e s v hu => hQ u env1 v H01 H1 e s hu (RQ.mono e h)
  | exc x env1 =>
    rw [q] at h
    exact fun cls d H0' H' e s x => h cls d H0' H' e s x
  | bad => rw [q] at h; exact h
theorem seqT {a : Ex} {f : Bool → Env → R β} (S : Sim C σ H0 H env) (h : RQ C W σ K H0 ((evT cl a env).bind f)) {Q : Bool → Hp → Prop}
    (hQ : ∀ b env1 H01 H1, Ext H0 H01 → Sim C σ H01 H1 env1 → RQ C W σ K H01 (f b env1) → Q b H1) : tT C W cl a σ H Q := by
  refine ⟨H0, env, S, ?_⟩
  cases q : evT cl a env with
  | ok u env1 =>
    rw [q] at h
    exact fun H01 H1 e s => hQ u env1 H01 H1 e s (RQ.mono e h)
  | exc x env1 =>
    rw [q] at h
    exact fun cls d H0' H' e s x => h cls d H0' H' e s x
  | bad => rw [q] at h; exact h
end
theorem peI {X : Cx} {e : Expr} {t t' : TE} (h : PE X e t) (i : ∀ σ H Q, t' σ H Q → t σ H Q) : PE X e t' := ⟨fun pins s σ H Q I q => h.run pins s σ H Q I (i σ H Q q)⟩
theorem ptI {X : Cx} {e : Expr} {t t' : TT} (h : PT X e t) (i : ∀ σ H Q, t' σ H Q → t σ H Q) : PT X e t' := ⟨fun pins s σ H Q I q => h.run pins s σ H Q I (i σ H Q q)⟩
theorem pwI {X : Cx} {e : Expr} {t t' : TT} (h : PW X e t) (i : ∀ σ H Q, t' σ H Q → t σ H Q) : PW X e t' := ⟨fun wh pins s σ H Q I q => h.run wh pins s σ H Q I (i σ H Q q)⟩
theorem orI {X : Cx} {f : Value → Value → Sem Value} {r r' : R2} (h : OpR X f r) (i : ∀ x y H Q, r' x y H Q → r x y H Q) : OpR X f r' := fun pins s σ H x y v u Q I rx ry q => h pins s σ H x y v u Q I rx ry (i x y H Q q)

/-! ### reading a value by its data -/
section
variable {T : Tbl} {H0 H : Hp} {x : V}
theorem rd_non (h : RdV T H0 H .non x) : x = .non := by rcases h with h | h; exact (by simpa only [Rep] using h); exact h.elim
theorem rd_bl {b : Bool} (h : RdV T H0 H (.bl b) x) : x = .bl b := by rcases h with h | h; exact (by simpa only [Rep] using h); exact h.elim
theorem rd_int {i : Int} (h : RdV T H0 H (.int i) x) : x = .int i := by rcases h with h | h; exact (by simpa only [Rep] using h); exact h.elim
theorem rd_str {i : Str} (h : RdV T H0 H (.str i) x) : x = .str i := by rcases h with h | h; exact (by simpa only [Rep] using h); exact h.elim
theorem rd_lst (e : Ext H0 H) {ds : List D} (h : RdV T H0 H (.lst ds) x) : ∃ a xs, x = .ref a ∧ Rd H a (.lst xs) ∧ RepAll T H0 ds xs := by
  rcases h with h | h
  · simp only [Rep] at h
    obtain ⟨a, xs, h1, h2, h3⟩ := h
    exact ⟨a, xs, h1, e.rd h2, h3⟩
  · obtain ⟨a, xs, h1, h0, h2, h3⟩ := h
    exact ⟨a, xs, h1, .inl h2, h3⟩
theorem rd_tup (e : Ext H0 H) {ds : List D} (h : RdV T H0 H (.tup ds) x) : ∃ a xs, x = .ref a ∧ SqT T.K H a xs ∧ RepAll T H0 ds xs := by
  rcases h with h | h
  · simp only [Rep] at h
    obtain ⟨a, xs, h1, h2, h3⟩ := h
    exact ⟨a, xs, h1, e.sqT h2, h3⟩
  · exact h.elim
theorem rd_kst (e : Ext H0 H) {ds : List D} (h : RdV T H0 H (.kst ds) x) : ∃ a xs, x = .ref a ∧ SqL T.K H a xs ∧ RepAll T H0 ds xs := by
  rcases h with h | h
  · simp only [Rep] at h
    obtain ⟨a, xs, h1, h2, h3⟩ := h
    exact ⟨a, xs, h1, e.sqL h2, h3⟩
  · exact h.elim
theorem rd_dK (e : Ext H0 H) {ks : List Key} {ds : List D} (h : RdV T H0 H (.dK ks ds) x) : ∃ a xs, x = .ref a ∧ H a = some (.dK (ks.zip xs)) ∧ xs.length = ks.length ∧ RepAll T H0 ds xs := by
  rcases h with h | h
  · simp only [Rep] at h
    obtain ⟨a, xs, h1, h2, h3⟩ := h
    exact ⟨a, xs, h1, e _ _ h2, h3⟩
  · obtain ⟨a, xs, h1, h0, h2, h3⟩ := h
    exact ⟨a, xs, h1, h2, h3⟩
theorem lim_line : LIM ≤ sizeLine := by rw [PySem.sizeLine_eq]; decide
theorem rd_truth (e : Ext H0 H) {d : D} {b : Bool} (h : RdV T H0 H d x) (ht : truD d = some b) : TruV T.K x H b := by
  cases d with
  | non => cases rd_non h; cases ht; rfl
  | bl c => cases rd_bl h; cases ht; rfl
  | int i => cases rd_int h; cases ht; rfl
  | str z =>
    cases rd_str h
    simp only [truD] at ht
    split at ht
    · rename_i hl
      cases ht
      exact ⟨Nat.le_trans hl lim_line, rfl⟩
    · cases ht
  | lst ds =>
    obtain ⟨a, xs, rfl, h1, h2⟩ := rd_lst e h
    cases ht
    refine .inl ⟨xs, .inl h1, ?_⟩
    have := h2.len
    cases ds <;> cases xs <;> simp_all
  | tup ds =>
    obtain ⟨a, xs, rfl, h1, h2⟩ := rd_tup e h
    cases ht
    refine .inr (.inl ⟨xs, h1, ?_⟩)
    have := h2.len
    cases ds <;> cases xs <;> simp_all
  | kst ds =>
    obtain ⟨a, xs, rfl, h1, h2⟩ := rd_kst e h
    cases ht
    refine .inl ⟨xs, h1, ?_⟩
    have := h2.len
    cases ds <;> cases xs <;> simp_all
  | dK ks ds =>
    obtain ⟨a, xs, rfl, h1, hl, h2⟩ := rd_dK e h
    cases ht
    refine .inr (.inr ⟨_, h1, ?_⟩)
    cases ks <;> cases xs <;> simp_all
  | dT ks ds => cases ht
  | obj c ks ds => cases ht
end
theorem RepG.flat {T : Tbl} {H0' H' H : Hp} {d : D} {v : V} (hf : isMutD d = false) (h : Rep T H0' d v) : RepG T H0' H' H d v := by
  unfold RepG
  rw [if_neg (by rw [hf]; decide)]
  exact h
theorem RepG.lst {T : Tbl} {H0 H : Hp} {ds : List D} {xs : List V} {p : Addr} (e : Ext H0 H) (hp : H p = none) (h : RepAll T H0 ds xs) : RepG T H0 (upd H p (.lst xs)) H (.lst ds) (.ref p) := by
  show (if true = true then _ else _)
  rw [if_pos rfl]
  exact ⟨p, rfl, hp, p, xs, rfl, e.no hp, upd_same, h⟩

/-- an operation by the data -/
def rD (T : Tbl) (g : D → D → Option D) : R2 := fun x y H Q => ∃ H0 dx dy d, Ext H0 H ∧ RdV T H0 H dx x ∧ RdV T H0 H dy y ∧ g dx dy = some d ∧ ∀ v H0' H', Gr H0 H H0' H' → RepG T H0' H' H d v → Q v H'
def rD1 (T : Tbl) (g : D → Option D) : V → Hp → VK → Prop := fun x H Q => ∃ H0 dx d, Ext H0 H ∧ RdV T H0 H dx x ∧ g dx = some d ∧ ∀ v H0' H', Gr H0 H H0' H' → RepG T H0' H' H d v → Q v H'
section
variable {X : Cx} {T : Tbl}
/-- two ints in -/
theorem opInts {f : Value → Value → Sem Value} {o : O2} {c : Int → Int → Prop} {g : Int → Int → V} {gd : Int → Int → D} (h : OpR X f (rI c g)) (hf : ∀ i j, isMutD (gd i j) = false) (hr : ∀ T H i j, Rep T H (gd i j) (g i j))
    (inv : ∀ dx dy d, op2 o dx dy = some d → ∃ i j, dx = .int i ∧ dy = .int j ∧ c i j ∧ d = gd i j) : OpR X f (rD T (op2 o)) :=
  orI h fun x y H Q ⟨H0, dx, dy, d, e, hx, hy, hg, q⟩ => by
    obtain ⟨i, j, rfl, rfl, hc, rfl⟩ := inv dx dy d hg
    exact ⟨i, j, rd_int hx, rd_int hy, hc, q _ _ _ (Gr.rfl' e) (.flat (hf i j) (hr _ _ i j))⟩
theorem rI0I {g : Int → Int → V} {f : Value → Value → Sem Value} (h : OpR X f (rI0 g)) : OpR X f (rI (fun _ _ => True) g) := orI h fun x y H Q ⟨i, j, h1, h2, _, q⟩ => ⟨i, j, h1, h2, q⟩
theorem r_int (T : Tbl) (H : Hp) (i : Int) : Rep T H (.int i) (.int i) := by simp only [Rep]
theorem r_bl (T : Tbl) (H : Hp) (i : Bool) : Rep T H (.bl i) (.bl i) := by simp only [Rep]
theorem r_str (T : Tbl) (H : Hp) (i : Str) : Rep T H (.str i) (.str i) := by simp only [Rep]
theorem r_non (T : Tbl) (H : Hp) : Rep T H .non .non := by simp only [Rep]
theorem o_sub : OpR X (binaryOp .Sub) (rD T (op2 .sub)) := opInts (gd := fun i j => .int (i - j)) (rI0I op_sub) (fun _ _ => rfl) (fun T H i j => r_int T H _) (by
  intro dx dy d h
  cases dx <;> first | (cases h; done) | (cases dy <;> first | (cases h; done) | (cases h; exact ⟨_, _, rfl, rfl, trivial, rfl⟩)))
theorem o_mul : OpR X (binaryOp .Mult) (rD T (op2 .mul)) := opInts (gd := fun i j => .int (i * j)) op_mul (fun _ _ => rfl) (fun T H i j => r_int T H _) (by
  intro dx dy d h
  cases dx <;> first | (cases h; done) | (cases dy <;> first | (cases h; done) | skip)
  simp only [op2] at h
  split at h
  · rename_i z
    cases h
    refine ⟨_, _, rfl, rfl, ?_, rfl⟩
    simpa [bnd64, CMul] using z
  · cases h)
theorem o_fdiv : OpR X (binaryOp .FloorDiv) (rD T (op2 .fdiv)) := opInts (gd := fun i j => .int (i / j)) op_fdiv (fun _ _ => rfl) (fun T H i j => r_int T H _) (by
  intro dx dy d h
  cases dx <;> first | (cases h; done) | (cases dy <;> first | (cases h; done) | skip)
  simp only [op2] at h
  split at h
  · rename_i z
    cases h
    refine ⟨_, _, rfl, rfl, ?_, rfl⟩
    simpa [CDiv] using z
  · cases h)
theorem o_mod : OpR X (binaryOp .Mod) (rD T (op2 .mod)) := opInts (gd := fun i j => .int (i % j)) op_mod (fun _ _ => rfl) (fun T H i j => r_int T H _) (by
  intro dx dy d h
  cases dx <;> first | (cases h; done) | (cases dy <;> first | (cases h; done) | skip)
  simp only [op2] at h
  split at h
  · rename_i z
    cases h
    exact ⟨_, _, rfl, rfl, z, rfl⟩
  · cases h)
theorem o_pow : OpR X (binaryOp .Pow) (rD T (op2 .pow)) := opInts (gd := fun i j => .int (i ^ j.toNat)) op_pow (fun _ _ => rfl) (fun T H i j => r_int T H _) (by
  intro dx dy d h
  cases dx <;> first | (cases h; done) | (cases dy <;> first | (cases h; done) | skip)
  simp only [op2] at h
  split at h
  · rename_i z
    cases h
    refine ⟨_, _, rfl, rfl, ?_, rfl⟩
    simpa [powOk, CPow, and_assoc] using z
  · cases h)
theorem o_shl : OpR X (binaryOp .LShift) (rD T (op2 .shl)) := opInts (gd := fun i j => .int (i * 2 ^ j.toNat)) op_shl (fun _ _ => rfl) (fun T H i j => r_int T H _) (by
  intro dx dy d h
  cases dx <;> first | (cases h; done) | (cases dy <;> first | (cases h; done) | skip)
  simp only [op2] at h
  split at h
  · rename_i z
    cases h
    refine ⟨_, _, rfl, rfl, ?_, rfl⟩
    simpa [powOk, CPow, and_assoc] using z
  · cases h)
theorem o_shr : OpR X (binaryOp .RShift) (rD T (op2 .shr)) := opInts (gd := fun i j => .int (i / 2 ^ j.toNat)) op_shr (fun _ _ => rfl) (fun T H i j => r_int T H _) (by
  intro dx dy d h
  cases dx <;> first | (cases h; done) | (cases dy <;> first | (cases h; done) | skip)
  simp only [op2] at h
  split at h
  · rename_i z
    cases h
    exact ⟨_, _, rfl, rfl, z, rfl⟩
  · cases h)
theorem o_band : OpR X (binaryOp .BitAnd) (rD T (op2 .band)) := opInts (gd := fun i j => .int (Builtin.bitAnd i j)) (rI0I op_and) (fun _ _ => rfl) (fun T H i j => r_int T H _) (by
  intro dx dy d h
  cases dx <;> first | (cases h; done) | (cases dy <;> first | (cases h; done) | (cases h; exact ⟨_, _, rfl, rfl, trivial, rfl⟩)))
theorem o_bor : OpR X (binaryOp .BitOr) (rD T (op2 .bor)) := opInts (gd := fun i j => .int (Builtin.bitOr i j)) (rI0I op_or) (fun _ _ => rfl) (fun T H i j => r_int T H _) (by
  intro dx dy d h
  cases dx <;> first | (cases h; done) | (cases dy <;> first | (cases h; done) | (cases h; exact ⟨_, _, rfl, rfl, trivial, rfl⟩)))
theorem o_lt : OpR X (compareOp .Lt) (rD T (op2 .lt)) := opInts (gd := fun i j => .bl (decide (i < j))) (rI0I op_lt) (fun _ _ => rfl) (fun T H i j => r_bl T H _) (by
  intro dx dy d h
  cases dx <;> first | (cases h; done) | (cases dy <;> first | (cases h; done) | (cases h; exact ⟨_, _, rfl, rfl, trivial, rfl⟩)))
theorem o_le : OpR X (compareOp .LtE) (rD T (op2 .le)) := opInts (gd := fun i j => .bl (decide (i ≤ j))) (rI0I op_le) (fun _ _ => rfl) (fun T H i j => r_bl T H _) (by
  intro dx dy d h
  cases dx <;> first | (cases h; done) | (cases dy <;> first | (cases h; done) | (cases h; exact ⟨_, _, rfl, rfl, trivial, rfl⟩)))
theorem o_gt : OpR X (compareOp .Gt) (rD T (op2 .gt)) := opInts (gd := fun i j => .bl (decide (j < i))) (rI0I op_gt) (fun _ _ => rfl) (fun T H i j => r_bl T H _) (by
  intro dx dy d h
  cases dx <;> first | (cases h; done) | (cases dy <;> first | (cases h; done) | (cases h; exact ⟨_, _, rfl, rfl, trivial, rfl⟩)))
theorem o_ge : OpR X (compareOp .GtE) (rD T (op2 .ge)) := opInts (gd := fun i j => .bl (decide (j ≤ i))) (rI0I op_ge) (fun _ _ => rfl) (fun T H i j => r_bl T H _) (by
  intro dx dy d h
  cases dx <;> first | (cases h; done) | (cases dy <;> first | (cases h; done) | (cases h; exact ⟨_, _, rfl, rfl, trivial, rfl⟩)))

/-- a readable list, as the machine has it -/
theorem rdM {pins : List (Addr × Obj)} {s : Shared} {σ : L2.St} {H : Hp} {l : Addr} {xs : List V} (I : Inv X pins σ H s) (h : Rd H l (.lst xs)) :
    ∃ (its : List Value) (n : Nat), Vals xs its ∧ xs.length = its.length ∧ xs.length ≤ sizeLine ∧ s.heap.get? l = some { cls := .type "list", data := .seq its.toArray n } := by
  obtain ⟨z, its, n, r, e⟩ := h.ok I.hok
  exact ⟨its, n, r, r.length, z, e⟩
/-- list + list, wherever they stand -/
theorem o_cat : OpR X (binaryOp .Add) (fun x y H Q => ∃ l b xs zs, x = .ref l ∧ y = .ref b ∧ Rd H l (.lst xs) ∧ Rd H b (.lst zs) ∧ xs.length + zs.length ≤ sizeLine ∧ ∀ p, H p = none → Q (.ref p) (upd H p (.lst (xs ++ zs)))) := by
  intro pins s σ H x y v u Q I rx ry h
  obtain ⟨l, b, xs, zs, rfl, rfl, hl, hb, hz, q⟩ := h
  cases rx
  cases ry
  obtain ⟨its, n, r, hh1, _, e⟩ := rdM I hl
  obtain ⟨its2, n2, r2, hh2, _, e2⟩ := rdM I hb
  refine PySem.P.add_list e e2 ?_ (by simp only [List.size_toArray]; omega)
  simp only [List.append_toArray]
  exact ⟨.ref _, _, I.lnew (t' := s.toks) (r.append r2) (by rw [List.length_append]; omega), rfl, q _ I.fresh⟩
theorem o_add : OpR X (binaryOp .Add) (rD T (op2 .add)) :=
  orI (op_add.or (o_cat (X := X))) fun x y H Q ⟨H0, dx, dy, d, e, hx, hy, hg, q⟩ => by
    cases dx with
    | int i =>
      cases dy with
      | int j =>
        cases hg
        exact .inl ⟨i, j, rd_int hx, rd_int hy, q _ _ _ (Gr.rfl' e) (.flat rfl (r_int _ _ _))⟩
      | _ => cases hg
    | lst xs =>
      cases dy with
      | lst ys =>
        simp only [op2] at hg
        split at hg
        · rename_i hl
          cases hg
          obtain ⟨a, us, rfl, h1, h2⟩ := rd_lst e hx
          obtain ⟨b, ws, rfl, h3, h4⟩ := rd_lst e hy
          refine .inr ⟨a, b, us, ws, rfl, rfl, h1, h3, ?_, fun p hp => ?_⟩
          · rw [h2.len, h4.len]; exact Nat.le_trans hl lim_line
          · exact q _ _ _ (Gr.own e hp) (.lst e hp (h2.app h4))
        · cases hg
      | _ => cases hg
    | _ => cases hg
end

section
variable {X : Cx} {T : Tbl}
mutual
theorem dp_of {H0 H : Hp} (hK : X.K = T.K) (e : Ext H0 H) : ∀ (d : D) (p : PyData) (v : V), toPy d = some p → Rep T H0 d v → Dp X.K H v p
  | .non, p, v, h, r => by simp only [toPy] at h; cases h; simp only [Rep] at r; subst r; exact .non
  | .bl b, p, v, h, r => by simp only [toPy] at h; cases h; simp only [Rep] at r; subst r; exact .bl b
  | .int b, p, v, h, r => by simp only [toPy] at h; cases h; simp only [Rep] at r; subst r; exact .int b
  | .str b, p, v, h, r => by simp only [toPy] at h; cases h; simp only [Rep] at r; subst r; exact .str b
  | .lst ds, p, v, h, r => by
    simp only [toPy, Option.map_eq_some_iff] at h
    obtain ⟨ps, h1, rfl⟩ := h
    simp only [Rep] at r
    obtain ⟨a, xs, rfl, r1, r2⟩ := r
    exact .lst (.inl (e.rd r1)) (dpAll_of hK e ds ps xs h1 r2)
  | .tup ds, p, v, h, r => by
    simp only [toPy, Option.map_eq_some_iff] at h
    obtain ⟨ps, h1, rfl⟩ := h
    simp only [Rep] at r
    obtain ⟨a, xs, rfl, r1, r2⟩ := r
    exact .tup (hK ▸ e.sqT r1) (dpAll_of hK e ds ps xs h1 r2)
  | .kst ds, p, v, h, r => by
    simp only [toPy, Option.map_eq_some_iff] at h
    obtain ⟨ps, h1, rfl⟩ := h
    simp only [Rep] at r
    obtain ⟨a, xs, rfl, r1, r2⟩ := r
    exact .lst (hK ▸ e.sqL r1) (dpAll_of hK e ds ps xs h1 r2)
  | .dK _ _, p, v, h, r => by simp only [toPy] at h; cases h
  | .dT _ _, p, v, h, r => by simp only [toPy] at h; cases h
  | .obj _ _ _, p, v, h, r => by simp only [toPy] at h; cases h
theorem dpAll_of {H0 H : Hp} (hK : X.K = T.K) (e : Ext H0 H) : ∀ (ds : List D) (ps : List PyData) (vs : List V), toPyAll ds = some ps → RepAll T H0 ds vs → DpAll X.K H vs ps
  | [], ps, vs, h, r => by simp only [toPyAll] at h; cases h; simp only [RepAll] at r; subst r; exact .nil
  | d :: ds, ps, vs, h, r => by
    simp only [toPyAll] at h
    simp only [RepAll] at r
    obtain ⟨v, r', rfl, r1, r2⟩ := r
    split at h
    · rename_i p ps' q1 q2
      cases h
      exact .cons (dp_of hK e d p v q1 r1) (dpAll_of hK e ds ps' r' q2 r2)
    · cases h
end
theorem dp_rd {H0 H : Hp} (hK : X.K = T.K) (e : Ext H0 H) {d : D} {p : PyData} {v : V} (h : toPy d = some p) (r : RdV T H0 H d v) : Dp X.K H v p := by
  rcases r with r | r
  · exact dp_of hK e d p v h r
  · cases d with
    | lst ds =>
      simp only [toPy, Option.map_eq_some_iff] at h
      obtain ⟨ps, h1, rfl⟩ := h
      obtain ⟨a, xs, rfl, h0, h2, h3⟩ := r
      exact .lst (SqL.of h2) (dpAll_of hK e ds ps xs h1 h3)
    | dK _ _ => cases h
    | dT _ _ => cases h
    | obj _ _ _ => cases h
    | _ => exact r.elim
theorem eqP_inv {x y : D} {b : Bool} (h : eqP x y = some b) : ∃ p q, toPy x = some p ∧ toPy y = some q ∧ SeqAt.shaped p = true ∧ SeqAt.shaped q = true ∧ b = PyData.eqv p q := by
  unfold eqP at h
  split at h
  · rename_i p q h1 h2
    split at h
    · rename_i z
      cases h
      rw [Bool.and_eq_true] at z
      exact ⟨p, q, h1, h2, z.1, z.2, rfl⟩
    · cases h
  · cases h
theorem eqD_inv {x y : D} {b : Bool} (h : eqD x y = some b) : (∃ u v, x = .str u ∧ y = .str v ∧ b = decide (u = v)) ∨ eqP x y = some b := by
  unfold eqD at h
  split at h
  · cases h; exact .inl ⟨_, _, rfl, rfl, rfl⟩
  · exact .inr h
theorem dec_strV (u v : Str) : decide (V.str u = V.str v) = decide (u = v) := decide_eq_decide.mpr ⟨fun h => by cases h; rfl, fun h => by rw [h]⟩
theorem o_eq (hK : X.K = T.K) (hu : X.A.units + 64 < cLine) : OpR X (compareOp .Eq) (rD T (op2 .eq)) :=
  orI ((op_eqD hu).or op_eq) fun x y H Q ⟨H0, dx, dy, d, e, hx, hy, hg, q⟩ => by
    have hg' : (eqD dx dy).map D.bl = some d := by cases dx <;> cases dy <;> exact hg
    rw [Option.map_eq_some_iff] at hg'
    obtain ⟨b, h1, rfl⟩ := hg'
    rcases eqD_inv h1 with ⟨u, v, rfl, rfl, rfl⟩ | h1
    · cases rd_str hx
      cases rd_str hy
      exact .inr ⟨rfl, by rw [dec_strV]; exact q _ _ _ (Gr.rfl' e) (.flat rfl (r_bl _ _ _))⟩
    · obtain ⟨p, p', h2, h3, s1, s2, rfl⟩ := eqP_inv h1
      exact .inl ⟨p, p', dp_rd hK e h2 hx, dp_rd hK e h3 hy, s1, s2, q _ _ _ (Gr.rfl' e) (.flat rfl (r_bl _ _ _))⟩
theorem o_ne (hK : X.K = T.K) (hu : X.A.units + 64 < cLine) : OpR X (compareOp .NotEq) (rD T (op2 .ne)) :=
  orI ((op_neD hu).or op_ne) fun x y H Q ⟨H0, dx, dy, d, e, hx, hy, hg, q⟩ => by
    have hg' : ((eqD dx dy).map fun b => D.bl (!b)) = some d := by cases dx <;> cases dy <;> exact hg
    rw [Option.map_eq_some_iff] at hg'
    obtain ⟨b, h1, rfl⟩ := hg'
    rcases eqD_inv h1 with ⟨u, v, rfl, rfl, rfl⟩ | h1
    · cases rd_str hx
      cases rd_str hy
      exact .inr ⟨rfl, by rw [dec_strV]; exact q _ _ _ (Gr.rfl' e) (.flat rfl (r_bl _ _ _))⟩
    · obtain ⟨p, p', h2, h3, s1, s2, rfl⟩ := eqP_inv h1
      exact .inl ⟨p, p', dp_rd hK e h2 hx, dp_rd hK e h3 hy, s1, s2, q _ _ _ (Gr.rfl' e) (.flat rfl (r_bl _ _ _))⟩

/-! ### the constructions -/
variable {C : Ctx} {W : WX} {cl : CallF} {e a b c : Expr} {e' a' b' c' : Ex} {pos : Pos}
theorem c_var {i : Nat} (h : PE X e (tVar i)) : PE X e (tI C W cl (.var i)) := peI h fun σ H Q ⟨H0, env, S, q⟩ => by
  have z := S.slots i
  simp only [ev] at q
  split at q
  · exact q.elim
  · rename_i d hd
    rw [hd] at z
    obtain ⟨v, h1, h2⟩ := z
    exact ⟨v, h1, q H0 H (Ext.rfl' _) S v h2⟩
  · rename_i n1 n2
    have : ∃ v, σ[i]? = some (some v) := by
      cases hs : getS env i with
      | un => exact (n1 hs).elim
      | fz d => exact (n2 d hs).elim
      | ow d => rw [hs] at z; obtain ⟨x, h1, _⟩ := z; exact ⟨_, h1⟩
      | io d => rw [hs] at z; obtain ⟨x, h1, _⟩ := z; exact ⟨_, h1⟩
    obtain ⟨v, h1⟩ := this
    exact ⟨v, h1, q H0 H (Ext.rfl' _) S v h1⟩
theorem c_cst {d : D} {v : V} (h : PE X e (tC v)) (hr : ∀ H, Rep C.T H d v) : PE X e (tI C W cl (.cst d)) := peI h fun σ H Q ⟨H0, env, S, q⟩ => by
  simp only [ev] at q
  exact q H0 H (Ext.rfl' _) S v (hr H0)
/-- behind an operation -/
theorem fin_nw {σ : L2.St} {H0 H H0' H' : Hp} {env : Env} {Q : VK} {z : D} {v : V} (S : Sim C σ H0 H env) (h : RQ C W σ (KV C σ Q) H0 (.ok (.nw z) env)) (g : Gr H0 H H0' H') (r : RepG C.T H0' H' H z v) : Q v H' :=
  h H0' H' g.e0 (S.gr g) v (r.nw S)
theorem two {σ : L2.St} {H0 H : Hp} {env : Env} {o : O2} {Q : VK} (S : Sim C σ H0 H env) (q : RQ C W σ (KV C σ Q) H0 (ev cl (.op2 o a' b') env)) : tOp (rD C.T (op2 o)) (tI C W cl a') (tI C W cl b') σ H Q := by
  simp only [ev] at q
  refine seqI S q fun u env1 x H1 H1' e1 S1 u1 q1 => ?_
  obtain ⟨H1f, e1f, S1f, u1f⟩ := S1.pend u1
  refine seqI S1f (RQ.mono e1f q1) fun w env2 y H2 H2' e2 S2 u2 q2 => ?_
  obtain ⟨dx, hx, q2⟩ := q2.orB
  obtain ⟨dy, hy, q2⟩ := q2.orB
  obtain ⟨z, hz, q2⟩ := q2.orB
  exact ⟨H2, dx, dy, z, S2.ex, S2.rd (u1f.wait e2) hx, S2.rd u2 hy, hz, fun v H0' H' g r => fin_nw S2 q2 g r⟩
theorem c_bin {op : Operator} {o : O2} (ho : OpR X (binaryOp op) (rD C.T (op2 o))) (ha : PE X a (tI C W cl a')) (hb : PE X b (tI C W cl b')) : PE X (.BinOp a op b pos) (tI C W cl (.op2 o a' b')) :=
  peI (pe_op ho ha hb) fun σ H Q ⟨H0, env, S, q⟩ => two S q
theorem c_cmp {op : CmpOp} {o : O2} (ho : OpR X (compareOp op) (rD C.T (op2 o))) (ha : PE X a (tI C W cl a')) (hb : PE X b (tI C W cl b')) (hm : behindInMarks op b = false) : PE X (.Compare a [op] [b] pos) (tI C W cl (.op2 o a' b')) :=
  peI (pe_cmpR ho ha hb hm) fun σ H Q ⟨H0, env, S, q⟩ => two S q
theorem c_un {op : UnaryOp} {o : O1} (ho : UnR X (unaryOp op) (rD1 C.T (op1 o))) (ha : PE X a (tI C W cl a')) : PE X (.UnaryOp op a pos) (tI C W cl (.op1 o a')) :=
  peI (pe_un ho ha) fun σ H Q ⟨H0, env, S, q⟩ => by
    simp only [ev] at q
    refine seqI S q fun u env1 x H1 H1' e1 S1 u1 q1 => ?_
    obtain ⟨dx, hx, q1⟩ := q1.orB
    obtain ⟨z, hz, q1⟩ := q1.orB
    exact ⟨H1, dx, z, S1.ex, S1.rd u1 hx, hz, fun v H0' H' g r => fin_nw S1 q1 g r⟩
theorem o_neg {T : Tbl} : UnR X (unaryOp .USub) (rD1 T (op1 .neg)) := fun pins s σ H x v Q I rx ⟨H0, dx, d, e, hx, hg, q⟩ => by
  cases dx with
  | int i => cases hg; exact un_neg pins s σ H x v Q I rx ⟨i, rd_int hx, q _ _ _ (Gr.rfl' e) (.flat rfl (r_int _ _ _))⟩
  | _ => cases hg
/-- a op b op' c -/
theorem c_chain {op op' : CmpOp} {o p : O2} (ho : OpR X (compareOp op) (rD C.T (op2 o))) (ho' : OpR X (compareOp op') (rD C.T (op2 p))) (ha : PE X a (tI C W cl a')) (hb : PE X b (tI C W cl b')) (hc : PE X c (tI C W cl c'))
    (hm : lastMarks [op, op'] [b, c] = false := by with_unfolding_all rfl) : PE X (.Compare a [op, op'] [b, c] pos) (tI C W cl (.chain o p a' b' c')) :=
  peI (pe_chain ho ho' ha hb hc hm) fun σ H Q ⟨H0, env, S, q⟩ => by
    simp only [ev] at q
    refine seqI S q fun u env1 x H1 H1' e1 S1 u1 q1 => ?_
    obtain ⟨H1f, e1f, S1f, u1f⟩ := S1.pend u1
    refine seqI S1f (RQ.mono e1f q1) fun w env2 y H2 H2' e2 S2 u2 q2 => ?_
    obtain ⟨H2f, e2f, S2f, u2f⟩ := S2.pend u2
    have q2 := RQ.mono e2f q2
    obtain ⟨dx, hx, q2⟩ := q2.orB
    obtain ⟨dy, hy, q2⟩ := q2.orB
    obtain ⟨z, hz, q2⟩ := q2.orB
    refine ⟨H2f, dx, dy, z, S2f.ex, S2f.rd (u1f.wait (e2.tr e2f)) hx, S2f.rd u2f hy, hz, fun v H0' H' g r => ?_⟩
    split at q2
    · have hv : v = .bl true := by simpa only [RepG, isMutD, Rep, Bool.false_eq_true, if_false] using r
      subst hv
      refine ⟨true, rfl, ?_⟩
      rw [if_pos rfl]
      have S3 := S2f.gr g
      refine seqI S3 (RQ.mono g.e0 q2) fun t env3 y3 H3 H3' e3 S4 u3 q3 => ?_
      obtain ⟨dy', hy', q3⟩ := q3.orB
      obtain ⟨dr, hr, q3⟩ := q3.orB
      obtain ⟨z', hz', q3⟩ := q3.orB
      exact ⟨H3, dy', dr, z', S4.ex, S4.rd (u2f.wait (g.e0.tr e3)) hy', S4.rd u3 hr, hz', fun v H0' H' g r => fin_nw S4 q3 g r⟩
    · have hv : v = .bl false := by simpa only [RepG, isMutD, Rep, Bool.false_eq_true, if_false] using r
      subst hv
      refine ⟨false, rfl, ?_⟩
      rw [if_neg Bool.false_ne_true]
      exact fin_nw S2f q2 g r
    · exact q2.elim
/-! truth -/
theorem c_and {rest : List Expr} (hK : X.K = C.T.K) (ha : PE X a (tI C W cl a')) (hb : PE X (.BoolOp .And (b :: rest) pos) (tI C W cl b')) : PE X (.BoolOp .And (a :: b :: rest) pos) (tI C W cl (.and a' b')) :=
  peI (pe_andT ha hb) fun σ H Q ⟨H0, env, S, q⟩ => by
    simp only [ev] at q
    refine seqI S q fun u env1 x H1 H1' e1 S1 u1 q1 => ?_
    obtain ⟨dx, hx, q1⟩ := q1.orB
    obtain ⟨t, ht, q1⟩ := q1.orB
    refine ⟨t, hK ▸ rd_truth S1.ex (S1.rd u1 hx) ht, ?_⟩
    cases t with
    | true =>
      rw [if_pos rfl]
      exact ⟨H1, env1, S1, q1⟩
    | false =>
      rw [if_neg Bool.false_ne_true]
      obtain ⟨H1f, e1f, S1f, u1f⟩ := S1.pend u1
      exact q1 H1f H1' e1f S1f x u1f
theorem c_or {rest : List Expr} (hK : X.K = C.T.K) (ha : PE X a (tI C W cl a')) (hb : PE X (.BoolOp .Or (b :: rest) pos) (tI C W cl b')) : PE X (.BoolOp .Or (a :: b :: rest) pos) (tI C W cl (.or a' b')) :=
  peI (pe_orT ha hb) fun σ H Q ⟨H0, env, S, q⟩ => by
    simp only [ev] at q
    refine seqI S q fun u env1 x H1 H1' e1 S1 u1 q1 => ?_
    obtain ⟨dx, hx, q1⟩ := q1.orB
    obtain ⟨t, ht, q1⟩ := q1.orB
    refine ⟨t, hK ▸ rd_truth S1.ex (S1.rd u1 hx) ht, ?_⟩
    cases t with
    | false =>
      rw [if_neg Bool.false_ne_true]
      exact ⟨H1, env1, S1, q1⟩
    | true =>
      rw [if_pos rfl]
      obtain ⟨H1f, e1f, S1f, u1f⟩ := S1.pend u1
      exact q1 H1f H1' e1f S1f x u1f
theorem c_one {op : BoolOp} (ha : PE X a (tI C W cl a')) : PE X (.BoolOp op [a] pos) (tI C W cl a') := pe_one ha
theorem c_not (hK : X.K = C.T.K) (ha : PE X a (tI C W cl a')) : PE X (.UnaryOp .Not a pos) (tI C W cl (.not a')) :=
  peI (pe_notT ha) fun σ H Q ⟨H0, env, S, q⟩ => by
    simp only [ev] at q
    refine seqI S q fun u env1 x H1 H1' e1 S1 u1 q1 => ?_
    obtain ⟨dx, hx, q1⟩ := q1.orB
    obtain ⟨t, ht, q1⟩ := q1.orB
    exact ⟨t, hK ▸ rd_truth S1.ex (S1.rd u1 hx) ht, fin_nw S1 q1 (Gr.rfl' S1.ex) (.flat rfl (r_bl _ _ _))⟩
/-- a test -/
theorem t_tru (hK : X.K = C.T.K) (ha : PE X a (tI C W cl a')) (he : ∀ whole, isTrue a X.env whole = (do let v ← whole; standAt a.pos; holding [v] (truthy v)) := by intro _; rfl) : PT X a (tT C W cl a') :=
  ptI (pt_truth ha he) fun σ H Q ⟨H0, env, S, q⟩ => by
    simp only [evT] at q
    refine seqI S q fun u env1 x H1 H1' e1 S1 u1 q1 => ?_
    obtain ⟨dx, hx, q1⟩ := q1.orB
    obtain ⟨t, ht, q1⟩ := q1.orB
    exact ⟨t, hK ▸ rd_truth S1.ex (S1.rd u1 hx) ht, q1 H1 H1' (Ext.rfl' _) S1⟩
end
end PP
end

section
set_option maxHeartbeats 1000000
namespace PP
open PySem L2

/-! ### lists of expressions -/
def tAF (C : Ctx) (W : WX) (cl : CallF) (es : Exs) : TA := fun σ H Q => ∃ H0 env, Sim C σ H0 H env ∧ RQ C W σ (fun ds _ H0' H' => ∀ vs, RepAll C.T H0' ds vs → Q vs H') H0 (evF cl es env)
def UsOk (C : Ctx) (σ : L2.St) (H0 H : Hp) (env : Env) : List U → List V → Prop
  | [], vs => vs = []
  | u :: us, vs => ∃ v r, vs = v :: r ∧ (∃ u', u = pend u' ∧ UOk C σ H0 H env (pend u') v) ∧ UsOk C σ H0 H env us r
def tAR (C : Ctx) (W : WX) (cl : CallF) (es : Exs) : TA := fun σ H Q => ∃ H0 env, Sim C σ H0 H env ∧ RQ C W σ (fun us env' H0' H' => ∀ vs, UsOk C σ H0' H' env' us vs → Q vs H') H0 (evR cl es env)
def RdAll (T : Tbl) (H0 H : Hp) : List D → List V → Prop
  | [], vs => vs = []
  | d :: ds, vs => ∃ v r, vs = v :: r ∧ RdV T H0 H d v ∧ RdAll T H0 H ds r
section
variable {C : Ctx} {W : WX} {σ : L2.St} {cl : CallF} {H0 H H0' H' : Hp} {env : Env}
/-- taken for good -/
theorem Sim.take (S : Sim C σ H0 H env) {u : U} {v : V} {d : D} {env' : Env} (h : UOk C σ H0 H env u v) (hf : fzU env u = some (d, env')) : ∃ H0', Ext H0 H0' ∧ Sim C σ H0' H env' ∧ Rep C.T H0' d v := by
  cases u with
  | d x => cases hf; exact ⟨H0, Ext.rfl' _, S, h⟩
  | nw x =>
    cases hf
    obtain ⟨H0', e, S', h'⟩ := S.pend h
    exact ⟨H0', e, S', h'⟩
  | sl i =>
    have q := S.slots i
    have e : σ[i]? = some (some v) := h
    cases z : getS env i with
    | un => simp [fzU, z] at hf
    | io x => simp [fzU, z] at hf
    | fz x =>
      simp [fzU, z] at hf
      obtain ⟨rfl, rfl⟩ := hf
      rw [z] at q
      obtain ⟨w, h1, h2⟩ := q
      rw [e] at h1; cases h1
      exact ⟨H0, Ext.rfl' _, S, h2⟩
    | ow x =>
      simp [fzU, z] at hf
      obtain ⟨rfl, rfl⟩ := hf
      rw [z] at q
      obtain ⟨a, h1, h2, h3⟩ := q
      rw [e] at h1; cases h1
      obtain ⟨h0, o, ho⟩ := h3.some
      have hi : i < env.length := by
        rw [S.len]
        exact (List.getElem?_eq_some_iff.mp e).1
      have gs : ∀ j, getS (env.set i (.fz x)) j = if i = j then .fz x else getS env j := fun j => by
        unfold getS
        simp only [List.getD_eq_getElem?_getD, List.getElem?_set]
        split
        · rename_i z2; subst z2; simp [hi]
        · rfl
      refine ⟨upd H0 a o, ext_upd h0, ?_, h3.froz ho⟩
      exact {
        ok := S.ok
        ex := fun b u q => by
          by_cases z : b = a
          · subst z; rw [upd_same] at q; cases q; exact ho
          · rw [upd_ne z] at q; exact S.ex _ _ q
        ex0 := S.ex0.tr (ext_upd h0)
        fresh := fun b q q' => by
          by_cases z : b = a
          · subst z; exact h2
          · rw [upd_ne z] at q'; exact S.fresh b q q'
        keep := S.keep
        ioH := S.ioH
        len := by rw [List.length_set]; exact S.len
        slots := fun j => by
          rw [gs j]
          split
          · rename_i z2
            subst z2
            exact ⟨_, e, h3.froz ho⟩
          · rename_i z2
            refine (S.slots j).step (ext_upd h0) fun b hb eb => ?_
            have zb : b ≠ a := fun zb => S.inj i j a z2 (by rw [z]; rfl) hb e (by rw [← zb]; exact eb)
            exact ⟨by rw [upd_ne zb]; exact (S.own hb eb).1, rfl⟩
        inj := fun j k b hjk hj hk ej ek => by
          rw [gs j] at hj
          rw [gs k] at hk
          split at hj
          · cases hj
          · split at hk
            · cases hk
            · exact S.inj j k b hjk hj hk ej ek }
theorem UsOk.mono (e : Ext H0 H0') : ∀ {us : List U} {vs : List V} {env' : Env}, UsOk C σ H0 H env us vs → UsOk C σ H0' H' env' us vs
  | [], _, _, h => h
  | u :: us, _, _, h => by
    obtain ⟨v, r, rfl, ⟨u', rfl, h1⟩, h2⟩ := h
    exact ⟨v, r, rfl, ⟨u', rfl, h1.wait e⟩, UsOk.mono e h2⟩
theorem UsOk.rd (S : Sim C σ H0 H env) : ∀ {us : List U} {vs : List V} {ds : List D}, UsOk C σ H0 H env us vs → rdAll env us = some ds → RdAll C.T H0 H ds vs
  | [], _, _, h, q => by cases q; exact h
  | u :: us, _, _, h, q => by
    obtain ⟨v, r, rfl, ⟨u', rfl, h1⟩, h2⟩ := h
    unfold rdAll at q
    split at q
    · rename_i d ds q1 q2
      cases q
      exact ⟨v, r, rfl, S.rd h1 q1, UsOk.rd S h2 q2⟩
    · cases q
end
theorem paI {X : Cx} {es : List Expr} {t t' : TA} (h : PA X es t) (i : ∀ σ H Q, t' σ H Q → t σ H Q) : PA X es t' := ⟨fun pos pins s σ H Q I q => h.run pos pins s σ H Q I (i σ H Q q)⟩
section
variable {X : Cx} {C : Ctx} {W : WX} {cl : CallF} {e a b c : Expr} {es : List Expr} {e' a' b' c' : Ex} {es' : Exs} {pos : Pos}
theorem f_nil : PA X [] (tAF C W cl .nil) := paI pa_nil fun σ H Q ⟨H0, env, S, q⟩ => q H0 H (Ext.rfl' _) S [] (by simp only [RepAll])
theorem f_cons (ha : PE X e (tI C W cl e')) (hr : PA X es (tAF C W cl es')) (hs : starEach (e :: es) X.env = (false, eval e X.env) :: starEach es X.env := by rfl) : PA X (e :: es) (tAF C W cl (.cons e' es')) :=
  paI (pa_cons ha hr hs) fun σ H Q ⟨H0, env, S, q⟩ => by
    simp only [evF] at q
    refine seqI S q fun u env1 x H1 H1' e1 S1 u1 q1 => ?_
    obtain ⟨⟨d, env2⟩, hf, q1⟩ := q1.orB
    obtain ⟨H2, e2, S2, r2⟩ := S1.take u1 hf
    have q2 := RQ.mono e2 q1
    refine ⟨H2, env2, S2, ?_⟩
    cases z : evF cl es' env2 with
    | ok ds env3 =>
      simp only [z] at q2
      exact fun H3 H3' e3 S3 vs hv => q2 H3 H3' e3 S3 (x :: vs) (by simp only [RepAll]; exact ⟨x, vs, rfl, Rep.mono e3 _ _ r2, hv⟩)
    | exc x env3 => simp only [z] at q2; exact q2
    | bad => simp only [z] at q2; exact q2
theorem r_nil : PA X [] (tAR C W cl .nil) := paI pa_nil fun σ H Q ⟨H0, env, S, q⟩ => q H0 H (Ext.rfl' _) S [] rfl
theorem r_cons (ha : PE X e (tI C W cl e')) (hr : PA X es (tAR C W cl es')) (hs : starEach (e :: es) X.env = (false, eval e X.env) :: starEach es X.env := by rfl) : PA X (e :: es) (tAR C W cl (.cons e' es')) :=
  paI (pa_cons ha hr hs) fun σ H Q ⟨H0, env, S, q⟩ => by
    simp only [evR] at q
    refine seqI S q fun u env1 x H1 H1' e1 S1 u1 q1 => ?_
    obtain ⟨H2, e2, S2, r2⟩ := S1.pend u1
    have q2 := RQ.mono e2 q1
    refine ⟨H2, env1, S2, ?_⟩
    cases z : evR cl es' env1 with
    | ok ds env3 =>
      simp only [z] at q2
      exact fun H3 H3' e3 S3 vs hv => q2 H3 H3' e3 S3 (x :: vs) ⟨x, vs, rfl, ⟨u, rfl, r2.wait e3⟩, hv⟩
    | exc x env3 => simp only [z] at q2; exact q2
    | bad => simp only [z] at q2; exact q2
/-! displays -/
theorem c_tup {k : Nat} (h : PA X es (tAF C W cl es')) : PE X (.Tuple es k pos) (tI C W cl (.tup es')) :=
  peI (pe_tup h) fun σ H Q ⟨H0, env, S, q⟩ => by
    simp only [ev] at q
    refine ⟨H0, env, S, ?_⟩
    cases z : evF cl es' env with
    | ok ds env3 =>
      simp only [z, R.bind_ok] at q
      split at q
      · rename_i hl
        intro H1 H1' e1 S1 vs hv
        refine ⟨by rw [hv.len]; exact Nat.le_trans hl lim_line, fun p hp => ?_⟩
        refine fin_nw S1 (RQ.mono e1 q) (Gr.froz S1.ex hp) (.flat rfl ?_)
        simp only [Rep]
        exact ⟨p, vs, rfl, SqT.of upd_same, RepAll.mono (ext_upd (S1.ex.no hp)) _ _ hv⟩
      · exact q.elim
    | exc x env3 => simp only [z] at q; exact q
    | bad => simp only [z] at q; exact q
theorem c_lst (h : PA X es (tAF C W cl es')) : PE X (.List es pos) (tI C W cl (.lst es')) :=
  peI (pe_lst h) fun σ H Q ⟨H0, env, S, q⟩ => by
    simp only [ev] at q
    refine ⟨H0, env, S, ?_⟩
    cases z : evF cl es' env with
    | ok ds env3 =>
      simp only [z, R.bind_ok] at q
      split at q
      · rename_i hl
        intro H1 H1' e1 S1 vs hv
        refine ⟨by rw [hv.len]; exact Nat.le_trans hl lim_line, fun p hp => ?_⟩
        exact fin_nw S1 (RQ.mono e1 q) (Gr.own S1.ex hp) (.lst S1.ex hp hv)
      · exact q.elim
    | exc x env3 => simp only [z] at q; exact q
    | bad => simp only [z] at q; exact q
/-! an item -/
theorem x_lst (hK : X.K = C.T.K) : IxR X (fun x y H Q => ∃ H0 dx dy d, Ext H0 H ∧ RdV C.T H0 H dx x ∧ RdV C.T H0 H dy y ∧ ixD dx dy = some d ∧ ∀ v, Rep C.T H0 d v → Q v H) :=
  fun value slice pins s σ H x y v u Q I rx ry ⟨H0, dx, dy, d, e, hx, hy, hg, q⟩ hsub => by
    refine (ix_list.or ix_tup) value slice pins s σ H x y v u Q I rx ry ?_ hsub
    cases dx with
    | lst ds =>
      cases dy with
      | int i =>
        obtain ⟨a, xs, rfl, h1, h2⟩ := rd_lst e hx
        obtain ⟨w, h3, h4⟩ := h2.atI hg
        exact .inl ⟨a, xs, i, w, rfl, rd_int hy, .inl h1, h3, q w h4⟩
      | _ => cases hg
    | tup ds =>
      cases dy with
      | int i =>
        obtain ⟨a, xs, rfl, h1, h2⟩ := rd_tup e hx
        obtain ⟨w, h3, h4⟩ := h2.atI hg
        exact .inr ⟨a, xs, i, w, rfl, rd_int hy, hK ▸ h1, h3, q w h4⟩
      | _ => cases hg
    | kst ds =>
      cases dy with
      | int i =>
        obtain ⟨a, xs, rfl, h1, h2⟩ := rd_kst e hx
        obtain ⟨w, h3, h4⟩ := h2.atI hg
        exact .inl ⟨a, xs, i, w, rfl, rd_int hy, hK ▸ h1, h3, q w h4⟩
      | _ => cases hg
    | _ => cases hg
theorem c_ix (hK : X.K = C.T.K) (ha : PE X a (tI C W cl a')) (hb : PE X b (tI C W cl b')) (hs : PlainIx b := by exact fun _ _ => rfl) : PE X (.Subscript a b pos) (tI C W cl (.ix a' b')) :=
  peI (pe_ix (x_lst hK) ha hb hs) fun σ H Q ⟨H0, env, S, q⟩ => by
    simp only [ev] at q
    refine seqI S q fun u env1 x H1 H1' e1 S1 u1 q1 => ?_
    obtain ⟨H1f, e1f, S1f, u1f⟩ := S1.pend u1
    refine seqI S1f (RQ.mono e1f q1) fun w env2 y H2 H2' e2 S2 u2 q2 => ?_
    obtain ⟨dx, hx, q2⟩ := q2.orB
    obtain ⟨dy, hy, q2⟩ := q2.orB
    obtain ⟨z, hz, q2⟩ := q2.orB
    exact ⟨H2, dx, dy, z, S2.ex, S2.rd (u1f.wait e2) hx, S2.rd u2 hy, hz, fun v r => q2 H2 H2' (Ext.rfl' _) S2 v r⟩
/-! built-in functions -/
def rDn (T : Tbl) (g : List D → Option D) : List V → Hp → VK → Prop := fun vs H Q => ∃ H0 ds d, Ext H0 H ∧ RdAll T H0 H ds vs ∧ g ds = some d ∧ ∀ v H0' H', Gr H0 H H0' H' → RepG T H0' H' H d v → Q v H'
theorem readB {σ : L2.St} {H : Hp} {Q : VK} {B : B} (h : tI C W cl (.bi B es') σ H Q) : tCB (rDn C.T (biD B)) (tAR C W cl es') σ H Q := by
  obtain ⟨H0, env, S, q⟩ := h
  simp only [ev] at q
  refine ⟨H0, env, S, ?_⟩
  cases z : evR cl es' env with
  | ok us env3 =>
    simp only [z, R.bind_ok] at q
    intro H1 H1' e1 S1 vs hv
    obtain ⟨ds, hd, q1⟩ := (RQ.mono e1 q).orB
    obtain ⟨d, hg, q1⟩ := q1.orB
    exact ⟨H1, ds, d, S1.ex, hv.rd S1 hd, hg, fun v H0' H' g r => fin_nw S1 q1 g r⟩
  | exc x env3 => simp only [z] at q; exact q
  | bad => simp only [z] at q; exact q
theorem c_biB {x : Str} {p : Pos} {id : String} {B : B} (hc : CallR X (.builtin id) (rDn C.T (biD B))) (hg : Gl X x) (hm : X.mg x = none) (hv : bootBuiltins x = some (.builtin id)) (ha : PA X (e :: es) (tAR C W cl es')) (hn : x ≠ "__name__" := by decide) (hdb : (x == ("__debug__" : Str)) = false := by decide)
    (he : starEach (e :: es) X.env = (false, eval e X.env) :: starEach es X.env := by rfl) (hpl : (backTo pos (starEach es X.env)).any (·.1) = false := by rfl) : PE X (.Call (.Name x p) (e :: es) [] pos) (tI C W cl (.bi B es')) :=
  peI (pe_callB hc hg hm hv ha hn hdb he hpl) fun _ _ _ q => readB q
theorem c_biT {x : Str} {p : Pos} {id : String} {B : B} (hc : CallR X (.type id) (rDn C.T (biD B))) (hg : Gl X x) (hm : X.mg x = none) (hv : bootBuiltins x = some (.type id)) (ha : PA X (e :: es) (tAR C W cl es')) (hn : x ≠ "__name__" := by decide) (hdb : (x == ("__debug__" : Str)) = false := by decide)
    (he : starEach (e :: es) X.env = (false, eval e X.env) :: starEach es X.env := by rfl) (hpl : (backTo pos (starEach es X.env)).any (·.1) = false := by rfl) : PE X (.Call (.Name x p) (e :: es) [] pos) (tI C W cl (.bi B es')) :=
  peI (pe_callTy hc hg hm hv ha hn hdb he hpl) fun _ _ _ q => readB q
theorem callI {f : Value} {r r' : List V → Hp → VK → Prop} (h : CallR X f r) (i : ∀ xs H Q, r' xs H Q → r xs H Q) : CallR X f r' := fun pins s σ H xs us Q I rx q => h pins s σ H xs us Q I rx (i xs H Q q)
theorem rd1 {T : Tbl} {H0 H : Hp} {d : D} {vs : List V} (h : RdAll T H0 H [d] vs) : ∃ v, vs = [v] ∧ RdV T H0 H d v := by
  obtain ⟨v, r, rfl, h1, h2⟩ := h
  cases h2
  exact ⟨v, rfl, h1⟩
theorem rd2 {T : Tbl} {H0 H : Hp} {d d' : D} {vs : List V} (h : RdAll T H0 H [d, d'] vs) : ∃ v v', vs = [v, v'] ∧ RdV T H0 H d v ∧ RdV T H0 H d' v' := by
  obtain ⟨v, r, rfl, h1, v', r', rfl, h2, h3⟩ := h
  cases h3
  exact ⟨v, v', rfl, h1, h2⟩
theorem b_len (hK : X.K = C.T.K) : CallR X (.builtin "len") (rDn C.T (biD .len)) := callI call_len_seq fun xs H Q ⟨H0, ds, d, e, hr, hg, q⟩ => by
  match ds, hg with
  | [.lst ys], hg =>
    cases hg
    obtain ⟨v, rfl, h1⟩ := rd1 hr
    obtain ⟨a, us, rfl, h2, h3⟩ := rd_lst e h1
    exact ⟨a, us, rfl, .inl (.inl h2), q _ _ _ (Gr.rfl' e) (.flat rfl (by rw [h3.len]; exact r_int _ _ _))⟩
  | [.tup ys], hg =>
    cases hg
    obtain ⟨v, rfl, h1⟩ := rd1 hr
    obtain ⟨a, us, rfl, h2, h3⟩ := rd_tup e h1
    exact ⟨a, us, rfl, .inr (hK ▸ h2), q _ _ _ (Gr.rfl' e) (.flat rfl (by rw [h3.len]; exact r_int _ _ _))⟩
  | [.kst ys], hg =>
    cases hg
    obtain ⟨v, rfl, h1⟩ := rd1 hr
    obtain ⟨a, us, rfl, h2, h3⟩ := rd_kst e h1
    exact ⟨a, us, rfl, .inl (hK ▸ h2), q _ _ _ (Gr.rfl' e) (.flat rfl (by rw [h3.len]; exact r_int _ _ _))⟩
theorem b_int : CallR X (.type "int") (rDn C.T (biD .int)) := callI call_int1 fun xs H Q ⟨H0, ds, d, e, hr, hg, q⟩ => by
  match ds, hg with
  | [.int i], hg =>
    cases hg
    obtain ⟨v, rfl, h1⟩ := rd1 hr
    cases rd_int h1
    exact .inl ⟨i, rfl, q _ _ _ (Gr.rfl' e) (.flat rfl (r_int _ _ _))⟩
  | [.bl i], hg =>
    cases hg
    obtain ⟨v, rfl, h1⟩ := rd1 hr
    cases rd_bl h1
    exact .inr ⟨i, rfl, q _ _ _ (Gr.rfl' e) (.flat rfl (r_int _ _ _))⟩
theorem b_abs : CallR X (.builtin "abs") (rDn C.T (biD .abs)) := callI call_abs fun xs H Q ⟨H0, ds, d, e, hr, hg, q⟩ => by
  match ds, hg with
  | [.int i], hg =>
    cases hg
    obtain ⟨v, rfl, h1⟩ := rd1 hr
    cases rd_int h1
    exact ⟨i, rfl, q _ _ _ (Gr.rfl' e) (.flat rfl (r_int _ _ _))⟩
theorem b_max (hc : X.calm = true) : CallR X (.builtin "max") (rDn C.T (biD .max2)) := callI (call_max2 hc) fun xs H Q ⟨H0, ds, d, e, hr, hg, q⟩ => by
  match ds, hg with
  | [.int i, .int j], hg =>
    cases hg
    obtain ⟨v, v', rfl, h1, h2⟩ := rd2 hr
    cases rd_int h1
    cases rd_int h2
    exact ⟨i, j, rfl, q _ _ _ (Gr.rfl' e) (.flat rfl (r_int _ _ _))⟩
theorem b_min (hc : X.calm = true) : CallR X (.builtin "min") (rDn C.T (biD .min2)) := callI (call_min2 hc) fun xs H Q ⟨H0, ds, d, e, hr, hg, q⟩ => by
  match ds, hg with
  | [.int i, .int j], hg =>
    cases hg
    obtain ⟨v, v', rfl, h1, h2⟩ := rd2 hr
    cases rd_int h1
    cases rd_int h2
    exact ⟨i, j, rfl, q _ _ _ (Gr.rfl' e) (.flat rfl (r_int _ _ _))⟩
theorem b_list (hK : X.K = C.T.K) : CallR X (.type "list") (rDn C.T (biD .list)) := callI call_list_of fun xs H Q ⟨H0, ds, d, e, hr, hg, q⟩ => by
  match ds, hg with
  | [.lst ys], hg =>
    cases hg
    obtain ⟨v, rfl, h1⟩ := rd1 hr
    obtain ⟨a, us, rfl, h2, h3⟩ := rd_lst e h1
    exact ⟨a, us, rfl, .inl (.inl h2), fun l hl => q _ _ _ (Gr.own e hl) (.lst e hl h3)⟩
  | [.tup ys], hg =>
    cases hg
    obtain ⟨v, rfl, h1⟩ := rd1 hr
    obtain ⟨a, us, rfl, h2, h3⟩ := rd_tup e h1
    exact ⟨a, us, rfl, .inr (hK ▸ h2), fun l hl => q _ _ _ (Gr.own e hl) (.lst e hl h3)⟩
  | [.kst ys], hg =>
    cases hg
    obtain ⟨v, rfl, h1⟩ := rd1 hr
    obtain ⟨a, us, rfl, h2, h3⟩ := rd_kst e h1
    exact ⟨a, us, rfl, .inl (hK ▸ h2), fun l hl => q _ _ _ (Gr.own e hl) (.lst e hl h3)⟩
end
end PP
end

section
set_option maxHeartbeats 1000000
namespace PP
open PySem L2
section
variable {X : Cx} {C : Ctx} {W : WX} {cl : CallF} {e a b c : Expr} {es : List Expr} {e' a' b' c' : Ex} {es' : Exs} {pos : Pos}
/-! isinstance -/
def tyN : D → String
  | .non => "NoneType" | .bl _ => "bool" | .int _ => "int" | .str _ => "str" | .lst _ => "list" | .tup _ => "tuple" | .kst _ => "list" | .dK _ _ => "dict" | .dT _ _ => "dict" | .obj _ _ _ => "object"
def isObjD : D → Bool
  | .obj _ _ _ => true | _ => false
theorem tyx {T : Tbl} {H0 H : Hp} {d : D} {v : V} (hK : X.K = T.K) (e : Ext H0 H) (h : RdV T H0 H d v) (ho : isObjD d = false) : TyX X.K H v (.type (tyN d)) := by
  cases d with
  | non => cases rd_non h; exact .base .non
  | bl b => cases rd_bl h; exact .base (.bl _)
  | int b => cases rd_int h; exact .base (.int _)
  | str b => cases rd_str h; exact .base (.str _)
  | lst ds =>
    obtain ⟨a, xs, rfl, h1, h2⟩ := rd_lst e h
    rcases h1 with h1 | ⟨o, h1⟩
    · exact .base (.lst h1)
    · exact .base (.frz h1)
  | tup ds =>
    obtain ⟨a, xs, rfl, h1, h2⟩ := rd_tup e h
    rcases h1 with (h1 | ⟨o, h1⟩) | ⟨o, its, n, h1, h3, _⟩
    · exact .base (.tup h1)
    · exact .fTuple h1
    · exact .kTuple (hK ▸ h1) h3
  | kst ds =>
    obtain ⟨a, xs, rfl, h1, h2⟩ := rd_kst e h
    rcases h1 with (h1 | ⟨o, h1⟩) | ⟨o, its, n, h1, h3, _⟩
    · exact .base (.lst h1)
    · exact .base (.frz h1)
    · exact .kList (hK ▸ h1) h3
  | dK ks ds =>
    obtain ⟨a, xs, rfl, h1, h2⟩ := rd_dK e h
    exact .base (.dK h1)
  | dT ks ds =>
    rcases h with h | h
    · simp only [Rep] at h
      obtain ⟨a, xs, rfl, h1, h2⟩ := h
      exact .base (.dT (e _ _ h1))
    · obtain ⟨a, xs, rfl, h0, h1, h2⟩ := h
      exact .base (.dT h1)
  | obj c ks ds => cases ho
/-- isinstance(e, T), T built-in -/
theorem c_isi {p : Pos} {B : B} {n : String} (hK : X.K = C.T.K) (hB : ∀ d z, biD B [d] = some z → ∃ r, z = .bl r ∧ isObjD d = false ∧ kitB (tyN d) n = some r) (hg : Gl X "isinstance") (hm : X.mg "isinstance" = none)
    (ha : PE X e (tI C W cl e')) (hb : PE X b (tC (.ty n))) (he : starEach [e, b] X.env = (false, eval e X.env) :: starEach [b] X.env := by rfl) (he2 : starEach [b] X.env = (false, eval b X.env) :: starEach [] X.env := by rfl)
    (hpl : (backTo pos (starEach [b] X.env)).any (·.1) = false := by rfl) : PE X (.Call (.Name "isinstance" p) [e, b] [] pos) (tI C W cl (.bi B (.cons e' .nil))) :=
  peI (pe_callB call_isi hg hm (by decide +kernel) (pa_cons ha (pa_cons hb pa_nil he2) he) (by decide) (by decide) he hpl) fun σ H Q ⟨H0, env, S, q⟩ => by
    simp only [ev, evR] at q
    have q' : RQ C W σ (KV C σ Q) H0 ((ev cl e' env).bind fun u env1 => orBad (rdAll env1 [pend u]) fun ds => orBad (biD B ds) fun z => .ok (.nw z) env1) := by
      cases z : ev cl e' env <;> simp only [z, R.bind_ok, R.bind_exc, R.bind_bad] at q ⊢ <;> exact q
    refine seqI S q' fun u env1 v H1 H1' e1 S1 u1 q1 => ?_
    obtain ⟨H2, e2, S2, u2⟩ := S1.pend u1
    obtain ⟨ds, hd, q1⟩ := q1.orB
    obtain ⟨z, hz, q1⟩ := q1.orB
    unfold rdAll at hd
    split at hd
    · rename_i d ds' h1 h2
      cases h2
      cases hd
      obtain ⟨r, rfl, ho, hk⟩ := hB d z hz
      exact ⟨v, _, _, _, r, rfl, .ty n, tyx hK S2.ex (S2.rd u2 h1) ho, kit_ty hk, fin_nw S2 (RQ.mono e2 q1) (Gr.rfl' S2.ex) (.flat rfl (r_bl _ _ _))⟩
    · cases hd
theorem isi_int : ∀ d z, biD .isInt [d] = some z → ∃ r, z = .bl r ∧ isObjD d = false ∧ kitB (tyN d) "int" = some r := by
  intro d z h
  cases d <;> simp only [biD] at h <;> first | (cases h; done) | (cases h; exact ⟨_, rfl, rfl, by simp only [tyN]; decide +kernel⟩)
theorem isi_bool : ∀ d z, biD .isBool [d] = some z → ∃ r, z = .bl r ∧ isObjD d = false ∧ kitB (tyN d) "bool" = some r := by
  intro d z h
  cases d <;> simp only [biD] at h <;> first | (cases h; done) | (cases h; exact ⟨_, rfl, rfl, by simp only [tyN]; decide +kernel⟩)
theorem isi_tuple : ∀ d z, biD .isTuple [d] = some z → ∃ r, z = .bl r ∧ isObjD d = false ∧ kitB (tyN d) "tuple" = some r := by
  intro d z h
  cases d <;> simp only [biD] at h <;> first | (cases h; done) | (cases h; exact ⟨_, rfl, rfl, by simp only [tyN]; decide +kernel⟩)
theorem isi_list : ∀ d z, biD .isList [d] = some z → ∃ r, z = .bl r ∧ isObjD d = false ∧ kitB (tyN d) "list" = some r := by
  intro d z h
  cases d <;> simp only [biD] at h <;> first | (cases h; done) | (cases h; exact ⟨_, rfl, rfl, by simp only [tyN]; decide +kernel⟩)
theorem isi_str : ∀ d z, biD .isStr [d] = some z → ∃ r, z = .bl r ∧ isObjD d = false ∧ kitB (tyN d) "str" = some r := by
  intro d z h
  cases d <;> simp only [biD] at h <;> first | (cases h; done) | (cases h; exact ⟨_, rfl, rfl, by simp only [tyN]; decide +kernel⟩)
/-! is, is not -/
theorem rel_ne {x : V} {v : Value} {b : Bool} (rx : RelV x v) (h : x ≠ .bl b) : v ≠ .bool b := fun q => by
  subst q
  cases x with
  | bl c => cases (show Value.bool b = Value.bool c from rx); exact h rfl
  | int i => obtain ⟨t, q⟩ := rx; cases q
  | str i => obtain ⟨t, q⟩ := rx; cases q
  | byt i => obtain ⟨t, q⟩ := rx; cases q
  | flt i => obtain ⟨t, q⟩ := rx; cases q
  | non => cases (show Value.bool b = Value.none from rx)
  | ref a => cases (show Value.bool b = Value.ref a from rx)
  | ty n => cases (show Value.bool b = Value.type n from rx)
theorem plain_bl {x : V} {v : Value} {b : Bool} (rx : RelV x v) : plainIs v (.bool b) = true := by
  cases x with
  | bl c => cases (show v = Value.bool c from rx); rfl
  | int i => obtain ⟨t, rfl⟩ := rx; rfl
  | str i => obtain ⟨t, rfl⟩ := rx; rfl
  | byt i => obtain ⟨t, rfl⟩ := rx; rfl
  | flt i => obtain ⟨t, rfl⟩ := rx; rfl
  | non => cases (show v = Value.none from rx); rfl
  | ref a => cases (show v = Value.ref a from rx); rfl
  | ty n => cases (show v = Value.type n from rx); rfl
theorem op_isB : OpR X (compareOp .Is) (fun x y H Q => ∃ b, y = .bl b ∧ Q (.bl (decide (x = .bl b))) H) := by
  intro pins s σ H x y v u Q I rx ry ⟨b, hy, q⟩
  subst hy
  cases (show u = Value.bool b from ry)
  by_cases h : x = .bl b
  · subst h
    cases (show v = Value.bool b from rx)
    exact wpAny_is_self rfl ⟨.bl true, H, I, rfl, by simpa using q⟩
  · exact wpAny_is_other (plain_bl rx) (rel_ne rx h) ⟨.bl false, H, I, rfl, by simpa [h] using q⟩
theorem op_isnotB : OpR X (compareOp .IsNot) (fun x y H Q => ∃ b, y = .bl b ∧ Q (.bl (!decide (x = .bl b))) H) := by
  intro pins s σ H x y v u Q I rx ry ⟨b, hy, q⟩
  subst hy
  cases (show u = Value.bool b from ry)
  by_cases h : x = .bl b
  · subst h
    cases (show v = Value.bool b from rx)
    exact wpAny_isNot_self rfl ⟨.bl false, H, I, rfl, by simpa using q⟩
  · exact wpAny_isNot_other (plain_bl rx) (rel_ne rx h) ⟨.bl true, H, I, rfl, by simpa [h] using q⟩
/-- a value stands for one thing -/
theorem rd_kind {T : Tbl} {H0 H : Hp} {d : D} {v : V} (h : RdV T H0 H d v) : (v = .non ↔ d = .non) ∧ ∀ b, v = .bl b ↔ d = .bl b := by
  cases d with
  | non => cases rd_non h; simp
  | bl b => cases rd_bl h; simp
  | int b => cases rd_int h; simp
  | str b => cases rd_str h; simp
  | lst ds => rcases h with h | h; (simp only [Rep] at h; obtain ⟨a, _, rfl, _⟩ := h; simp); (obtain ⟨a, _, rfl, _⟩ := h; simp)
  | tup ds => rcases h with h | h; (simp only [Rep] at h; obtain ⟨a, _, rfl, _⟩ := h; simp); exact h.elim
  | kst ds => rcases h with h | h; (simp only [Rep] at h; obtain ⟨a, _, rfl, _⟩ := h; simp); exact h.elim
  | dK ks ds => rcases h with h | h; (simp only [Rep] at h; obtain ⟨a, _, rfl, _⟩ := h; simp); (obtain ⟨a, _, rfl, _⟩ := h; simp)
  | dT ks ds => rcases h with h | h; (simp only [Rep] at h; obtain ⟨a, _, rfl, _⟩ := h; simp); (obtain ⟨a, _, rfl, _⟩ := h; simp)
  | obj k ks ds => rcases h with h | h; (simp only [Rep] at h; obtain ⟨a, _, _, _, rfl, _⟩ := h; simp); (obtain ⟨a, _, _, _, rfl, _⟩ := h; simp)
theorem is_inv {x y d : D} (h : op2 .is x y = some d) : (y = .non ∧ d = .bl (decide (tyN x = "NoneType"))) ∨ ∃ b, y = .bl b ∧ ∃ r, d = .bl r ∧ (r = true ↔ x = .bl b) := by
  cases y with
  | non => refine .inl ⟨rfl, ?_⟩; cases x <;> cases h <;> rfl
  | bl b => refine .inr ⟨b, rfl, ?_⟩; cases x <;> cases h <;> exact ⟨_, rfl, by first | (simp; done) | (simp; exact eq_comm)⟩
  | _ => cases x <;> cases h
theorem isnot_inv {x y d : D} (h : op2 .isnot x y = some d) : (y = .non ∧ d = .bl (!decide (tyN x = "NoneType"))) ∨ ∃ b, y = .bl b ∧ ∃ r, d = .bl (!r) ∧ (r = true ↔ x = .bl b) := by
  cases y with
  | non => refine .inl ⟨rfl, ?_⟩; cases x <;> cases h <;> rfl
  | bl b => refine .inr ⟨b, rfl, ?_⟩; cases x <;> cases h <;> first | exact ⟨false, rfl, by simp⟩ | exact ⟨_, rfl, by first | (simp; done) | (simp; exact eq_comm)⟩
  | _ => cases x <;> cases h
theorem tyN_non {d : D} : tyN d = "NoneType" ↔ d = .non := by cases d <;> simp [tyN]
theorem o_is {T : Tbl} : OpR X (compareOp .Is) (rD T (op2 .is)) := orI (op_isN.or op_isB) fun x y H Q ⟨H0, dx, dy, d, e, hx, hy, hg, q⟩ => by
  rcases is_inv hg with ⟨rfl, rfl⟩ | ⟨b, rfl, r, rfl, hr⟩
  · refine .inl ⟨rd_non hy, ?_⟩
    have : decide (x = V.non) = decide (tyN dx = "NoneType") := decide_eq_decide.mpr ((rd_kind hx).1.trans tyN_non.symm)
    rw [this]
    exact q _ _ _ (Gr.rfl' e) (.flat rfl (r_bl _ _ _))
  · refine .inr ⟨b, rd_bl hy, ?_⟩
    have : decide (x = V.bl b) = r := by rw [Bool.eq_iff_iff, decide_eq_true_iff, hr]; exact (rd_kind hx).2 b
    rw [this]
    exact q _ _ _ (Gr.rfl' e) (.flat rfl (r_bl _ _ _))
theorem o_isnot {T : Tbl} : OpR X (compareOp .IsNot) (rD T (op2 .isnot)) := orI (op_notN.or op_isnotB) fun x y H Q ⟨H0, dx, dy, d, e, hx, hy, hg, q⟩ => by
  rcases isnot_inv hg with ⟨rfl, rfl⟩ | ⟨b, rfl, r, rfl, hr⟩
  · refine .inl ⟨rd_non hy, ?_⟩
    have : decide (x = V.non) = decide (tyN dx = "NoneType") := decide_eq_decide.mpr ((rd_kind hx).1.trans tyN_non.symm)
    rw [this]
    exact q _ _ _ (Gr.rfl' e) (.flat rfl (r_bl _ _ _))
  · refine .inr ⟨b, rd_bl hy, ?_⟩
    have : decide (x = V.bl b) = r := by rw [Bool.eq_iff_iff, decide_eq_true_iff, hr]; exact (rd_kind hx).2 b
    rw [this]
    exact q _ _ _ (Gr.rfl' e) (.flat rfl (r_bl _ _ _))
/-! repr -/
theorem reprV {pins : List (Addr × Obj)} {s : Shared} {σ : L2.St} {H : Hp} {v : V} {u : Value} {p : PyData} {Q : VK} (hgd : X.A.guards = some []) (hu : X.A.units + 200 < cLine) (I : Inv X pins σ H s) (rv : RelV v u) (h : Dp X.K H v p)
    (h1 : p.showable = true) (h2 : p.hasDict = false) (h3 : p.shown.length ≤ sizeLine) (h4 : p.depth ≤ 64) (q : Q (.str p.shown) H) : wpAny (model X.prog X.w) X.A (call (.builtin "repr") [u]) (EP X pins σ Q) X.xe s := by
  cases h with
  | non => cases (show u = Value.none from rv); exact P.repr_of_none ⟨.str _, H, I.tok _, ⟨_, rfl⟩, by simpa only [PyData.shown] using q⟩
  | bl b => cases (show u = Value.bool b from rv); exact P.repr_of_bool ⟨.str _, H, I.tok _, ⟨_, rfl⟩, by simpa only [PyData.shown] using q⟩
  | int i =>
    obtain ⟨t, rfl⟩ := rv
    exact P.repr_of_int (by simpa [PyData.showable] using h1) ⟨.str _, H, I.tok _, ⟨_, rfl⟩, by simpa only [PyData.shown] using q⟩
  | str z =>
    obtain ⟨t, rfl⟩ := rv
    exact P.repr_of_str ⟨.str _, H, I.tok _, ⟨_, rfl⟩, by simpa only [PyData.shown] using q⟩ (by simpa only [PyData.shown] using h3)
  | @lst a xs ds ha hd =>
    obtain ⟨as, r⟩ := Dp.reads I _ _ _ (.lst ha hd) rv
    cases (show u = Value.ref a from rv)
    exact repr_of_reads' r h1 (PyData.noDict_hsm h2) hgd (by omega) (fun b o z => z) (fun h' t tk hk => ⟨.str _, H, I.kept hk, ⟨_, rfl⟩, q⟩) h3
  | @tup a xs ds ha hd =>
    obtain ⟨as, r⟩ := Dp.reads I _ _ _ (.tup ha hd) rv
    cases (show u = Value.ref a from rv)
    exact repr_of_reads' r h1 (PyData.noDict_hsm h2) hgd (by omega) (fun b o z => z) (fun h' t tk hk => ⟨.str _, H, I.kept hk, ⟨_, rfl⟩, q⟩) h3
theorem b_repr (hK : X.K = C.T.K) (hgd : X.A.guards = some []) (hu : X.A.units + 200 < cLine) : CallR X (.builtin "repr") (rDn C.T (biD .repr)) := fun pins s σ H xs us Q I rx ⟨H0, ds, d, e, hr, hg, q⟩ => by
  match ds, hg with
  | [x], hg =>
    obtain ⟨v, rfl, h1⟩ := rd1 hr
    obtain ⟨u, rfl, ru⟩ := vals1 rx
    simp only [biD] at hg
    split at hg
    · rename_i p hp
      split at hg
      · rename_i hc
        cases hg
        simp only [Bool.and_eq_true, Bool.not_eq_true', decide_eq_true_eq] at hc
        obtain ⟨⟨⟨c1, c2⟩, c3⟩, c4⟩ := hc
        exact reprV hgd hu I ru (dp_rd hK e hp h1) c1 c2 (Nat.le_trans c3 lim_line) c4 (q _ _ _ (Gr.rfl' e) (.flat rfl (r_str _ _ _)))
      · cases hg
    · cases hg
/-! a slice of a list -/
theorem repAll_cut {T : Tbl} {H : Hp} {ds : List D} {vs : List V} (h : RepAll T H ds vs) (lo hi : Option Int) : RepAll T H (cutD ds lo hi) (cutV vs lo hi) := by
  unfold cutD cutV
  rw [h.len]
  exact (h.drop _).take _
def tP (C : Ctx) (W : WX) (cl : CallF) (b : Bool) (e : Ex) : TO := fun σ H Q => ∃ H0 env, Sim C σ H0 H env ∧ RQ C W σ (fun b _ _ H' => Q b H') H0 (optP b (ev cl e) env)
theorem so_none {e' : Ex} : PO X none (tP C W cl false e') := ⟨fun pins s σ H Q I ⟨H0, env, S, q⟩ => po_none.run pins s σ H Q I (q H0 H (Ext.rfl' _) S)⟩
theorem so_some (h : PE X e (tI C W cl e')) : PO X (some e) (tP C W cl true e') :=
  ⟨fun pins s σ H Q I ⟨H0, env, S, q⟩ => (po_some h).run pins s σ H Q I (seqI S q fun u env1 x H1 H1' e1 S1 u1 q1 => by
    obtain ⟨d, hd, q1⟩ := q1.orB
    cases d with
    | int i =>
      cases rd_int (S1.rd u1 hd)
      exact ⟨i, rfl, q1 H1 H1' (Ext.rfl' _) S1⟩
    | _ => exact q1.elim)⟩
theorem seqP {σ : L2.St} {H0 H : Hp} {env : Env} {bb : Bool} {β : Type} {K : β → Env → Hp → Hp → Prop} {f : Option Int → Env → R β} (S : Sim C σ H0 H env) (h : RQ C W σ K H0 ((optP bb (ev cl a') env).bind f)) {Q : Option Int → Hp → Prop}
    (hQ : ∀ b env1 H01 H1, Ext H0 H01 → Sim C σ H01 H1 env1 → RQ C W σ K H01 (f b env1) → Q b H1) : tP C W cl bb a' σ H Q := by
  refine ⟨H0, env, S, ?_⟩
  cases q : optP bb (ev cl a') env with
  | ok u env1 =>
    rw [q] at h
    exact fun H01 H1 e s => hQ u env1 H01 H1 e s (RQ.mono e h)
  | exc x env1 =>
    rw [q] at h
    exact fun cls d H0' H' e s x => h cls d H0' H' e s x
  | bad => rw [q] at h; exact h
theorem c_slice {lo hi : Option Expr} {bl bh : Bool} {l h : Ex} {p2 : Pos} (hK : X.K = C.T.K) (ha : PE X a (tI C W cl a')) (hl : PO X lo (tP C W cl bl l)) (hh : PO X hi (tP C W cl bh h)) : PE X (.Subscript a (.Slice lo hi none p2) pos) (tI C W cl (.slice a' bl bh l h)) :=
  peI (pe_slice sl_list ha hl hh) fun σ H Q ⟨H0, env, S, q⟩ => by
    simp only [ev] at q
    refine seqI S q fun u env1 x H1 H1' e1 S1 u1 q1 => ?_
    obtain ⟨H1f, e1f, S1f, u1f⟩ := S1.pend u1
    refine seqP S1f (RQ.mono e1f q1) fun lv env2 H2 H2' e2 S2 q2 => ?_
    refine seqP S2 q2 fun hv env3 H3 H3' e3 S3 q3 => ?_
    obtain ⟨dx, hx, q3⟩ := q3.orB
    cases dx with
    | lst xs =>
      obtain ⟨a, us, rfl, h1, h2⟩ := rd_lst S3.ex (S3.rd (u1f.wait (e2.tr e3)) hx)
      exact ⟨a, us, rfl, .inl h1, fun p hp => fin_nw S3 q3 (Gr.own S3.ex hp) (.lst S3.ex hp (repAll_cut h2 _ _))⟩
    | kst xs =>
      obtain ⟨a, us, rfl, h1, h2⟩ := rd_kst S3.ex (S3.rd (u1f.wait (e2.tr e3)) hx)
      exact ⟨a, us, rfl, hK ▸ h1, fun p hp => fin_nw S3 q3 (Gr.own S3.ex hp) (.lst S3.ex hp (repAll_cut h2 _ _))⟩
    | _ => exact q3.elim
end
end PP
end

section
set_option maxHeartbeats 1000000
/-! statements -/
namespace PP
open PySem L2

theorem getS_set (env : Env) (i j : Nat) (s : Sl) : getS (env.set i s) j = if i = j ∧ i < env.length then s else getS env j := by
  unfold getS
  simp only [List.getD_eq_getElem?_getD, List.getElem?_set]
  by_cases h : i = j
  · subst h
    by_cases l : i < env.length <;> simp [l]
  · simp [h]
section
variable {C : Ctx} {W : WX} {σ : L2.St} {cl : CallF} {H0 H H0' H' : Hp} {env : Env}
theorem Sim.store (S : Sim C σ H0 H env) {i : Nat} {v : V} {s : Sl} (hs : isIO s = false) (h : SlOk C H0 H i (some (some v)) s)
    (hd : ∀ a, v = .ref a → ownS s = true → ∀ j, j ≠ i → ownS (getS env j) = true → σ[j]? ≠ some (some (.ref a))) : Sim C (σ.set i (some v)) H0 H (env.set i s) := by
  by_cases hl : i < env.length
  · have hl' : i < σ.length := by rw [← S.len]; exact hl
    refine { ok := S.ok, ex := S.ex, ex0 := S.ex0, fresh := S.fresh, keep := S.keep, ioH := S.ioH, len := by simp only [List.length_set]; exact S.len, slots := fun j => ?_, inj := fun j k a hjk hj hk ej ek => ?_ }
    · rw [getS_set, List.getElem?_set]
      by_cases z : i = j
      · subst z; simpa [hl, hl'] using h
      · simpa [z] using S.slots j
    · rw [getS_set] at hj hk
      rw [List.getElem?_set] at ej ek
      by_cases z : i = j
      · subst z
        simp only [hl, hl', and_self, if_true, true_and, if_pos] at hj ej
        have zk : ¬ i = k := hjk
        simp only [zk, false_and, if_false] at hk ek
        simp only [Option.some.injEq] at ej
        exact hd a ej hj k (fun q => zk q.symm) hk ek
      · simp only [z, false_and, if_false] at hj ej
        by_cases zk : i = k
        · subst zk
          simp only [hl, hl', and_self, if_true, true_and, if_pos] at hk ek
          simp only [Option.some.injEq] at ek
          exact hd a ek hk j (fun q => z q.symm) hj ej
        · simp only [zk, false_and, if_false] at hk ek
          exact S.inj j k a hjk hj hk ej ek
  · have e1 : env.set i s = env := List.set_eq_of_length_le (by omega)
    have e2 : σ.set i (some v) = σ := List.set_eq_of_length_le (by rw [← S.len]; omega)
    rw [e1, e2]
    exact S
/-- name = value -/
theorem Sim.asg (S : Sim C σ H0 H env) {i : Nat} {u : U} {v : V} {env2 : Env} (h : UOk C σ H0 H env u v) (ha : asgU env i u = some env2) : ∃ H0', Ext H0 H0' ∧ Sim C (σ.set i (some v)) H0' H env2 := by
  unfold asgU at ha
  · cases u with
    | d x =>
      cases ha
      exact ⟨H0, Ext.rfl' _, S.store rfl ⟨v, rfl, h⟩ fun _ _ q => by cases q⟩
    | nw x =>
      simp only [Option.some.injEq] at ha
      subst ha
      have h' : RepN C σ H0 H env x v := h
      unfold RepN at h'
      split at h'
      · rename_i hm
        obtain ⟨a, rfl, h1, h2, h3⟩ := h'
        have e : slOf (.nw x) x = .ow x := by cases x <;> first | rfl | cases hm
        rw [e]
        exact ⟨H0, Ext.rfl' _, S.store rfl ⟨a, rfl, h1, h2⟩ fun b hb _ j _ hj => by cases hb; exact h3 j hj⟩
      · rename_i hm
        have e : slOf (.nw x) x = .fz x := by cases x <;> first | rfl | exact (hm rfl).elim
        rw [e]
        exact ⟨H0, Ext.rfl' _, S.store rfl ⟨v, rfl, h'⟩ fun _ _ q => by cases q⟩
    | sl j =>
      simp only [Option.map_eq_some_iff] at ha
      obtain ⟨⟨d, env1⟩, hf, rfl⟩ := ha
      obtain ⟨H1, e1, S1, r1⟩ := S.take h hf
      exact ⟨H1, e1, S1.store rfl ⟨v, rfl, r1⟩ fun _ _ q => by cases q⟩
/-- an owned list at a slot -/
theorem Sim.ls (S : Sim C σ H0 H env) {i : Nat} (h : isLs (getS env i) = true) : ∃ a ds, σ[i]? = some (some (.ref a)) ∧ rdS (getS env i) = some (.lst ds) ∧ ownS (getS env i) = true ∧ RepO C.T H0 H (.lst ds) (.ref a) := by
  have hi := S.slots i
  cases z : getS env i with
  | un => rw [z] at h; cases h
  | fz d => rw [z] at h; cases h
  | ow d =>
    rw [z] at h hi
    obtain ⟨a, h1, _, h3⟩ := hi
    cases d <;> first | (cases h; done) | exact ⟨a, _, h1, rfl, rfl, h3⟩
  | io d =>
    rw [z] at h hi
    obtain ⟨a, h1, _, h3⟩ := hi
    cases d <;> first | (cases h; done) | exact ⟨a, _, h1, rfl, rfl, h3⟩
theorem own_setIO {s : Sl} {d : D} : ownS (setIO s d) = ownS s := by cases s <;> rfl
/-- an owned thing changes -/
theorem Sim.mut (S : Sim C σ H0 H env) {i : Nat} {a : Addr} {o : HO} {d : D} (ho : ownS (getS env i) = true) (e : σ[i]? = some (some (.ref a))) (h : RepO C.T H0 (upd H a o) d (.ref a)) : Sim C σ H0 (upd H a o) (env.set i (setIO (getS env i) d)) := by
  have hl : i < env.length := by rw [S.len]; exact (List.getElem?_eq_some_iff.mp e).1
  have hi := S.slots i
  have hw : C.He a = none ∨ C.io a := by
    cases z : getS env i with
    | un => rw [z] at ho; cases ho
    | fz x => rw [z] at ho; cases ho
    | ow x => rw [z] at hi; obtain ⟨b, h1, h2, _⟩ := hi; rw [e] at h1; cases h1; exact .inl h2
    | io x => rw [z] at hi; obtain ⟨b, h1, h2, _⟩ := hi; rw [e] at h1; cases h1; exact .inr (List.mem_of_getElem? h2)
  refine { ok := S.ok, ex := fun b u q => ?_, ex0 := S.ex0, fresh := S.fresh, keep := fun b u q z => ?_, ioH := fun b z q => ?_, len := by simp only [List.length_set]; exact S.len, slots := fun j => ?_, inj := fun j k b hjk hj hk ej ek => ?_ }
  · have z : b ≠ a := fun z => by subst z; rw [(S.own ho e).1] at q; cases q
    rw [upd_ne z]; exact S.ex _ _ q
  · have z2 : b ≠ a := fun z2 => by
      subst z2
      rcases hw with w | w
      · rw [w] at q; cases q
      · exact z w
    rw [upd_ne z2]; exact S.keep _ _ q z
  · by_cases z2 : b = a
    · subst z2; rw [upd_same] at q; cases q
    · rw [upd_ne z2] at q; exact S.ioH b z q
  · rw [getS_set]
    by_cases z : i = j
    · subst z
      simp only [hl, and_self, if_true]
      cases z : getS env i with
      | un => rw [z] at ho; cases ho
      | fz x => rw [z] at ho; cases ho
      | ow x => rw [z] at hi; obtain ⟨b, h1, h2, _⟩ := hi; rw [e] at h1; cases h1; exact ⟨a, e, h2, h⟩
      | io x => rw [z] at hi; obtain ⟨b, h1, h2, _⟩ := hi; rw [e] at h1; cases h1; exact ⟨a, e, h2, h⟩
    · simp only [z, false_and, if_false]
      refine (S.slots j).step (Ext.rfl' _) fun b hb eb => ⟨(S.own hb eb).1, ?_⟩
      exact upd_ne fun zb => S.inj i j a z ho hb e (by rw [← zb]; exact eb)
  · rw [getS_set] at hj hk
    have hj' : ownS (getS env j) = true := by
      split at hj
      · rename_i z; rw [← z.1]; exact ho
      · exact hj
    have hk' : ownS (getS env k) = true := by
      split at hk
      · rename_i z; rw [← z.1]; exact ho
      · exact hk
    exact S.inj j k b hjk hj' hk' ej ek
/-- a name is let go -/
theorem Sim.drop (S : Sim C σ H0 H env) (i : Nat) : Sim C σ H0 H (env.set i .un) := by
  refine { ok := S.ok, ex := S.ex, ex0 := S.ex0, fresh := S.fresh, keep := S.keep, ioH := S.ioH, len := by simp only [List.length_set]; exact S.len, slots := fun j => ?_, inj := fun j k a hjk hj hk ej ek => ?_ }
  · rw [getS_set]
    split
    · trivial
    · exact S.slots j
  · rw [getS_set] at hj hk
    split at hj
    · cases hj
    · split at hk
      · cases hk
      · exact S.inj j k a hjk hj hk ej ek
end

/-- what is wanted behind a statement; H0: what is frozen ahead of it -/
def RS (C : Ctx) (W : WX) (E : Ends) (G : Hp) : R Fl → Prop
  | .ok .next env => ∀ σ H0 H, Ext G H0 → Sim C σ H0 H env → E.nx σ H
  | .ok .brk env => ∀ σ H0 H, Ext G H0 → Sim C σ H0 H env → E.bk σ H
  | .ok .cont env => ∀ σ H0 H, Ext G H0 → Sim C σ H0 H env → E.ct σ H
  | .ok (.ret u) env => ∀ σ H0 H v, Ext G H0 → Sim C σ H0 H env → UOk C σ H0 H env u v → E.rt v H
  | .exc x env => ∀ σ cls d H0 H, Ext G H0 → Sim C σ H0 H env → XOk C.T H0 H x cls d → W cls d σ H
  | .bad => False
def tS (C : Ctx) (W : WX) (cl : CallF) (s : S) : TS := fun E σ H => ∃ H0 env, Sim C σ H0 H env ∧ RS C W E H0 (ex cl s env)
def tSs (C : Ctx) (W : WX) (cl : CallF) (s : Ss) : TS := fun E σ H => ∃ H0 env, Sim C σ H0 H env ∧ RS C W E H0 (exs cl s env)
theorem RS.orB {α : Type} {C : Ctx} {W : WX} {E : Ends} {G : Hp} {o : Option α} {f : α → R Fl} (h : RS C W E G (orBad o f)) : ∃ a, o = some a ∧ RS C W E G (f a) := by
  cases o with
  | none => exact h.elim
  | some a => exact ⟨a, rfl, h⟩
theorem RS.mono {C : Ctx} {W : WX} {E : Ends} {G G' : Hp} (e : Ext G G') {r : R Fl} (h : RS C W E G r) : RS C W E G' r := by
  cases r with
  | ok a env =>
    cases a with
    | next => exact fun σ H0' H' e' s => h σ H0' H' (e.tr e') s
    | brk => exact fun σ H0' H' e' s => h σ H0' H' (e.tr e') s
    | cont => exact fun σ H0' H' e' s => h σ H0' H' (e.tr e') s
    | ret u => exact fun σ H0' H' v e' s => h σ H0' H' v (e.tr e') s
  | exc x env => exact fun σ cls d H0' H' e' s x => h σ cls d H0' H' (e.tr e') s x
  | bad => exact h
section
variable {C : Ctx} {W : WX} {σ : L2.St} {cl : CallF} {H0 H : Hp} {env : Env} {E : Ends}
theorem seqE {a : Ex} {f : U → Env → R Fl} (S : Sim C σ H0 H env) (h : RS C W E H0 ((ev cl a env).bind f)) {Q : VK}
    (hQ : ∀ u env1 v H01 H1, Ext H0 H01 → Sim C σ H01 H1 env1 → UOk C σ H01 H1 env1 u v → RS C W E H01 (f u env1) → Q v H1) : tI C W cl a σ H Q := by
  refine ⟨H0, env, S, ?_⟩
  cases q : ev cl a env with
  | ok u env1 =>
    rw [q] at h
    exact fun H01 H1 e s v hu => hQ u env1 v H01 H1 e s hu (RS.mono e h)
  | exc x env1 =>
    rw [q] at h
    exact fun cls d H0' H' e s x => h σ cls d H0' H' e s x
  | bad => rw [q] at h; exact h
theorem seqTE {a : Ex} {f : Bool → Env → R Fl} (S : Sim C σ H0 H env) (h : RS C W E H0 ((evT cl a env).bind f)) {Q : Bool → Hp → Prop}
    (hQ : ∀ b env1 H01 H1, Ext H0 H01 → Sim C σ H01 H1 env1 → RS C W E H01 (f b env1) → Q b H1) : tT C W cl a σ H Q := by
  refine ⟨H0, env, S, ?_⟩
  cases q : evT cl a env with
  | ok u env1 =>
    rw [q] at h
    exact fun H01 H1 e s => hQ u env1 H01 H1 e s (RS.mono e h)
  | exc x env1 =>
    rw [q] at h
    exact fun cls d H0' H' e s x => h σ cls d H0' H' e s x
  | bad => rw [q] at h; exact h
end
theorem psI {X : Cx} {st : Stmt} {t t' : TS} (h : PS X st t) (i : ∀ E σ H, t' E σ H → t E σ H) : PS X st t' := ⟨fun pins s σ H D I q => h.run pins s σ H D I (i D σ H q)⟩
theorem pssI {X : Cx} {st : List Stmt} {t t' : TS} (h : PSs X st t) (i : ∀ E σ H, t' E σ H → t E σ H) : PSs X st t' := ⟨fun pins s σ H D I q => h.run pins s σ H D I (i D σ H q)⟩
section
variable {X : Cx} {C : Ctx} {W : WX} {cl : CallF} {st : Stmt} {rest : List Stmt} {s' : S} {r' : Ss} {e : Expr} {e' : Ex} {pos : Pos}
theorem ss_nil : PSs X [] (tSs C W cl .nil) := pssI pss_nil fun E σ H ⟨H0, env, S, q⟩ => q σ H0 H (Ext.rfl' _) S
theorem ss_cons (h1 : PS X st (tS C W cl s')) (h2 : PSs X rest (tSs C W cl r')) : PSs X (st :: rest) (tSs C W cl (.cons s' r')) := pssI (pss_cons h1 h2) fun E σ H ⟨H0, env, S, q⟩ => by
  refine ⟨H0, env, S, ?_⟩
  simp only [exs] at q
  cases z : ex cl s' env with
  | ok fl env1 =>
    rw [z] at q
    cases fl with
    | next => exact fun σ' H0' H' e' S' => ⟨H0', env1, S', RS.mono e' q⟩
    | brk => exact q
    | cont => exact q
    | ret u => exact q
  | exc x env1 => rw [z] at q; exact q
  | bad => rw [z] at q; exact q
theorem s_asg {i : Nat} (h : PS X st (tAsg (tI C W cl e') (gName i))) : PS X st (tS C W cl (.asg i e')) := psI h fun E σ H ⟨H0, env, S, q⟩ => by
  simp only [ex] at q
  refine seqE S q fun u env1 v H1 H1' e1 S1 u1 q1 => ?_
  obtain ⟨env2, ha, q1⟩ := q1.orB
  obtain ⟨H2, e2, S2⟩ := S1.asg u1 ha
  exact q1 _ H2 H1' e2 S2
theorem s_ex (h : PE X e (tI C W cl e')) (hs : swapsWith e none pos.line X.env = pure false := by rfl) : PS X (.Expr e pos) (tS C W cl (.ex e')) := psI (ps_expr h hs) fun E σ H ⟨H0, env, S, q⟩ => by
  simp only [ex] at q
  exact seqE S q fun u env1 v H1 H1' e1 S1 u1 q1 => q1 σ H1 H1' (Ext.rfl' _) S1
theorem s_doc {x j p2} : PS X (.Expr (.Constant (.str x) j p2) pos) (tS C W cl .pass) := psI ps_doc fun E σ H ⟨H0, env, S, q⟩ => q σ H0 H (Ext.rfl' _) S
theorem s_pass : PS X (.Pass pos) (tS C W cl .pass) := psI ps_pass fun E σ H ⟨H0, env, S, q⟩ => q σ H0 H (Ext.rfl' _) S
theorem s_brk : PS X (.Break pos) (tS C W cl .brk) := psI ps_break fun E σ H ⟨H0, env, S, q⟩ => q σ H0 H (Ext.rfl' _) S
theorem s_cont : PS X (.Continue pos) (tS C W cl .cont) := psI ps_continue fun E σ H ⟨H0, env, S, q⟩ => q σ H0 H (Ext.rfl' _) S
theorem s_retN : PS X (.Return none pos) (tS C W cl .retN) := psI ps_retN fun E σ H ⟨H0, env, S, q⟩ => q σ H0 H .non (Ext.rfl' _) S (by show Rep _ _ _ _; simp only [Rep])
theorem s_ret (h : PE X e (tI C W cl e')) : PS X (.Return (some e) pos) (tS C W cl (.ret e')) := psI (ps_ret h) fun E σ H ⟨H0, env, S, q⟩ => by
  simp only [ex] at q
  refine seqE S q fun u env1 v H1 H1' e1 S1 u1 q1 => ?_
  obtain ⟨⟨r, env2⟩, hr, q1⟩ := q1.orB
  cases u with
  | d x => cases hr; exact q1 σ H1 H1' v (Ext.rfl' _) S1 u1
  | nw x => cases hr; exact q1 σ H1 H1' v (Ext.rfl' _) S1 u1
  | sl i =>
    have ei : σ[i]? = some (some v) := u1
    have hi := S1.slots i
    cases z : getS env1 i with
    | un => simp [retU, z] at hr
    | io d => simp [retU, z] at hr
    | fz d =>
      simp [retU, z] at hr
      obtain ⟨rfl, rfl⟩ := hr
      rw [z] at hi
      obtain ⟨w, h1, h2⟩ := hi
      rw [ei] at h1; cases h1
      exact q1 σ H1 H1' v (Ext.rfl' _) S1 h2
    | ow d =>
      simp [retU, z] at hr
      obtain ⟨rfl, rfl⟩ := hr
      rw [z] at hi
      obtain ⟨a, h1, h2, h3⟩ := hi
      rw [ei] at h1; cases h1
      refine q1 σ H1 H1' _ (Ext.rfl' _) (S1.drop i) ?_
      show RepN _ _ _ _ _ _ _
      unfold RepN
      rw [if_pos h3.ref.1]
      have hl : i < env1.length := by rw [S1.len]; exact (List.getElem?_eq_some_iff.mp ei).1
      refine ⟨a, rfl, h2, h3, fun j hj ej => ?_⟩
      rw [getS_set] at hj
      split at hj
      · cases hj
      · rename_i zz
        have zj : ¬ i = j := fun w => zz ⟨w, hl⟩
        exact S1.inj i j a zj (by rw [z]; rfl) hj ei ej
theorem s_iff {c : Expr} {c' : Ex} {a b : List Stmt} {a' b' : Ss} (hc : PT X c (tT C W cl c')) (ha : PSs X a (tSs C W cl a')) (hb : PSs X b (tSs C W cl b')) : PS X (.If c a b pos) (tS C W cl (.iff c' a' b')) :=
  psI (ps_if hc ha hb) fun E σ H ⟨H0, env, S, q⟩ => by
    simp only [ex] at q
    refine seqTE S q fun t env1 H1 H1' e1 S1 q1 => ?_
    cases t with
    | true => rw [if_pos rfl]; exact ⟨H1, env1, S1, q1⟩
    | false => rw [if_neg Bool.false_ne_true]; exact ⟨H1, env1, S1, q1⟩
/-- slot[x] = e -/
theorem s_setI {i : Nat} {x' : Ex} (h : PS X st (tAsg (tI C W cl e') (gSub (tVar i) (tI C W cl x') rSetL))) : PS X st (tS C W cl (.setI i x' e')) := psI h fun E σ H ⟨H0, env, S, q⟩ => by
  simp only [ex] at q
  refine seqE S q fun u env1 v H1 H1' e1 S1 u1 q1 => ?_
  obtain ⟨⟨d, env2⟩, hf, q1⟩ := q1.orB
  obtain ⟨H2, e2, S2, r2⟩ := S1.take u1 hf
  split at q1
  · exact q1.elim
  rename_i hl
  simp only [Bool.not_eq_true, Bool.not_eq_false'] at hl
  obtain ⟨a, ds, ha, hs, ho, hr0⟩ := S2.ls hl
  refine ⟨.ref a, ha, seqE S2 (RS.mono e2 q1) fun w env3 k H3 H3' e3 S3 u3 q3 => ?_⟩
  obtain ⟨dk, hk, q3⟩ := q3.orB
  have fin : ∀ xs n, dk = .int n → isLs (getS env3 i) = true → rdS (getS env3 i) = some (.lst xs) → RS C W E H3 (orBad (setD xs n d) fun ys => .ok .next (env3.set i (setIO (getS env3 i) (.lst ys)))) → rSetL (.ref a) k v H3' fun H4 => E.nx σ H4 := by
    intro xs n hdk hg hx q4
    subst hdk
    obtain ⟨ys, hy, q4⟩ := q4.orB
    obtain ⟨b, ds3, hb, hs3, ho3, hr3⟩ := S3.ls hg
    rw [ha] at hb; cases hb
    rw [hs3] at hx; cases hx
    obtain ⟨b, us, eb, hn, hu, hr⟩ := hr3
    cases eb
    unfold setD at hy
    simp only [Option.map_eq_some_iff] at hy
    obtain ⟨j, hj, rfl⟩ := hy
    refine ⟨a, us, n, j, rfl, rd_int (S3.rd u3 hk), hu, by rw [hr.len]; exact hj, ?_⟩
    exact q4 _ H3 _ (Ext.rfl' _) (S3.mut ho3 ha ⟨a, _, rfl, hn, upd_same, hr.set (Rep.mono e3 _ _ r2) j⟩)
  split at q3
  · rename_i xs n hg; exact fin xs n rfl (by rw [hg]; rfl) (by rw [hg]; rfl) (by rw [hg]; exact q3)
  · rename_i xs n hg; exact fin xs n rfl (by rw [hg]; rfl) (by rw [hg]; rfl) (by rw [hg]; exact q3)
  · exact q3.elim
/-- slot.append(e) -/
theorem s_app {i : Nat} (h : PS X st (tDrop (tBM X.K "list" rAppend (tVar i) (tCons (tI C W cl e') tNil)))) : PS X st (tS C W cl (.app i e')) := psI h fun E σ H ⟨H0, env, S, q⟩ => by
  simp only [ex] at q
  split at q
  · exact q.elim
  rename_i hl
  simp only [Bool.not_eq_true, Bool.not_eq_false'] at hl
  obtain ⟨a, ds, ha, hs, ho, b, us, eb, hn, hu, hr⟩ := S.ls hl
  cases eb
  refine ⟨.ref a, ha, .inl ⟨rfl, us, SqL.of hu⟩, seqE S q fun u env1 v H1 H1' e1 S1 u1 q1 => ?_⟩
  obtain ⟨⟨d, env2⟩, hf, q1⟩ := q1.orB
  obtain ⟨H2, e2, S2, r2⟩ := S1.take u1 hf
  have fin : ∀ xs, isLs (getS env2 i) = true → rdS (getS env2 i) = some (.lst xs) → RS C W E H1 (if xs.length < LIM then .ok .next (env2.set i (setIO (getS env2 i) (.lst (xs ++ [d])))) else .bad) → rAppend (.ref a) [v] H1' fun _ H4 => E.nx σ H4 := by
    intro xs hg hx q4
    split at q4
    · rename_i hz
      obtain ⟨b, ds3, hb, hs3, ho3, hr3⟩ := S2.ls hg
      rw [ha] at hb; cases hb
      rw [hs3] at hx; cases hx
      obtain ⟨b, us3, eb, hn3, hu3, hr3⟩ := hr3
      cases eb
      refine ⟨a, us3, v, rfl, rfl, hu3, by rw [hr3.len]; exact Nat.lt_of_lt_of_le hz lim_line, ?_⟩
      exact q4 _ H2 _ e2 (S2.mut ho3 ha ⟨a, _, rfl, hn3, upd_same, hr3.app (by simp only [RepAll]; exact ⟨v, [], rfl, r2, rfl⟩)⟩)
    · exact q4.elim
  split at q1
  · rename_i xs hg; exact fin xs (by rw [hg]; rfl) (by rw [hg]; rfl) (by rw [hg]; exact q1)
  · rename_i xs hg; exact fin xs (by rw [hg]; rfl) (by rw [hg]; rfl) (by rw [hg]; exact q1)
  · exact q1.elim
/-- name += e, ints -/
theorem s_add {i : Nat} (h : PS X st (tAug i (tI C W cl e') (ipI fun i j => i + j))) : PS X st (tS C W cl (.aug i .add e')) := psI h fun E σ H ⟨H0, env, S, q⟩ => by
  simp only [ex] at q
  split at q
  rotate_left
  · exact q.elim
  rename_i n hn
  have hi := S.slots i
  rw [hn] at hi
  obtain ⟨x, hx, hr⟩ := hi
  simp only [Rep] at hr
  subst hr
  refine ⟨_, hx, seqE S q fun u env1 v H1 H1' e1 S1 u1 q1 => ?_⟩
  obtain ⟨d, hd, q1⟩ := q1.orB
  split at q1
  · rename_i m
    exact ⟨n, m, rfl, rd_int (S1.rd u1 hd), q1 _ H1 H1' (Ext.rfl' _) (S1.store rfl ⟨_, rfl, r_int _ _ _⟩ fun _ _ z => by cases z)⟩
  · exact q1.elim
theorem s_sub {i : Nat} (h : PS X st (tAug i (tI C W cl e') (ipI fun i j => i - j))) : PS X st (tS C W cl (.aug i .sub e')) := psI h fun E σ H ⟨H0, env, S, q⟩ => by
  simp only [ex] at q
  split at q
  rotate_left
  · exact q.elim
  rename_i n hn
  have hi := S.slots i
  rw [hn] at hi
  obtain ⟨x, hx, hr⟩ := hi
  simp only [Rep] at hr
  subst hr
  refine ⟨_, hx, seqE S q fun u env1 v H1 H1' e1 S1 u1 q1 => ?_⟩
  obtain ⟨d, hd, q1⟩ := q1.orB
  split at q1
  · rename_i m
    exact ⟨n, m, rfl, rd_int (S1.rd u1 hd), q1 _ H1 H1' (Ext.rfl' _) (S1.store rfl ⟨_, rfl, r_int _ _ _⟩ fun _ _ z => by cases z)⟩
  · exact q1.elim
/-! loops -/
def forPv (C : Ctx) (W : WX) (E : Ends) (G : Hp) (body : Env → R Fl) (j : Nat) (items : List D) : Nat → L2.St → Hp → Prop := fun i σ H => ∃ H0 env, Ext G H0 ∧ Sim C σ H0 H env ∧ RS C W E H0 (forD body j (items.drop i) env)
/-- one turn -/
theorem turnF {E : Ends} {G : Hp} {b : Ss} {j : Nat} {items : List D} {i : Nat} {d : D} {v : V} {σ : L2.St} {H : Hp} (hd : items[i]? = some d) (hr : ∀ H0, Ext G H0 → Rep C.T H0 d v)
    (h : forPv C W E G (exs cl b) j items i σ H) : tSs C W cl b { E with nx := forPv C W E G (exs cl b) j items (i + 1), ct := forPv C W E G (exs cl b) j items (i + 1), bk := E.nx } (σ.set j (some v)) H := by
  obtain ⟨H0, env, eG, S, q⟩ := h
  have rv := hr H0 eG
  have hdrop : items.drop i = d :: items.drop (i + 1) := by
    have hi := (List.getElem?_eq_some_iff.mp hd)
    rw [List.drop_eq_getElem_cons hi.1, hi.2]
  rw [hdrop] at q
  simp only [forD] at q
  refine ⟨H0, env.set j (.fz d), S.store rfl ⟨v, rfl, rv⟩ fun _ _ z => (by cases z), ?_⟩
  cases z : exs cl b (env.set j (.fz d)) with
  | bad => rw [z] at q; exact q
  | exc x env1 => rw [z] at q; exact q
  | ok fl env1 =>
    rw [z] at q
    cases fl with
    | next => exact fun σ' H0' H' e' S' => ⟨H0', env1, eG.tr e', S', RS.mono e' q⟩
    | cont => exact fun σ' H0' H' e' S' => ⟨H0', env1, eG.tr e', S', RS.mono e' q⟩
    | brk => exact q
    | ret u => exact q
theorem s_forr {n' : Ex} {b : Ss} {j : Nat} (h : PS X st (tFor (iRng1 (tCons (tI C W cl n') tNil)) (gName j) (tSs C W cl b))) : PS X st (tS C W cl (.forr j n' b)) := psI h fun E σ H ⟨H0, env, S, q⟩ => by
  simp only [ex] at q
  refine seqE S q fun u env1 v H1 H1' e1 S1 u1 q1 => ?_
  obtain ⟨d, hd, q1⟩ := q1.orB
  split at q1
  rotate_left
  · exact q1.elim
  rename_i m
  split at q1
  rotate_left
  · exact q1.elim
  rename_i hb
  simp only [Bool.and_eq_true, decide_eq_true_eq] at hb
  cases rd_int (S1.rd u1 hd)
  refine ⟨m, rfl, by omega, by omega, for_range (lo := 0) (n := m.toNat) (forPv C W E H1 (exs cl b) j ((List.range m.toNat).map fun (k : Nat) => .int k)) ⟨H1, env1, Ext.rfl' _, S1, q1⟩ (fun i σ' H' hi p => ?_) (fun σ' H' p => ?_)⟩
  · have hz : ((0 : Int) + (i : Nat)) = (i : Nat) := by omega
    show tSs C W cl b _ (σ'.set j (some (.int ((0 : Int) + (i : Nat))))) H'
    rw [hz]
    exact turnF (d := .int i) (by simp [hi]) (fun H0 _ => r_int _ _ _) p
  · obtain ⟨H2, env2, _, S2, q2⟩ := p
    rw [List.drop_eq_nil_of_le (by simp)] at q2
    exact q2 σ' H2 H' (Ext.rfl' _) S2
/-- what a for walks: a list or a tuple -/
def itemsU (u : U) (env : Env) : R (List D) := orBad (fzU env u) fun p => match p.1 with
  | .lst xs => .ok xs p.2
  | .tup xs => .ok xs p.2
  | .kst xs => .ok xs p.2
  | _ => .bad
def tIt (C : Ctx) (W : WX) (cl : CallF) (e : Ex) : TI := fun σ H R => ∃ H0 env, Sim C σ H0 H env ∧
  RQ C W σ (fun (ds : List D) env' H0' H' => ∀ a xs, RepAll C.T H0' ds xs → (SqL C.T.K H0' a xs → R (Itl C.T.K a) H') ∧ (SqT C.T.K H0' a xs → R (Itt C.T.K a) H')) H0 ((ev cl e env).bind itemsU)
theorem i_any {tg l : Expr} {l' : Ex} (hK : X.K = C.T.K) (h : PE X l (tI C W cl l')) : PI X tg l (tIt C W cl l') := ⟨fun pins s σ H R I ⟨H0, env, S, q⟩ => by
  cases z : ev cl l' env with
  | bad => rw [z] at q; exact q.elim
  | exc x env1 => exact (pi_list h).run pins s σ H R I ⟨H0, env, S, by rw [z] at q ⊢; exact q⟩
  | ok u env1 =>
    rw [z] at q
    simp only [PP.R.bind_ok, itemsU] at q
    obtain ⟨⟨d, env2⟩, hf, q⟩ := q.orB
    have key : ∀ (Q : VK), (∀ H2 H1' v, Ext H0 H2 → Sim C σ H2 H1' env2 → Rep C.T H2 d v → Q v H1') → tI C W cl l' σ H Q := fun Q hQ => ⟨H0, env, S, by
      rw [z]
      intro H1 H1' e1 S1 v u1
      obtain ⟨H2, e2, S2, r2⟩ := S1.take u1 hf
      exact hQ H2 H1' v (e1.tr e2) S2 r2⟩
    cases d with
    | lst ds =>
      exact (pi_list h).run pins s σ H R I (key _ fun H2 H1' v e S2 r => by
        simp only [Rep] at r
        obtain ⟨a, xs, rfl, r1, r2⟩ := r
        exact ⟨a, rfl, ⟨xs, .inl (S2.ex.rd r1)⟩, hK ▸ ((q H2 H1' e S2) a xs r2).1 (.inl r1)⟩)
    | kst ds =>
      exact (pi_list h).run pins s σ H R I (key _ fun H2 H1' v e S2 r => by
        simp only [Rep] at r
        obtain ⟨a, xs, rfl, r1, r2⟩ := r
        exact ⟨a, rfl, ⟨xs, hK ▸ S2.ex.sqL r1⟩, hK ▸ ((q H2 H1' e S2) a xs r2).1 r1⟩)
    | tup ds =>
      exact (pi_tup h).run pins s σ H R I (key _ fun H2 H1' v e S2 r => by
        simp only [Rep] at r
        obtain ⟨a, xs, rfl, r1, r2⟩ := r
        exact ⟨a, rfl, ⟨xs, hK ▸ S2.ex.sqT r1⟩, hK ▸ ((q H2 H1' e S2) a xs r2).2 r1⟩)
    | _ => exact q.elim⟩
theorem s_forl {l' : Ex} {b : Ss} {j : Nat} (h : PS X st (tFor (tIt C W cl l') (gName j) (tSs C W cl b))) : PS X st (tS C W cl (.forl j l' b)) := psI h fun E σ H ⟨H0, env, S, q⟩ => by
  simp only [ex] at q
  refine ⟨H0, env, S, ?_⟩
  have fin : ∀ (ds : List D) env2, RS C W E H0 (forD (exs cl b) j ds env2) → ∀ H2 H1', Ext H0 H2 → Sim C σ H2 H1' env2 → ∀ a xs, RepAll C.T H2 ds xs →
      (SqL C.T.K H2 a xs → ∃ W' : Nat → Nat → L2.St → Hp → Prop, (∃ m, W' 0 m σ H1') ∧ ∀ i m σ H, W' i m σ H → ((Itl C.T.K a).stop i H ∧ E.nx σ H) ∨ ((Itl C.T.K a).go i H ∧ ∃ N : L2.St → Hp → Prop, (∀ σ' H', N σ' H' → ∃ m', m' < m ∧ W' (i + 1) m' σ' H') ∧ ∀ x H', (Itl C.T.K a).yld i H x H' → gName j x σ H' fun σ2 H2 => tSs C W cl b { E with nx := N, ct := N, bk := E.nx } σ2 H2)) ∧
      (SqT C.T.K H2 a xs → ∃ W' : Nat → Nat → L2.St → Hp → Prop, (∃ m, W' 0 m σ H1') ∧ ∀ i m σ H, W' i m σ H → ((Itt C.T.K a).stop i H ∧ E.nx σ H) ∨ ((Itt C.T.K a).go i H ∧ ∃ N : L2.St → Hp → Prop, (∀ σ' H', N σ' H' → ∃ m', m' < m ∧ W' (i + 1) m' σ' H') ∧ ∀ x H', (Itt C.T.K a).yld i H x H' → gName j x σ H' fun σ2 H2 => tSs C W cl b { E with nx := N, ct := N, bk := E.nx } σ2 H2)) := by
    intro ds env2 q2 H2 H1' e S2 a xs hr
    have hend : ∀ σ' H', forPv C W E H2 (exs cl b) j ds xs.length σ' H' → E.nx σ' H' := fun σ' H' p => by
      obtain ⟨H3, env3, _, S3, q3⟩ := p
      rw [List.drop_eq_nil_of_le (by rw [hr.len]; exact Nat.le_refl _)] at q3
      exact q3 σ' H3 H' (Ext.rfl' _) S3
    have hturn : ∀ i x σ' H', xs[i]? = some x → forPv C W E H2 (exs cl b) j ds i σ' H' → gName j x σ' H' fun σ2 H2' => tSs C W cl b { E with nx := forPv C W E H2 (exs cl b) j ds (i + 1), ct := forPv C W E H2 (exs cl b) j ds (i + 1), bk := E.nx } σ2 H2' := fun i x σ' H' hx p => by
      obtain ⟨d, hd, rd⟩ := hr.get' hx
      exact turnF hd (fun H0 e0 => Rep.mono e0 _ _ rd) p
    exact ⟨fun hs => for_list (forPv C W E H2 (exs cl b) j ds) ⟨H2, env2, Ext.rfl' _, S2, RS.mono e q2⟩ (fun i σ' H' _ p => by obtain ⟨H3, env3, e3, S3, _⟩ := p; exact (e3.tr S3.ex).sqL hs) hturn hend,
      fun hs => for_tup (forPv C W E H2 (exs cl b) j ds) ⟨H2, env2, Ext.rfl' _, S2, RS.mono e q2⟩ (fun i σ' H' _ p => by obtain ⟨H3, env3, e3, S3, _⟩ := p; exact (e3.tr S3.ex).sqT hs) hturn hend⟩
  cases z : ev cl l' env with
  | bad => rw [z] at q; exact q.elim
  | exc x env1 => rw [z] at q; exact fun cls d H0' H' e s x => q σ cls d H0' H' e s x
  | ok u env1 =>
    rw [z] at q
    simp only [R.bind_ok] at q ⊢
    obtain ⟨⟨d, env2⟩, hf, q⟩ := q.orB
    unfold itemsU
    rw [hf]
    cases d with
    | lst ds => exact fun H2 H1' e S2 a xs hr => fin ds env2 q H2 H1' e S2 a xs hr
    | kst ds => exact fun H2 H1' e S2 a xs hr => fin ds env2 q H2 H1' e S2 a xs hr
    | tup ds => exact fun H2 H1' e S2 a xs hr => fin ds env2 q H2 H1' e S2 a xs hr
    | _ => exact q.elim
theorem s_whil {c' : Ex} {b : Ss} (h : PS X st (tWhile (tT C W cl c') (tSs C W cl b))) : PS X st (tS C W cl (.whil c' b)) := psI h fun E σ H ⟨H0, env, S, q⟩ => by
  simp only [ex] at q
  refine ⟨fun m σ H => ∃ H0 env, Sim C σ H0 H env ∧ RS C W E H0 (whD (evT cl c') (exs cl b) m env), ⟨FUEL, H0, env, S, q⟩, fun m σ H ⟨H0, env, S, q⟩ => ?_⟩
  cases m with
  | zero => exact q.elim
  | succ m =>
    simp only [whD] at q
    refine seqTE S q fun t env1 H1 H1' e1 S1 q1 => ?_
    cases t with
    | false => rw [if_neg Bool.false_ne_true]; exact q1 σ H1 H1' (Ext.rfl' _) S1
    | true =>
      rw [if_pos rfl]
      refine ⟨fun σ H => ∃ H0 env, Sim C σ H0 H env ∧ RS C W E H0 (whD (evT cl c') (exs cl b) m env), fun σ' H' p => ⟨m, Nat.lt_succ_self _, p⟩, H1, env1, S1, ?_⟩
      cases z : exs cl b env1 with
      | bad => simp only [z] at q1; exact q1
      | exc x env1 => simp only [z] at q1; exact q1
      | ok fl env2 =>
        simp only [z, R.bind_ok] at q1
        cases fl with
        | next => exact fun σ' H0' H' e' S' => ⟨H0', env2, S', RS.mono e' q1⟩
        | cont => exact fun σ' H0' H' e' S' => ⟨H0', env2, S', RS.mono e' q1⟩
        | brk => exact q1
        | ret u => exact q1
end
end PP
end

section
set_option maxHeartbeats 1000000
/-! defs and their calls -/
namespace PP
open PySem L2

def ArOk (T : Tbl) (H0 H : Hp) : List Ar → List V → Prop
  | [], vs => vs = []
  | .fz d :: as, vs => ∃ v r, vs = v :: r ∧ Rep T H0 d v ∧ ArOk T H0 H as r
  | .io d :: as, vs => ∃ a r, vs = .ref a :: r ∧ RepO T H0 H d (.ref a) ∧ ArOk T H0 H as r
/-- the addresses that are handed in to be changed, place by place -/
def ioL : List Ar → List V → List (Option Addr)
  | .io _ :: as, .ref a :: vs => some a :: ioL as vs
  | _ :: as, _ :: vs => none :: ioL as vs
  | _, _ => []
def OutsOk (T : Tbl) (H0 H : Hp) : List (Option Addr) → List D → Prop
  | [], ds => ds = []
  | none :: r, ds => OutsOk T H0 H r ds
  | some a :: r, ds => ∃ d ds', ds = d :: ds' ∧ RepO T H0 H d (.ref a) ∧ OutsOk T H0 H r ds'
def NoDup (l : List (Option Addr)) : Prop := ∀ (i j : Nat) (a : Addr), l[i]? = some (some a) → l[j]? = some (some a) → i = j
structure GrC (L : List (Option Addr)) (H0 H H0' H' : Hp) : Prop where
  e0 : Ext H0 H0'
  e01 : Ext H0' H'
  new : ∀ a, H0 a = none → H0' a ≠ none → H a = none
  keep : ∀ a o, some a ∉ L → H a = some o → H' a = some o
def RetOk (T : Tbl) (H0' H' H : Hp) : U → V → Prop
  | .d d, v => Rep T H0' d v
  | .nw d, v => RepG T H0' H' H d v
  | .sl _, _ => False
/-- the promise of a def: it does what the interpreter does -/
def spF (T : Tbl) (cl : CallF) (f n : Nat) : Sp := fun vs H Q E => ∃ H0 as, Ext H0 H ∧ ArOk T H0 H as vs ∧ NoDup (ioL as vs) ∧ as.length = n ∧
  match cl f as with
  | .ok r outs => ∀ v H0' H', GrC (ioL as vs) H0 H H0' H' → RetOk T H0' H' H r v → OutsOk T H0' H' (ioL as vs) outs → Q v H'
  | .exc x outs => ∀ cls d H0' H', GrC (ioL as vs) H0 H H0' H' → OutsOk T H0' H' (ioL as vs) outs → XOk T H0' H' x cls d → E cls d H'
  | .bad => False
theorem ArOk.len {T : Tbl} {H0 H : Hp} : ∀ {as : List Ar} {vs : List V}, ArOk T H0 H as vs → vs.length = as.length
  | [], _, h => by cases h; rfl
  | .fz d :: as, _, h => by obtain ⟨v, r, rfl, _, h⟩ := h; simp [ArOk.len h]
  | .io d :: as, _, h => by obtain ⟨v, r, rfl, _, h⟩ := h; simp [ArOk.len h]
theorem ArOk.ioLen {T : Tbl} {H0 H : Hp} : ∀ {as : List Ar} {vs : List V}, ArOk T H0 H as vs → (ioL as vs).length = as.length
  | [], _, h => by cases h; rfl
  | .fz d :: as, _, h => by obtain ⟨v, r, rfl, _, h⟩ := h; simp [ioL, ArOk.ioLen h]
  | .io d :: as, _, h => by obtain ⟨v, r, rfl, _, h⟩ := h; simp [ioL, ArOk.ioLen h]
theorem ArOk.at {T : Tbl} {H0 H : Hp} : ∀ {as : List Ar} {vs : List V} (i : Nat), ArOk T H0 H as vs → match as[i]? with
    | none => True
    | some (.fz d) => (∃ v, vs[i]? = some v ∧ Rep T H0 d v) ∧ (ioL as vs)[i]? = some none
    | some (.io d) => ∃ a, vs[i]? = some (.ref a) ∧ RepO T H0 H d (.ref a) ∧ (ioL as vs)[i]? = some (some a)
  | [], _, i, h => by simp
  | .fz d :: as, _, 0, h => by obtain ⟨v, r, rfl, h1, h⟩ := h; exact ⟨⟨v, rfl, h1⟩, rfl⟩
  | .io d :: as, _, 0, h => by obtain ⟨v, r, rfl, h1, h⟩ := h; exact ⟨v, rfl, h1, rfl⟩
  | .fz d :: as, _, i + 1, h => by obtain ⟨v, r, rfl, h1, h⟩ := h; simpa [ioL] using ArOk.at i h
  | .io d :: as, _, i + 1, h => by obtain ⟨v, r, rfl, h1, h⟩ := h; simpa [ioL] using ArOk.at i h
theorem ArOk.ioAt {T : Tbl} {H0 H : Hp} {as : List Ar} {vs : List V} (h : ArOk T H0 H as vs) {a : Addr} {i : Nat} (hi : (ioL as vs)[i]? = some (some a)) : ∃ d, as[i]? = some (.io d) ∧ vs[i]? = some (.ref a) ∧ RepO T H0 H d (.ref a) := by
  have q := h.at i
  cases z : as[i]? with
  | none =>
    rw [List.getElem?_eq_none_iff, ← h.ioLen, ← List.getElem?_eq_none_iff] at z
    rw [z] at hi; cases hi
  | some x =>
    rw [z] at q
    cases x with
    | fz d => rw [q.2] at hi; cases hi
    | io d => obtain ⟨b, h1, h2, h3⟩ := q; rw [h3] at hi; cases hi; exact ⟨d, rfl, h1, h2⟩

/-! ### a def's body -/
theorem startE_len : ∀ {n : Nat} {as : List Ar}, (startE n as).length = n
  | 0, [] => rfl
  | 0, _ :: _ => rfl
  | n + 1, [] => by simp only [startE, List.length_cons, startE_len]
  | n + 1, .fz d :: as => by simp only [startE, List.length_cons, startE_len]
  | n + 1, .io d :: as => by simp only [startE, List.length_cons, startE_len]
theorem getS_start : ∀ {n : Nat} {as : List Ar} (hn : as.length ≤ n) (i : Nat), getS (startE n as) i = match as[i]? with
    | none => .un
    | some (.fz d) => .fz d
    | some (.io d) => .io d
  | 0, [], _, i => by simp [startE, getS]
  | 0, _ :: _, h, i => by simp at h
  | n + 1, [], _, 0 => by simp [startE, getS]
  | n + 1, [], _, i + 1 => by
    have := getS_start (n := n) (as := []) (Nat.zero_le _) i
    simpa [startE, getS] using this
  | n + 1, .fz d :: as, _, 0 => by simp [startE, getS]
  | n + 1, .io d :: as, _, 0 => by simp [startE, getS]
  | n + 1, .fz d :: as, h, i + 1 => by
    have := getS_start (n := n) (as := as) (by simpa using h) i
    simpa [startE, getS] using this
  | n + 1, .io d :: as, h, i + 1 => by
    have := getS_start (n := n) (as := as) (by simpa using h) i
    simpa [startE, getS] using this
theorem sim_start {T : Tbl} {H0 H : Hp} {as : List Ar} {vs : List V} {N : List Str} (e : Ext H0 H) (h : ArOk T H0 H as vs) (nd : NoDup (ioL as vs)) (hn : as.length ≤ N.length) : Sim ⟨T, H0, H, ioL as vs⟩ (L2.start N vs) H0 H (startE N.length as) := by
  have hl := h.len
  have sv : ∀ (i : Nat) (v : V), vs[i]? = some v → (L2.start N vs)[i]? = some (some v) := fun i v hv => by
    have hi := (List.getElem?_eq_some_iff.mp hv).1
    unfold L2.start
    rw [List.getElem?_append_left (by simpa using hi), List.getElem?_map, hv]; rfl
  have io : ∀ a, Ctx.io ⟨T, H0, H, ioL as vs⟩ a → H0 a = none ∧ ∃ o, H a = some o := fun a ha => by
    obtain ⟨i, hi⟩ := List.getElem?_of_mem (show some a ∈ ioL as vs from ha)
    obtain ⟨d, _, _, hr⟩ := h.ioAt hi
    exact hr.some
  have own : ∀ i, ownS (getS (startE N.length as) i) = true → ∃ d a, as[i]? = some (.io d) ∧ vs[i]? = some (.ref a) ∧ (ioL as vs)[i]? = some (some a) := fun i hi => by
    rw [getS_start hn] at hi
    have q := h.at i
    cases z : as[i]? with
    | none => rw [z] at hi; cases hi
    | some x =>
      rw [z] at hi q
      cases x with
      | fz d => cases hi
      | io d => obtain ⟨a, h1, h2, h3⟩ := q; exact ⟨d, a, rfl, h1, h3⟩
  have hio : ∀ a, Ctx.io ⟨T, H0, H, ioL as vs⟩ a → H a ≠ none := fun a ha q => by
    obtain ⟨o, z⟩ := (io a ha).2
    rw [q] at z; cases z
  refine { ok := ⟨fun a ha => ⟨(io a ha).1, hio a ha⟩, e⟩, ex := e, ex0 := Ext.rfl' _, fresh := fun a q q' => (q' q).elim, keep := fun a o q _ => q, ioH := hio, len := ?_, slots := fun i => ?_, inj := fun i j a hij hi hj ei ej => ?_ }
  · rw [startE_len]
    unfold L2.start
    simp only [List.length_append, List.length_map, List.length_replicate]
    omega
  · rw [getS_start hn]
    have q := h.at i
    cases z : as[i]? with
    | none => trivial
    | some x =>
      rw [z] at q
      cases x with
      | fz d => obtain ⟨⟨v, h1, h2⟩, _⟩ := q; exact ⟨v, sv i v h1, h2⟩
      | io d => obtain ⟨a, h1, h2, h3⟩ := q; exact ⟨a, sv i _ h1, h3, h2⟩
  · obtain ⟨d, b, h1, h2, h3⟩ := own i hi
    obtain ⟨d', b', h1', h2', h3'⟩ := own j hj
    rw [sv i _ h2] at ei; cases ei
    rw [sv j _ h2'] at ej; cases ej
    exact hij (nd i j _ h3 h3')
/-- what stands in the slots that were handed in -/
theorem outs_ok {T : Tbl} {σ : L2.St} {H0 H : Hp} {L : List (Option Addr)} {C : Ctx} : ∀ {as : List Ar} {L' : List (Option Addr)} {env : Env} {outs : List D} (k : Nat), outsOf as env = some outs → as.length ≤ L'.length →
    (∀ (i : Nat) (d : D), as[i]? = some (Ar.fz d) → L'[i]? = some none) → (∀ (i : Nat) (d : D), as[i]? = some (Ar.io d) → ∀ x : D, env[i]? = some (Sl.io x) → ∃ a, L'[i]? = some (some a) ∧ RepO T H0 H x (.ref a)) → L'.length = as.length → OutsOk T H0 H L' outs
  | [], L', env, outs, k, h, _, _, _, hl => by
    cases h
    cases L' with
    | nil => rfl
    | cons a b => simp at hl
  | .fz d :: as, L', env, outs, k, h, hle, hf, hi, hl => by
    cases L' with
    | nil => simp at hl
    | cons a b =>
      have := hf 0 d rfl
      simp at this
      subst this
      simp only [outsOf] at h
      show OutsOk T H0 H b outs
      refine outs_ok (L := L) (C := C) (σ := σ) (k + 1) h (by simpa using hle) (fun i d hd => by simpa using hf (i + 1) d (by simpa using hd)) (fun i d hd x hx => ?_) (by simpa using hl)
      have := hi (i + 1) d (by simpa using hd) x (by cases env with | nil => simp at hx | cons s r => simpa using hx)
      simpa using this
  | .io d :: as, L', env, outs, k, h, hle, hf, hi, hl => by
    cases L' with
    | nil => simp at hl
    | cons a b =>
      cases env with
      | nil => simp [outsOf] at h
      | cons s r =>
        cases s with
        | io x =>
          simp only [outsOf, List.head?_cons, List.tail_cons, Option.map_eq_some_iff] at h
          obtain ⟨o', h1, rfl⟩ := h
          obtain ⟨a', e1, e2⟩ := hi 0 d rfl x rfl
          simp at e1
          subst e1
          refine ⟨x, o', rfl, e2, outs_ok (L := L) (C := C) (σ := σ) (k + 1) h1 (by simpa using hle) (fun i d hd => by simpa using hf (i + 1) d (by simpa using hd)) (fun i d hd x hx => ?_) (by simpa using hl)⟩
          have := hi (i + 1) d (by simpa using hd) x (by simpa using hx)
          simpa using this
        | un => simp [outsOf] at h
        | fz x => simp [outsOf] at h
        | ow x => simp [outsOf] at h
/-- behind the body -/
theorem Sim.outs {T : Tbl} {H0e He H0 H : Hp} {σ : L2.St} {env : Env} {as : List Ar} {vs : List V} {outs : List D} (hA : ArOk T H0e He as vs) (S : Sim ⟨T, H0e, He, ioL as vs⟩ σ H0 H env) (h : outsOf as env = some outs) :
    GrC (ioL as vs) H0e He H0 H ∧ OutsOk T H0 H (ioL as vs) outs := by
  refine ⟨⟨S.ex0, S.ex, S.fresh, fun a o q z => S.keep a o z q⟩, ?_⟩
  refine outs_ok (L := []) (C := ⟨T, H0e, He, []⟩) (σ := σ) 0 h (Nat.le_of_eq hA.ioLen.symm) (fun i d hd => ?_) (fun i d hd x hx => ?_) hA.ioLen
  · have q := hA.at i
    rw [hd] at q
    exact q.2
  · have q := hA.at i
    rw [hd] at q
    obtain ⟨a, h1, h2, h3⟩ := q
    have z := S.slots i
    have gx : getS env i = .io x := by unfold getS; rw [List.getD_eq_getElem?_getD, hx]; rfl
    rw [gx] at z
    obtain ⟨b, e1, e2, e3⟩ := z
    rw [show (ioL as vs)[i]? = some (some b) from e2] at h3
    exact ⟨b, e2, e3⟩
/-- the body does what the def promises -/
theorem body_ok {T : Tbl} {cl : CallF} {fs : CallF} {F : Fn} {f n : Nat} {vs : List V} {H : Hp} {Q : VK} {E : XK} {N : List Str} {X : Cx} {body : List Stmt} (hN : N.length = F.n) (hn : n ≤ F.n) (hf : ∀ as, fs f as = runF cl F as)
    (hb : ∀ C : Ctx, C.T = T → PSs X body (tSs C (fun cls d _ H => E cls d H) cl F.body)) (h : spF T fs f n vs H Q E) : ∃ t, PSs X body t ∧ t { nx := fun _ H' => Q .non H', rt := Q } (L2.start N vs) H := by
  obtain ⟨H0, as, e, hA, nd, hl, h⟩ := h
  refine ⟨_, hb ⟨T, H0, H, ioL as vs⟩ rfl, H0, startE F.n as, by rw [← hN]; exact sim_start e hA nd (by rw [hl, hN]; exact hn), ?_⟩
  rw [hf, runF] at h
  unfold finR at h
  cases z : exs cl F.body (startE F.n as) with
  | bad => rw [z] at h; exact h
  | exc x env =>
    simp only [z] at h
    cases zo : outsOf as env with
    | none => simp only [zo, finX, finO] at h
    | some outs =>
      simp only [zo, finX, finO] at h
      intro σ cls d H0' H' _ S hx
      obtain ⟨g, o⟩ := S.outs hA zo
      exact h cls d H0' H' g o hx
  | ok fl env =>
    simp only [z] at h
    cases zo : outsOf as env with
    | none => simp only [zo, finX, finO] at h
    | some outs =>
      simp only [zo, finX, finO] at h
      cases fl with
      | next =>
        intro σ H0' H' _ S
        obtain ⟨g, o⟩ := S.outs hA zo
        exact h .non H0' H' g (by show Rep _ _ _ _; simp only [Rep]) o
      | brk => exact h.elim
      | cont => exact h.elim
      | ret u =>
        intro σ H0' H' v _ S hu
        obtain ⟨g, o⟩ := S.outs hA zo
        cases u with
        | d x => exact h v H0' H' g hu o
        | sl i => exact h.elim
        | nw x =>
          refine h v H0' H' g ?_ o
          rw [show (nrm x) = if isMutD x = true then U.nw x else U.d x from rfl]
          have h' : RepN ⟨T, H0, H, ioL as vs⟩ σ H0' H' env x v := hu
          unfold RepN at h'
          by_cases hm : isMutD x = true
          · rw [if_pos hm] at h' ⊢
            show RepG T H0' H' H x v
            unfold RepG
            rw [if_pos hm]
            obtain ⟨a, rfl, h1, h2, _⟩ := h'
            exact ⟨a, rfl, h1, h2⟩
          · rw [if_neg hm] at h' ⊢
            exact h'
end PP
end

section
set_option maxHeartbeats 1000000
namespace PP
open PySem PySem.Spec PyProof.Rows L2

/-! ### the promise of a def, where no repr is under way -/
structure FnG (P : Program) (w : World) (K : PySem.W.Frag) (mg : Str → Option Value) (base : Heap) (k : Nat) (f : Addr) (fd : FuncData) (ps : List Str) (sp : Sp) : Prop where
  len : ∀ vs H Q E, sp vs H Q E → vs.length = ps.length
  run : ∀ (A : Around) (outer : List PySem.Env) (s : Shared) (H : Hp) (args : Args) (us : List Value) (vs : List V) (Q : VK) (E : XK), A.guards = some [] → Room k A → Env0 P w K mg base A outer s H →
    BindsTo s fd args (ps.zip us) → Vals vs us → sp vs H Q E → codeAny (model P w) A (.call (.ref f) args) (CR (L2.CX P w) outer P w H s Q E) s
theorem FnG.up {P : Program} {w : World} {K : PySem.W.Frag} {mg : Str → Option Value} {base : Heap} {j k : Nat} {f : Addr} {fd : FuncData} {ps : List Str} {sp : Sp} (F : FnG P w K mg base j f fd ps sp) (h : j ≤ k) : FnG P w K mg base k f fd ps sp :=
  ⟨F.len, fun A outer s H args us vs Q E hg hr => F.run A outer s H args us vs Q E hg (hr.mono h)⟩
theorem FnG.of {P : Program} {w : World} {K : PySem.W.Frag} {mg : Str → Option Value} {base : Heap} {x qual : Str} {st : Stmt} {f : Addr} {fd : FuncData} {N ps : List Str} {k : Nat} {sp : Sp} (F : Fun K x qual st f fd) (S : FnScope N ps (defScope st))
    (len : ∀ vs H Q E, sp vs H Q E → vs.length = ps.length)
    (hb : ∀ (cdv : Value) (A : Around) (outer : List PySem.Env) (s : Shared) (H : Hp) (vs : List V) (Q : VK) (E : XK), A.guards = some [] → Room k (A.deeper (envOfC qual (defScope st) s.heap.objs.size f cdv)) → sp vs H Q E →
      ∃ t, PSs (cxOf (L2.CX P w) P w K mg base N qual (defScope st) f cdv A outer s H E) (defBody st) t ∧ t { nx := fun _ H' => Q .non H', rt := Q } (L2.start N vs) H) : FnG P w K mg base (k + 1) f fd ps sp := by
  obtain ⟨oc, od, kV, doc, pm, an, cdv, ct, osl, rfl, lk, hcd⟩ := F.ex
  refine ⟨len, fun A outer s H args us vs Q E hgd hr e0 hbi rv hsp => ?_⟩
  have hkin : K.In s.heap := e0.mod.kin.keeps fun y z q => (e0.bs y z q).1
  have hlim : s.heap.NoLimit := e0.mod.nolimit.keeps fun y z q => (e0.bs y z q).1
  have kinds : ∀ y ∈ ps.zip us, (defScope st).names.lookup y.1 = some .local ∨ ((defScope st).names.lookup y.1 = some .cell ∧ ((cellsFrom (s.heap.objs.size + 1) (defScope st).names []).lookup y.1).isSome = true) := by
    rintro ⟨nm, val⟩ hy
    cases S.par nm (List.of_mem_zip hy).1 with
    | inl q => exact .inl q
    | inr q => exact .inr ⟨q, PySem.W.cellsFrom_some _ _ _ (.inl q)⟩
  refine codeAny_call_function hr.depth (hkin _ _ lk) rfl S.co S.gen rfl (PySem.W.codeRec_of hkin hcd) (hbi _ _ _ _ ?_)
  refine wpAny_newFunctionEnv_cells S.kind kinds fun env henv s1 hin => ?_
  subst henv
  refine ⟨hlim.keeps hin.toInCall.keep, codeAny_func ?_⟩
  obtain ⟨t, hder, hread⟩ := hb cdv A outer s H vs Q E hgd (hr.deeper _) hsp
  have I0 := inv_start (CX := L2.CX P w) (E := E) S hr.hd e0 (len _ _ _ _ hsp) rv hin
  refine wpAny_mono (hder.run [] s1 _ H _ I0 hread) (fun fl s' hfl => ?_) fun e s' he => he
  cases fl with
  | ret u => obtain ⟨v, σ', H', J, r, q⟩ := hfl; exact ⟨v, H', J.os, J.bare, J.base, J.hok, r, q⟩
  | next => obtain ⟨σ', H', J, q⟩ := hfl; exact ⟨V.non, H', J.os, J.bare, J.base, J.hok, rfl, q⟩
  | brk => obtain ⟨_, _, _, q⟩ := hfl; exact q.elim
  | cont => obtain ⟨_, _, _, q⟩ := hfl; exact q.elim
section
variable {X : Cx} {C : Ctx} {W : WX} {cl : CallF} {e a b c : Expr} {es : List Expr} {e' a' b' c' : Ex} {es' : Exs} {pos : Pos}
/-- the def at f runs -/
theorem FnG.goA {k : Nat} {f : Addr} {fd : FuncData} {ps : List Str} {sp : Sp} {pins : List (Addr × Obj)} {σ : L2.St} {H : Hp} {s : Shared} {Q : VK} {args : Args} {us : List Value} {vs : List V} {E : XK}
    (F : FnG X.prog X.w X.K X.mg X.base k f fd ps sp) (hgd : X.A.guards = some []) (hr : Room k X.A) (hb : BindsTo s fd args (ps.zip us)) (tk : Takes X W) (hE : ∀ cls d H', E cls d H' → W cls d σ H')
    (I : Inv X pins σ H s) (r : Vals vs us) (h : sp vs H Q E) : wpAny (model X.prog X.w) X.A (call (.ref f) args.pos args.kw) (EP X pins σ Q) X.xe s := by
  refine wpAny_call (codeAny_mono (F.run X.A X.stack s H args us vs Q E hgd hr I.env0 hb r h) fun res s' hq => ?_)
  cases res with
  | error ee => exact tk _ _ (XE.of_call I hE hq)
  | ok fl =>
    cases fl with
    | ret u => exact I.after hq
    | next => exact hq.elim
    | brk => exact hq.elim
    | cont => exact hq.elim
theorem FnG.go {k : Nat} {f : Addr} {fd : FuncData} {ps : List Str} {sp : Sp} {ds : List Value} {dvs : List V} {pins : List (Addr × Obj)} {σ : L2.St} {H : Hp} {s : Shared} {Q : VK} {us : List Value} {vs : List V} {E : XK}
    (F : FnG X.prog X.w X.K X.mg X.base k f fd ps sp) (hgd : X.A.guards = some []) (hr : Room k X.A) (hb : Binds X.K fd ps ds) (hd : Vals dvs ds) (tk : Takes X W) (hE : ∀ cls d H', E cls d H' → W cls d σ H')
    (I : Inv X pins σ H s) (r : Vals vs us) (h : sp (vs ++ dvs) H Q E) : wpAny (model X.prog X.w) X.A (call (.ref f) us) (EP X pins σ Q) X.xe s := by
  have r2 := r.append hd
  have hlen : (us ++ ds).length = ps.length := r2.length ▸ F.len _ _ _ _ h
  exact F.goA (args := ⟨us, []⟩) hgd hr (hb s us I.kIn hlen) tk hE I r2 h

def UcOk (C : Ctx) (σ : L2.St) (H0 : Hp) : List U → List V → Prop
  | [], vs => vs = []
  | .d x :: us, vs => ∃ v r, vs = v :: r ∧ Rep C.T H0 x v ∧ UcOk C σ H0 us r
  | .sl i :: us, vs => ∃ v r, vs = v :: r ∧ σ[i]? = some (some v) ∧ UcOk C σ H0 us r
  | .nw _ :: _, _ => False
theorem UcOk.mono {σ : L2.St} {H0 H0' : Hp} (e : Ext H0 H0') : ∀ {us : List U} {vs : List V}, UcOk C σ H0 us vs → UcOk C σ H0' us vs
  | [], _, h => h
  | .d x :: us, _, h => by obtain ⟨v, r, rfl, h1, h2⟩ := h; exact ⟨v, r, rfl, Rep.mono e _ _ h1, UcOk.mono e h2⟩
  | .sl i :: us, _, h => by obtain ⟨v, r, rfl, h1, h2⟩ := h; exact ⟨v, r, rfl, h1, UcOk.mono e h2⟩
  | .nw _ :: _, _, h => h
def tAC (C : Ctx) (W : WX) (cl : CallF) (ms : List Bool) (es : Exs) : TA := fun σ H Q => ∃ H0 env, Sim C σ H0 H env ∧ RQ C W σ (fun us _ H0' H' => ∀ vs, UcOk C σ H0' us vs → Q vs H') H0 (evC cl ms es env)
theorem k_nil {ms : List Bool} : PA X [] (tAC C W cl ms .nil) := paI pa_nil fun σ H Q ⟨H0, env, S, q⟩ => by
  simp only [evC] at q
  exact q H0 H (Ext.rfl' _) S [] rfl
theorem k_cons {m : Bool} {ms : List Bool} (ha : PE X e (tI C W cl e')) (hr : PA X es (tAC C W cl ms es')) (hs : starEach (e :: es) X.env = (false, eval e X.env) :: starEach es X.env := by rfl) : PA X (e :: es) (tAC C W cl (m :: ms) (.cons e' es')) :=
  paI (pa_cons ha hr hs) fun σ H Q ⟨H0, env, S, q⟩ => by
    simp only [evC] at q
    refine seqI S q fun u env1 x H1 H1' e1 S1 u1 q1 => ?_
    cases m with
    | true =>
      cases u with
      | d x => exact q1.elim
      | nw x => exact q1.elim
      | sl i =>
        simp only at q1
        refine ⟨H1, env1, S1, ?_⟩
        cases z : evC cl ms es' env1 with
        | ok us env3 =>
          simp only [z] at q1
          exact fun H3 H3' e3 S3 vs hv => q1 H3 H3' e3 S3 (x :: vs) ⟨x, vs, rfl, u1, hv⟩
        | exc x env3 => simp only [z] at q1; exact q1
        | bad => simp only [z] at q1; exact q1
    | false =>
      simp only at q1
      obtain ⟨⟨d, env2⟩, hf, q1⟩ := q1.orB
      obtain ⟨H2, e2, S2, r2⟩ := S1.take u1 hf
      have q2 := RQ.mono e2 q1
      refine ⟨H2, env2, S2, ?_⟩
      cases z : evC cl ms es' env2 with
      | ok us env3 =>
        simp only [z] at q2
        exact fun H3 H3' e3 S3 vs hv => q2 H3 H3' e3 S3 (x :: vs) ⟨x, vs, rfl, Rep.mono e3 _ _ r2, hv⟩
      | exc x env3 => simp only [z] at q2; exact q2
      | bad => simp only [z] at q2; exact q2
end
/-! ### behind a call -/
section
variable {C : Ctx} {σ : L2.St} {H0 H H0' H' : Hp} {env : Env}
/-- the arguments, as the callee has them -/
theorem args_ok (S : Sim C σ H0 H env) : ∀ {ms : List Bool} {us : List U} {vs : List V} {as : List Ar}, argsOf env ms us = some as → UcOk C σ H0 us vs → ArOk C.T H0 H as vs ∧ as.length = ms.length ∧
    (∀ a, some a ∈ ioL as vs → ∃ i ∈ ioSlots us, ownS (getS env i) = true ∧ σ[i]? = some (some (.ref a)))
  | [], [], _, _, h, hu => by cases h; cases hu; exact ⟨rfl, rfl, fun a ha => by simp [ioL] at ha⟩
  | [], _ :: _, _, _, h, hu => by simp [argsOf] at h
  | true :: _, [], _, _, h, hu => by simp [argsOf] at h
  | false :: _, [], _, _, h, hu => by simp [argsOf] at h
  | false :: ms, .d x :: us, _, as, h, hu => by
    simp only [argsOf, Option.map_eq_some_iff] at h
    obtain ⟨as', h1, rfl⟩ := h
    obtain ⟨v, r, rfl, h2, h3⟩ := hu
    obtain ⟨q1, q2, q3⟩ := args_ok S h1 h3
    refine ⟨⟨v, r, rfl, h2, q1⟩, by simp [q2], fun a ha => ?_⟩
    simp only [ioL, List.mem_cons, reduceCtorEq, false_or] at ha
    exact q3 a ha
  | false :: ms, .sl i :: us, _, as, h, hu => by simp [argsOf] at h
  | false :: ms, .nw i :: us, _, as, h, hu => by simp [argsOf] at h
  | true :: ms, .d x :: us, _, as, h, hu => by simp [argsOf] at h
  | true :: ms, .nw x :: us, _, as, h, hu => by simp [argsOf] at h
  | true :: ms, .sl i :: us, _, as, h, hu => by
    obtain ⟨v, r, rfl, h2, h3⟩ := hu
    have hi := S.slots i
    have key : ∀ d, ownS (getS env i) = true → (∃ a, v = .ref a ∧ RepO C.T H0 H d (.ref a)) → ((argsOf env ms us).map (Ar.io d :: ·)) = some as → ArOk C.T H0 H as (v :: r) ∧ as.length = (true :: ms).length ∧
        (∀ a, some a ∈ ioL as (v :: r) → ∃ j ∈ ioSlots (.sl i :: us), ownS (getS env j) = true ∧ σ[j]? = some (some (.ref a))) := by
      intro d ho ⟨a, ev, hr⟩ hm
      subst ev
      simp only [Option.map_eq_some_iff] at hm
      obtain ⟨as', h1, rfl⟩ := hm
      obtain ⟨q1, q2, q3⟩ := args_ok S h1 h3
      refine ⟨⟨a, r, rfl, hr, q1⟩, by simp [q2], fun b hb => ?_⟩
      simp only [ioL, List.mem_cons, Option.some.injEq] at hb
      rcases hb with rfl | hb
      · exact ⟨i, by simp [ioSlots], ho, h2⟩
      · obtain ⟨j, hj, z⟩ := q3 b hb
        exact ⟨j, by simp [ioSlots, hj], z⟩
    unfold argsOf at h
    split at h
    · rename_i d hd
      rw [hd] at hi
      obtain ⟨a, e1, _, e3⟩ := hi
      rw [h2] at e1; cases e1
      exact key d (by rw [hd]; rfl) ⟨a, rfl, e3⟩ h
    · rename_i d hd
      rw [hd] at hi
      obtain ⟨a, e1, _, e3⟩ := hi
      rw [h2] at e1; cases e1
      exact key d (by rw [hd]; rfl) ⟨a, rfl, e3⟩ h
    · cases h
theorem mem_of_dupFree {i : Nat} {is : List Nat} (h : dupFree (i :: is) = true) : i ∉ is ∧ dupFree is = true := by
  simp only [dupFree, Bool.and_eq_true, Bool.not_eq_true', List.contains_eq_mem, decide_eq_false_iff_not] at h
  exact h
/-- no address is handed in twice -/
theorem io_nodup (S : Sim C σ H0 H env) : ∀ {ms : List Bool} {us : List U} {vs : List V} {as : List Ar}, argsOf env ms us = some as → UcOk C σ H0 us vs → dupFree (ioSlots us) = true → NoDup (ioL as vs)
  | [], [], _, _, h, hu, _ => by cases h; cases hu; intro i j a hi; simp [ioL] at hi
  | [], _ :: _, _, _, h, hu, _ => by simp [argsOf] at h
  | true :: _, [], _, _, h, hu, _ => by simp [argsOf] at h
  | false :: _, [], _, _, h, hu, _ => by simp [argsOf] at h
  | false :: ms, .d x :: us, _, as, h, hu, hd => by
    simp only [argsOf, Option.map_eq_some_iff] at h
    obtain ⟨as', h1, rfl⟩ := h
    obtain ⟨v, r, rfl, h2, h3⟩ := hu
    have q := io_nodup S h1 h3 hd
    intro i j a hi hj
    cases i with
    | zero => simp [ioL] at hi
    | succ i =>
      cases j with
      | zero => simp [ioL] at hj
      | succ j => simp only [ioL, List.getElem?_cons_succ] at hi hj; rw [q i j a hi hj]
  | false :: ms, .sl i :: us, _, as, h, hu, _ => by simp [argsOf] at h
  | false :: ms, .nw i :: us, _, as, h, hu, _ => by simp [argsOf] at h
  | true :: ms, .d x :: us, _, as, h, hu, _ => by simp [argsOf] at h
  | true :: ms, .nw x :: us, _, as, h, hu, _ => by simp [argsOf] at h
  | true :: ms, .sl k :: us, _, as, h, hu, hd => by
    have hd' : dupFree (k :: ioSlots us) = true := hd
    obtain ⟨hk, hd2⟩ := mem_of_dupFree hd'
    obtain ⟨v, r, rfl, h2, h3⟩ := hu
    have key : ∀ d, ownS (getS env k) = true → (∃ a, v = .ref a) → ((argsOf env ms us).map (Ar.io d :: ·)) = some as → NoDup (ioL as (v :: r)) := by
      intro d ho ⟨a, ev⟩ hm
      subst ev
      simp only [Option.map_eq_some_iff] at hm
      obtain ⟨as', h1, rfl⟩ := hm
      have q := io_nodup S h1 h3 hd2
      have far : ∀ i b, (ioL as' r)[i]? = some (some b) → b ≠ a := fun i b hb z => by
        subst z
        obtain ⟨j, hj, oj, ej⟩ := (args_ok S h1 h3).2.2 b (List.mem_of_getElem? hb)
        exact S.inj k j b (fun w => hk (w ▸ hj)) ho oj h2 ej
      intro i j b hi hj
      cases i with
      | zero =>
        cases j with
        | zero => rfl
        | succ j => simp [ioL] at hi hj; subst hi; exact (far j _ hj rfl).elim
      | succ i =>
        cases j with
        | zero => simp [ioL] at hi hj; subst hj; exact (far i _ hi rfl).elim
        | succ j => simp only [ioL, List.getElem?_cons_succ] at hi hj; rw [q i j b hi hj]
    have hi := S.slots k
    unfold argsOf at h
    split at h
    · rename_i d hdd
      rw [hdd] at hi
      obtain ⟨a, e1, _, e3⟩ := hi
      rw [h2] at e1; cases e1
      exact key d (by rw [hdd]; rfl) ⟨a, rfl⟩ h
    · rename_i d hdd
      rw [hdd] at hi
      obtain ⟨a, e1, _, e3⟩ := hi
      rw [h2] at e1; cases e1
      exact key d (by rw [hdd]; rfl) ⟨a, rfl⟩ h
    · cases h
/-- what stands at the slots behind the call -/
theorem put_at (S : Sim C σ H0 H env) : ∀ {ms : List Bool} {us : List U} {vs : List V} {as : List Ar} {outs : List D} {env0 : Env}, argsOf env ms us = some as → UcOk C σ H0 us vs → dupFree (ioSlots us) = true → OutsOk C.T H0' H' (ioL as vs) outs →
    (∀ i ∈ ioSlots us, getS env0 i = getS env i) → env0.length = env.length →
    (putIO env0 (ioSlots us) outs).length = env.length ∧ (∀ i, i ∉ ioSlots us → getS (putIO env0 (ioSlots us) outs) i = getS env0 i) ∧
    ∀ i ∈ ioSlots us, ∃ a d, ownS (getS env i) = true ∧ σ[i]? = some (some (.ref a)) ∧ some a ∈ ioL as vs ∧ getS (putIO env0 (ioSlots us) outs) i = setIO (getS env i) d ∧ RepO C.T H0' H' d (.ref a)
  | [], [], _, _, outs, _, h, hu, _, ho, _, hl => by cases h; cases hu; cases ho; exact ⟨hl, fun _ _ => rfl, fun i hi => by simp [ioSlots] at hi⟩
  | [], _ :: _, _, _, _, _, h, hu, _, _, _, _ => by simp [argsOf] at h
  | true :: _, [], _, _, _, _, h, hu, _, _, _, _ => by simp [argsOf] at h
  | false :: _, [], _, _, _, _, h, hu, _, _, _, _ => by simp [argsOf] at h
  | false :: ms, .d x :: us, _, as, outs, _, h, hu, hd, ho, he, hl => by
    simp only [argsOf, Option.map_eq_some_iff] at h
    obtain ⟨as', h1, rfl⟩ := h
    obtain ⟨v, r, rfl, h2, h3⟩ := hu
    obtain ⟨q1, q2, q3⟩ := put_at S h1 h3 hd ho he hl
    exact ⟨q1, q2, fun i hi => by obtain ⟨a, d, z0, z1, z2, z3⟩ := q3 i hi; exact ⟨a, d, z0, z1, by simp [ioL, z2], z3⟩⟩
  | false :: ms, .sl i :: us, _, as, _, _, h, hu, _, _, _, _ => by simp [argsOf] at h
  | false :: ms, .nw i :: us, _, as, _, _, h, hu, _, _, _, _ => by simp [argsOf] at h
  | true :: ms, .d x :: us, _, as, _, _, h, hu, _, _, _, _ => by simp [argsOf] at h
  | true :: ms, .nw x :: us, _, as, _, _, h, hu, _, _, _, _ => by simp [argsOf] at h
  | true :: ms, .sl k :: us, _, as, outs, env0, h, hu, hd, ho, he, hl => by
    have hd' : dupFree (k :: ioSlots us) = true := hd
    obtain ⟨hk, hd2⟩ := mem_of_dupFree hd'
    obtain ⟨v, r, rfl, h2, h3⟩ := hu
    have key : ∀ d, ownS (getS env k) = true → (∃ a, v = .ref a) → ((argsOf env ms us).map (Ar.io d :: ·)) = some as → (putIO env0 (ioSlots (.sl k :: us)) outs).length = env.length ∧ (∀ i, i ∉ ioSlots (.sl k :: us) → getS (putIO env0 (ioSlots (.sl k :: us)) outs) i = getS env0 i) ∧
        ∀ i ∈ ioSlots (.sl k :: us), ∃ a d, ownS (getS env i) = true ∧ σ[i]? = some (some (.ref a)) ∧ some a ∈ ioL as (v :: r) ∧ getS (putIO env0 (ioSlots (.sl k :: us)) outs) i = setIO (getS env i) d ∧ RepO C.T H0' H' d (.ref a) := by
      intro d hown ⟨a, ev⟩ hm
      subst ev
      simp only [Option.map_eq_some_iff] at hm
      obtain ⟨as', h1, rfl⟩ := hm
      obtain ⟨o1, o2, rfl, ro, ho2⟩ := ho
      have hkl : k < env0.length := by rw [hl, S.len]; exact (List.getElem?_eq_some_iff.mp h2).1
      have hg : ∀ j, j ≠ k → getS (env0.set k (setIO (getS env0 k) o1)) j = getS env0 j := fun j hj => by
        rw [getS_set, if_neg (fun z => hj z.1.symm)]
      obtain ⟨q1, q2, q3⟩ := put_at (env0 := env0.set k (setIO (getS env0 k) o1)) S h1 h3 hd2 ho2 (fun i hi => by
        rw [hg i (fun z => hk (z ▸ hi))]; exact he i (by simp [ioSlots, hi])) (by simp [hl])
      refine ⟨q1, fun i hi => ?_, fun i hi => ?_⟩
      · simp only [ioSlots, List.mem_cons, not_or] at hi
        show getS (putIO (env0.set k (setIO (getS env0 k) o1)) (ioSlots us) o2) i = _
        rw [q2 i hi.2, hg i hi.1]
      · simp only [ioSlots, List.mem_cons] at hi
        rcases hi with rfl | hi
        · refine ⟨a, o1, hown, h2, by simp [ioL], ?_, ro⟩
          show getS (putIO (env0.set i (setIO (getS env0 i) o1)) (ioSlots us) o2) i = _
          rw [q2 i hk, getS_set, if_pos ⟨rfl, hkl⟩, he i (by simp [ioSlots])]
        · obtain ⟨a', d', z0, z1, z2, z3⟩ := q3 i hi
          exact ⟨a', d', z0, z1, by simp [ioL, z2], z3⟩
    have hi := S.slots k
    unfold argsOf at h
    split at h
    · rename_i d hdd
      rw [hdd] at hi
      obtain ⟨a, e1, _, e3⟩ := hi
      rw [h2] at e1; cases e1
      exact key d (by rw [hdd]; rfl) ⟨a, rfl⟩ h
    · rename_i d hdd
      rw [hdd] at hi
      obtain ⟨a, e1, _, e3⟩ := hi
      rw [h2] at e1; cases e1
      exact key d (by rw [hdd]; rfl) ⟨a, rfl⟩ h
    · cases h
theorem Sim.call (S : Sim C σ H0 H env) {ms : List Bool} {us : List U} {vs : List V} {as : List Ar} {outs : List D} (h : argsOf env ms us = some as) (hu : UcOk C σ H0 us vs) (hd : dupFree (ioSlots us) = true)
    (g : GrC (ioL as vs) H0 H H0' H') (ho : OutsOk C.T H0' H' (ioL as vs) outs) : Sim C σ H0' H' (putIO env (ioSlots us) outs) := by
  obtain ⟨p1, p2, p3⟩ := put_at S h hu hd ho (fun _ _ => rfl) rfl
  have hio := (args_ok S h hu).2.2
  have kind : ∀ j, ownS (getS (putIO env (ioSlots us) outs) j) = ownS (getS env j) := fun j => by
    by_cases hj : j ∈ ioSlots us
    · obtain ⟨a, d, _, _, _, e, _⟩ := p3 j hj
      rw [e, own_setIO]
    · rw [p2 j hj]
  have far : ∀ j a, ownS (getS env j) = true → σ[j]? = some (some (.ref a)) → j ∉ ioSlots us → some a ∉ ioL as vs := fun j a oj ej hj ha => by
    obtain ⟨i, hi, oi, ei⟩ := hio a ha
    exact S.inj i j a (fun z => hj (z ▸ hi)) oi oj ei ej
  have notHe : ∀ a, some a ∈ ioL as vs → C.He a = none ∨ C.io a := fun a ha => by
    obtain ⟨i, hi, oi, ei⟩ := hio a ha
    have q := S.slots i
    cases z : getS env i with
    | un => rw [z] at oi; cases oi
    | fz d => rw [z] at oi; cases oi
    | ow d => rw [z] at q; obtain ⟨b, e1, e2, _⟩ := q; rw [ei] at e1; cases e1; exact .inl e2
    | io d => rw [z] at q; obtain ⟨b, e1, e2, _⟩ := q; rw [ei] at e1; cases e1; exact .inr (List.mem_of_getElem? e2)
  have there : ∀ a, some a ∈ ioL as vs → H' a ≠ none := fun a ha q => by
    obtain ⟨i, hi, oi, ei⟩ := hio a ha
    obtain ⟨b, d, _, e1, _, _, r⟩ := p3 i hi
    rw [ei] at e1; cases e1
    obtain ⟨_, o, z⟩ := r.some
    rw [q] at z; cases z
  exact {
    ok := S.ok
    ex := g.e01
    ex0 := S.ex0.tr g.e0
    fresh := fun a q q' => by
      cases z : H0 a with
      | none => exact S.he (g.new a z q')
      | some o => exact S.fresh a q (by rw [z]; exact nofun)
    keep := fun a o q q' => g.keep a o (fun ha => by
      rcases notHe a ha with z | z
      · rw [z] at q; cases q
      · exact q' z) (S.keep a o q q')
    ioH := fun a q q' => by
      by_cases ha : some a ∈ ioL as vs
      · exact there a ha q'
      · cases z : H a with
        | none => exact S.ioH a q z
        | some o => rw [g.keep a o ha z] at q'; cases q'
    len := p1.trans S.len
    slots := fun j => by
      by_cases hj : j ∈ ioSlots us
      · obtain ⟨a, d, oj, ej, _, e, r⟩ := p3 j hj
        rw [e]
        have q := S.slots j
        cases z : getS env j with
        | un => trivial
        | fz d' => rw [z] at oj; cases oj
        | ow d' => rw [z] at q; obtain ⟨b, e1, e2, _⟩ := q; rw [ej] at e1; cases e1; exact ⟨a, ej, e2, r⟩
        | io d' => rw [z] at q; obtain ⟨b, e1, e2, _⟩ := q; rw [ej] at e1; cases e1; exact ⟨a, ej, e2, r⟩
      · rw [p2 j hj]
        refine (S.slots j).step g.e0 fun a oj ej => ?_
        obtain ⟨n0, o, ho⟩ := S.own oj ej
        refine ⟨?_, by rw [ho]; exact g.keep a o (far j a oj ej hj) ho⟩
        cases z : H0' a with
        | none => rfl
        | some u => rw [g.new a n0 (by rw [z]; exact nofun)] at ho; cases ho
    inj := fun i j a hij hi hj ei ej => by
      rw [kind] at hi hj
      exact S.inj i j a hij hi hj ei ej }
end
end PP
end

section
set_option maxHeartbeats 1000000
namespace PP
open PySem PySem.Spec PyProof.Rows L2
section
variable {X : Cx} {C : Ctx} {W : WX} {cl : CallF} {e a b c : Expr} {es : List Expr} {e' a' b' c' : Ex} {es' : Exs} {pos : Pos}
/-- the reading of a call of a def: its arguments, then its promise with the wish W -/
def tCl (T : Tbl) (W : WX) (cl : CallF) (f n : Nat) (t : TA) : TE := fun σ H Q => t σ H fun vs H1 => spF T cl f n vs H1 Q fun cls d H' => W cls d σ H'
/-- what a call hands back -/
theorem ret_u {σ : L2.St} {H1 H1' H0' H' : Hp} {env1 : Env} {ms : List Bool} {us : List U} {vs : List V} {as : List Ar} {outs : List D} {r : U} {v : V} (S1 : Sim C σ H1 H1' env1) (ha : argsOf env1 ms us = some as) (hv : UcOk C σ H1 us vs) (hd : dupFree (ioSlots us) = true)
    (g : GrC (ioL as vs) H1 H1' H0' H') (o : OutsOk C.T H0' H' (ioL as vs) outs) (hr : RetOk C.T H0' H' H1' r v) : UOk C σ H0' H' (putIO env1 (ioSlots us) outs) r v := by
  cases r with
  | d x => exact hr
  | sl i => exact hr.elim
  | nw x =>
    have hr' : RepG C.T H0' H' H1' x v := hr
    show RepN _ _ _ _ _ _ _
    unfold RepG at hr'
    unfold RepN
    split
    · rename_i hm
      rw [if_pos hm] at hr'
      obtain ⟨a, rfl, h1, h2⟩ := hr'
      refine ⟨a, rfl, S1.he h1, h2, fun i hi ei => ?_⟩
      have hk : ownS (getS env1 i) = true := by
        obtain ⟨_, p2, p3⟩ := put_at S1 ha hv hd o (fun _ _ => rfl) rfl
        by_cases hj : i ∈ ioSlots us
        · obtain ⟨_, _, z, _⟩ := p3 i hj; exact z
        · rw [p2 i hj] at hi; exact hi
      obtain ⟨_, o1, ho1⟩ := S1.own hk ei
      rw [h1] at ho1; cases ho1
    · rename_i hm
      rw [if_neg hm] at hr'
      exact hr'
theorem readC {σ : L2.St} {H : Hp} {Q : VK} {f n : Nat} {ms : List Bool} (hn : ms.length = n) (h : tI C W cl (.call f ms es') σ H Q) : tCl C.T W cl f n (tAC C W cl ms es') σ H Q := by
  obtain ⟨H0, env, S, q⟩ := h
  simp only [ev] at q
  refine ⟨H0, env, S, ?_⟩
  cases z : evC cl ms es' env with
  | bad => rw [z] at q; exact q.elim
  | exc x env1 => rw [z] at q; exact q
  | ok us env1 =>
    rw [z] at q
    simp only [R.bind_ok] at q
    obtain ⟨as, ha, q⟩ := q.orB
    split at q
    rotate_left
    · exact q.elim
    rename_i hd
    intro H1 H1' e1 S1 vs hv
    obtain ⟨g1, g2, g3⟩ := args_ok S1 ha hv
    refine ⟨H1, as, S1.ex, g1, io_nodup S1 ha hv hd, g2.trans hn, ?_⟩
    cases zc : cl f as with
    | bad => simp only [zc] at q; exact q
    | exc x outs =>
      simp only [zc] at q
      intro cls d H0' H' g o hx
      exact q cls d H0' H' (e1.tr g.e0) (S1.call ha hv hd g o) hx
    | ok r outs =>
      simp only [zc] at q
      intro v H0' H' g hr o
      have S2 := S1.call ha hv hd g o
      exact q H0' H' (e1.tr g.e0) S2 v (ret_u S1 ha hv hd g o hr)
theorem c_call {x : Str} {p : Pos} {k f n : Nat} {fa : Addr} {fd : FuncData} {ps : List Str} {ms : List Bool} (F : FnG X.prog X.w X.K X.mg X.base k fa fd ps (spF C.T cl f n)) (hgd : X.A.guards = some []) (hr : Room k X.A) (tk : Takes X W)
    (hg : Gl X x) (hm : X.mg x = some (.ref fa)) (hk : PySem.W.keepIn X.K (.ref fa) = true) (hb : Binds X.K fd ps []) (ha : PA X (e :: es) (tAC C W cl ms es')) (hn : ms.length = n := by rfl) (hdb : (x == ("__debug__" : Str)) = false := by decide)
    (he : starEach (e :: es) X.env = (false, eval e X.env) :: starEach es X.env := by rfl) (hpl : (backTo pos (starEach es X.env)).any (·.1) = false := by rfl) : PE X (.Call (.Name x p) (e :: es) [] pos) (tI C W cl (.call f ms es')) := by
  refine peI (t := tCl C.T W cl f n (tAC C W cl ms es')) ⟨fun pins s σ H Q I h => ?_⟩ fun σ H Q q => readC hn q
  refine wpAny_Call_Name_kw (ld_glob I hg hm ?_ hdb)
  refine PySem.W.callWith_K (h₀ := X.base) I.ok.mod.kin hk (thn (ha.run pos pins s σ H _ I h) fun us s1 hq => ?_) he hpl
  obtain ⟨vs, H1, I1, r, q⟩ := hq
  exact ⟨I1.kIn, F.go hgd hr hb .nil tk (fun _ _ _ z => z) I1 r (by rw [List.append_nil]; exact q)⟩
theorem c_call0 {x : Str} {p : Pos} {k f : Nat} {fa : Addr} {fd : FuncData} {ps : List Str} (F : FnG X.prog X.w X.K X.mg X.base k fa fd ps (spF C.T cl f 0)) (hgd : X.A.guards = some []) (hr : Room k X.A) (tk : Takes X W)
    (hg : Gl X x) (hm : X.mg x = some (.ref fa)) (hk : PySem.W.keepIn X.K (.ref fa) = true) (hb : Binds X.K fd ps []) (hdb : (x == ("__debug__" : Str)) = false := by decide) : PE X (.Call (.Name x p) [] [] pos) (tI C W cl (.call f [] .nil)) := by
  refine peI (t := tCl C.T W cl f 0 (tAC C W cl [] .nil)) ⟨fun pins s σ H Q I h => ?_⟩ fun σ H Q q => readC rfl q
  refine wpAny_Call_Name_kw (ld_glob I hg hm ?_ hdb)
  obtain ⟨H0, env, S, q⟩ := h
  simp only [evC] at q
  exact PySem.W.callWith_K0 I.kIn hk (F.go (us := []) hgd hr hb .nil tk (fun _ _ _ z => z) I .nil (q H0 H (Ext.rfl' _) S [] rfl))
end
/-! ### the law's call -/
theorem ints_vals : ∀ {vs : List Value} {ns : List Int}, IntsAre vs ns → Vals (ns.map V.int) vs := fun h => vals_ints h
theorem law_run {P : Program} {w : World} {K : PySem.W.Frag} {mg mb : Str → Option Value} {k : Nat} {fa a : Addr} {fd : FuncData} {x : Str} {sp : Sp} {s1 : Shared} {vs : List Value} {ns : List Int}
    (hK : K.In s1.heap) (hm : s1.heap.Ns mainGlobals mg) (hb : s1.heap.Ns builtinsNs mb) (hbb : ∀ x : Str, x ≠ "__name__" → mb x = bootBuiltins x) (hno : s1.heap.NoLimit) (hgen : s1.gens = #[])
    (hobj : s1.heap.get? a = some { cls := .type "list", data := .seq vs.toArray }) (hin : IntsAre vs ns) (hlen : ns.length ≤ sizeLine) (hroom : Room k callerA)
    (hF : ∀ base : Heap, K.In base → base.Ns mainGlobals mg → FnG P w K mg base k fa fd [x] sp) (hbi : ∀ (s : Shared) (u : Value), BindsTo s fd ⟨[u], []⟩ [(x, u)])
    (hsp : ∀ H : Hp, SqL K H a (ns.map V.int) → sp [.ref a] H (fun v _ => v = .bl true) fun _ _ _ => False) :
    codeAny (model P w) callerA (.call (.ref fa) ⟨[.ref a], []⟩) (fun r s' => r = .ok (.ret (.bool true)) ∧ OldK s1.heap s'.heap ∧ s'.os = s1.os ∧ AllBare s'.gens) s1 := by
  have rv : Vals (ns.map V.int) vs := vals_ints hin
  obtain ⟨H, hH⟩ : ∃ H : Hp, H = fun b => if b = a ∧ K.lookup a = none then some (HO.frz { cls := .type "list", data := .seq vs.toArray } (.lst (ns.map V.int))) else none := ⟨_, rfl⟩
  have hat : ∀ b o, H b = some o → b = a ∧ K.lookup a = none ∧ o = .frz { cls := .type "list", data := .seq vs.toArray } (.lst (ns.map V.int)) := fun b o q => by
    rw [hH] at q
    simp only at q
    split at q
    · rename_i z
      cases q
      exact ⟨z.1, z.2, rfl⟩
    · cases q
  have hlst : SqL K H a (ns.map V.int) := by
    cases q : K.lookup a with
    | none => exact .inl (.inr ⟨{ cls := .type "list", data := .seq vs.toArray }, by rw [hH]; exact if_pos ⟨rfl, q⟩⟩)
    | some o =>
      have z := hK a o q
      rw [hobj] at z
      cases z
      exact .inr ⟨_, vs.toArray, _, q, rfl, rfl, rfl, by rw [List.size_toArray, hin.length]; exact hlen, by simpa using rv⟩
  have hok : HOk P w H s1.heap := fun b o q => by
    obtain ⟨rfl, _, rfl⟩ := hat b o q
    exact ⟨hobj, by rw [List.length_map]; exact hlen, vs, _, rv, hobj⟩
  have bs : ∀ {b : Addr} {o : Obj}, s1.heap.get? b = some o → H b = none → (hidT s1.heap H).get? b = some o := fun q n => hidT_get q n
  have nd : ∀ {b : Addr} {o : Obj} {es : Array DictEntry} {ep : Nat}, s1.heap.get? b = some o → o.data = .dict es ep → H b = none := fun {b o es ep} q d => by
    cases z : H b with
    | none => rfl
    | some u =>
      obtain ⟨rfl, _, _⟩ := hat b u z
      rw [hobj] at q
      cases q
      exact nomatch (show Data.seq vs.toArray _ = Data.dict es ep from d)
  have ns' : ∀ {b : Addr} {m : Str → Option Value}, s1.heap.Ns b m → (hidT s1.heap H).Ns b m := fun {b m} ⟨o, es, ep, q, d, r⟩ => ⟨o, es, ep, bs q (nd q d), d, r⟩
  have hKb : K.In (hidT s1.heap H) := fun b o q => bs (hK b o q) (by
    cases z : H b with
    | none => rfl
    | some u =>
      obtain ⟨rfl, z2, _⟩ := hat b u z
      rw [z2] at q
      cases q)
  have mo : Mod K mg (hidT s1.heap H) := ⟨hKb, ns' hm, ⟨mb, ns' hb, hbb⟩, by obtain ⟨mc, q1, q2⟩ := hno; exact ⟨mc, ns' q1, q2⟩⟩
  have e0 : Env0 P w K mg (hidT s1.heap H) callerA [] s1 H := ⟨rfl, mo, fun b o q => of_hidT q, Nat.le_of_eq (hidT_size _ _), trivial, fun b q => by simp [frs] at q, hok, .of_eq hgen⟩
  refine codeAny_mono ((hF _ hKb (ns' hm)).run callerA [] s1 H ⟨[.ref a], []⟩ [.ref a] [.ref a] _ _ rfl hroom e0 (hbi s1 (.ref a)) (.cons rfl .nil) (hsp H hlst)) fun r s' q => ?_
  cases r with
  | error e =>
    obtain ⟨_, _, _, _, _, _, _, _, _, _, _, _, z⟩ := q
    exact z.elim
  | ok fl =>
    cases fl with
    | next => exact q.elim
    | brk => exact q.elim
    | cont => exact q.elim
    | ret u =>
      obtain ⟨v, H', q1, q2, q3, q4, q5, q6⟩ := q
      subst q6
      cases (show u = Value.bool true from q5)
      refine ⟨rfl, OldK.of_keep fun b o e => ?_, q1, q2⟩
      cases z : H b with
      | none => exact q3.keep b o e z (fun w => by simp [frs] at w) (by simp)
      | some u =>
        obtain ⟨rfl, _, rfl⟩ := hat b u z
        have z2 := q3.frzs _ _ _ z
        obtain ⟨e2, _⟩ := q4 _ _ z2
        rw [hobj] at e
        cases e
        exact e2
/-- THE END of a law -/
theorem law_walk {l : PySem.W.OpenLaw} {n k : Nat} {q : Program} {loose : List Str} {XP : (Str → Option Value) → Heap → Prop} {YP : World → Heap → Prop} {d : DefRec} {K : Params → PySem.W.Frag} {sp : PySem.W.Frag → Sp} {x : Str}
    (hn : l.most = some n) (hn2 : n ≤ sizeLine) (hdf : d.params.defaults = []) (hr : Room k callerA) (hY : ∀ (w : World) (h : Heap), YP w h → (K w.params).In h)
    (hF : ∀ (w : World) (mg : Str → Option Value) (fa : Addr) (h : Heap), (K w.params).In h → h.Ns mainGlobals mg → mg d.name = some (.ref fa) →
      ∃ fd : FuncData, (∀ (s : Shared) (u : Value), BindsTo s fd ⟨[u], []⟩ [(x, u)]) ∧ ∀ base : Heap, (K w.params).In base → base.Ns mainGlobals mg → FnG l.prog w (K w.params) mg base k fa fd [x] (sp (K w.params)))
    (hsp : ∀ (K : PySem.W.Frag) (H : Hp) (a : Addr) (ns : List Int), ns.length ≤ n → SqL K H a (ns.map V.int) → sp K [.ref a] H (fun v _ => v = .bl true) fun _ _ _ => False) :
    PySem.W.WalkO q loose XP YP l.row.toRowW d [] (fun f vs => PySem.call f vs) := by
  refine Att.attach_call hn hdf fun w s₀ s₁ mg mb fa o pm cd doc a vs ns G Y ho hd hcd hmg hobj hints hlen hg => ?_
  have hKX := hY w _ Y
  obtain ⟨fd, hb, hf⟩ := hF w mg fa _ hKX G.T.g hmg
  exact law_run hKX G.T.g G.T.b G.T.builtins G.T.nolimit hg hobj hints (Nat.le_trans hlen hn2) hr hf hb fun H hS => hsp _ H a ns hlen hS
/-- what is to be shown of the law: for each script the interpreter gives True -/
theorem law_sp {T : PySem.W.Frag → Tbl} (hT : ∀ K, (T K).K = K) {cl : CallF} {f : Nat} {n : Nat} (h : ∀ ns : List Int, ns.length ≤ n → ∃ outs, cl f [.fz (.kst (ns.map D.int))] = .ok (.d (.bl true)) outs)
    (K : PySem.W.Frag) (H : Hp) (a : Addr) (ns : List Int) (hl : ns.length ≤ n) (hS : SqL K H a (ns.map V.int)) : spF (T K) cl f 1 [.ref a] H (fun v _ => v = .bl true) fun _ _ _ => False := by
  have hr : ∀ ns : List Int, RepAll (T K) H (ns.map D.int) (ns.map V.int) := fun ns => by
    induction ns with
    | nil => simp [RepAll]
    | cons i r ih => simp only [List.map_cons, RepAll]; exact ⟨_, _, rfl, r_int _ _ _, ih⟩
  refine ⟨H, [.fz (.kst (ns.map D.int))], Ext.rfl' _, ⟨.ref a, [], rfl, ?_, rfl⟩, fun i j b hi => ?_, rfl, ?_⟩
  · simp only [Rep]
    exact ⟨a, _, rfl, by rw [hT]; exact hS, hr ns⟩
  · cases i with
    | zero => simp [ioL] at hi
    | succ i => simp [ioL] at hi
  · obtain ⟨outs, q⟩ := h ns hl
    rw [q]
    intro v H0' H' _ hv _
    have hv' : Rep (T K) H0' (.bl true) v := hv
    simpa only [Rep] using hv'
end PP
end

section
set_option maxHeartbeats 1000000
namespace PP
open PySem PySem.Spec PyProof.Rows L2
section
variable {X : Cx} {C : Ctx} {W : WX} {cl : CallF} {e a b c : Expr} {es rest : List Expr} {e' a' b' c' : Ex} {es' : Exs} {pos : Pos} {st : Stmt}
theorem c_ife (hc : PT X c (tT C W cl c')) (ha : PE X a (tI C W cl a')) (hb : PE X b (tI C W cl b')) : PE X (.IfExp c a b pos) (tI C W cl (.ife c' a' b')) :=
  peI (pe_ifExp hc ha hb) fun σ H Q ⟨H0, env, S, q⟩ => by
    simp only [ev] at q
    have q' : RQ C W σ (KV C σ Q) H0 ((evT cl c' env).bind fun t env1 => match t with | true => ev cl a' env1 | false => ev cl b' env1) := by
      unfold evT
      cases z : ev cl c' env with
      | bad => simp only [z, R.bind_bad] at q ⊢; exact q
      | exc x env1 => simp only [z, R.bind_exc] at q ⊢; exact q
      | ok u env1 =>
        simp only [z, R.bind_ok] at q ⊢
        cases z1 : rdU env1 u with
        | none => simp only [z1, orBad_none] at q; exact q.elim
        | some d =>
          simp only [z1, orBad_some] at q ⊢
          cases z2 : truD d with
          | none => simp only [z2, orBad_none] at q; exact q.elim
          | some t => simp only [z2, orBad_some, R.bind_ok] at q ⊢; exact q
    refine seqT S q' fun t env1 H1 H1' e1 S1 q1 => ?_
    cases t with
    | true => rw [if_pos rfl]; exact ⟨H1, env1, S1, q1⟩
    | false => rw [if_neg Bool.false_ne_true]; exact ⟨H1, env1, S1, q1⟩
/-! tests -/
theorem evT_and (env : Env) : evT cl (.and a' b') env = (evT cl a' env).bind fun t env1 => match t with | true => evT cl b' env1 | false => .ok false env1 := by
  unfold evT
  simp only [ev]
  cases z : ev cl a' env with
  | bad => rfl
  | exc x env1 => rfl
  | ok u env1 =>
    simp only [R.bind_ok]
    cases z1 : rdU env1 u with
    | none => rfl
    | some d =>
      simp only [orBad_some]
      cases z2 : truD d with
      | none => rfl
      | some t =>
        simp only [orBad_some, R.bind_ok]
        cases t with
        | true => rfl
        | false =>
          have : rdU env1 (pend u) = some d := by cases u <;> exact z1
          simp only [R.bind_ok, this, orBad_some, z2]
theorem evT_or (env : Env) : evT cl (.or a' b') env = (evT cl a' env).bind fun t env1 => match t with | true => .ok true env1 | false => evT cl b' env1 := by
  unfold evT
  simp only [ev]
  cases z : ev cl a' env with
  | bad => rfl
  | exc x env1 => rfl
  | ok u env1 =>
    simp only [R.bind_ok]
    cases z1 : rdU env1 u with
    | none => rfl
    | some d =>
      simp only [orBad_some]
      cases z2 : truD d with
      | none => rfl
      | some t =>
        simp only [orBad_some, R.bind_ok]
        cases t with
        | false => rfl
        | true =>
          have : rdU env1 (pend u) = some d := by cases u <;> exact z1
          simp only [R.bind_ok, this, orBad_some, z2]
theorem evT_not (env : Env) : evT cl (.not a') env = (evT cl a' env).bind fun t env1 => .ok (!t) env1 := by
  unfold evT
  simp only [ev]
  cases z : ev cl a' env with
  | bad => rfl
  | exc x env1 => rfl
  | ok u env1 =>
    simp only [R.bind_ok]
    cases z1 : rdU env1 u with
    | none => rfl
    | some d =>
      simp only [orBad_some]
      cases z2 : truD d with
      | none => rfl
      | some t => simp only [orBad_some, R.bind_ok, rdU, truD]
def isCmp : O2 → Bool
  | .lt => true | .le => true | .gt => true | .ge => true | .eq => true | .ne => true | .is => true | .isnot => true | .isin => true | .notin => true | _ => false
theorem cmp_bl {o : O2} (h : isCmp o = true) {x y d : D} (q : op2 o x y = some d) : ∃ b, d = .bl b := by
  cases o <;> first | (cases h; done) | skip
  · cases x <;> first | (cases q; done) | (cases y <;> first | (cases q; done) | (cases q; exact ⟨_, rfl⟩))
  · cases x <;> first | (cases q; done) | (cases y <;> first | (cases q; done) | (cases q; exact ⟨_, rfl⟩))
  · cases x <;> first | (cases q; done) | (cases y <;> first | (cases q; done) | (cases q; exact ⟨_, rfl⟩))
  · cases x <;> first | (cases q; done) | (cases y <;> first | (cases q; done) | (cases q; exact ⟨_, rfl⟩))
  · have q' : (eqD x y).map D.bl = some d := by cases x <;> cases y <;> exact q
    rw [Option.map_eq_some_iff] at q'
    obtain ⟨b, _, rfl⟩ := q'
    exact ⟨b, rfl⟩
  · have q' : ((eqD x y).map fun b => D.bl (!b)) = some d := by cases x <;> cases y <;> exact q
    rw [Option.map_eq_some_iff] at q'
    obtain ⟨b, _, rfl⟩ := q'
    exact ⟨!b, rfl⟩
  · cases x <;> cases y <;> cases q
  · cases x <;> cases y <;> cases q
  · rcases is_inv q with ⟨_, rfl⟩ | ⟨_, _, r, rfl, _⟩ <;> exact ⟨_, rfl⟩
  · rcases isnot_inv q with ⟨_, rfl⟩ | ⟨_, _, r, rfl, _⟩ <;> exact ⟨_, rfl⟩
theorem RepG.bl {T : Tbl} {H0' H' H : Hp} {b : Bool} {v : V} (r : RepG T H0' H' H (.bl b) v) : v = .bl b := by simpa only [RepG, isMutD, Rep, Bool.false_eq_true, if_false] using r
theorem t_cmp {op : CmpOp} {o : O2} (ho : OpR X (compareOp op) (rD C.T (op2 o))) (ha : PE X a (tI C W cl a')) (hb : PE X b (tI C W cl b')) (hm : behindInMarks op b = false) (hc : isCmp o = true := by rfl) : PT X (.Compare a [op] [b] pos) (tT C W cl (.op2 o a' b')) :=
  ptI (pt_cmpR ho ha hb hm) fun σ H Q ⟨H0, env, S, q⟩ => by
    simp only [evT, ev] at q
    have q' : RQ C W σ (fun b _ _ H' => Q b H') H0 ((ev cl a' env).bind fun u env1 => (ev cl b' env1).bind fun w env2 => orBad (rdU env2 (pend u)) fun x => orBad (rdU env2 w) fun y => orBad (op2 o x y) fun z => orBad (truD z) fun t => .ok t env2) := by
      cases z : ev cl a' env with
      | bad => simp only [z, R.bind_bad] at q ⊢; exact q
      | exc x env1 => simp only [z, R.bind_exc] at q ⊢; exact q
      | ok u env1 =>
        simp only [z, R.bind_ok] at q ⊢
        cases z1 : ev cl b' env1 with
        | bad => simp only [z1, R.bind_bad] at q ⊢; exact q
        | exc x env1 => simp only [z1, R.bind_exc] at q ⊢; exact q
        | ok w env2 =>
          simp only [z1, R.bind_ok] at q ⊢
          cases z2 : rdU env2 (pend u) with
          | none => simp only [z2, orBad_none, R.bind_bad] at q; exact q.elim
          | some x =>
            cases z3 : rdU env2 w with
            | none => simp only [z2, z3, orBad_none, orBad_some, R.bind_bad] at q; exact q.elim
            | some y =>
              cases z4 : op2 o x y with
              | none => simp only [z2, z3, z4, orBad_none, orBad_some, R.bind_bad] at q; exact q.elim
              | some d => simp only [z2, z3, z4, orBad_some, R.bind_ok] at q ⊢; exact q
    refine seqI S q' fun u env1 x H1 H1' e1 S1 u1 q1 => ?_
    obtain ⟨H1f, e1f, S1f, u1f⟩ := S1.pend u1
    refine seqI S1f (RQ.mono e1f q1) fun w env2 y H2 H2' e2 S2 u2 q2 => ?_
    obtain ⟨dx, hx, q2⟩ := q2.orB
    obtain ⟨dy, hy, q2⟩ := q2.orB
    obtain ⟨z, hz, q2⟩ := q2.orB
    obtain ⟨t, ht, q2⟩ := q2.orB
    obtain ⟨bb, rfl⟩ := cmp_bl hc hz
    simp only [truD, Option.some.injEq] at ht
    subst ht
    refine ⟨H2, dx, dy, _, S2.ex, S2.rd (u1f.wait e2) hx, S2.rd u2 hy, hz, fun v H0' H' g r => ?_⟩
    exact ⟨bb, r.bl, q2 H0' H' g.e0 (S2.gr g)⟩
theorem t_chain {op op' : CmpOp} {o p : O2} (ho : OpR X (compareOp op) (rD C.T (op2 o))) (ho' : OpR X (compareOp op') (rD C.T (op2 p))) (ha : PE X a (tI C W cl a')) (hb : PE X b (tI C W cl b')) (hc : PE X c (tI C W cl c'))
    (hm : lastMarks [op, op'] [b, c] = false := by with_unfolding_all rfl) (hcm : isCmp p = true := by rfl) : PT X (.Compare a [op, op'] [b, c] pos) (tT C W cl (.chain o p a' b' c')) :=
  ⟨fun pins s σ H Q I ⟨H0, env, S, q⟩ => by
    -- by the value: it is a bool
    refine (pt_chain ho ho' ha hb hc hm).run pins s σ H Q I ?_
    simp only [evT, ev] at q
    have q' : RQ C W σ (fun b _ _ H' => Q b H') H0 ((ev cl a' env).bind fun u env1 => ((ev cl b' env1).bind fun w env2 => orBad (rdU env2 (pend u)) fun x => orBad (rdU env2 (pend w)) fun y => orBad (op2 o x y) fun z => match z with
        | .bl true => (ev cl c' env2).bind fun q env3 => orBad (rdU env3 (pend w)) fun y' => orBad (rdU env3 q) fun r => orBad (op2 p y' r) fun z' => .ok (.nw z') env3
        | .bl false => .ok (.nw (.bl false)) env2
        | _ => .bad).bind fun u env1 => orBad (rdU env1 u) fun x => orBad (truD x) fun t => .ok t env1) := by
      cases z : ev cl a' env with
      | bad => simp only [z, R.bind_bad] at q ⊢; exact q
      | exc x env1 => simp only [z, R.bind_exc] at q ⊢; exact q
      | ok u env1 => simp only [z, R.bind_ok] at q ⊢; exact q
    refine seqI S q' fun u env1 x H1 H1' e1 S1 u1 q1 => ?_
    obtain ⟨H1f, e1f, S1f, u1f⟩ := S1.pend u1
    have q1f := RQ.mono e1f q1
    have q1' : RQ C W σ (fun b _ _ H' => Q b H') H1f ((ev cl b' env1).bind fun w env2 => (orBad (rdU env2 (pend u)) fun x => orBad (rdU env2 (pend w)) fun y => orBad (op2 o x y) fun z => match z with
        | .bl true => (ev cl c' env2).bind fun q env3 => orBad (rdU env3 (pend w)) fun y' => orBad (rdU env3 q) fun r => orBad (op2 p y' r) fun z' => .ok (.nw z') env3
        | .bl false => .ok (.nw (.bl false)) env2
        | _ => .bad).bind fun u env1 => orBad (rdU env1 u) fun x => orBad (truD x) fun t => .ok t env1) := by
      cases z : ev cl b' env1 with
      | bad => simp only [z, R.bind_bad] at q1f ⊢; exact q1f
      | exc x env1 => simp only [z, R.bind_exc] at q1f ⊢; exact q1f
      | ok u env1 => simp only [z, R.bind_ok] at q1f ⊢; exact q1f
    refine seqI S1f q1' fun w env2 y H2 H2' e2 S2 u2 q2 => ?_
    obtain ⟨H2f, e2f, S2f, u2f⟩ := S2.pend u2
    have q2 := RQ.mono e2f q2
    cases hx : rdU env2 (pend u) with
    | none => simp only [hx, orBad_none, R.bind_bad] at q2; exact q2.elim
    | some dx =>
    cases hy : rdU env2 (pend w) with
    | none => simp only [hx, hy, orBad_none, orBad_some, R.bind_bad] at q2; exact q2.elim
    | some dy =>
    cases hz : op2 o dx dy with
    | none => simp only [hx, hy, hz, orBad_none, orBad_some, R.bind_bad] at q2; exact q2.elim
    | some z =>
    simp only [hx, hy, hz, orBad_some] at q2
    refine ⟨H2f, dx, dy, z, S2f.ex, S2f.rd (u1f.wait (e2.tr e2f)) hx, S2f.rd u2f hy, hz, fun v H0' H' g r => ?_⟩
    split at q2
    · cases r.bl
      refine ⟨true, rfl, ?_⟩
      rw [if_pos rfl]
      have S3 := S2f.gr g
      have q2g := RQ.mono g.e0 q2
      have q2' : RQ C W σ (fun b _ _ H' => Q b H') H0' ((ev cl c' env2).bind fun q env3 => orBad (rdU env3 (pend w)) fun y' => orBad (rdU env3 q) fun r => orBad (op2 p y' r) fun z' => orBad (truD z') fun t => .ok t env3) := by
        cases z : ev cl c' env2 with
        | bad => simp only [z, R.bind_bad] at q2g ⊢; exact q2g
        | exc x env1 => simp only [z, R.bind_exc] at q2g ⊢; exact q2g
        | ok q env3 =>
          simp only [z, R.bind_ok] at q2g ⊢
          cases z2 : rdU env3 (pend w) with
          | none => simp only [z2, orBad_none, R.bind_bad] at q2g; exact q2g.elim
          | some x =>
            cases z3 : rdU env3 q with
            | none => simp only [z2, z3, orBad_none, orBad_some, R.bind_bad] at q2g; exact q2g.elim
            | some y =>
              cases z4 : op2 p x y with
              | none => simp only [z2, z3, z4, orBad_none, orBad_some, R.bind_bad] at q2g; exact q2g.elim
              | some d => simp only [z2, z3, z4, orBad_some, R.bind_ok] at q2g ⊢; exact q2g
      refine seqI S3 q2' fun t env3 y3 H3 H3' e3 S4 u3 q3 => ?_
      obtain ⟨dy', hy', q3⟩ := q3.orB
      obtain ⟨dr, hr, q3⟩ := q3.orB
      obtain ⟨z', hz', q3⟩ := q3.orB
      obtain ⟨tt, ht, q3⟩ := q3.orB
      obtain ⟨bb, rfl⟩ := cmp_bl hcm hz'
      simp only [truD, Option.some.injEq] at ht
      subst ht
      exact ⟨H3, dy', dr, _, S4.ex, S4.rd (u2f.wait (g.e0.tr e3)) hy', S4.rd u3 hr, hz', fun v H0' H' g r => ⟨bb, r.bl, q3 H0' H' g.e0 (S4.gr g)⟩⟩
    · cases r.bl
      refine ⟨false, rfl, ?_⟩
      rw [if_neg Bool.false_ne_true]
      simp only [R.bind_ok, rdU, orBad_some, truD] at q2
      exact ⟨false, rfl, q2 H0' H' g.e0 (S2f.gr g)⟩
    · exact q2.elim⟩
theorem w_and1 {op : BoolOp} (ha : PT X a (tT C W cl a')) : PW X (.BoolOp .And [a] pos) (tT C W cl a') := pw_and1 ha
theorem w_or1 (ha : PT X a (tT C W cl a')) : PW X (.BoolOp .Or [a] pos) (tT C W cl a') := pw_or1 ha
theorem w_and (ha : PT X a (tT C W cl a')) (hb : PW X (.BoolOp .And (b :: rest) pos) (tT C W cl b')) : PW X (.BoolOp .And (a :: b :: rest) pos) (tT C W cl (.and a' b')) :=
  pwI (pw_and ha hb) fun σ H Q ⟨H0, env, S, q⟩ => by
    rw [evT_and] at q
    refine seqT S q fun t env1 H1 H1' e1 S1 q1 => ?_
    cases t with
    | true => rw [if_pos rfl]; exact ⟨H1, env1, S1, q1⟩
    | false => rw [if_neg Bool.false_ne_true]; exact q1 H1 H1' (Ext.rfl' _) S1
theorem w_or (ha : PT X a (tT C W cl a')) (hb : PW X (.BoolOp .Or (b :: rest) pos) (tT C W cl b')) : PW X (.BoolOp .Or (a :: b :: rest) pos) (tT C W cl (.or a' b')) :=
  pwI (pw_or ha hb) fun σ H Q ⟨H0, env, S, q⟩ => by
    rw [evT_or] at q
    refine seqT S q fun t env1 H1 H1' e1 S1 q1 => ?_
    cases t with
    | false => rw [if_neg Bool.false_ne_true]; exact ⟨H1, env1, S1, q1⟩
    | true => rw [if_pos rfl]; exact q1 H1 H1' (Ext.rfl' _) S1
theorem t_not (ha : PT X a (tT C W cl a')) : PT X (.UnaryOp .Not a pos) (tT C W cl (.not a')) :=
  ptI (pt_not ha) fun σ H Q ⟨H0, env, S, q⟩ => by
    rw [evT_not] at q
    exact seqT S q fun t env1 H1 H1' e1 S1 q1 => q1 H1 H1' (Ext.rfl' _) S1
theorem c_dic : PE X (.Dict [] [] pos) (tI C W cl .dic) := peI pe_dnewK fun σ H Q ⟨H0, env, S, q⟩ => by
  simp only [ev] at q
  intro p hp
  refine fin_nw S q (Gr.own S.ex hp) ?_
  show (if true = true then _ else _)
  rw [if_pos rfl]
  exact ⟨p, rfl, hp, p, [], rfl, S.ex.no hp, upd_same, rfl, rfl⟩
theorem s_never : PS X st (tS C W cl .never) := psI ps_never fun E σ H ⟨H0, env, S, q⟩ => q
/-! several names -/
/-- the targets of a tuple's parts -/
def gNs : List Nat → TGs
  | [] => gNil
  | i :: is => gCons (gName i) (gNs is)
theorem gNs_ok {is : List Nat} : ∀ {ds : List D} {vs : List V} {σ : L2.St} {H0 H : Hp} {env env2 : Env} {Q : L2.St → Hp → Prop}, Sim C σ H0 H env → RepAll C.T H0 ds vs → storeAll is ds env = some env2 → (∀ σ', Sim C σ' H0 H env2 → Q σ' H) → gNs is vs σ H Q := by
  induction is with
  | nil =>
    intro ds vs σ H0 H env env2 Q S hr h hq
    cases ds with
    | nil =>
      simp only [RepAll] at hr
      simp only [storeAll, Option.some.injEq] at h
      subst h
      exact ⟨hr, hq _ S⟩
    | cons _ _ => simp [storeAll] at h
  | cons i is ih =>
    intro ds vs σ H0 H env env2 Q S hr h hq
    cases ds with
    | nil => simp [storeAll] at h
    | cons d ds =>
      simp only [RepAll] at hr
      obtain ⟨v, r, rfl, h1, h2⟩ := hr
      simp only [storeAll] at h
      exact ⟨v, r, rfl, ih (S.store (s := .fz d) rfl ⟨_, rfl, h1⟩ fun _ _ z => by cases z) h2 h hq⟩
theorem Sim.two {σ : L2.St} {H0 H : Hp} {env env2 : Env} (S : Sim C σ H0 H env) {i j : Nat} {x y : V} {ds : List D} (hr : RepAll C.T H0 ds [x, y]) (h : storeAll [i, j] ds env = some env2) : Sim C ((σ.set i (some x)).set j (some y)) H0 H env2 := by
  have z : gNs [i, j] [x, y] σ H (fun σ' H' => Sim C σ' H0 H' env2) := gNs_ok S hr h fun σ' s => s
  obtain ⟨v1, r1, e1, v2, r2, e2, e3, q⟩ := z
  cases e1
  cases e2
  exact q
theorem Sim.three {σ : L2.St} {H0 H : Hp} {env env2 : Env} (S : Sim C σ H0 H env) {i j k : Nat} {x y w : V} {ds : List D} (hr : RepAll C.T H0 ds [x, y, w]) (h : storeAll [i, j, k] ds env = some env2) : Sim C (((σ.set i (some x)).set j (some y)).set k (some w)) H0 H env2 := by
  have z : gNs [i, j, k] [x, y, w] σ H (fun σ' H' => Sim C σ' H0 H' env2) := gNs_ok S hr h fun σ' s => s
  obtain ⟨v1, r1, e1, v2, r2, e2, v3, r3, e3, e4, q⟩ := z
  cases e1
  cases e2
  cases e3
  exact q
theorem storeAll_len : ∀ {is : List Nat} {ds : List D} {env env2 : Env}, storeAll is ds env = some env2 → ds.length = is.length
  | [], [], _, _, _ => rfl
  | _ :: is, _ :: ds, _, _, h => by simp only [storeAll] at h; simp [storeAll_len h]
  | [], _ :: _, _, _, h => by simp [storeAll] at h
  | _ :: _, [], _, _, h => by simp [storeAll] at h
theorem seqF {σ : L2.St} {H0 H : Hp} {env : Env} {E : Ends} {f : List D → Env → R Fl} (S : Sim C σ H0 H env) (h : RS C W E H0 ((evF cl es' env).bind f)) {Q : List V → Hp → Prop}
    (hQ : ∀ ds env1 vs H01 H1, Ext H0 H01 → Sim C σ H01 H1 env1 → RepAll C.T H01 ds vs → RS C W E H01 (f ds env1) → Q vs H1) : tAF C W cl es' σ H Q := by
  refine ⟨H0, env, S, ?_⟩
  cases q : evF cl es' env with
  | ok u env1 =>
    rw [q] at h
    exact fun H01 H1 e s vs hv => hQ u env1 vs H01 H1 e s hv (RS.mono e h)
  | exc x env1 =>
    rw [q] at h
    exact fun cls d H0' H' e s x => h σ cls d H0' H' e s x
  | bad => rw [q] at h; exact h
theorem s_par2 {i j : Nat} (h : PS X st (tPar i j (tAF C W cl es'))) : PS X st (tS C W cl (.par [i, j] es')) := psI h fun E σ H ⟨H0, env, S, q⟩ => by
  simp only [ex] at q
  refine seqF S q fun ds env1 vs H1 H1' e1 S1 hv q1 => ?_
  obtain ⟨env2, hs, q1⟩ := q1.orB
  have hl := hv.len
  rw [storeAll_len hs] at hl
  match vs, hl with
  | [x, y], _ => exact ⟨x, y, rfl, q1 _ H1 H1' (Ext.rfl' _) (S1.two hv hs)⟩
theorem s_par3 {i j k : Nat} (h : PS X st (tPar3 i j k (tAF C W cl es'))) : PS X st (tS C W cl (.par [i, j, k] es')) := psI h fun E σ H ⟨H0, env, S, q⟩ => by
  simp only [ex] at q
  refine seqF S q fun ds env1 vs H1 H1' e1 S1 hv q1 => ?_
  obtain ⟨env2, hs, q1⟩ := q1.orB
  have hl := hv.len
  rw [storeAll_len hs] at hl
  match vs, hl with
  | [x, y, z], _ => exact ⟨x, y, z, rfl, q1 _ H1 H1' (Ext.rfl' _) (S1.three hv hs)⟩
theorem s_unp {is : List Nat} {n : Nat} (hn : is.length = n) (hK : X.K = C.T.K) (h : PS X st (tAsg (tI C W cl e') (gTup X.K n (gNs is)))) : PS X st (tS C W cl (.unp is e')) := psI h fun E σ H ⟨H0, env, S, q⟩ => by
  simp only [ex] at q
  refine seqE S q fun u env1 v H1 H1' e1 S1 u1 q1 => ?_
  obtain ⟨d, hd, q1⟩ := q1.orB
  split at q1
  · rename_i ds
    obtain ⟨env2, hs, q1⟩ := q1.orB
    obtain ⟨a, xs, rfl, h1, h2⟩ := rd_tup S1.ex (S1.rd u1 hd)
    exact ⟨a, xs, rfl, hK ▸ h1, by rw [h2.len, storeAll_len hs, hn], gNs_ok S1 h2 hs fun σ' S' => q1 σ' H1 H1' (Ext.rfl' _) S'⟩
  · exact q1.elim
/-! a call with keywords -/
theorem k_pk {kws : List Keyword} {ms : List Bool} {nm : Option Str} {kpos : Pos} {m : Bool} (ha : PE X e (tI C W cl e')) (hr : PK X kws (tAC C W cl ms es')) : PK X (⟨nm, e, kpos⟩ :: kws) (tAC C W cl (false :: ms) (.cons e' es')) :=
  ⟨fun pos pins s σ H Q I ⟨H0, env, S, q⟩ => (pk_cons ha hr).run pos pins s σ H Q I (by
    simp only [evC] at q
    refine seqI S q fun u env1 x H1 H1' e1 S1 u1 q1 => ?_
    obtain ⟨⟨d, env2⟩, hf, q1⟩ := q1.orB
    obtain ⟨H2, e2, S2, r2⟩ := S1.take u1 hf
    have q2 := RQ.mono e2 q1
    refine ⟨H2, env2, S2, ?_⟩
    cases z : evC cl ms es' env2 with
    | ok us env3 =>
      simp only [z] at q2
      exact fun H3 H3' e3 S3 vs hv => q2 H3 H3' e3 S3 (x :: vs) ⟨x, vs, rfl, Rep.mono e3 _ _ r2, hv⟩
    | exc x env3 => simp only [z] at q2; exact q2
    | bad => simp only [z] at q2; exact q2)⟩
theorem k_pk0 {ms : List Bool} : PK X [] (tAC C W cl ms .nil) := ⟨fun pos pins s σ H Q I ⟨H0, env, S, q⟩ => pk_nil.run pos pins s σ H Q I (by
  simp only [evC] at q
  exact q H0 H (Ext.rfl' _) S [] rfl)⟩
theorem UcOk.len {σ : L2.St} {H0 : Hp} : ∀ {us : List U} {vs : List V}, UcOk C σ H0 us vs → vs.length = us.length
  | [], _, h => by cases h; rfl
  | .d x :: us, _, h => by obtain ⟨v, r, rfl, h1, h2⟩ := h; simp [UcOk.len h2]
  | .sl i :: us, _, h => by obtain ⟨v, r, rfl, h1, h2⟩ := h; simp [UcOk.len h2]
  | .nw _ :: _, _, h => h.elim
theorem UcOk.at {σ : L2.St} {H0 : Hp} : ∀ {us : List U} {vs : List V} {i : Nat} {u : U}, UcOk C σ H0 us vs → us[i]? = some u → ∃ v, vs[i]? = some v ∧ UcOk C σ H0 [u] [v]
  | [], _, _, _, h, q => by simp at q
  | .d x :: us, _, 0, _, h, q => by obtain ⟨v, r, rfl, h1, h2⟩ := h; simp at q; subst q; exact ⟨v, rfl, v, [], rfl, h1, rfl⟩
  | .sl i :: us, _, 0, _, h, q => by obtain ⟨v, r, rfl, h1, h2⟩ := h; simp at q; subst q; exact ⟨v, rfl, v, [], rfl, h1, rfl⟩
  | .nw _ :: _, _, 0, _, h, q => h.elim
  | .d x :: us, _, n + 1, _, h, q => by obtain ⟨v, r, rfl, h1, h2⟩ := h; simpa using UcOk.at h2 (by simpa using q)
  | .sl i :: us, _, n + 1, _, h, q => by obtain ⟨v, r, rfl, h1, h2⟩ := h; simpa using UcOk.at h2 (by simpa using q)
  | .nw _ :: _, _, _ + 1, _, h, q => h.elim
theorem UcOk.cons {σ : L2.St} {H0 : Hp} {u : U} {v : V} {us : List U} {vs : List V} (h1 : UcOk C σ H0 [u] [v]) (h2 : UcOk C σ H0 us vs) : UcOk C σ H0 (u :: us) (v :: vs) := by
  cases u with
  | d x => obtain ⟨w, r, q, h3, _⟩ := h1; cases q; exact ⟨v, vs, rfl, h3, h2⟩
  | sl i => obtain ⟨w, r, q, h3, _⟩ := h1; cases q; exact ⟨v, vs, rfl, h3, h2⟩
  | nw x => exact h1.elim
theorem UcOk.perm {σ : L2.St} {H0 : Hp} {us : List U} {vs : List V} (h : UcOk C σ H0 us vs) : ∀ pm : List Nat, UcOk C σ H0 (permL pm us) (permL pm vs)
  | [] => rfl
  | i :: pm => by
    have ih := UcOk.perm h pm
    unfold permL at ih ⊢
    simp only [List.filterMap_cons]
    cases z : us[i]? with
    | none =>
      have zl : vs[i]? = none := by rw [List.getElem?_eq_none_iff] at z ⊢; rw [h.len]; exact z
      simp only [zl]
      exact ih
    | some u =>
      obtain ⟨v, hv, hu⟩ := h.at z
      simp only [hv]
      exact hu.cons ih
theorem vals_perm {vs : List V} {us : List Value} (h : Vals vs us) : ∀ pm : List Nat, Vals (permL pm vs) (permL pm us)
  | [] => .nil
  | i :: pm => by
    have ih := vals_perm h pm
    unfold permL at ih ⊢
    simp only [List.filterMap_cons]
    cases z : vs[i]? with
    | none => simp only [h.none_of z]; exact ih
    | some v =>
      obtain ⟨u, hu, r⟩ := h.get z
      simp only [hu]
      exact .cons r ih
/-- how a call by keywords alone binds -/
def KwBinds (fd : FuncData) (ps ks : List Str) (pm : List Nat) : Prop := ∀ (s : Shared) (ws : List Value), ws.length = ks.length → BindsTo s fd ⟨[], ks.zip ws⟩ (ps.zip (permL pm ws))
theorem c_callP {x : Str} {p : Pos} {k f n : Nat} {fa : Addr} {fd : FuncData} {ps ks : List Str} {ms : List Bool} {pm : List Nat} {kws : List Keyword} (F : FnG X.prog X.w X.K X.mg X.base k fa fd ps (spF C.T cl f n)) (hgd : X.A.guards = some []) (hr : Room k X.A) (tk : Takes X W)
    (hg : Gl X x) (hm : X.mg x = some (.ref fa)) (hk : PySem.W.keepIn X.K (.ref fa) = true) (hb : KwBinds fd ps ks pm) (ha : PK X kws (tAC C W cl (ms.map fun _ => false) es')) (hn : ms.length = n := by rfl) (hkn : ks.length = ms.length := by rfl)
    (hall : (backToKw pos (keywordEach kws X.env)).all (·.1.isSome) = true := by rfl) (hks : (backToKw pos (keywordEach kws X.env)).filterMap (·.1) = ks := by rfl) (hdb : (x == ("__debug__" : Str)) = false := by decide)
    (hpl : ((backTo pos (starEach [] X.env)).any (·.1) || (backToKw pos (keywordEach kws X.env)).any (·.1.isNone)) = false := by rfl) :
    PE X (.Call (.Name x p) [] kws pos) (tI C W cl (.callP f ms pm es')) := by
  refine ⟨fun pins s σ H Q I h => ?_⟩
  refine wpAny_Call_Name_kw (ld_glob I hg hm ?_ hdb)
  obtain ⟨H0, env, S, q⟩ := h
  simp only [ev] at q
  refine PySem.W.callWith_KW0 (h₀ := X.base) I.ok.mod.kin hk hall ?_ hpl
  have hread : tAC C W cl (ms.map fun _ => false) es' σ H fun vs H1 => vs.length = ms.length ∧ spF C.T cl f n (permL pm vs) H1 Q fun cls d H' => W cls d σ H' := by
    refine ⟨H0, env, S, ?_⟩
    cases z : evC cl (ms.map fun _ => false) es' env with
    | bad => rw [z] at q; exact q.elim
    | exc x env1 => rw [z] at q; exact q
    | ok us env1 =>
      rw [z] at q
      simp only [R.bind_ok] at q
      obtain ⟨as, ha', q⟩ := q.orB
      split at q
      rotate_left
      · exact q.elim
      rename_i hd
      rw [Bool.and_eq_true, decide_eq_true_eq] at hd
      intro H1 H1' e1 S1 vs hv0
      refine ⟨hv0.len.trans hd.2, ?_⟩
      have hv := hv0.perm pm
      obtain ⟨g1, g2, g3⟩ := args_ok S1 ha' hv
      refine ⟨H1, as, S1.ex, g1, io_nodup S1 ha' hv hd.1, g2.trans hn, ?_⟩
      cases zc : cl f as with
      | bad => simp only [zc] at q; exact q
      | exc x outs =>
        simp only [zc] at q
        intro cls d H0' H' g o hx
        exact q cls d H0' H' (e1.tr g.e0) (S1.call ha' hv hd.1 g o) hx
      | ok r outs =>
        simp only [zc] at q
        intro v H0' H' g hr o
        exact q H0' H' (e1.tr g.e0) (S1.call ha' hv hd.1 g o) v (ret_u S1 ha' hv hd.1 g o hr)
  refine thn (ha.run pos pins s σ H _ I hread) fun ws s1 hq => ?_
  obtain ⟨zs, H1, I1, rz, hl, q1⟩ := hq
  refine ⟨I1.kIn, ?_⟩
  rw [hks]
  exact F.goA (args := ⟨[], ks.zip ws⟩) hgd hr (hb s1 ws (by rw [← rz.length, hl, hkn])) tk (fun _ _ _ z => z) I1 (vals_perm rz pm) q1
end
end PP
end

section
set_option maxHeartbeats 1000000
namespace PP
open PySem PySem.Spec PyProof.Rows L2
theorem fn_zero {P : Program} {w : World} {K : PySem.W.Frag} {mg : Str → Option Value} {base : Heap} {f : Addr} {fd : FuncData} {ps : List Str} {T : Tbl} {fs : Nat → Option Fn} {i n : Nat} (hn : ps.length = n) : FnG P w K mg base 0 f fd ps (spF T (calls fs 0) i n) :=
  ⟨fun vs H Q E ⟨_, _, _, h, _, hl, _⟩ => by rw [h.len, hl, hn], fun A outer s H args us vs Q E _ _ _ _ _ h => by obtain ⟨_, _, _, _, _, _, z⟩ := h; exact z.elim⟩
/-- a def of the text does what its small-syntax term does -/
theorem def_ok {P : Program} {w : World} {K : PySem.W.Frag} {mg : Str → Option Value} {base : Heap} {x qual : Str} {st : Stmt} {f : Addr} {fd : FuncData} {N ps : List Str} {k i n : Nat} {F : Fn} {T : Tbl} {fs : Nat → Option Fn} (Fu : Fun K x qual st f fd) (S : FnScope N ps (defScope st))
    (hN : N.length = F.n) (hn : n ≤ F.n) (hp : ps.length = n) (hf : ∀ as, calls fs (k + 1) i as = runF (calls fs k) F as)
    (hb : ∀ {X : Cx} {C : Ctx} {W : WX}, X.K = C.T.K → X.A.units + 64 < cLine → X.A.units + 200 < cLine → X.A.guards = some [] → Room k X.A → Takes X W → PassesOwn (model X.prog X.w) X.A X.env X.xe →
      (∃ (qu : Str) (cdv : Value) (A : Around) (outer : List PySem.Env) (s : Shared) (H : Hp) (E : XK), X = cxOf (L2.CX P w) P w K mg base N qu (defScope st) f cdv A outer s H E ∧ C.T = T) → PSs X (defBody st) (tSs C W (calls fs k) F.body)) (hK : K = T.K) :
    FnG P w K mg base (k + 1) f fd ps (spF T (calls fs (k + 1)) i n) := by
  refine FnG.of Fu S (fun vs H Q E ⟨_, _, _, h, _, hl, _⟩ => by rw [h.len, hl, hp]) fun cdv A outer s H vs Q E hg hr hsp => ?_
  refine body_ok hN hn hf (fun C hC => ?_) hsp
  exact hb (by rw [hC]; exact hK) hr.units (by have := hr.un; show A.units + 3 + 200 < cLine; have e : (A.deeper (envOfC qual (defScope st) s.heap.objs.size f cdv)).units = A.units + 3 := rfl; omega) hg hr (takes_of rfl rfl rfl rfl) (passes_of rfl) ⟨qual, cdv, A, outer, s, H, E, rfl, hC⟩
end PP
end

section
namespace PP
open PySem L2
theorem ev_w0 {cl : CallF} {i} {s0 : Sl} {r0 : Env} : ev cl (.var i) (s0 :: r0) = (match getS (s0 :: r0) i with
    | .un => .bad
    | .fz d => .ok (.d d) (s0 :: r0)
    | _ => .ok (.sl i) (s0 :: r0)) := rfl
theorem ev_w1 {cl : CallF} {d} {s0 : Sl} {r0 : Env} : ev cl (.cst d) (s0 :: r0) = (.ok (.d d) (s0 :: r0)) := rfl
theorem ev_w2 {cl : CallF} {a} {b} {o} {s0 : Sl} {r0 : Env} : ev cl (.op2 o a b) (s0 :: r0) = ((ev cl a (s0 :: r0)).bind fun u env1 => (ev cl b env1).bind fun w env2 =>
      orBad (rdU env2 (pend u)) fun x => orBad (rdU env2 w) fun y => orBad (op2 o x y) fun z => .ok (.nw z) env2) := rfl
theorem ev_w3 {cl : CallF} {a} {o} {s0 : Sl} {r0 : Env} : ev cl (.op1 o a) (s0 :: r0) = ((ev cl a (s0 :: r0)).bind fun u env1 => orBad (rdU env1 u) fun x => orBad (op1 o x) fun z => .ok (.nw z) env1) := rfl
theorem ev_w4 {cl : CallF} {a} {b} {c} {o} {p} {s0 : Sl} {r0 : Env} : ev cl (.chain o p a b c) (s0 :: r0) = ((ev cl a (s0 :: r0)).bind fun u env1 => (ev cl b env1).bind fun w env2 =>
      orBad (rdU env2 (pend u)) fun x => orBad (rdU env2 (pend w)) fun y => orBad (op2 o x y) fun z => match z with
        | .bl true => (ev cl c env2).bind fun q env3 => orBad (rdU env3 (pend w)) fun y' => orBad (rdU env3 q) fun r => orBad (op2 p y' r) fun z' => .ok (.nw z') env3
        | .bl false => .ok (.nw (.bl false)) env2
        | _ => .bad) := rfl
theorem ev_w5 {cl : CallF} {a} {b} {s0 : Sl} {r0 : Env} : ev cl (.and a b) (s0 :: r0) = ((ev cl a (s0 :: r0)).bind fun u env1 => orBad (rdU env1 u) fun x => orBad (truD x) fun t => match t with
        | true => ev cl b env1
        | false => .ok (pend u) env1) := rfl
theorem ev_w6 {cl : CallF} {a} {b} {s0 : Sl} {r0 : Env} : ev cl (.or a b) (s0 :: r0) = ((ev cl a (s0 :: r0)).bind fun u env1 => orBad (rdU env1 u) fun x => orBad (truD x) fun t => match t with
        | true => .ok (pend u) env1
        | false => ev cl b env1) := rfl
theorem ev_w7 {cl : CallF} {a} {s0 : Sl} {r0 : Env} : ev cl (.not a) (s0 :: r0) = ((ev cl a (s0 :: r0)).bind fun u env1 => orBad (rdU env1 u) fun x => orBad (truD x) fun t => .ok (.nw (.bl (!t))) env1) := rfl
theorem ev_w8 {cl : CallF} {a} {b} {c} {s0 : Sl} {r0 : Env} : ev cl (.ife c a b) (s0 :: r0) = ((ev cl c (s0 :: r0)).bind fun u env1 => orBad (rdU env1 u) fun x => orBad (truD x) fun t => match t with
        | true => ev cl a env1
        | false => ev cl b env1) := rfl
theorem ev_w9 {cl : CallF} {es} {s0 : Sl} {r0 : Env} : ev cl (.tup es) (s0 :: r0) = ((evF cl es (s0 :: r0)).bind fun ds env1 => if ds.length ≤ LIM then .ok (.nw (.tup ds)) env1 else .bad) := rfl
theorem ev_w10 {cl : CallF} {es} {s0 : Sl} {r0 : Env} : ev cl (.lst es) (s0 :: r0) = ((evF cl es (s0 :: r0)).bind fun ds env1 => if ds.length ≤ LIM then .ok (.nw (.lst ds)) env1 else .bad) := rfl
theorem ev_w11 {cl : CallF} {s0 : Sl} {r0 : Env} : ev cl (.dic) (s0 :: r0) = (.ok (.nw (.dK [] [])) (s0 :: r0)) := rfl
theorem ev_w12 {cl : CallF} {es} {f} {ms} {s0 : Sl} {r0 : Env} : ev cl (.call f ms es) (s0 :: r0) = ((evC cl ms es (s0 :: r0)).bind fun us env1 => orBad (argsOf env1 ms us) fun as =>
      if dupFree (ioSlots us) then match cl f as with
        | .ok r outs => .ok r (putIO env1 (ioSlots us) outs)
        | .exc x outs => .exc x (putIO env1 (ioSlots us) outs)
        | .bad => .bad
      else .bad) := rfl
theorem ev_w13 {cl : CallF} {es} {f} {ms} {pm} {s0 : Sl} {r0 : Env} : ev cl (.callP f ms pm es) (s0 :: r0) = ((evC cl (ms.map fun _ => false) es (s0 :: r0)).bind fun us env1 => orBad (argsOf env1 ms (permL pm us)) fun as =>
      if dupFree (ioSlots (permL pm us)) && decide (us.length = ms.length) then match cl f as with
        | .ok r outs => .ok r (putIO env1 (ioSlots (permL pm us)) outs)
        | .exc x outs => .exc x (putIO env1 (ioSlots (permL pm us)) outs)
        | .bad => .bad
      else .bad) := rfl
theorem ev_w14 {cl : CallF} {b} {es} {s0 : Sl} {r0 : Env} : ev cl (.bi b es) (s0 :: r0) = ((evR cl es (s0 :: r0)).bind fun us env1 => orBad (rdAll env1 us) fun ds => orBad (biD b ds) fun z => .ok (.nw z) env1) := rfl
theorem ev_w15 {cl : CallF} {a} {i} {s0 : Sl} {r0 : Env} : ev cl (.ix a i) (s0 :: r0) = ((ev cl a (s0 :: r0)).bind fun u env1 => (ev cl i env1).bind fun w env2 =>
      orBad (rdU env2 (pend u)) fun x => orBad (rdU env2 w) fun y => orBad (ixD x y) fun z => .ok (.d z) env2) := rfl
theorem ev_w16 {cl : CallF} {a} {bh} {bl} {hi} {lo} {s0 : Sl} {r0 : Env} : ev cl (.slice a bl bh lo hi) (s0 :: r0) = ((ev cl a (s0 :: r0)).bind fun u env1 => (optP bl (ev cl lo) env1).bind fun l env2 => (optP bh (ev cl hi) env2).bind fun h env3 => orBad (rdU env3 (pend u)) fun x => match x with
        | .lst xs => .ok (.nw (.lst (cutD xs l h))) env3
        | .kst xs => .ok (.nw (.lst (cutD xs l h))) env3
        | _ => .bad) := rfl
theorem evF_w0 {cl : CallF} {s0 : Sl} {r0 : Env} : evF cl (.nil) (s0 :: r0) = (.ok [] (s0 :: r0)) := rfl
theorem evF_w1 {cl : CallF} {e} {es} {s0 : Sl} {r0 : Env} : evF cl (.cons e es) (s0 :: r0) = ((ev cl e (s0 :: r0)).bind fun u env1 => orBad (fzU env1 u) fun p => (evF cl es p.2).bind fun ds env2 => .ok (p.1 :: ds) env2) := rfl
theorem evR_w0 {cl : CallF} {s0 : Sl} {r0 : Env} : evR cl (.nil) (s0 :: r0) = (.ok [] (s0 :: r0)) := rfl
theorem evR_w1 {cl : CallF} {e} {es} {s0 : Sl} {r0 : Env} : evR cl (.cons e es) (s0 :: r0) = ((ev cl e (s0 :: r0)).bind fun u env1 => (evR cl es env1).bind fun us env2 => .ok (pend u :: us) env2) := rfl
theorem evC_w0 {cl : CallF} {ms0} {s0 : Sl} {r0 : Env} : evC cl ms0 (.nil) (s0 :: r0) = (.ok [] (s0 :: r0)) := rfl
theorem evC_w1 {cl : CallF} {e} {es} {m} {ms} {s0 : Sl} {r0 : Env} : evC cl (m :: ms) (.cons e es) (s0 :: r0) = ((ev cl e (s0 :: r0)).bind fun u env1 => match m with
      | true => match u with
        | .sl i => (evC cl ms es env1).bind fun us env2 => .ok (.sl i :: us) env2
        | _ => .bad
      | false => orBad (fzU env1 u) fun p => (evC cl ms es p.2).bind fun us env2 => .ok (.d p.1 :: us) env2) := rfl
theorem evC_w2 {cl : CallF} {e0} {es0} {s0 : Sl} {r0 : Env} : evC cl ([]) (.cons e0 es0) (s0 :: r0) = (.bad) := rfl
theorem ex_w0 {cl : CallF} {e} {i} {s0 : Sl} {r0 : Env} : ex cl (.asg i e) (s0 :: r0) = ((ev cl e (s0 :: r0)).bind fun u env1 => orBad (asgU env1 i u) fun env2 => .ok .next env2) := rfl
theorem ex_w1 {cl : CallF} {e} {i} {x} {s0 : Sl} {r0 : Env} : ex cl (.setI i x e) (s0 :: r0) = ((ev cl e (s0 :: r0)).bind fun u env1 => orBad (fzU env1 u) fun p => if !isLs (getS p.2 i) then .bad else (ev cl x p.2).bind fun w env2 =>
      orBad (rdU env2 w) fun k => match getS env2 i, k with
        | .ow (.lst xs), .int n => orBad (setD xs n p.1) fun ys => .ok .next (env2.set i (.ow (.lst ys)))
        | .io (.lst xs), .int n => orBad (setD xs n p.1) fun ys => .ok .next (env2.set i (.io (.lst ys)))
        | _, _ => .bad) := rfl
theorem ex_w2 {cl : CallF} {e} {i} {s0 : Sl} {r0 : Env} : ex cl (.app i e) (s0 :: r0) = (if !isLs (getS (s0 :: r0) i) then .bad else (ev cl e (s0 :: r0)).bind fun u env1 => orBad (fzU env1 u) fun p => match getS p.2 i with
        | .ow (.lst xs) => if xs.length < LIM then .ok .next (p.2.set i (.ow (.lst (xs ++ [p.1])))) else .bad
        | .io (.lst xs) => if xs.length < LIM then .ok .next (p.2.set i (.io (.lst (xs ++ [p.1])))) else .bad
        | _ => .bad) := rfl
theorem ex_w3 {cl : CallF} {e} {i} {o} {s0 : Sl} {r0 : Env} : ex cl (.aug i o e) (s0 :: r0) = (match getS (s0 :: r0) i with
        | .fz (.int n) => (ev cl e (s0 :: r0)).bind fun u env1 => orBad (rdU env1 u) fun y => match y with
          | .int m => match o with
            | .add => .ok .next (env1.set i (.fz (.int (n + m))))
            | .sub => .ok .next (env1.set i (.fz (.int (n - m))))
            | _ => .bad
          | _ => .bad
        | _ => .bad) := rfl
theorem ex_w4 {cl : CallF} {e} {s0 : Sl} {r0 : Env} : ex cl (.ex e) (s0 :: r0) = ((ev cl e (s0 :: r0)).bind fun _ env1 => .ok .next env1) := rfl
theorem ex_w5 {cl : CallF} {a} {b} {c} {s0 : Sl} {r0 : Env} : ex cl (.iff c a b) (s0 :: r0) = ((evT cl c (s0 :: r0)).bind fun t env1 => match t with
      | true => exs cl a env1
      | false => exs cl b env1) := rfl
theorem ex_w6 {cl : CallF} {b} {i} {n} {s0 : Sl} {r0 : Env} : ex cl (.forr i n b) (s0 :: r0) = ((ev cl n (s0 :: r0)).bind fun u env1 => orBad (rdU env1 u) fun y => match y with
      | .int m => if decide (-(2 ^ 40) ≤ m) && decide (m < 2 ^ 40) then forD (exs cl b) i ((List.range m.toNat).map fun (k : Nat) => .int k) env1 else .bad
      | _ => .bad) := rfl
theorem ex_w7 {cl : CallF} {b} {i} {l} {s0 : Sl} {r0 : Env} : ex cl (.forl i l b) (s0 :: r0) = ((ev cl l (s0 :: r0)).bind fun u env1 => orBad (fzU env1 u) fun p => match p.1 with
      | .lst xs => forD (exs cl b) i xs p.2
      | .tup xs => forD (exs cl b) i xs p.2
      | .kst xs => forD (exs cl b) i xs p.2
      | _ => .bad) := rfl
theorem ex_w8 {cl : CallF} {b} {c} {s0 : Sl} {r0 : Env} : ex cl (.whil c b) (s0 :: r0) = (whD (evT cl c) (exs cl b) FUEL (s0 :: r0)) := rfl
theorem ex_w9 {cl : CallF} {e} {s0 : Sl} {r0 : Env} : ex cl (.ret e) (s0 :: r0) = ((ev cl e (s0 :: r0)).bind fun u env1 => orBad (retU env1 u) fun r => .ok (.ret r.1) r.2) := rfl
theorem ex_w10 {cl : CallF} {s0 : Sl} {r0 : Env} : ex cl (.retN) (s0 :: r0) = (.ok (.ret (.d .non)) (s0 :: r0)) := rfl
theorem ex_w11 {cl : CallF} {s0 : Sl} {r0 : Env} : ex cl (.pass) (s0 :: r0) = (.ok .next (s0 :: r0)) := rfl
theorem ex_w12 {cl : CallF} {s0 : Sl} {r0 : Env} : ex cl (.never) (s0 :: r0) = (.bad) := rfl
theorem ex_w13 {cl : CallF} {es} {is} {s0 : Sl} {r0 : Env} : ex cl (.par is es) (s0 :: r0) = ((evF cl es (s0 :: r0)).bind fun ds env1 => orBad (storeAll is ds env1) fun env2 => .ok .next env2) := rfl
theorem ex_w14 {cl : CallF} {e} {is} {s0 : Sl} {r0 : Env} : ex cl (.unp is e) (s0 :: r0) = ((ev cl e (s0 :: r0)).bind fun u env1 => orBad (rdU env1 u) fun d => match d with
      | .tup ds => orBad (storeAll is ds env1) fun env2 => .ok .next env2
      | _ => .bad) := rfl
theorem ex_w15 {cl : CallF} {s0 : Sl} {r0 : Env} : ex cl (.brk) (s0 :: r0) = (.ok .brk (s0 :: r0)) := rfl
theorem ex_w16 {cl : CallF} {s0 : Sl} {r0 : Env} : ex cl (.cont) (s0 :: r0) = (.ok .cont (s0 :: r0)) := rfl
theorem exs_w0 {cl : CallF} {s0 : Sl} {r0 : Env} : exs cl (.nil) (s0 :: r0) = (.ok .next (s0 :: r0)) := rfl
theorem exs_w1 {cl : CallF} {r} {s} {s0 : Sl} {r0 : Env} : exs cl (.cons s r) (s0 :: r0) = ((ex cl s (s0 :: r0)).bind fun fl env1 => match fl with
      | .next => exs cl r env1
      | f => .ok f env1) := rfl
theorem evT_w {cl : CallF} {e} {s0 : Sl} {r0 : Env} : evT cl e (s0 :: r0) = ((ev cl e (s0 :: r0)).bind fun u env1 => orBad (rdU env1 u) fun x => orBad (truD x) fun t => .ok t env1) := rfl
end PP
end

section
namespace PP
open PySem L2
/-! words for the interpreter's run -/
theorem getS_0 (s : Sl) (r : Env) : getS (s :: r) 0 = s := rfl
theorem getS_s (s : Sl) (r : Env) (n : Nat) : getS (s :: r) (n + 1) = getS r n := rfl
theorem set_0 (s x : Sl) (r : Env) : List.set (s :: r) 0 x = x :: r := rfl
theorem set_s (s x : Sl) (r : Env) (n : Nat) : List.set (s :: r) (n + 1) x = s :: List.set r n x := rfl
theorem calls_s (fs : Nat → Option Fn) (k f : Nat) (as : List Ar) : calls fs (k + 1) f as = match fs f with | some F => runF (calls fs k) F as | none => .bad := rfl
theorem bnd64_l {i j : Int} (h : -18446744073709551616 < i) (h' : i < 18446744073709551616) : (bnd64 i || bnd64 j) = true := by simp [bnd64]; omega
theorem bnd64_r {i j : Int} (h : -18446744073709551616 < j) (h' : j < 18446744073709551616) : (bnd64 i || bnd64 j) = true := by simp [bnd64]; omega
theorem mul_l {i j : Int} (h : -18446744073709551616 < i) (h' : i < 18446744073709551616) : op2 .mul (.int i) (.int j) = some (.int (i * j)) := by simp only [op2, bnd64_l h h', if_true]
theorem mul_r {i j : Int} (h : -18446744073709551616 < j) (h' : j < 18446744073709551616) : op2 .mul (.int i) (.int j) = some (.int (i * j)) := by simp only [op2, bnd64_r h h', if_true]
theorem mod_p {i j : Int} (h : 0 < j) : op2 .mod (.int i) (.int j) = some (.int (i % j)) := by simp only [op2, h, if_true]
theorem fdiv_p {i j : Int} (h : 0 < j) (h' : j < 1073741824) : op2 .fdiv (.int i) (.int j) = some (.int (i / j)) := by simp [op2, h, h']
theorem pow_p {i j : Int} (h : 0 ≤ j) (h1 : j ≤ 1000000) (h' : i.natAbs < 18446744073709551616) : op2 .pow (.int i) (.int j) = some (.int (i ^ j.toNat)) := by
  have z : i.natAbs < 2 ^ 64 := h'
  simp only [op2, powOk, h, h1, z, decide_true, Bool.and_self, if_true]
theorem fin_ok (as : List Ar) (fl : Fl) (env : Env) : finR as (.ok fl env) = finO (outsOf as env) fl := rfl
theorem fin_exc (as : List Ar) (d : Exn) (env : Env) : finR as (.exc d env) = finX (outsOf as env) d := rfl
theorem finX_s (o : List D) (d : Exn) : finX (some o) d = .exc d o := rfl
theorem finO_next (o : List D) : finO (some o) .next = .ok (.d .non) o := rfl
theorem finO_d (o : List D) (x : D) : finO (some o) (.ret (.d x)) = .ok (.d x) o := rfl
theorem finO_nw (o : List D) (x : D) : finO (some o) (.ret (.nw x)) = .ok (nrm x) o := rfl
theorem rdU_d (env : Env) (x : D) : rdU env (.d x) = some x := rfl
theorem rdU_nw (env : Env) (x : D) : rdU env (.nw x) = some x := rfl
theorem rdU_sl (env : Env) (i : Nat) : rdU env (.sl i) = rdS (getS env i) := rfl
theorem rdS_fz (d : D) : rdS (.fz d) = some d := rfl
theorem rdS_ow (d : D) : rdS (.ow d) = some d := rfl
theorem rdS_io (d : D) : rdS (.io d) = some d := rfl
theorem pend_d (x : D) : pend (.d x) = .d x := rfl
theorem pend_nw (x : D) : pend (.nw x) = .d x := rfl
theorem pend_sl (i : Nat) : pend (.sl i) = .sl i := rfl
theorem fzU_d (env : Env) (x : D) : fzU env (.d x) = some (x, env) := rfl
theorem fzU_nw (env : Env) (x : D) : fzU env (.nw x) = some (x, env) := rfl
theorem fzU_sl (env : Env) (i : Nat) : fzU env (.sl i) = match getS env i with | .fz d => some (d, env) | .ow d => some (d, env.set i (.fz d)) | _ => none := rfl
theorem asgU_d (env : Env) (i : Nat) (d : D) : asgU env i (.d d) = some (env.set i (.fz d)) := rfl
theorem asgU_nw (env : Env) (i : Nat) (d : D) : asgU env i (.nw d) = some (env.set i (slOf (.nw d) d)) := rfl
theorem asgU_sl (env : Env) (i j : Nat) : asgU env i (.sl j) = (fzU env (.sl j)).map fun p => p.2.set i (.fz p.1) := rfl
theorem slOf_non (u : U) : slOf u .non = .fz .non := by cases u <;> rfl
theorem slOf_bl (u : U) (b : Bool) : slOf u (.bl b) = .fz (.bl b) := by cases u <;> rfl
theorem slOf_int (u : U) (b : Int) : slOf u (.int b) = .fz (.int b) := by cases u <;> rfl
theorem slOf_str (u : U) (b : Str) : slOf u (.str b) = .fz (.str b) := by cases u <;> rfl
theorem slOf_tup (u : U) (b : List D) : slOf u (.tup b) = .fz (.tup b) := by cases u <;> rfl
theorem slOf_lst (x : D) (b : List D) : slOf (.nw x) (.lst b) = .ow (.lst b) := rfl
theorem slOf_dK (x : D) (ks : List Key) (b : List D) : slOf (.nw x) (.dK ks b) = .ow (.dK ks b) := rfl
theorem isLs_ow (xs : List D) : isLs (.ow (.lst xs)) = true := rfl
theorem isLs_io (xs : List D) : isLs (.io (.lst xs)) = true := rfl
theorem retU_d (env : Env) (x : D) : retU env (.d x) = some (.d x, env) := rfl
theorem retU_nw (env : Env) (x : D) : retU env (.nw x) = some (.nw x, env) := rfl
theorem retU_sl (env : Env) (i : Nat) : retU env (.sl i) = match getS env i with | .ow x => some (.nw x, env.set i .un) | .fz x => some (.d x, env) | _ => none := rfl
theorem nrm_non : nrm .non = .d .non := rfl
theorem nrm_bl (b : Bool) : nrm (.bl b) = .d (.bl b) := rfl
theorem nrm_int (b : Int) : nrm (.int b) = .d (.int b) := rfl
theorem nrm_str (b : Str) : nrm (.str b) = .d (.str b) := rfl
theorem nrm_tup (b : List D) : nrm (.tup b) = .d (.tup b) := rfl
theorem nrm_lst (b : List D) : nrm (.lst b) = .nw (.lst b) := rfl
theorem nrm_dK (k : List Key) (b : List D) : nrm (.dK k b) = .nw (.dK k b) := rfl
theorem setIO_ow (x d : D) : setIO (.ow x) d = .ow d := rfl
theorem setIO_io (x d : D) : setIO (.io x) d = .io d := rfl
theorem dupF_0 : dupFree [] = true := rfl
theorem dupF_1 (i : Nat) : dupFree [i] = true := by simp [dupFree]
theorem optP_f (f : Env → R U) (env : Env) : optP false f env = .ok none env := rfl
theorem optP_t (f : Env → R U) (env : Env) : optP true f env = (f env).bind partD := rfl
theorem truD_bl (b : Bool) : truD (.bl b) = some b := rfl
theorem truD_non : truD .non = some false := rfl
theorem truD_lst (b : List D) : truD (.lst b) = some (!b.isEmpty) := rfl
theorem partD_eq (u : U) (env : Env) : partD u env = orBad (rdU env u) fun d => match d with | .int i => .ok (some i) env | _ => .bad := rfl
theorem atI_c (xs : List D) (n : Nat) (a : D) (h : xs[n]? = some a) : L2.atI xs (n : Int) = some a := by
  have h5 : n < xs.length := (List.getElem?_eq_some_iff.mp h).1
  unfold L2.atI L2.ixN
  rw [if_pos (by omega), if_pos (by omega)]
  simpa using h
theorem ix_lst_0 (a0 : D) (xs : List D) : ixD (.lst (a0 :: xs)) (.int 0) = some a0 := atI_c _ 0 _ rfl
theorem ix_lst_1 (a0 a1 : D) (xs : List D) : ixD (.lst (a0 :: a1 :: xs)) (.int 1) = some a1 := atI_c _ 1 _ rfl
theorem ix_lst_2 (a0 a1 a2 : D) (xs : List D) : ixD (.lst (a0 :: a1 :: a2 :: xs)) (.int 2) = some a2 := atI_c _ 2 _ rfl
theorem ix_lst_3 (a0 a1 a2 a3 : D) (xs : List D) : ixD (.lst (a0 :: a1 :: a2 :: a3 :: xs)) (.int 3) = some a3 := atI_c _ 3 _ rfl
theorem ix_lst_4 (a0 a1 a2 a3 a4 : D) (xs : List D) : ixD (.lst (a0 :: a1 :: a2 :: a3 :: a4 :: xs)) (.int 4) = some a4 := atI_c _ 4 _ rfl
theorem ix_lst_5 (a0 a1 a2 a3 a4 a5 : D) (xs : List D) : ixD (.lst (a0 :: a1 :: a2 :: a3 :: a4 :: a5 :: xs)) (.int 5) = some a5 := atI_c _ 5 _ rfl
theorem ix_tup_0 (a0 : D) (xs : List D) : ixD (.tup (a0 :: xs)) (.int 0) = some a0 := atI_c _ 0 _ rfl
theorem ix_tup_1 (a0 a1 : D) (xs : List D) : ixD (.tup (a0 :: a1 :: xs)) (.int 1) = some a1 := atI_c _ 1 _ rfl
theorem ix_tup_2 (a0 a1 a2 : D) (xs : List D) : ixD (.tup (a0 :: a1 :: a2 :: xs)) (.int 2) = some a2 := atI_c _ 2 _ rfl
theorem ix_tup_3 (a0 a1 a2 a3 : D) (xs : List D) : ixD (.tup (a0 :: a1 :: a2 :: a3 :: xs)) (.int 3) = some a3 := atI_c _ 3 _ rfl
theorem ix_tup_4 (a0 a1 a2 a3 a4 : D) (xs : List D) : ixD (.tup (a0 :: a1 :: a2 :: a3 :: a4 :: xs)) (.int 4) = some a4 := atI_c _ 4 _ rfl
theorem ix_tup_5 (a0 a1 a2 a3 a4 a5 : D) (xs : List D) : ixD (.tup (a0 :: a1 :: a2 :: a3 :: a4 :: a5 :: xs)) (.int 5) = some a5 := atI_c _ 5 _ rfl
theorem ix_kst_0 (a0 : D) (xs : List D) : ixD (.kst (a0 :: xs)) (.int 0) = some a0 := atI_c _ 0 _ rfl
theorem ix_kst_1 (a0 a1 : D) (xs : List D) : ixD (.kst (a0 :: a1 :: xs)) (.int 1) = some a1 := atI_c _ 1 _ rfl
theorem ix_kst_2 (a0 a1 a2 : D) (xs : List D) : ixD (.kst (a0 :: a1 :: a2 :: xs)) (.int 2) = some a2 := atI_c _ 2 _ rfl
theorem ix_kst_3 (a0 a1 a2 a3 : D) (xs : List D) : ixD (.kst (a0 :: a1 :: a2 :: a3 :: xs)) (.int 3) = some a3 := atI_c _ 3 _ rfl
theorem ix_kst_4 (a0 a1 a2 a3 a4 : D) (xs : List D) : ixD (.kst (a0 :: a1 :: a2 :: a3 :: a4 :: xs)) (.int 4) = some a4 := atI_c _ 4 _ rfl
theorem ix_kst_5 (a0 a1 a2 a3 a4 a5 : D) (xs : List D) : ixD (.kst (a0 :: a1 :: a2 :: a3 :: a4 :: a5 :: xs)) (.int 5) = some a5 := atI_c _ 5 _ rfl
theorem set_l3_1 (a b c x : D) : setD [a, b, c] 1 x = some [a, x, c] := rfl
theorem set_l3_2 (a b c x : D) : setD [a, b, c] 2 x = some [a, b, x] := rfl
theorem bi_int_i (i : Int) : biD .int [.int i] = some (.int i) := rfl
theorem bi_int_b (b : Bool) : biD .int [.bl b] = some (.int (if b then 1 else 0)) := rfl
theorem bi_abs (i : Int) : biD .abs [.int i] = some (.int (if i < 0 then -i else i)) := rfl
theorem bi_len_l (xs : List D) : biD .len [.lst xs] = some (.int xs.length) := rfl
theorem bi_len_t (xs : List D) : biD .len [.tup xs] = some (.int xs.length) := rfl
theorem bi_isInt_non : biD .isInt [.non] = some (.bl false) := rfl
theorem bi_isInt_bl (a : Bool) : biD .isInt [.bl a] = some (.bl true) := rfl
theorem bi_isInt_int (a : Int) : biD .isInt [.int a] = some (.bl true) := rfl
theorem bi_isInt_str (a : Str) : biD .isInt [.str a] = some (.bl false) := rfl
theorem bi_isInt_tup (a : List D) : biD .isInt [.tup a] = some (.bl false) := rfl
theorem bi_isInt_lst (a : List D) : biD .isInt [.lst a] = some (.bl false) := rfl
theorem bi_isInt_kst (a : List D) : biD .isInt [.kst a] = some (.bl false) := rfl
theorem bi_isInt_dK (k : List Key) (a : List D) : biD .isInt [.dK k a] = some (.bl false) := rfl
theorem bi_isBool_non : biD .isBool [.non] = some (.bl false) := rfl
theorem bi_isBool_bl (a : Bool) : biD .isBool [.bl a] = some (.bl true) := rfl
theorem bi_isBool_int (a : Int) : biD .isBool [.int a] = some (.bl false) := rfl
theorem bi_isBool_str (a : Str) : biD .isBool [.str a] = some (.bl false) := rfl
theorem bi_isBool_tup (a : List D) : biD .isBool [.tup a] = some (.bl false) := rfl
theorem bi_isBool_lst (a : List D) : biD .isBool [.lst a] = some (.bl false) := rfl
theorem bi_isBool_kst (a : List D) : biD .isBool [.kst a] = some (.bl false) := rfl
theorem bi_isBool_dK (k : List Key) (a : List D) : biD .isBool [.dK k a] = some (.bl false) := rfl
theorem bi_isTuple_non : biD .isTuple [.non] = some (.bl false) := rfl
theorem bi_isTuple_bl (a : Bool) : biD .isTuple [.bl a] = some (.bl false) := rfl
theorem bi_isTuple_int (a : Int) : biD .isTuple [.int a] = some (.bl false) := rfl
theorem bi_isTuple_str (a : Str) : biD .isTuple [.str a] = some (.bl false) := rfl
theorem bi_isTuple_tup (a : List D) : biD .isTuple [.tup a] = some (.bl true) := rfl
theorem bi_isTuple_lst (a : List D) : biD .isTuple [.lst a] = some (.bl false) := rfl
theorem bi_isTuple_kst (a : List D) : biD .isTuple [.kst a] = some (.bl false) := rfl
theorem bi_isTuple_dK (k : List Key) (a : List D) : biD .isTuple [.dK k a] = some (.bl false) := rfl
theorem bi_isList_non : biD .isList [.non] = some (.bl false) := rfl
theorem bi_isList_bl (a : Bool) : biD .isList [.bl a] = some (.bl false) := rfl
theorem bi_isList_int (a : Int) : biD .isList [.int a] = some (.bl false) := rfl
theorem bi_isList_str (a : Str) : biD .isList [.str a] = some (.bl false) := rfl
theorem bi_isList_tup (a : List D) : biD .isList [.tup a] = some (.bl false) := rfl
theorem bi_isList_lst (a : List D) : biD .isList [.lst a] = some (.bl true) := rfl
theorem bi_isList_kst (a : List D) : biD .isList [.kst a] = some (.bl true) := rfl
theorem bi_isList_dK (k : List Key) (a : List D) : biD .isList [.dK k a] = some (.bl false) := rfl
theorem bi_isStr_non : biD .isStr [.non] = some (.bl false) := rfl
theorem bi_isStr_bl (a : Bool) : biD .isStr [.bl a] = some (.bl false) := rfl
theorem bi_isStr_int (a : Int) : biD .isStr [.int a] = some (.bl false) := rfl
theorem bi_isStr_str (a : Str) : biD .isStr [.str a] = some (.bl true) := rfl
theorem bi_isStr_tup (a : List D) : biD .isStr [.tup a] = some (.bl false) := rfl
theorem bi_isStr_lst (a : List D) : biD .isStr [.lst a] = some (.bl false) := rfl
theorem bi_isStr_kst (a : List D) : biD .isStr [.kst a] = some (.bl false) := rfl
theorem bi_isStr_dK (k : List Key) (a : List D) : biD .isStr [.dK k a] = some (.bl false) := rfl
theorem le_lim {n : Nat} (h : n ≤ 100000) : (n ≤ LIM) = True := eq_true h
theorem lt_lim {n : Nat} (h : n < 100000) : (n < LIM) = True := eq_true h
theorem bi_isInt_dT (k : List (List Key)) (a : List D) : biD .isInt [.dT k a] = some (.bl false) := rfl
theorem bi_isBool_dT (k : List (List Key)) (a : List D) : biD .isBool [.dT k a] = some (.bl false) := rfl
theorem bi_isTuple_dT (k : List (List Key)) (a : List D) : biD .isTuple [.dT k a] = some (.bl false) := rfl
theorem bi_isList_dT (k : List (List Key)) (a : List D) : biD .isList [.dT k a] = some (.bl false) := rfl
theorem bi_isStr_dT (k : List (List Key)) (a : List D) : biD .isStr [.dT k a] = some (.bl false) := rfl
theorem pow_10 {j : Int} (h : 0 ≤ j) (h1 : j ≤ 1000) : op2 .pow (.int 10) (.int j) = some (.int (10 ^ j.toNat)) := pow_p h (by omega) (by decide)
theorem pw_10_18 : op2 .pow (.int 10) (.int 18) = some (.int 1000000000000000000) := rfl
theorem o_gt_i (i j : Int) : op2 .gt (.int i) (.int j) = some (.bl (decide (j < i))) := rfl
theorem o_lt_i (i j : Int) : op2 .lt (.int i) (.int j) = some (.bl (decide (i < j))) := rfl
theorem o_ge_i (i j : Int) : op2 .ge (.int i) (.int j) = some (.bl (decide (j ≤ i))) := rfl
theorem o_le_i (i j : Int) : op2 .le (.int i) (.int j) = some (.bl (decide (i ≤ j))) := rfl
theorem o_add_i (i j : Int) : op2 .add (.int i) (.int j) = some (.int (i + j)) := rfl
theorem o_sub_i (i j : Int) : op2 .sub (.int i) (.int j) = some (.int (i - j)) := rfl
theorem o_neg_i (i : Int) : op1 .neg (.int i) = some (.int (-i)) := rfl
theorem o_eq_i (i j : Int) : op2 .eq (.int i) (.int j) = some (.bl (i == j)) := rfl
theorem o_ne_i (i j : Int) : op2 .ne (.int i) (.int j) = some (.bl (!(i == j))) := rfl
theorem o_eq_s (i j : Str) : op2 .eq (.str i) (.str j) = some (.bl (decide (i = j))) := rfl
theorem o_ne_s (i j : Str) : op2 .ne (.str i) (.str j) = some (.bl (!decide (i = j))) := rfl
theorem o_eq_b (i j : Bool) : op2 .eq (.bl i) (.bl j) = some (.bl (i == j)) := rfl
theorem ints_py : ∀ cs : List Int, toPyAll (cs.map D.int) = some (cs.map PyData.int)
  | [] => rfl
  | c :: cs => by simp only [List.map_cons, toPyAll, toPy, ints_py cs]
theorem ints_lay : ∀ cs : List Int, PyData.canLayAll0 (cs.map PyData.int) = true ∧ PyData.depthAll (cs.map PyData.int) = 0
  | [] => ⟨by simp [PyData.canLayAll0], by simp [PyData.depthAll]⟩
  | c :: cs => by
    obtain ⟨h1, h2⟩ := ints_lay cs
    exact ⟨by simp [PyData.canLayAll0, PyData.canLay0, h1], by simp [PyData.depthAll, PyData.depth, h2]⟩
theorem ne_nil (cs : List Int) : op2 .ne (.lst (cs.map D.int)) (.lst []) = some (.bl (!cs.isEmpty)) := by
  obtain ⟨h1, h2⟩ := ints_lay cs
  have s1 : SeqAt.shaped (.list (cs.map PyData.int)) = true := by simp [SeqAt.shaped, PyData.canLay0, PyData.depth, h1, h2]
  have s2 : SeqAt.shaped (.list []) = true := by decide +kernel
  have e : op2 .ne (.lst (cs.map D.int)) (.lst []) = (eqP (.lst (cs.map D.int)) (.lst [])).map fun b => .bl (!b) := rfl
  rw [e]
  unfold eqP
  simp only [toPy, ints_py, Option.map_some, toPyAll, s1, s2, Bool.and_self, if_true, PyData.eqv]
  cases cs <;> simp [PyData.eqvAll]
end PP
local macro_rules | `(tactic| walk_at "pp") => `(tactic| simp only [PP.getS_0, PP.getS_s, PP.set_0, PP.set_s, PP.runF, PP.fin_ok, PP.fin_exc, PP.finX_s, PP.finO_next, PP.finO_d, PP.finO_nw, PP.startE, PP.ev_w0, PP.ev_w1, PP.ev_w2, PP.ev_w3, PP.ev_w4, PP.ev_w5, PP.ev_w6, PP.ev_w7, PP.ev_w8, PP.ev_w9, PP.ev_w10, PP.ev_w11, PP.ev_w12, PP.ev_w13, PP.ev_w14, PP.ev_w15, PP.ev_w16, PP.evF_w0, PP.evF_w1, PP.evR_w0, PP.evR_w1, PP.evC_w0, PP.evC_w1, PP.evC_w2, PP.ex_w0, PP.ex_w1, PP.ex_w2, PP.ex_w3, PP.ex_w4, PP.ex_w5, PP.ex_w6, PP.ex_w7, PP.ex_w8, PP.ex_w9, PP.ex_w10, PP.ex_w11, PP.ex_w12, PP.ex_w13, PP.ex_w14, PP.ex_w15, PP.ex_w16, PP.exs_w0, PP.exs_w1, PP.evT_w, PP.R.bind_ok, PP.R.bind_exc, PP.R.bind_bad, PP.orBad_some, PP.orBad_none,
  PP.rdU_d, PP.rdU_nw, PP.rdU_sl, PP.rdS_fz, PP.rdS_ow, PP.rdS_io, PP.rdAll, PP.pend_d, PP.pend_nw, PP.pend_sl, PP.fzU_d, PP.fzU_nw, PP.fzU_sl, PP.asgU_d, PP.asgU_nw, PP.asgU_sl, PP.slOf_non, PP.slOf_bl, PP.slOf_int, PP.slOf_str, PP.slOf_tup, PP.slOf_lst, PP.slOf_dK,
  PP.isLs_ow, PP.isLs_io, PP.retU_d, PP.retU_nw, PP.retU_sl, PP.nrm_non, PP.nrm_bl, PP.nrm_int, PP.nrm_str, PP.nrm_tup, PP.nrm_lst, PP.nrm_dK, PP.argsOf, PP.ioSlots, PP.putIO, PP.setIO_ow, PP.setIO_io, PP.dupF_0, PP.dupF_1, PP.permL, PP.outsOf, PP.storeAll,
  PP.ix_lst_0, PP.ix_lst_1, PP.ix_lst_2, PP.ix_lst_3, PP.ix_lst_4, PP.ix_lst_5, PP.ix_tup_0, PP.ix_tup_1, PP.ix_tup_2, PP.ix_tup_3, PP.ix_tup_4, PP.ix_tup_5, PP.ix_kst_0, PP.ix_kst_1, PP.ix_kst_2, PP.ix_kst_3, PP.ix_kst_4, PP.ix_kst_5, PP.set_l3_1, PP.set_l3_2, PP.bi_int_i, PP.bi_int_b, PP.bi_abs, PP.bi_len_l, PP.bi_len_t, PP.o_gt_i, PP.o_lt_i, PP.o_ge_i, PP.o_le_i, PP.o_add_i, PP.o_sub_i, PP.o_neg_i, PP.o_eq_i, PP.o_ne_i, PP.o_eq_s, PP.o_ne_s, PP.o_eq_b, PP.ne_nil,
  PP.truD_bl, PP.truD_non, PP.truD_lst, PP.bi_isInt_non, PP.bi_isInt_bl, PP.bi_isInt_int, PP.bi_isInt_str, PP.bi_isInt_tup, PP.bi_isInt_lst, PP.bi_isInt_kst, PP.bi_isInt_dK, PP.bi_isBool_non, PP.bi_isBool_bl, PP.bi_isBool_int, PP.bi_isBool_str, PP.bi_isBool_tup, PP.bi_isBool_lst, PP.bi_isBool_kst, PP.bi_isBool_dK, PP.bi_isTuple_non, PP.bi_isTuple_bl, PP.bi_isTuple_int, PP.bi_isTuple_str, PP.bi_isTuple_tup, PP.bi_isTuple_lst, PP.bi_isTuple_kst, PP.bi_isTuple_dK, PP.bi_isList_non, PP.bi_isList_bl, PP.bi_isList_int, PP.bi_isList_str, PP.bi_isList_tup, PP.bi_isList_lst, PP.bi_isList_kst, PP.bi_isList_dK, PP.bi_isStr_non, PP.bi_isStr_bl, PP.bi_isStr_int, PP.bi_isStr_str, PP.bi_isStr_tup, PP.bi_isStr_lst, PP.bi_isStr_kst, PP.bi_isStr_dK, PP.bi_isInt_dT, PP.bi_isBool_dT, PP.bi_isTuple_dT, PP.bi_isList_dT, PP.bi_isStr_dT, PP.pw_10_18, PP.pow_10, Int.reduceLE, Int.reduceLT, Int.reduceToNat, Int.reducePow, Int.reduceNeg, Int.reduceAdd, Int.reduceSub, Int.reduceMul,  PP.le_lim, PP.lt_lim, Nat.reduceAdd, Nat.reduceLeDiff, Nat.reduceLT, List.cons_append, List.nil_append, Nat.zero_le, PP.optP_f, PP.optP_t, PP.partD_eq, List.head?_cons, List.tail_cons, Option.map_some, Option.map_none, Bool.not_true, Bool.not_false, Bool.and_self, Bool.and_true, Bool.true_and, Bool.false_and, Bool.and_false,
  eq_self, if_true, if_false, Bool.false_eq_true, reduceIte, List.length_cons, List.length_nil, List.filterMap_cons, List.filterMap_nil, List.getElem?_cons_zero, List.getElem?_cons_succ, List.map_cons, List.map_nil, decide_true, decide_false])
namespace PP
open PySem L2
/-- the state of the draws -/
def PenOk (n : Nat) (p : D) : Prop := ∃ (cs : List Int) (a g : Int), p = .lst [.lst (cs.map D.int), .int a, .int g] ∧ cs.length ≤ 63 ∧ 0 ≤ a ∧ a ≤ n
theorem PenOk.mono {n m : Nat} {p : D} (h : PenOk n p) (hm : n ≤ m) : PenOk m p := by
  obtain ⟨cs, a, g, h1, h2, h3, h4⟩ := h
  exact ⟨cs, a, g, h1, h2, h3, by omega⟩
/-- the laws' draw: 0 pen 1 many 2 digit 3 at 4 cell 5 great 6 mixed -/
def drawTail (m1 c3 c4 m2 c5 c6 c7 m3 : Int) : Ss := (.cons (.iff (.and (.op2 .lt (.var 3) (.bi .len (.cons (.ix (.var 0) (.cst (.int 0))) .nil))) (.op2 .ge (.bi .abs (.cons (.var 4) .nil)) (.op2 .pow (.cst (.int 10)) (.cst (.int 18))))) (.cons (.asg 5 (.op2 .add (.op2 .mul (.cst (.int 2)) (.op2 .sub (.bi .abs (.cons (.var 4) .nil)) (.op2 .pow (.cst (.int 10)) (.cst (.int 18))))) (.bi .int (.cons (.op2 .lt (.var 4) (.cst (.int 0))) .nil)))) (.cons (.setI 0 (.cst (.int 2)) (.op2 .fdiv (.bi .int (.cons (.var 5) .nil)) (.var 1))) (.cons (.ret (.op2 .mod (.bi .int (.cons (.var 5) .nil)) (.var 1))) .nil))) .nil) (.cons (.asg 6 (.op2 .mod (.bi .int (.cons (.op2 .pow (.op2 .add (.op2 .add (.op2 .mod (.bi .int (.cons (.var 4) .nil)) (.cst (.int m1))) (.op2 .mul (.cst (.int c3)) (.var 3))) (.cst (.int c4))) (.cst (.int 5))) .nil)) (.cst (.int m2)))) (.cons (.asg 6 (.op2 .mod (.bi .int (.cons (.op2 .pow (.op2 .add (.op2 .add (.op2 .mul (.var 6) (.op2 .add (.op2 .mul (.cst (.int 2)) (.var 3)) (.cst (.int c5)))) (.op2 .mul (.op2 .mul (.cst (.int c6)) (.var 3)) (.var 3))) (.cst (.int c7))) (.cst (.int 3))) .nil)) (.cst (.int m3)))) (.cons (.ret (.op2 .mod (.bi .int (.cons (.op2 .fdiv (.var 6) (.cst (.int 32))) .nil)) (.var 1))) .nil))))
def drawFn (c1 c2 m1 c3 c4 m2 c5 c6 c7 m3 : Int) : Fn := ⟨7, (.cons (.iff (.op2 .gt (.ix (.var 0) (.cst (.int 2))) (.cst (.int 0))) (.cons (.asg 2 (.op2 .mod (.bi .int (.cons (.ix (.var 0) (.cst (.int 2))) .nil)) (.var 1))) (.cons (.setI 0 (.cst (.int 2)) (.op2 .fdiv (.bi .int (.cons (.ix (.var 0) (.cst (.int 2))) .nil)) (.var 1))) (.cons (.ret (.var 2)) .nil))) .nil) (.cons (.asg 3 (.ix (.var 0) (.cst (.int 1)))) (.cons (.setI 0 (.cst (.int 1)) (.op2 .add (.var 3) (.cst (.int 1)))) (.cons (.asg 4 (.op2 .add (.op2 .mul (.cst (.int c1)) (.var 3)) (.cst (.int c2)))) (.cons (.iff (.op2 .ne (.ix (.var 0) (.cst (.int 0))) (.lst .nil)) (.cons (.asg 4 (.ix (.ix (.var 0) (.cst (.int 0))) (.op2 .mod (.bi .int (.cons (.var 3) .nil)) (.bi .len (.cons (.ix (.var 0) (.cst (.int 0))) .nil))))) .nil) .nil) (drawTail m1 c3 c4 m2 c5 c6 c7 m3))))))⟩
theorem mulb {x y p q : Int} (hx : 0 ≤ x) (hxp : x ≤ p) (hy : 0 ≤ y) (hyq : y ≤ q) : 0 ≤ x * y ∧ x * y ≤ p * q := ⟨Int.mul_nonneg hx hy, Int.mul_le_mul hxp hyq hy (by omega)⟩
theorem tail_ok {cl : CallF} {m1 c3 c4 m2 c5 c6 c7 m3 : Int} (h2 : 0 < m1 ∧ m1 ≤ 2147483648) (h3 : 0 ≤ c3 ∧ c3 ≤ 1000000) (h4 : 0 ≤ c4 ∧ c4 ≤ 1000000) (h5 : 0 < m2 ∧ m2 ≤ 2147483648) (h6 : 0 ≤ c5 ∧ c5 ≤ 1000000) (h7 : 0 ≤ c6 ∧ c6 ≤ 1000000)
    (h8 : 0 ≤ c7 ∧ c7 ≤ 1000000) (h9 : 0 < m3) {cs : List D} {b g m a cell : Int} {x2 x5 x6 : Sl} (hm : 0 < m) (hm2 : m < 1073741824) (ha : 0 ≤ a) (ha2 : a ≤ 1000000) :
    ∃ r g' s2 s3 s4 s5 s6, exs cl (drawTail m1 c3 c4 m2 c5 c6 c7 m3) [.io (.lst [.lst cs, .int b, .int g]), .fz (.int m), x2, .fz (.int a), .fz (.int cell), x5, x6] = .ok (.ret (.nw (.int r))) [.io (.lst [.lst cs, .int b, .int g']), .fz (.int m), s2, s3, s4, s5, s6] ∧ 0 ≤ r ∧ r < m := by
  by_cases hb : (a < (cs.length : Int)) ∧ 1000000000000000000 ≤ (if cell < 0 then -cell else cell)
  · refine ⟨?r, ?g, ?s2, ?s3, ?s4, ?s5, ?s6, ?e, ?h1, ?h2⟩
    case e =>
      simp only [drawTail]
      walk_at "pp"
      simp only [hb.1, hb.2, decide_true]
      walk_at "pp"
      try simp only [hb.2, decide_true]
      try walk_at "pp"
      simp only [mul_l (i := 2) (by decide) (by decide)]
      walk_at "pp"
      simp only [fdiv_p hm hm2]
      walk_at "pp"
      simp only [mod_p hm]
      walk_at "pp"
      rfl
    case h1 => exact Int.emod_nonneg _ (by omega)
    case h2 => exact Int.emod_lt_of_pos _ hm
  · have k1 := Int.emod_nonneg cell (show m1 ≠ 0 by omega)
    have k2 := Int.emod_lt_of_pos cell h2.1
    have k3 := mulb h3.1 h3.2 ha ha2
    have b1 : (cell % m1 + c3 * a + c4).natAbs < 18446744073709551616 := by omega
    have k4 := Int.emod_nonneg ((cell % m1 + c3 * a + c4) ^ 5) (show m2 ≠ 0 by omega)
    have k5 := Int.emod_lt_of_pos ((cell % m1 + c3 * a + c4) ^ 5) h5.1
    have k6 := mulb (y := 2 * a + c5) (q := 3000000) k4 (Int.le_of_lt k5) (by omega) (by omega)
    have k7 := mulb h7.1 h7.2 ha ha2
    have k8 := mulb k7.1 k7.2 ha ha2
    have b2 : ((cell % m1 + c3 * a + c4) ^ 5 % m2 * (2 * a + c5) + c6 * a * a + c7).natAbs < 18446744073709551616 := by
      have k6' : (cell % m1 + c3 * a + c4) ^ 5 % m2 * (2 * a + c5) ≤ 2147483648 * 3000000 := Int.le_trans k6.2 (Int.mul_le_mul_of_nonneg_right h5.2 (by decide))
      omega
    refine ⟨((cell % m1 + c3 * a + c4) ^ 5 % m2 * (2 * a + c5) + c6 * a * a + c7) ^ 3 % m3 / 32 % m, g, x2, .fz (.int a), .fz (.int cell), x5, .fz (.int (((cell % m1 + c3 * a + c4) ^ 5 % m2 * (2 * a + c5) + c6 * a * a + c7) ^ 3 % m3)), ?e, Int.emod_nonneg _ (by omega), Int.emod_lt_of_pos _ hm⟩
    case e =>
      simp only [drawTail]
      by_cases hc : a < (cs.length : Int)
      · have hd : ¬ 1000000000000000000 ≤ (if cell < 0 then -cell else cell) := fun z => hb ⟨hc, z⟩
        walk_at "pp"
        simp only [hc, decide_true]
        walk_at "pp"
        simp only [hd, decide_false]
        walk_at "pp"
        simp only [mod_p h2.1]
        walk_at "pp"
        simp only [mul_l (i := c3) (j := a) (by omega) (by omega)]
        walk_at "pp"
        simp only [pow_p (i := cell % m1 + c3 * a + c4) (j := 5) (by decide) (by decide) b1]
        walk_at "pp"
        simp only [mod_p h5.1]
        walk_at "pp"
        simp only [mul_l (i := 2) (j := a) (by decide) (by decide)]
        walk_at "pp"
        simp only [mul_l (i := (cell % m1 + c3 * a + c4) ^ 5 % m2) (j := 2 * a + c5) (by omega) (by omega)]
        walk_at "pp"
        simp only [mul_l (i := c6) (j := a) (by omega) (by omega)]
        walk_at "pp"
        simp only [mul_l (i := c6 * a) (j := a) (by omega) (by omega)]
        walk_at "pp"
        simp only [pow_p (j := 3) (by decide) (by decide) b2]
        walk_at "pp"
        simp only [mod_p h9]
        walk_at "pp"
        simp only [fdiv_p (j := 32) (by decide) (by decide)]
        walk_at "pp"
        simp only [mod_p hm]
        walk_at "pp"
      · walk_at "pp"
        simp only [hc, decide_false]
        walk_at "pp"
        simp only [mod_p h2.1]
        walk_at "pp"
        simp only [mul_l (i := c3) (j := a) (by omega) (by omega)]
        walk_at "pp"
        simp only [pow_p (i := cell % m1 + c3 * a + c4) (j := 5) (by decide) (by decide) b1]
        walk_at "pp"
        simp only [mod_p h5.1]
        walk_at "pp"
        simp only [mul_l (i := 2) (j := a) (by decide) (by decide)]
        walk_at "pp"
        simp only [mul_l (i := (cell % m1 + c3 * a + c4) ^ 5 % m2) (j := 2 * a + c5) (by omega) (by omega)]
        walk_at "pp"
        simp only [mul_l (i := c6) (j := a) (by omega) (by omega)]
        walk_at "pp"
        simp only [mul_l (i := c6 * a) (j := a) (by omega) (by omega)]
        walk_at "pp"
        simp only [pow_p (j := 3) (by decide) (by decide) b2]
        walk_at "pp"
        simp only [mod_p h9]
        walk_at "pp"
        simp only [fdiv_p (j := 32) (by decide) (by decide)]
        walk_at "pp"
        simp only [mod_p hm]
        walk_at "pp"
theorem atI_mod {xs : List D} {a : Int} (h : 0 < xs.length) : ∃ d ∈ xs, L2.atI xs (a % (xs.length : Int)) = some d := by
  have h1 := Int.emod_nonneg a (show (xs.length : Int) ≠ 0 by omega)
  have h2 := Int.emod_lt_of_pos a (show (0 : Int) < xs.length by omega)
  have h3 : (a % (xs.length : Int)).toNat < xs.length := by omega
  refine ⟨xs[(a % (xs.length : Int)).toNat], List.getElem_mem h3, ?_⟩
  unfold L2.atI L2.ixN
  rw [if_pos h1, if_pos h2]
  simp [h3]
theorem draw_ok {cl : CallF} {c1 c2 m1 c3 c4 m2 c5 c6 c7 m3 : Int} (h1 : 0 ≤ c1 ∧ c1 ≤ 1000000) (h2 : 0 < m1 ∧ m1 ≤ 2147483648) (h3 : 0 ≤ c3 ∧ c3 ≤ 1000000) (h4 : 0 ≤ c4 ∧ c4 ≤ 1000000) (h5 : 0 < m2 ∧ m2 ≤ 2147483648) (h6 : 0 ≤ c5 ∧ c5 ≤ 1000000) (h7 : 0 ≤ c6 ∧ c6 ≤ 1000000)
    (h8 : 0 ≤ c7 ∧ c7 ≤ 1000000) (h9 : 0 < m3) {n : Nat} {p : D} {m : Int} (hp : PenOk n p) (hn : n ≤ 1000000) (hm : 0 < m) (hm2 : m < 1073741824) :
    ∃ r p', runF cl (drawFn c1 c2 m1 c3 c4 m2 c5 c6 c7 m3) [.io p, .fz (.int m)] = .ok (.d (.int r)) [p'] ∧ 0 ≤ r ∧ r < m ∧ PenOk (n + 1) p' := by
  obtain ⟨cs, a, g, rfl, hcs, ha, han⟩ := hp
  by_cases hg : 0 < g
  · refine ⟨g % m, .lst [.lst (cs.map D.int), .int a, .int (g / m)], ?_, Int.emod_nonneg _ (by omega), Int.emod_lt_of_pos _ hm, cs, a, _, rfl, hcs, ha, by omega⟩
    simp only [drawFn]
    walk_at "pp"
    simp only [hg, decide_true]
    simp only [mod_p hm]
    walk_at "pp"
    simp only [fdiv_p hm hm2]
    try walk_at "pp"
  · have key : ∀ cell : Int, ∃ r p', finR [Ar.io (.lst [.lst (cs.map D.int), .int a, .int g]), Ar.fz (.int m)] (exs cl (drawTail m1 c3 c4 m2 c5 c6 c7 m3) [.io (.lst [.lst (cs.map D.int), .int (a + 1), .int g]), .fz (.int m), .un, .fz (.int a), .fz (.int cell), .un, .un]) = .ok (.d (.int r)) [p'] ∧ 0 ≤ r ∧ r < m ∧ PenOk (n + 1) p' := by
      intro cell
      obtain ⟨r, g', s2, s3, s4, s5, s6, e, h1, h2⟩ := tail_ok (cl := cl) h2 h3 h4 h5 h6 h7 h8 h9 (cs := cs.map D.int) (b := a + 1) (g := g) (cell := cell) (x2 := .un) (x5 := .un) (x6 := .un) hm hm2 ha (by omega)
      refine ⟨r, .lst [.lst (cs.map D.int), .int (a + 1), .int g'], ?_, h1, h2, cs, a + 1, g', rfl, hcs, by omega, by omega⟩
      rw [e]
      rfl
    simp only [drawFn]
    walk_at "pp"
    simp only [hg, decide_false]
    walk_at "pp"
    simp only [mul_l (i := c1) (j := a) (by omega) (by omega)]
    walk_at "pp"
    cases cs with
    | nil =>
      simp only [List.isEmpty_nil]
      walk_at "pp"
      obtain ⟨r, p', e, h⟩ := key (c1 * a + c2)
      exact ⟨r, p', e, h⟩
    | cons c cs =>
      simp only [List.isEmpty_cons]
      walk_at "pp"
      have hl : (0 : Int) < ((((c :: cs).map D.int).length : Nat) : Int) := by simp <;> omega
      obtain ⟨d, hd, e1⟩ := atI_mod (xs := (c :: cs).map D.int) (a := a) (by simp)
      obtain ⟨v, _, rfl⟩ := List.mem_map.mp hd
      rw [show (List.map D.int cs).length + 1 = ((c :: cs).map D.int).length from rfl]
      simp only [mod_p hl]
      walk_at "pp"
      rw [show ixD (.lst (.int c :: cs.map D.int)) (.int (a % (((cs.map D.int).length + 1 : Nat) : Int))) = some (.int v) from e1]
      walk_at "pp"
      exact key v
theorem cut_all {xs : List D} {n : Nat} (h : xs.length ≤ n) : cutD xs none (some (n : Int)) = xs := by
  unfold cutD
  rw [HT.sIx_nat, HT.sIx_none, List.drop_zero, Nat.sub_zero, Nat.min_eq_right h, List.take_length]
/-- the laws' pen -/
def penFn : Fn := ⟨1, (.cons (.ret (.lst (.cons (.bi .list (.cons (.slice (.var 0) false true (.cst .non) (.cst (.int 63))) .nil)) (.cons (.cst (.int 0)) (.cons (.cst (.int 0)) .nil))))) .nil)⟩
theorem pen_ok {cl : CallF} {ns : List Int} (h : ns.length ≤ 63) : runF cl penFn [.fz (.kst (ns.map D.int))] = .ok (.nw (.lst [.lst (ns.map D.int), .int 0, .int 0])) [] ∧ PenOk 0 (.lst [.lst (ns.map D.int), .int 0, .int 0]) := by
  refine ⟨?_, ns, 0, 0, rfl, h, by omega, by omega⟩
  simp only [penFn]
  walk_at "pp"
  rw [show cutD (ns.map D.int) none (some 63) = ns.map D.int from cut_all (n := 63) (by simpa using h)]
  rw [show ∀ xs, biD .list [.lst xs] = some (.lst xs) from fun _ => rfl]
  walk_at "pp"
theorem ix_get {xs : List D} {r : Int} (h2 : 0 ≤ r) (h3 : r < (xs.length : Int)) : ∃ d ∈ xs, L2.atI xs r = some d := by
  have h5 : r.toNat < xs.length := by omega
  refine ⟨xs[r.toNat], List.getElem_mem h5, ?_⟩
  unfold L2.atI L2.ixN
  rw [if_pos h2, if_pos h3]
  simp [h5]
/-- the laws' pick, by the number of the draw -/
def pickFn (f : Nat) : Fn := ⟨2, (.cons (.ret (.ix (.var 1) (.call f [true, false] (.cons (.var 0) (.cons (.bi .len (.cons (.var 1) .nil)) .nil))))) .nil)⟩
def DrawOk (cl : CallF) (f : Nat) : Prop := ∀ (n : Nat) (p : D) (m : Int), PenOk n p → n ≤ 1000000 → 0 < m → m < 1073741824 → ∃ r p', cl f [.io p, .fz (.int m)] = .ok (.d (.int r)) [p'] ∧ 0 ≤ r ∧ r < m ∧ PenOk (n + 1) p'
def PickOk (cl : CallF) (f : Nat) : Prop := ∀ (n : Nat) (p : D) (xs : List D), PenOk n p → n ≤ 1000000 → 0 < xs.length → xs.length < 1000 → ∃ d ∈ xs, ∃ p', cl f [.io p, .fz (.lst xs)] = .ok (.d d) [p'] ∧ PenOk (n + 1) p'
theorem pick_ok {cl : CallF} {f : Nat} (hd : DrawOk cl f) {n : Nat} {p : D} {xs : List D} (hp : PenOk n p) (hn : n ≤ 1000000) (h0 : 0 < xs.length) (h1 : xs.length < 1000) :
    ∃ d ∈ xs, ∃ p', runF cl (pickFn f) [.io p, .fz (.lst xs)] = .ok (.d d) [p'] ∧ PenOk (n + 1) p' := by
  obtain ⟨r, p', e1, h2, h3, h4⟩ := hd n p (xs.length : Int) hp hn (by omega) (by omega)
  obtain ⟨d, hd, e2⟩ := ix_get h2 h3
  refine ⟨d, hd, p', ?_, h4⟩
  simp only [pickFn]
  walk_at "pp"
  rw [e1]
  walk_at "pp"
  rw [show ixD (.lst xs) (.int r) = some d from e2]
  walk_at "pp"
theorem use_pick {cl : CallF} {f : Nat} (h : PickOk cl f) {n : Nat} {p : D} {xs : List D} {rc : RC} (hr : cl f [.io p, .fz (.lst xs)] = rc) (hp : PenOk n p) (hn : n ≤ 1000000) (h0 : 0 < xs.length) (h1 : xs.length < 1000) : ∃ d ∈ xs, ∃ p', rc = .ok (.d d) [p'] ∧ PenOk (n + 1) p' := by
  subst hr
  exact h n p xs hp hn h0 h1
theorem use_draw {cl : CallF} {f : Nat} (h : DrawOk cl f) {n : Nat} {p : D} {m : Int} {rc : RC} (hr : cl f [.io p, .fz (.int m)] = rc) (hp : PenOk n p) (hn : n ≤ 1000000) (h0 : 0 < m) (h1 : m < 1073741824) : ∃ r p', rc = .ok (.d (.int r)) [p'] ∧ 0 ≤ r ∧ r < m ∧ PenOk (n + 1) p' := by
  subst hr
  exact h n p m hp hn h0 h1
theorem forD_inv {body : Env → R Fl} {i : Nat} (I : Nat → Env → Prop) (N : Nat) (xs : List D) : ∀ (j : Nat) (env : Env), j + xs.length ≤ N → I j env → (∀ (j : Nat) (d : D) (env : Env), j < N → d ∈ xs → I j env → ∃ env', body (env.set i (.fz d)) = .ok .next env' ∧ I (j + 1) env') → ∃ env', forD body i xs env = .ok .next env' ∧ I (j + xs.length) env' := by
  induction xs with
  | nil => intro j env _ h0 _; exact ⟨env, rfl, h0⟩
  | cons d r ih =>
    intro j env hN h0 hs
    rw [List.length_cons] at hN
    obtain ⟨env1, e1, h1⟩ := hs j d env (by omega) List.mem_cons_self h0
    obtain ⟨env2, e2, h2⟩ := ih (j + 1) env1 (by omega) h1 fun j d' env hj hd => hs j d' env hj (List.mem_cons_of_mem _ hd)
    refine ⟨env2, ?_, ?_⟩
    · simp only [forD, e1, R.bind_ok]
      exact e2
    · rw [List.length_cons, show j + (r.length + 1) = j + 1 + r.length by omega]
      exact h2
theorem use_for {body : Env → R Fl} {i : Nat} {xs : List D} {env : Env} {q : R Fl} (hq : forD body i xs env = q) (I : Nat → Env → Prop) (h0 : I 0 env) (hs : ∀ (j : Nat) (d : D) (env : Env), j < xs.length → d ∈ xs → I j env → ∃ env', body (env.set i (.fz d)) = .ok .next env' ∧ I (j + 1) env') : ∃ env', q = .ok .next env' ∧ I xs.length env' := by
  subst hq
  have := forD_inv I xs.length xs 0 env (by omega) h0 hs
  rwa [Nat.zero_add] at this
theorem calls_eq (fs : Nat → Option Fn) (k f : Nat) {F : Fn} (h : fs f = some F) (as : List Ar) : calls fs (k + 1) f as = runF (calls fs k) F as := by
  simp only [calls, h]
theorem bools_py : ∀ bs : List Bool, toPyAll (bs.map D.bl) = some (bs.map PyData.bool)
  | [] => rfl
  | c :: cs => by simp only [List.map_cons, toPyAll, toPy, bools_py cs]
theorem repr_b (b : Bool) : biD .repr [.bl b] = some (.str (if b then "True" else "False")) := by cases b <;> rfl
theorem repr_4 (a b c d : Bool) : ∃ s, biD .repr [.lst [.bl a, .bl b, .bl c, .bl d]] = some (.str s) := by
  cases a <;> cases b <;> cases c <;> cases d <;> exact ⟨_, rfl⟩
end PP
end

section
set_option maxHeartbeats 4000000

namespace LW
open PySem PySem.Spec PyProof.Rows L2 PP

def top (i : Nat) : Stmt := PySem.Challenge.pw_curveboxes_k08_looks_at_values.main.body.getD i (.Pass ⟨0, 0, 0, 0⟩)
/-! ### the defs in the small syntax -/
/-- is_integer(value): 0 value -/
abbrev st0 : Stmt := top 2
def fn0 : Fn := ⟨1, (.cons (.ret (.and (.bi .isInt (.cons (.var 0) .nil)) (.not (.bi .isBool (.cons (.var 0) .nil))))) .nil)⟩
/-- is_between(value, least, most): 0 value 1 least 2 most -/
abbrev st1 : Stmt := top 3
def fn1 : Fn := ⟨3, (.cons (.ret (.and (.call 0 [false] (.cons (.var 0) .nil)) (.chain .le .le (.var 1) (.var 0) (.var 2)))) .nil)⟩
/-- is_level(value): 0 value -/
abbrev st2 : Stmt := top 4
def fn2 : Fn := ⟨1, (.cons (.ret (.call 1 [false, false, false] (.cons (.var 0) (.cons (.cst (.int 0)) (.cons (.cst (.int 100)) .nil))))) .nil)⟩
/-- is_pair(value): 0 value -/
abbrev st3 : Stmt := top 5
def fn3 : Fn := ⟨1, (.cons (.ret (.and (.bi .isTuple (.cons (.var 0) .nil)) (.and (.op2 .eq (.bi .len (.cons (.var 0) .nil)) (.cst (.int 2))) (.and (.call 0 [false] (.cons (.ix (.var 0) (.cst (.int 0))) .nil)) (.call 0 [false] (.cons (.ix (.var 0) (.cst (.int 1))) .nil)))))) .nil)⟩
/-- _law_pen(_law_script): 0 _law_script -/
abbrev st4 : Stmt := top 7
def fn4 : Fn := ⟨1, (.cons (.ret (.lst (.cons (.bi .list (.cons (.slice (.var 0) false true (.cst .non) (.cst (.int 63))) .nil)) (.cons (.cst (.int 0)) (.cons (.cst (.int 0)) .nil))))) .nil)⟩
/-- _law_draw(_law_pen_here, _law_many): 0 _law_pen_here 1 _law_many 2 _law_digit 3 _law_at 4 _law_cell 5 _law_great 6 _law_mixed -/
abbrev st5 : Stmt := top 8
def fn5 : Fn := ⟨7, (.cons (.iff (.op2 .gt (.ix (.var 0) (.cst (.int 2))) (.cst (.int 0))) (.cons (.asg 2 (.op2 .mod (.bi .int (.cons (.ix (.var 0) (.cst (.int 2))) .nil)) (.var 1))) (.cons (.setI 0 (.cst (.int 2)) (.op2 .fdiv (.bi .int (.cons (.ix (.var 0) (.cst (.int 2))) .nil)) (.var 1))) (.cons (.ret (.var 2)) .nil))) .nil) (.cons (.asg 3 (.ix (.var 0) (.cst (.int 1)))) (.cons (.setI 0 (.cst (.int 1)) (.op2 .add (.var 3) (.cst (.int 1)))) (.cons (.asg 4 (.op2 .add (.op2 .mul (.cst (.int 33581)) (.var 3)) (.cst (.int 3793)))) (.cons (.iff (.op2 .ne (.ix (.var 0) (.cst (.int 0))) (.lst .nil)) (.cons (.asg 4 (.ix (.ix (.var 0) (.cst (.int 0))) (.op2 .mod (.bi .int (.cons (.var 3) .nil)) (.bi .len (.cons (.ix (.var 0) (.cst (.int 0))) .nil))))) .nil) .nil) (.cons (.iff (.and (.op2 .lt (.var 3) (.bi .len (.cons (.ix (.var 0) (.cst (.int 0))) .nil))) (.op2 .ge (.bi .abs (.cons (.var 4) .nil)) (.op2 .pow (.cst (.int 10)) (.cst (.int 18))))) (.cons (.asg 5 (.op2 .add (.op2 .mul (.cst (.int 2)) (.op2 .sub (.bi .abs (.cons (.var 4) .nil)) (.op2 .pow (.cst (.int 10)) (.cst (.int 18))))) (.bi .int (.cons (.op2 .lt (.var 4) (.cst (.int 0))) .nil)))) (.cons (.setI 0 (.cst (.int 2)) (.op2 .fdiv (.bi .int (.cons (.var 5) .nil)) (.var 1))) (.cons (.ret (.op2 .mod (.bi .int (.cons (.var 5) .nil)) (.var 1))) .nil))) .nil) (.cons (.asg 6 (.op2 .mod (.bi .int (.cons (.op2 .pow (.op2 .add (.op2 .add (.op2 .mod (.bi .int (.cons (.var 4) .nil)) (.cst (.int 2147483579))) (.op2 .mul (.cst (.int 50873)) (.var 3))) (.cst (.int 859))) (.cst (.int 5))) .nil)) (.cst (.int 2147483629)))) (.cons (.asg 6 (.op2 .mod (.bi .int (.cons (.op2 .pow (.op2 .add (.op2 .add (.op2 .mul (.var 6) (.op2 .add (.op2 .mul (.cst (.int 2)) (.var 3)) (.cst (.int 431)))) (.op2 .mul (.op2 .mul (.cst (.int 54421)) (.var 3)) (.var 3))) (.cst (.int 97))) (.cst (.int 3))) .nil)) (.cst (.int 2147483587)))) (.cons (.ret (.op2 .mod (.bi .int (.cons (.op2 .fdiv (.var 6) (.cst (.int 32))) .nil)) (.var 1))) .nil)))))))))⟩
/-- _law_pick(_law_pen_here, _law_some): 0 _law_pen_here 1 _law_some -/
abbrev st6 : Stmt := top 9
def fn6 : Fn := ⟨2, (.cons (.ret (.ix (.var 1) (.call 5 [true, false] (.cons (.var 0) (.cons (.bi .len (.cons (.var 1) .nil)) .nil))))) .nil)⟩
/-- _law_value(_law_pen_here): 0 _law_pen_here 1 _law_some -/
abbrev st7 : Stmt := top 10
def fn7 : Fn := ⟨2, (.cons (.asg 1 (.lst (.cons (.cst .non) (.cons (.cst (.bl true)) (.cons (.cst (.bl false)) (.cons (.cst (.str "")) (.cons (.cst (.str "1")) (.cons (.tup (.cons (.cst (.int 1)) .nil)) (.cons (.lst (.cons (.cst (.int 1)) (.cons (.cst (.int 2)) .nil))) (.cons .dic (.cons (.tup (.cons (.cst (.int 1)) (.cons (.cst (.int 2)) .nil))) (.cons (.tup (.cons (.cst (.int 0)) (.cons (.cst (.bl true)) .nil))) (.cons (.tup (.cons (.cst (.int 1)) (.cons (.cst (.int 2)) (.cons (.cst (.int 3)) .nil)))) (.cons (.tup (.cons (.cst (.str "1")) (.cons (.cst (.int 2)) .nil))) (.cons (.tup .nil) (.cons (.tup (.cons (.op1 .neg (.cst (.int 5))) (.cons (.op2 .pow (.cst (.int 10)) (.cst (.int 60))) .nil))) .nil)))))))))))))))) (.cons (.iff (.op2 .eq (.call 5 [true, false] (.cons (.var 0) (.cons (.cst (.int 2)) .nil))) (.cst (.int 0))) (.cons (.ret (.call 6 [true, false] (.cons (.var 0) (.cons (.var 1) .nil)))) .nil) .nil) (.cons (.ret (.call 6 [true, false] (.cons (.var 0) (.cons (.lst (.cons (.op1 .neg (.cst (.int 1))) (.cons (.cst (.int 0)) (.cons (.cst (.int 1)) (.cons (.cst (.int 99)) (.cons (.cst (.int 100)) (.cons (.cst (.int 101)) (.cons (.op2 .pow (.cst (.int 10)) (.cst (.int 61))) (.cons (.op1 .neg (.op2 .pow (.cst (.int 10)) (.cst (.int 61)))) (.cons (.op2 .sub (.call 5 [true, false] (.cons (.var 0) (.cons (.cst (.int 200)) .nil))) (.cst (.int 40))) .nil)))))))))) .nil)))) .nil)))⟩
/-- _law_is(_law_value_here): 0 _law_value_here -/
abbrev st8 : Stmt := top 11
def fn8 : Fn := ⟨1, (.cons (.ret (.and (.bi .isInt (.cons (.var 0) .nil)) (.and (.op2 .isnot (.var 0) (.cst (.bl true))) (.op2 .isnot (.var 0) (.cst (.bl false)))))) .nil)⟩
/-- law(_law_script): 0 _law_script 1 _law_pen_here 2 _law_turn 3 _law_value_here 4 _law_low 5 _law_high 6 _law_told 7 _law_is_two 8 _law_due -/
abbrev st9 : Stmt := top 12
def fn9 : Fn := ⟨9, (.cons (.asg 1 (.call 4 [false] (.cons (.var 0) .nil))) (.cons (.forr 2 (.cst (.int 40)) (.cons (.par [3, 4, 5] (.cons (.call 7 [true] (.cons (.var 1) .nil)) (.cons (.op2 .sub (.call 5 [true, false] (.cons (.var 1) (.cons (.cst (.int 120)) .nil))) (.cst (.int 20))) (.cons (.op2 .sub (.call 5 [true, false] (.cons (.var 1) (.cons (.cst (.int 120)) .nil))) (.cst (.int 20))) .nil)))) (.cons (.asg 6 (.lst (.cons (.call 0 [false] (.cons (.var 3) .nil)) (.cons (.call 1 [false, false, false] (.cons (.var 3) (.cons (.var 4) (.cons (.var 5) .nil)))) (.cons (.call 2 [false] (.cons (.var 3) .nil)) (.cons (.call 3 [false] (.cons (.var 3) .nil)) .nil)))))) (.cons (.asg 7 (.and (.bi .isTuple (.cons (.var 3) .nil)) (.op2 .eq (.bi .len (.cons (.var 3) .nil)) (.cst (.int 2))))) (.cons (.asg 8 (.lst (.cons (.call 8 [false] (.cons (.var 3) .nil)) (.cons (.and (.call 8 [false] (.cons (.var 3) .nil)) (.chain .le .le (.var 4) (.var 3) (.var 5))) (.cons (.and (.call 8 [false] (.cons (.var 3) .nil)) (.chain .le .le (.cst (.int 0)) (.var 3) (.cst (.int 100)))) .nil))))) (.cons (.app 8 (.and (.var 7) (.and (.call 8 [false] (.cons (.ix (.var 3) (.cst (.int 0))) .nil)) (.call 8 [false] (.cons (.ix (.var 3) (.cst (.int 1))) .nil))))) (.cons (.iff (.op2 .ne (.bi .repr (.cons (.var 6) .nil)) (.bi .repr (.cons (.var 8) .nil))) (.cons (.ret (.cst (.bl false))) .nil) .nil) (.cons (.iff (.op2 .ne (.bi .repr (.cons (.callP 1 [false, false, false] [1, 2, 0] (.cons (.var 5) (.cons (.var 3) (.cons (.var 4) .nil)))) .nil)) (.bi .repr (.cons (.ix (.var 8) (.cst (.int 1))) .nil))) (.cons (.ret (.cst (.bl false))) .nil) .nil) .nil)))))))) (.cons (.ret (.op2 .eq (.lst (.cons (.callP 0 [false] [0] (.cons (.op2 .pow (.cst (.int 10)) (.cst (.int 61))) .nil)) (.cons (.callP 2 [false] [0] (.cons (.cst (.int 100)) .nil)) (.cons (.callP 3 [false] [0] (.cons (.tup (.cons (.cst (.int 0)) (.cons (.cst (.int 0)) .nil))) .nil)) .nil)))) (.lst (.cons (.cst (.bl true)) (.cons (.cst (.bl true)) (.cons (.cst (.bl true)) .nil)))))) .nil)))⟩
def fs : Nat → Option Fn
  | 0 => some fn0
  | 1 => some fn1
  | 2 => some fn2
  | 3 => some fn3
  | 4 => some fn4
  | 5 => some fn5
  | 6 => some fn6
  | 7 => some fn7
  | 8 => some fn8
  | 9 => some fn9
  | _ => none
def tb (K : PySem.W.Frag) : Tbl := ⟨K, fun _ => none, fun _ => ""⟩
/-! ### what the top has written -/
structure Tx (K : PySem.W.Frag) (mg : Str → Option Value) (fa : Nat → Addr) (fd : Nat → FuncData) : Prop where
  f0 : Fun K "is_integer" "is_integer" st0 (fa 0) (fd 0)
  m0 : mg "is_integer" = some (.ref (fa 0))
  b0 : Binds K (fd 0) ["value"] []
  f1 : Fun K "is_between" "is_between" st1 (fa 1) (fd 1)
  m1 : mg "is_between" = some (.ref (fa 1))
  b1 : Binds K (fd 1) ["value", "least", "most"] []
  f2 : Fun K "is_level" "is_level" st2 (fa 2) (fd 2)
  m2 : mg "is_level" = some (.ref (fa 2))
  b2 : Binds K (fd 2) ["value"] []
  f3 : Fun K "is_pair" "is_pair" st3 (fa 3) (fd 3)
  m3 : mg "is_pair" = some (.ref (fa 3))
  b3 : Binds K (fd 3) ["value"] []
  f4 : Fun K "_law_pen" "_law_pen" st4 (fa 4) (fd 4)
  m4 : mg "_law_pen" = some (.ref (fa 4))
  b4 : Binds K (fd 4) ["_law_script"] []
  f5 : Fun K "_law_draw" "_law_draw" st5 (fa 5) (fd 5)
  m5 : mg "_law_draw" = some (.ref (fa 5))
  b5 : Binds K (fd 5) ["_law_pen_here", "_law_many"] []
  f6 : Fun K "_law_pick" "_law_pick" st6 (fa 6) (fd 6)
  m6 : mg "_law_pick" = some (.ref (fa 6))
  b6 : Binds K (fd 6) ["_law_pen_here", "_law_some"] []
  f7 : Fun K "_law_value" "_law_value" st7 (fa 7) (fd 7)
  m7 : mg "_law_value" = some (.ref (fa 7))
  b7 : Binds K (fd 7) ["_law_pen_here"] []
  f8 : Fun K "_law_is" "_law_is" st8 (fa 8) (fd 8)
  m8 : mg "_law_is" = some (.ref (fa 8))
  b8 : Binds K (fd 8) ["_law_value_here"] []
  f9 : Fun K "law" "law" st9 (fa 9) (fd 9)
  m9 : mg "law" = some (.ref (fa 9))
  b9 : Binds K (fd 9) ["_law_script"] []
  k3_value : KwBinds (fd 3) ["value"] ["value"] [0]
  k2_value : KwBinds (fd 2) ["value"] ["value"] [0]
  k0_value : KwBinds (fd 0) ["value"] ["value"] [0]
  k1_most_value_least : KwBinds (fd 1) ["value", "least", "most"] ["most", "value", "least"] [1, 2, 0]
  n_abs : mg "abs" = none
  n_bool : mg "bool" = none
  n_int : mg "int" = none
  n_isinstance : mg "isinstance" = none
  n_len : mg "len" = none
  n_list : mg "list" = none
  n_range : mg "range" = none
  n_repr : mg "repr" = none
  n_tuple : mg "tuple" = none
  g_MOST_LEVEL : ∃ t, mg "MOST_LEVEL" = some (.int 100 t)
structure Al (P : Program) (w : World) (K : PySem.W.Frag) (mg : Str → Option Value) (base : Heap) (fa : Nat → Addr) (fd : Nat → FuncData) (k : Nat) : Prop where
  o0 : FnG P w K mg base k (fa 0) (fd 0) ["value"] (spF (tb K) (calls fs k) 0 1)
  o1 : FnG P w K mg base k (fa 1) (fd 1) ["value", "least", "most"] (spF (tb K) (calls fs k) 1 3)
  o2 : FnG P w K mg base k (fa 2) (fd 2) ["value"] (spF (tb K) (calls fs k) 2 1)
  o3 : FnG P w K mg base k (fa 3) (fd 3) ["value"] (spF (tb K) (calls fs k) 3 1)
  o4 : FnG P w K mg base k (fa 4) (fd 4) ["_law_script"] (spF (tb K) (calls fs k) 4 1)
  o5 : FnG P w K mg base k (fa 5) (fd 5) ["_law_pen_here", "_law_many"] (spF (tb K) (calls fs k) 5 2)
  o6 : FnG P w K mg base k (fa 6) (fd 6) ["_law_pen_here", "_law_some"] (spF (tb K) (calls fs k) 6 2)
  o7 : FnG P w K mg base k (fa 7) (fd 7) ["_law_pen_here"] (spF (tb K) (calls fs k) 7 1)
  o8 : FnG P w K mg base k (fa 8) (fd 8) ["_law_value_here"] (spF (tb K) (calls fs k) 8 1)
  o9 : FnG P w K mg base k (fa 9) (fd 9) ["_law_script"] (spF (tb K) (calls fs k) 9 1)
section
variable {P : Program} {w : World} {K : PySem.W.Frag} {mg : Str → Option Value} {base : Heap} {fa : Nat → Addr} {fd : Nat → FuncData} {k : Nat}
theorem sc0 : FnScope ["value"] ["value"] (defScope st0) := ⟨rfl, rfl, rfl, by decide +kernel, rfl, by decide +kernel, by decide +kernel⟩
theorem ok0 (T : Tx K mg fa fd) (A : Al P w K mg base fa fd k) : FnG P w K mg base (k + 1) (fa 0) (fd 0) ["value"] (spF (tb K) (calls fs (k + 1)) 0 1) := def_ok (F := fn0) T.f0 sc0 rfl (by decide) rfl (fun _ => rfl) (fun {X} {C} {W} hK hu hu2 hgd hr tk hp hX => by
    have sc := sc0
    obtain ⟨qu, cdv, A0, outer, s0, H0, E0, rfl, hC⟩ := hX
    obtain ⟨CT, h0, he, io⟩ := C
    have hC : CT = tb K := hC
    subst hC
    exact (ss_cons (s_ret (c_and hK (c_isi hK isi_int (by rfl) T.n_isinstance (c_var (pv 0)) (pe_bltn (by rfl) T.n_int (by decide +kernel) rfl)) (c_one (c_not hK (c_isi hK isi_bool (by rfl) T.n_isinstance (c_var (pv 0)) (pe_bltn (by rfl) T.n_bool (by decide +kernel) rfl))))))
      ss_nil)) rfl
theorem sc1 : FnScope ["value", "least", "most"] ["value", "least", "most"] (defScope st1) := ⟨rfl, rfl, rfl, by decide +kernel, rfl, by decide +kernel, by decide +kernel⟩
theorem ok1 (T : Tx K mg fa fd) (A : Al P w K mg base fa fd k) : FnG P w K mg base (k + 1) (fa 1) (fd 1) ["value", "least", "most"] (spF (tb K) (calls fs (k + 1)) 1 3) := def_ok (F := fn1) T.f1 sc1 rfl (by decide) rfl (fun _ => rfl) (fun {X} {C} {W} hK hu hu2 hgd hr tk hp hX => by
    have sc := sc1
    obtain ⟨qu, cdv, A0, outer, s0, H0, E0, rfl, hC⟩ := hX
    obtain ⟨CT, h0, he, io⟩ := C
    have hC : CT = tb K := hC
    subst hC
    exact (ss_cons (s_ret (c_and hK (c_call A.o0 hgd hr tk (by rfl) T.m0 T.f0.kp T.b0 (k_cons (m := false) (c_var (pv 0)) k_nil)) (c_one (c_chain o_le o_le (c_var (pv 1)) (c_var (pv 0)) (c_var (pv 2))))))
      ss_nil)) rfl
theorem sc2 : FnScope ["value"] ["value"] (defScope st2) := ⟨rfl, rfl, rfl, by decide +kernel, rfl, by decide +kernel, by decide +kernel⟩
theorem ok2 (T : Tx K mg fa fd) (A : Al P w K mg base fa fd k) : FnG P w K mg base (k + 1) (fa 2) (fd 2) ["value"] (spF (tb K) (calls fs (k + 1)) 2 1) := def_ok (F := fn2) T.f2 sc2 rfl (by decide) rfl (fun _ => rfl) (fun {X} {C} {W} hK hu hu2 hgd hr tk hp hX => by
    have sc := sc2
    obtain ⟨qu, cdv, A0, outer, s0, H0, E0, rfl, hC⟩ := hX
    obtain ⟨CT, h0, he, io⟩ := C
    have hC : CT = tb K := hC
    subst hC
    exact (ss_cons (s_ret (c_call A.o1 hgd hr tk (by rfl) T.m1 T.f1.kp T.b1 (k_cons (m := false) (c_var (pv 0)) (k_cons (m := false) (c_cst pe_int (fun H => r_int _ H _)) (k_cons (m := false) (c_cst (pe_glob (v := .int 100) (by rfl) (T.g_MOST_LEVEL).choose_spec ⟨_, rfl⟩) (fun H => r_int _ H _)) k_nil)))))
      ss_nil)) rfl
theorem sc3 : FnScope ["value"] ["value"] (defScope st3) := ⟨rfl, rfl, rfl, by decide +kernel, rfl, by decide +kernel, by decide +kernel⟩
theorem ok3 (T : Tx K mg fa fd) (A : Al P w K mg base fa fd k) : FnG P w K mg base (k + 1) (fa 3) (fd 3) ["value"] (spF (tb K) (calls fs (k + 1)) 3 1) := def_ok (F := fn3) T.f3 sc3 rfl (by decide) rfl (fun _ => rfl) (fun {X} {C} {W} hK hu hu2 hgd hr tk hp hX => by
    have sc := sc3
    obtain ⟨qu, cdv, A0, outer, s0, H0, E0, rfl, hC⟩ := hX
    obtain ⟨CT, h0, he, io⟩ := C
    have hC : CT = tb K := hC
    subst hC
    exact (ss_cons (s_ret (c_and hK (c_isi hK isi_tuple (by rfl) T.n_isinstance (c_var (pv 0)) (pe_bltn (by rfl) T.n_tuple (by decide +kernel) rfl)) (c_and hK (c_cmp (o_eq hK hu) (c_biB (B := .len) (b_len hK) (by rfl) T.n_len (by decide +kernel) (r_cons (c_var (pv 0)) r_nil)) (c_cst pe_int (fun H => r_int _ H _)) (nomark _)) (c_and hK (c_call A.o0 hgd hr tk (by rfl) T.m0 T.f0.kp T.b0 (k_cons (m := false) (c_ix hK (c_var (pv 0)) (c_cst pe_int (fun H => r_int _ H _))) k_nil)) (c_one (c_call A.o0 hgd hr tk (by rfl) T.m0 T.f0.kp T.b0 (k_cons (m := false) (c_ix hK (c_var (pv 0)) (c_cst pe_int (fun H => r_int _ H _))) k_nil)))))))
      ss_nil)) rfl
theorem sc4 : FnScope ["_law_script"] ["_law_script"] (defScope st4) := ⟨rfl, rfl, rfl, by decide +kernel, rfl, by decide +kernel, by decide +kernel⟩
theorem ok4 (T : Tx K mg fa fd) (A : Al P w K mg base fa fd k) : FnG P w K mg base (k + 1) (fa 4) (fd 4) ["_law_script"] (spF (tb K) (calls fs (k + 1)) 4 1) := def_ok (F := fn4) T.f4 sc4 rfl (by decide) rfl (fun _ => rfl) (fun {X} {C} {W} hK hu hu2 hgd hr tk hp hX => by
    have sc := sc4
    obtain ⟨qu, cdv, A0, outer, s0, H0, E0, rfl, hC⟩ := hX
    obtain ⟨CT, h0, he, io⟩ := C
    have hC : CT = tb K := hC
    subst hC
    exact (ss_cons (s_ret (c_lst (f_cons (c_biT (B := .list) (b_list hK) (by rfl) T.n_list (by decide +kernel) (r_cons (c_slice hK (c_var (pv 0)) so_none (so_some (c_cst pe_int (fun H => r_int _ H _)))) r_nil)) (f_cons (c_cst pe_int (fun H => r_int _ H _)) (f_cons (c_cst pe_int (fun H => r_int _ H _)) f_nil)))))
      ss_nil)) rfl
theorem sc5 : FnScope ["_law_pen_here", "_law_many", "_law_digit", "_law_at", "_law_cell", "_law_great", "_law_mixed"] ["_law_pen_here", "_law_many"] (defScope st5) := ⟨rfl, rfl, rfl, by decide +kernel, rfl, by decide +kernel, by decide +kernel⟩
theorem ok5 (T : Tx K mg fa fd) (A : Al P w K mg base fa fd k) : FnG P w K mg base (k + 1) (fa 5) (fd 5) ["_law_pen_here", "_law_many"] (spF (tb K) (calls fs (k + 1)) 5 2) := def_ok (F := fn5) T.f5 sc5 rfl (by decide) rfl (fun _ => rfl) (fun {X} {C} {W} hK hu hu2 hgd hr tk hp hX => by
    have sc := sc5
    obtain ⟨qu, cdv, A0, outer, s0, H0, E0, rfl, hC⟩ := hX
    obtain ⟨CT, h0, he, io⟩ := C
    have hC : CT = tb K := hC
    subst hC
    exact (ss_cons (s_iff (t_cmp o_gt (c_ix hK (c_var (pv 0)) (c_cst pe_int (fun H => r_int _ H _))) (c_cst pe_int (fun H => r_int _ H _)) (nomark _)) (ss_cons (s_asg (ps_set (i := 2) sc.nd rfl (Or.inl rfl) (c_bin o_mod (c_biT (B := .int) b_int (by rfl) T.n_int (by decide +kernel) (r_cons (c_ix hK (c_var (pv 0)) (c_cst pe_int (fun H => r_int _ H _))) r_nil)) (c_var (pv 1)))))
      (ss_cons (s_setI (ps_asg (c_bin o_fdiv (c_biT (B := .int) b_int (by rfl) T.n_int (by decide +kernel) (r_cons (c_ix hK (c_var (pv 0)) (c_cst pe_int (fun H => r_int _ H _))) r_nil)) (c_var (pv 1))) (pg_sub (pv 0) (c_cst pe_int (fun H => r_int _ H _)) set_list)))
      (ss_cons (s_ret (c_var (pv 2)))
      ss_nil))) ss_nil)
      (ss_cons (s_asg (ps_set (i := 3) sc.nd rfl (Or.inl rfl) (c_ix hK (c_var (pv 0)) (c_cst pe_int (fun H => r_int _ H _)))))
      (ss_cons (s_setI (ps_asg (c_bin o_add (c_var (pv 3)) (c_cst pe_int (fun H => r_int _ H _))) (pg_sub (pv 0) (c_cst pe_int (fun H => r_int _ H _)) set_list)))
      (ss_cons (s_asg (ps_set (i := 4) sc.nd rfl (Or.inl rfl) (c_bin o_add (c_bin o_mul (c_cst pe_int (fun H => r_int _ H _)) (c_var (pv 3))) (c_cst pe_int (fun H => r_int _ H _)))))
      (ss_cons (s_iff (t_cmp (o_ne hK hu) (c_ix hK (c_var (pv 0)) (c_cst pe_int (fun H => r_int _ H _))) (c_lst f_nil) (nomark _)) (ss_cons (s_asg (ps_set (i := 4) sc.nd rfl (Or.inl rfl) (c_ix hK (c_ix hK (c_var (pv 0)) (c_cst pe_int (fun H => r_int _ H _))) (c_bin o_mod (c_biT (B := .int) b_int (by rfl) T.n_int (by decide +kernel) (r_cons (c_var (pv 3)) r_nil)) (c_biB (B := .len) (b_len hK) (by rfl) T.n_len (by decide +kernel) (r_cons (c_ix hK (c_var (pv 0)) (c_cst pe_int (fun H => r_int _ H _))) r_nil))))))
      ss_nil) ss_nil)
      (ss_cons (s_iff (PW.pt (w_and (t_cmp o_lt (c_var (pv 3)) (c_biB (B := .len) (b_len hK) (by rfl) T.n_len (by decide +kernel) (r_cons (c_ix hK (c_var (pv 0)) (c_cst pe_int (fun H => r_int _ H _))) r_nil)) (nomark _)) (w_and1 (op := .And) (t_cmp o_ge (c_biB (B := .abs) b_abs (by rfl) T.n_abs (by decide +kernel) (r_cons (c_var (pv 4)) r_nil)) (c_bin o_pow (c_cst pe_int (fun H => r_int _ H _)) (c_cst pe_int (fun H => r_int _ H _))) (nomark _))))) (ss_cons (s_asg (ps_set (i := 5) sc.nd rfl (Or.inl rfl) (c_bin o_add (c_bin o_mul (c_cst pe_int (fun H => r_int _ H _)) (c_bin o_sub (c_biB (B := .abs) b_abs (by rfl) T.n_abs (by decide +kernel) (r_cons (c_var (pv 4)) r_nil)) (c_bin o_pow (c_cst pe_int (fun H => r_int _ H _)) (c_cst pe_int (fun H => r_int _ H _))))) (c_biT (B := .int) b_int (by rfl) T.n_int (by decide +kernel) (r_cons (c_cmp o_lt (c_var (pv 4)) (c_cst pe_int (fun H => r_int _ H _)) (nomark _)) r_nil)))))
      (ss_cons (s_setI (ps_asg (c_bin o_fdiv (c_biT (B := .int) b_int (by rfl) T.n_int (by decide +kernel) (r_cons (c_var (pv 5)) r_nil)) (c_var (pv 1))) (pg_sub (pv 0) (c_cst pe_int (fun H => r_int _ H _)) set_list)))
      (ss_cons (s_ret (c_bin o_mod (c_biT (B := .int) b_int (by rfl) T.n_int (by decide +kernel) (r_cons (c_var (pv 5)) r_nil)) (c_var (pv 1))))
      ss_nil))) ss_nil)
      (ss_cons (s_asg (ps_set (i := 6) sc.nd rfl (Or.inl rfl) (c_bin o_mod (c_biT (B := .int) b_int (by rfl) T.n_int (by decide +kernel) (r_cons (c_bin o_pow (c_bin o_add (c_bin o_add (c_bin o_mod (c_biT (B := .int) b_int (by rfl) T.n_int (by decide +kernel) (r_cons (c_var (pv 4)) r_nil)) (c_cst pe_int (fun H => r_int _ H _))) (c_bin o_mul (c_cst pe_int (fun H => r_int _ H _)) (c_var (pv 3)))) (c_cst pe_int (fun H => r_int _ H _))) (c_cst pe_int (fun H => r_int _ H _))) r_nil)) (c_cst pe_int (fun H => r_int _ H _)))))
      (ss_cons (s_asg (ps_set (i := 6) sc.nd rfl (Or.inl rfl) (c_bin o_mod (c_biT (B := .int) b_int (by rfl) T.n_int (by decide +kernel) (r_cons (c_bin o_pow (c_bin o_add (c_bin o_add (c_bin o_mul (c_var (pv 6)) (c_bin o_add (c_bin o_mul (c_cst pe_int (fun H => r_int _ H _)) (c_var (pv 3))) (c_cst pe_int (fun H => r_int _ H _)))) (c_bin o_mul (c_bin o_mul (c_cst pe_int (fun H => r_int _ H _)) (c_var (pv 3))) (c_var (pv 3)))) (c_cst pe_int (fun H => r_int _ H _))) (c_cst pe_int (fun H => r_int _ H _))) r_nil)) (c_cst pe_int (fun H => r_int _ H _)))))
      (ss_cons (s_ret (c_bin o_mod (c_biT (B := .int) b_int (by rfl) T.n_int (by decide +kernel) (r_cons (c_bin o_fdiv (c_var (pv 6)) (c_cst pe_int (fun H => r_int _ H _))) r_nil)) (c_var (pv 1))))
      ss_nil)))))))))) rfl
theorem sc6 : FnScope ["_law_pen_here", "_law_some"] ["_law_pen_here", "_law_some"] (defScope st6) := ⟨rfl, rfl, rfl, by decide +kernel, rfl, by decide +kernel, by decide +kernel⟩
theorem ok6 (T : Tx K mg fa fd) (A : Al P w K mg base fa fd k) : FnG P w K mg base (k + 1) (fa 6) (fd 6) ["_law_pen_here", "_law_some"] (spF (tb K) (calls fs (k + 1)) 6 2) := def_ok (F := fn6) T.f6 sc6 rfl (by decide) rfl (fun _ => rfl) (fun {X} {C} {W} hK hu hu2 hgd hr tk hp hX => by
    have sc := sc6
    obtain ⟨qu, cdv, A0, outer, s0, H0, E0, rfl, hC⟩ := hX
    obtain ⟨CT, h0, he, io⟩ := C
    have hC : CT = tb K := hC
    subst hC
    exact (ss_cons (s_ret (c_ix hK (c_var (pv 1)) (c_call A.o5 hgd hr tk (by rfl) T.m5 T.f5.kp T.b5 (k_cons (m := true) (c_var (pv 0)) (k_cons (m := false) (c_biB (B := .len) (b_len hK) (by rfl) T.n_len (by decide +kernel) (r_cons (c_var (pv 1)) r_nil)) k_nil)))))
      ss_nil)) rfl
theorem sc7 : FnScope ["_law_pen_here", "_law_some"] ["_law_pen_here"] (defScope st7) := ⟨rfl, rfl, rfl, by decide +kernel, rfl, by decide +kernel, by decide +kernel⟩
theorem ok7 (T : Tx K mg fa fd) (A : Al P w K mg base fa fd k) : FnG P w K mg base (k + 1) (fa 7) (fd 7) ["_law_pen_here"] (spF (tb K) (calls fs (k + 1)) 7 1) := def_ok (F := fn7) T.f7 sc7 rfl (by decide) rfl (fun _ => rfl) (fun {X} {C} {W} hK hu hu2 hgd hr tk hp hX => by
    have sc := sc7
    obtain ⟨qu, cdv, A0, outer, s0, H0, E0, rfl, hC⟩ := hX
    obtain ⟨CT, h0, he, io⟩ := C
    have hC : CT = tb K := hC
    subst hC
    exact (ss_cons (s_asg (ps_set (i := 1) sc.nd rfl (Or.inl rfl) (c_lst (f_cons (c_cst pe_non (fun H => r_non _ H)) (f_cons (c_cst pe_bl (fun H => r_bl _ H _)) (f_cons (c_cst pe_bl (fun H => r_bl _ H _)) (f_cons (c_cst pe_str (fun H => r_str _ H _)) (f_cons (c_cst pe_str (fun H => r_str _ H _)) (f_cons (c_tup (f_cons (c_cst pe_int (fun H => r_int _ H _)) f_nil)) (f_cons (c_lst (f_cons (c_cst pe_int (fun H => r_int _ H _)) (f_cons (c_cst pe_int (fun H => r_int _ H _)) f_nil))) (f_cons c_dic (f_cons (c_tup (f_cons (c_cst pe_int (fun H => r_int _ H _)) (f_cons (c_cst pe_int (fun H => r_int _ H _)) f_nil))) (f_cons (c_tup (f_cons (c_cst pe_int (fun H => r_int _ H _)) (f_cons (c_cst pe_bl (fun H => r_bl _ H _)) f_nil))) (f_cons (c_tup (f_cons (c_cst pe_int (fun H => r_int _ H _)) (f_cons (c_cst pe_int (fun H => r_int _ H _)) (f_cons (c_cst pe_int (fun H => r_int _ H _)) f_nil)))) (f_cons (c_tup (f_cons (c_cst pe_str (fun H => r_str _ H _)) (f_cons (c_cst pe_int (fun H => r_int _ H _)) f_nil))) (f_cons (c_tup f_nil) (f_cons (c_tup (f_cons (c_un o_neg (c_cst pe_int (fun H => r_int _ H _))) (f_cons (c_bin o_pow (c_cst pe_int (fun H => r_int _ H _)) (c_cst pe_int (fun H => r_int _ H _))) f_nil))) f_nil)))))))))))))))))
      (ss_cons (s_iff (t_cmp (o_eq hK hu) (c_call A.o5 hgd hr tk (by rfl) T.m5 T.f5.kp T.b5 (k_cons (m := true) (c_var (pv 0)) (k_cons (m := false) (c_cst pe_int (fun H => r_int _ H _)) k_nil))) (c_cst pe_int (fun H => r_int _ H _)) (nomark _)) (ss_cons (s_ret (c_call A.o6 hgd hr tk (by rfl) T.m6 T.f6.kp T.b6 (k_cons (m := true) (c_var (pv 0)) (k_cons (m := false) (c_var (pv 1)) k_nil))))
      ss_nil) ss_nil)
      (ss_cons (s_ret (c_call A.o6 hgd hr tk (by rfl) T.m6 T.f6.kp T.b6 (k_cons (m := true) (c_var (pv 0)) (k_cons (m := false) (c_lst (f_cons (c_un o_neg (c_cst pe_int (fun H => r_int _ H _))) (f_cons (c_cst pe_int (fun H => r_int _ H _)) (f_cons (c_cst pe_int (fun H => r_int _ H _)) (f_cons (c_cst pe_int (fun H => r_int _ H _)) (f_cons (c_cst pe_int (fun H => r_int _ H _)) (f_cons (c_cst pe_int (fun H => r_int _ H _)) (f_cons (c_bin o_pow (c_cst pe_int (fun H => r_int _ H _)) (c_cst pe_int (fun H => r_int _ H _))) (f_cons (c_un o_neg (c_bin o_pow (c_cst pe_int (fun H => r_int _ H _)) (c_cst pe_int (fun H => r_int _ H _)))) (f_cons (c_bin o_sub (c_call A.o5 hgd hr tk (by rfl) T.m5 T.f5.kp T.b5 (k_cons (m := true) (c_var (pv 0)) (k_cons (m := false) (c_cst pe_int (fun H => r_int _ H _)) k_nil))) (c_cst pe_int (fun H => r_int _ H _))) f_nil)))))))))) k_nil))))
      ss_nil)))) rfl
theorem sc8 : FnScope ["_law_value_here"] ["_law_value_here"] (defScope st8) := ⟨rfl, rfl, rfl, by decide +kernel, rfl, by decide +kernel, by decide +kernel⟩
theorem ok8 (T : Tx K mg fa fd) (A : Al P w K mg base fa fd k) : FnG P w K mg base (k + 1) (fa 8) (fd 8) ["_law_value_here"] (spF (tb K) (calls fs (k + 1)) 8 1) := def_ok (F := fn8) T.f8 sc8 rfl (by decide) rfl (fun _ => rfl) (fun {X} {C} {W} hK hu hu2 hgd hr tk hp hX => by
    have sc := sc8
    obtain ⟨qu, cdv, A0, outer, s0, H0, E0, rfl, hC⟩ := hX
    obtain ⟨CT, h0, he, io⟩ := C
    have hC : CT = tb K := hC
    subst hC
    exact (ss_cons (s_ret (c_and hK (c_isi hK isi_int (by rfl) T.n_isinstance (c_var (pv 0)) (pe_bltn (by rfl) T.n_int (by decide +kernel) rfl)) (c_and hK (c_cmp o_isnot (c_var (pv 0)) (c_cst pe_bl (fun H => r_bl _ H _)) (nomark _)) (c_one (c_cmp o_isnot (c_var (pv 0)) (c_cst pe_bl (fun H => r_bl _ H _)) (nomark _))))))
      ss_nil)) rfl
theorem sc9 : FnScope ["_law_script", "_law_pen_here", "_law_turn", "_law_value_here", "_law_low", "_law_high", "_law_told", "_law_is_two", "_law_due"] ["_law_script"] (defScope st9) := ⟨rfl, rfl, rfl, by decide +kernel, rfl, by decide +kernel, by decide +kernel⟩
theorem ok9 (T : Tx K mg fa fd) (A : Al P w K mg base fa fd k) : FnG P w K mg base (k + 1) (fa 9) (fd 9) ["_law_script"] (spF (tb K) (calls fs (k + 1)) 9 1) := def_ok (F := fn9) T.f9 sc9 rfl (by decide) rfl (fun _ => rfl) (fun {X} {C} {W} hK hu hu2 hgd hr tk hp hX => by
    have sc := sc9
    obtain ⟨qu, cdv, A0, outer, s0, H0, E0, rfl, hC⟩ := hX
    obtain ⟨CT, h0, he, io⟩ := C
    have hC : CT = tb K := hC
    subst hC
    exact (ss_cons (s_asg (ps_set (i := 1) sc.nd rfl (Or.inl rfl) (c_call A.o4 hgd hr tk (by rfl) T.m4 T.f4.kp T.b4 (k_cons (m := false) (c_var (pv 0)) k_nil))))
      (ss_cons (s_forr (ps_for hp rfl (pi_range1 (by rfl) T.n_range (pa_cons (c_cst pe_int (fun H => r_int _ H _)) pa_nil)) (pg_name (i := 2) sc.nd rfl (Or.inl rfl)) (ss_cons (s_par3 (ps_par3 (i := 3) (j := 4) (l := 5) rfl sc.nd rfl rfl rfl (by decide) (by decide) (by decide) rfl rfl rfl (f_cons (c_call A.o7 hgd hr tk (by rfl) T.m7 T.f7.kp T.b7 (k_cons (m := true) (c_var (pv 1)) k_nil)) (f_cons (c_bin o_sub (c_call A.o5 hgd hr tk (by rfl) T.m5 T.f5.kp T.b5 (k_cons (m := true) (c_var (pv 1)) (k_cons (m := false) (c_cst pe_int (fun H => r_int _ H _)) k_nil))) (c_cst pe_int (fun H => r_int _ H _))) (f_cons (c_bin o_sub (c_call A.o5 hgd hr tk (by rfl) T.m5 T.f5.kp T.b5 (k_cons (m := true) (c_var (pv 1)) (k_cons (m := false) (c_cst pe_int (fun H => r_int _ H _)) k_nil))) (c_cst pe_int (fun H => r_int _ H _))) f_nil))) (by rfl)))
      (ss_cons (s_asg (ps_set (i := 6) sc.nd rfl (Or.inl rfl) (c_lst (f_cons (c_call A.o0 hgd hr tk (by rfl) T.m0 T.f0.kp T.b0 (k_cons (m := false) (c_var (pv 3)) k_nil)) (f_cons (c_call A.o1 hgd hr tk (by rfl) T.m1 T.f1.kp T.b1 (k_cons (m := false) (c_var (pv 3)) (k_cons (m := false) (c_var (pv 4)) (k_cons (m := false) (c_var (pv 5)) k_nil)))) (f_cons (c_call A.o2 hgd hr tk (by rfl) T.m2 T.f2.kp T.b2 (k_cons (m := false) (c_var (pv 3)) k_nil)) (f_cons (c_call A.o3 hgd hr tk (by rfl) T.m3 T.f3.kp T.b3 (k_cons (m := false) (c_var (pv 3)) k_nil)) f_nil)))))))
      (ss_cons (s_asg (ps_set (i := 7) sc.nd rfl (Or.inl rfl) (c_and hK (c_isi hK isi_tuple (by rfl) T.n_isinstance (c_var (pv 3)) (pe_bltn (by rfl) T.n_tuple (by decide +kernel) rfl)) (c_one (c_cmp (o_eq hK hu) (c_biB (B := .len) (b_len hK) (by rfl) T.n_len (by decide +kernel) (r_cons (c_var (pv 3)) r_nil)) (c_cst pe_int (fun H => r_int _ H _)) (nomark _))))))
      (ss_cons (s_asg (ps_set (i := 8) sc.nd rfl (Or.inl rfl) (c_lst (f_cons (c_call A.o8 hgd hr tk (by rfl) T.m8 T.f8.kp T.b8 (k_cons (m := false) (c_var (pv 3)) k_nil)) (f_cons (c_and hK (c_call A.o8 hgd hr tk (by rfl) T.m8 T.f8.kp T.b8 (k_cons (m := false) (c_var (pv 3)) k_nil)) (c_one (c_chain o_le o_le (c_var (pv 4)) (c_var (pv 3)) (c_var (pv 5))))) (f_cons (c_and hK (c_call A.o8 hgd hr tk (by rfl) T.m8 T.f8.kp T.b8 (k_cons (m := false) (c_var (pv 3)) k_nil)) (c_one (c_chain o_le o_le (c_cst pe_int (fun H => r_int _ H _)) (c_var (pv 3)) (c_cst pe_int (fun H => r_int _ H _))))) f_nil))))))
      (ss_cons (s_app (ps_expr (pe_bm PySem.F.plainAttrs_list PySem.F.slot_list_append PySem.F.type_list_append mt_append (pv 8) (pa_cons (c_and hK (c_var (pv 7)) (c_and hK (c_call A.o8 hgd hr tk (by rfl) T.m8 T.f8.kp T.b8 (k_cons (m := false) (c_ix hK (c_var (pv 3)) (c_cst pe_int (fun H => r_int _ H _))) k_nil)) (c_one (c_call A.o8 hgd hr tk (by rfl) T.m8 T.f8.kp T.b8 (k_cons (m := false) (c_ix hK (c_var (pv 3)) (c_cst pe_int (fun H => r_int _ H _))) k_nil))))) pa_nil))))
      (ss_cons (s_iff (t_cmp (o_ne hK hu) (c_biB (B := .repr) (b_repr hK hgd hu2) (by rfl) T.n_repr (by decide +kernel) (r_cons (c_var (pv 6)) r_nil)) (c_biB (B := .repr) (b_repr hK hgd hu2) (by rfl) T.n_repr (by decide +kernel) (r_cons (c_var (pv 8)) r_nil)) (nomark _)) (ss_cons (s_ret (c_cst pe_bl (fun H => r_bl _ H _)))
      ss_nil) ss_nil)
      (ss_cons (s_iff (t_cmp (o_ne hK hu) (c_biB (B := .repr) (b_repr hK hgd hu2) (by rfl) T.n_repr (by decide +kernel) (r_cons (c_callP A.o1 hgd hr tk (by rfl) T.m1 T.f1.kp T.k1_most_value_least (k_pk (m := false) (c_var (pv 5)) (k_pk (m := false) (c_var (pv 3)) (k_pk (m := false) (c_var (pv 4)) k_pk0)))) r_nil)) (c_biB (B := .repr) (b_repr hK hgd hu2) (by rfl) T.n_repr (by decide +kernel) (r_cons (c_ix hK (c_var (pv 8)) (c_cst pe_int (fun H => r_int _ H _))) r_nil)) (nomark _)) (ss_cons (s_ret (c_cst pe_bl (fun H => r_bl _ H _)))
      ss_nil) ss_nil)
      ss_nil)))))))))
      (ss_cons (s_ret (c_cmp (o_eq hK hu) (c_lst (f_cons (c_callP A.o0 hgd hr tk (by rfl) T.m0 T.f0.kp T.k0_value (k_pk (m := false) (c_bin o_pow (c_cst pe_int (fun H => r_int _ H _)) (c_cst pe_int (fun H => r_int _ H _))) k_pk0)) (f_cons (c_callP A.o2 hgd hr tk (by rfl) T.m2 T.f2.kp T.k2_value (k_pk (m := false) (c_cst pe_int (fun H => r_int _ H _)) k_pk0)) (f_cons (c_callP A.o3 hgd hr tk (by rfl) T.m3 T.f3.kp T.k3_value (k_pk (m := false) (c_tup (f_cons (c_cst pe_int (fun H => r_int _ H _)) (f_cons (c_cst pe_int (fun H => r_int _ H _)) f_nil))) k_pk0)) f_nil)))) (c_lst (f_cons (c_cst pe_bl (fun H => r_bl _ H _)) (f_cons (c_cst pe_bl (fun H => r_bl _ H _)) (f_cons (c_cst pe_bl (fun H => r_bl _ H _)) f_nil)))) (nomark _)))
      ss_nil)))) rfl
theorem step (T : Tx K mg fa fd) (A : Al P w K mg base fa fd k) : Al P w K mg base fa fd (k + 1) := ⟨ok0 T A, ok1 T A, ok2 T A, ok3 T A, ok4 T A, ok5 T A, ok6 T A, ok7 T A, ok8 T A, ok9 T A⟩
theorem al (T : Tx K mg fa fd) : ∀ k, Al P w K mg base fa fd k
  | 0 => ⟨fn_zero rfl, fn_zero rfl, fn_zero rfl, fn_zero rfl, fn_zero rfl, fn_zero rfl, fn_zero rfl, fn_zero rfl, fn_zero rfl, fn_zero rfl⟩
  | k + 1 => step T (al T k)
end
theorem all_mk {P : Program} {w : World} {K : PySem.W.Frag} {h : Heap} {mg : Str → Option Value} {fl : Addr} (X : K.In h) (G : h.Ns mainGlobals mg) (hfl : mg "law" = some (.ref fl)) {f0 f1 f2 f3 f4 f5 f6 f7 f8 f9 : Addr}
    {od0 an0 : Option Addr} {sl0 : Array (Option Value)} {oc0 kV0 dc0 pm0 cd0 ct0 : Value}
    {od1 an1 : Option Addr} {sl1 : Array (Option Value)} {oc1 kV1 dc1 pm1 cd1 ct1 : Value}
    {od2 an2 : Option Addr} {sl2 : Array (Option Value)} {oc2 kV2 dc2 pm2 cd2 ct2 : Value}
    {od3 an3 : Option Addr} {sl3 : Array (Option Value)} {oc3 kV3 dc3 pm3 cd3 ct3 : Value}
    {od4 an4 : Option Addr} {sl4 : Array (Option Value)} {oc4 kV4 dc4 pm4 cd4 ct4 : Value}
    {od5 an5 : Option Addr} {sl5 : Array (Option Value)} {oc5 kV5 dc5 pm5 cd5 ct5 : Value}
    {od6 an6 : Option Addr} {sl6 : Array (Option Value)} {oc6 kV6 dc6 pm6 cd6 ct6 : Value}
    {od7 an7 : Option Addr} {sl7 : Array (Option Value)} {oc7 kV7 dc7 pm7 cd7 ct7 : Value}
    {od8 an8 : Option Addr} {sl8 : Array (Option Value)} {oc8 kV8 dc8 pm8 cd8 ct8 : Value}
    {od9 an9 : Option Addr} {sl9 : Array (Option Value)} {oc9 kV9 dc9 pm9 cd9 ct9 : Value}
    {t_MOST_LEVEL : Tok}
    (a0 : PySem.W.nsIn K mainGlobals "is_integer" = some (some (.ref f0))) (l0 : K.lookup f0 = some ⟨oc0, od0, .func (PySem.W.fnOf "is_integer" "is_integer" (defArgs st0) (defBody st0) (defScope st0) .none kV0 dc0 pm0 an0 cd0 ct0), sl0⟩) (c0 : PySem.W.codeIn K cd0 "is_integer" = true) (k0 : PySem.W.keepIn K (.ref f0) = true)
    (a1 : PySem.W.nsIn K mainGlobals "is_between" = some (some (.ref f1))) (l1 : K.lookup f1 = some ⟨oc1, od1, .func (PySem.W.fnOf "is_between" "is_between" (defArgs st1) (defBody st1) (defScope st1) .none kV1 dc1 pm1 an1 cd1 ct1), sl1⟩) (c1 : PySem.W.codeIn K cd1 "is_between" = true) (k1 : PySem.W.keepIn K (.ref f1) = true)
    (a2 : PySem.W.nsIn K mainGlobals "is_level" = some (some (.ref f2))) (l2 : K.lookup f2 = some ⟨oc2, od2, .func (PySem.W.fnOf "is_level" "is_level" (defArgs st2) (defBody st2) (defScope st2) .none kV2 dc2 pm2 an2 cd2 ct2), sl2⟩) (c2 : PySem.W.codeIn K cd2 "is_level" = true) (k2 : PySem.W.keepIn K (.ref f2) = true)
    (a3 : PySem.W.nsIn K mainGlobals "is_pair" = some (some (.ref f3))) (l3 : K.lookup f3 = some ⟨oc3, od3, .func (PySem.W.fnOf "is_pair" "is_pair" (defArgs st3) (defBody st3) (defScope st3) .none kV3 dc3 pm3 an3 cd3 ct3), sl3⟩) (c3 : PySem.W.codeIn K cd3 "is_pair" = true) (k3 : PySem.W.keepIn K (.ref f3) = true)
    (a4 : PySem.W.nsIn K mainGlobals "_law_pen" = some (some (.ref f4))) (l4 : K.lookup f4 = some ⟨oc4, od4, .func (PySem.W.fnOf "_law_pen" "_law_pen" (defArgs st4) (defBody st4) (defScope st4) .none kV4 dc4 pm4 an4 cd4 ct4), sl4⟩) (c4 : PySem.W.codeIn K cd4 "_law_pen" = true) (k4 : PySem.W.keepIn K (.ref f4) = true)
    (a5 : PySem.W.nsIn K mainGlobals "_law_draw" = some (some (.ref f5))) (l5 : K.lookup f5 = some ⟨oc5, od5, .func (PySem.W.fnOf "_law_draw" "_law_draw" (defArgs st5) (defBody st5) (defScope st5) .none kV5 dc5 pm5 an5 cd5 ct5), sl5⟩) (c5 : PySem.W.codeIn K cd5 "_law_draw" = true) (k5 : PySem.W.keepIn K (.ref f5) = true)
    (a6 : PySem.W.nsIn K mainGlobals "_law_pick" = some (some (.ref f6))) (l6 : K.lookup f6 = some ⟨oc6, od6, .func (PySem.W.fnOf "_law_pick" "_law_pick" (defArgs st6) (defBody st6) (defScope st6) .none kV6 dc6 pm6 an6 cd6 ct6), sl6⟩) (c6 : PySem.W.codeIn K cd6 "_law_pick" = true) (k6 : PySem.W.keepIn K (.ref f6) = true)
    (a7 : PySem.W.nsIn K mainGlobals "_law_value" = some (some (.ref f7))) (l7 : K.lookup f7 = some ⟨oc7, od7, .func (PySem.W.fnOf "_law_value" "_law_value" (defArgs st7) (defBody st7) (defScope st7) .none kV7 dc7 pm7 an7 cd7 ct7), sl7⟩) (c7 : PySem.W.codeIn K cd7 "_law_value" = true) (k7 : PySem.W.keepIn K (.ref f7) = true)
    (a8 : PySem.W.nsIn K mainGlobals "_law_is" = some (some (.ref f8))) (l8 : K.lookup f8 = some ⟨oc8, od8, .func (PySem.W.fnOf "_law_is" "_law_is" (defArgs st8) (defBody st8) (defScope st8) .none kV8 dc8 pm8 an8 cd8 ct8), sl8⟩) (c8 : PySem.W.codeIn K cd8 "_law_is" = true) (k8 : PySem.W.keepIn K (.ref f8) = true)
    (a9 : PySem.W.nsIn K mainGlobals "law" = some (some (.ref f9))) (l9 : K.lookup f9 = some ⟨oc9, od9, .func (PySem.W.fnOf "law" "law" (defArgs st9) (defBody st9) (defScope st9) .none kV9 dc9 pm9 an9 cd9 ct9), sl9⟩) (c9 : PySem.W.codeIn K cd9 "law" = true) (k9 : PySem.W.keepIn K (.ref f9) = true)
    (z_abs : PySem.W.nsIn K mainGlobals "abs" = some none)
    (z_bool : PySem.W.nsIn K mainGlobals "bool" = some none)
    (z_int : PySem.W.nsIn K mainGlobals "int" = some none)
    (z_isinstance : PySem.W.nsIn K mainGlobals "isinstance" = some none)
    (z_len : PySem.W.nsIn K mainGlobals "len" = some none)
    (z_list : PySem.W.nsIn K mainGlobals "list" = some none)
    (z_range : PySem.W.nsIn K mainGlobals "range" = some none)
    (z_repr : PySem.W.nsIn K mainGlobals "repr" = some none)
    (z_tuple : PySem.W.nsIn K mainGlobals "tuple" = some none)
    (y_MOST_LEVEL : PySem.W.nsIn K mainGlobals "MOST_LEVEL" = some (some (.int 100 t_MOST_LEVEL))) :
    ∃ fd : FuncData, (∀ (s : Shared) (u : Value), BindsTo s fd ⟨[u], []⟩ [("_law_script", u)]) ∧ ∀ base : Heap, K.In base → base.Ns mainGlobals mg → FnG P w K mg base 8 fl fd ["_law_script"] (spF (tb K) (calls fs 8) 9 1) := by
  have e := hfl.symm.trans (PySem.W.mg_of X G a9)
  cases e
  have F0 := fun_mk (st := st0) l0 c0 k0
  have B0 := F0.binds (ps := ["value"]) fun _ _ _ _ _ _ us hl => match us, hl with | [_], _ => rfl
  have F1 := fun_mk (st := st1) l1 c1 k1
  have B1 := F1.binds (ps := ["value", "least", "most"]) fun _ _ _ _ _ _ us hl => match us, hl with | [_, _, _], _ => rfl
  have F2 := fun_mk (st := st2) l2 c2 k2
  have B2 := F2.binds (ps := ["value"]) fun _ _ _ _ _ _ us hl => match us, hl with | [_], _ => rfl
  have F3 := fun_mk (st := st3) l3 c3 k3
  have B3 := F3.binds (ps := ["value"]) fun _ _ _ _ _ _ us hl => match us, hl with | [_], _ => rfl
  have F4 := fun_mk (st := st4) l4 c4 k4
  have B4 := F4.binds (ps := ["_law_script"]) fun _ _ _ _ _ _ us hl => match us, hl with | [_], _ => rfl
  have F5 := fun_mk (st := st5) l5 c5 k5
  have B5 := F5.binds (ps := ["_law_pen_here", "_law_many"]) fun _ _ _ _ _ _ us hl => match us, hl with | [_, _], _ => rfl
  have F6 := fun_mk (st := st6) l6 c6 k6
  have B6 := F6.binds (ps := ["_law_pen_here", "_law_some"]) fun _ _ _ _ _ _ us hl => match us, hl with | [_, _], _ => rfl
  have F7 := fun_mk (st := st7) l7 c7 k7
  have B7 := F7.binds (ps := ["_law_pen_here"]) fun _ _ _ _ _ _ us hl => match us, hl with | [_], _ => rfl
  have F8 := fun_mk (st := st8) l8 c8 k8
  have B8 := F8.binds (ps := ["_law_value_here"]) fun _ _ _ _ _ _ us hl => match us, hl with | [_], _ => rfl
  have F9 := fun_mk (st := st9) l9 c9 k9
  have B9 := F9.binds (ps := ["_law_script"]) fun _ _ _ _ _ _ us hl => match us, hl with | [_], _ => rfl
  have T : Tx K mg (fun i => [f0, f1, f2, f3, f4, f5, f6, f7, f8, fl].getD i 0) (fun i => [PySem.W.fnOf "is_integer" "is_integer" (defArgs st0) (defBody st0) (defScope st0) .none kV0 dc0 pm0 an0 cd0 ct0, PySem.W.fnOf "is_between" "is_between" (defArgs st1) (defBody st1) (defScope st1) .none kV1 dc1 pm1 an1 cd1 ct1, PySem.W.fnOf "is_level" "is_level" (defArgs st2) (defBody st2) (defScope st2) .none kV2 dc2 pm2 an2 cd2 ct2, PySem.W.fnOf "is_pair" "is_pair" (defArgs st3) (defBody st3) (defScope st3) .none kV3 dc3 pm3 an3 cd3 ct3, PySem.W.fnOf "_law_pen" "_law_pen" (defArgs st4) (defBody st4) (defScope st4) .none kV4 dc4 pm4 an4 cd4 ct4, PySem.W.fnOf "_law_draw" "_law_draw" (defArgs st5) (defBody st5) (defScope st5) .none kV5 dc5 pm5 an5 cd5 ct5, PySem.W.fnOf "_law_pick" "_law_pick" (defArgs st6) (defBody st6) (defScope st6) .none kV6 dc6 pm6 an6 cd6 ct6, PySem.W.fnOf "_law_value" "_law_value" (defArgs st7) (defBody st7) (defScope st7) .none kV7 dc7 pm7 an7 cd7 ct7, PySem.W.fnOf "_law_is" "_law_is" (defArgs st8) (defBody st8) (defScope st8) .none kV8 dc8 pm8 an8 cd8 ct8, PySem.W.fnOf "law" "law" (defArgs st9) (defBody st9) (defScope st9) .none kV9 dc9 pm9 an9 cd9 ct9].getD i (PySem.W.fnOf "" "" (defArgs st0) [] (defScope st0) .none .none .none .none .none .none .none)) := {
    f0 := F0
    m0 := PySem.W.mg_of X G a0
    b0 := B0
    f1 := F1
    m1 := PySem.W.mg_of X G a1
    b1 := B1
    f2 := F2
    m2 := PySem.W.mg_of X G a2
    b2 := B2
    f3 := F3
    m3 := PySem.W.mg_of X G a3
    b3 := B3
    f4 := F4
    m4 := PySem.W.mg_of X G a4
    b4 := B4
    f5 := F5
    m5 := PySem.W.mg_of X G a5
    b5 := B5
    f6 := F6
    m6 := PySem.W.mg_of X G a6
    b6 := B6
    f7 := F7
    m7 := PySem.W.mg_of X G a7
    b7 := B7
    f8 := F8
    m8 := PySem.W.mg_of X G a8
    b8 := B8
    f9 := F9
    m9 := PySem.W.mg_of X G a9
    b9 := B9
    k3_value := fun s ws hl => match ws, hl with | [_], _ => .of_eq rfl
    k2_value := fun s ws hl => match ws, hl with | [_], _ => .of_eq rfl
    k0_value := fun s ws hl => match ws, hl with | [_], _ => .of_eq rfl
    k1_most_value_least := fun s ws hl => match ws, hl with | [_, _, _], _ => .of_eq rfl
    n_abs := PySem.W.mg_none_of X G z_abs
    n_bool := PySem.W.mg_none_of X G z_bool
    n_int := PySem.W.mg_none_of X G z_int
    n_isinstance := PySem.W.mg_none_of X G z_isinstance
    n_len := PySem.W.mg_none_of X G z_len
    n_list := PySem.W.mg_none_of X G z_list
    n_range := PySem.W.mg_none_of X G z_range
    n_repr := PySem.W.mg_none_of X G z_repr
    n_tuple := PySem.W.mg_none_of X G z_tuple
    g_MOST_LEVEL := ⟨_, PySem.W.mg_of X G y_MOST_LEVEL⟩
  }
  exact ⟨_, fun s u => .of_eq rfl, fun base _ _ => (al (base := base) T 8).o9⟩
end LW
end

section
set_option maxHeartbeats 400000
local macro_rules | `(tactic| walk_at "pp") => `(tactic| simp only [PP.getS_0, PP.getS_s, PP.set_0, PP.set_s, PP.runF, PP.fin_ok, PP.fin_exc, PP.finX_s, PP.finO_next, PP.finO_d, PP.finO_nw, PP.startE, PP.ev_w0, PP.ev_w1, PP.ev_w2, PP.ev_w3, PP.ev_w4, PP.ev_w5, PP.ev_w6, PP.ev_w7, PP.ev_w8, PP.ev_w9, PP.ev_w10, PP.ev_w11, PP.ev_w12, PP.ev_w13, PP.ev_w14, PP.ev_w15, PP.ev_w16, PP.evF_w0, PP.evF_w1, PP.evR_w0, PP.evR_w1, PP.evC_w0, PP.evC_w1, PP.evC_w2, PP.ex_w0, PP.ex_w1, PP.ex_w2, PP.ex_w3, PP.ex_w4, PP.ex_w5, PP.ex_w6, PP.ex_w7, PP.ex_w8, PP.ex_w9, PP.ex_w10, PP.ex_w11, PP.ex_w12, PP.ex_w13, PP.ex_w14, PP.ex_w15, PP.ex_w16, PP.exs_w0, PP.exs_w1, PP.evT_w, PP.R.bind_ok, PP.R.bind_exc, PP.R.bind_bad, PP.orBad_some, PP.orBad_none,
  PP.rdU_d, PP.rdU_nw, PP.rdU_sl, PP.rdS_fz, PP.rdS_ow, PP.rdS_io, PP.rdAll, PP.pend_d, PP.pend_nw, PP.pend_sl, PP.fzU_d, PP.fzU_nw, PP.fzU_sl, PP.asgU_d, PP.asgU_nw, PP.asgU_sl, PP.slOf_non, PP.slOf_bl, PP.slOf_int, PP.slOf_str, PP.slOf_tup, PP.slOf_lst, PP.slOf_dK,
  PP.isLs_ow, PP.isLs_io, PP.retU_d, PP.retU_nw, PP.retU_sl, PP.nrm_non, PP.nrm_bl, PP.nrm_int, PP.nrm_str, PP.nrm_tup, PP.nrm_lst, PP.nrm_dK, PP.argsOf, PP.ioSlots, PP.putIO, PP.setIO_ow, PP.setIO_io, PP.dupF_0, PP.dupF_1, PP.permL, PP.outsOf, PP.storeAll,
  PP.ix_lst_0, PP.ix_lst_1, PP.ix_lst_2, PP.ix_lst_3, PP.ix_lst_4, PP.ix_lst_5, PP.ix_tup_0, PP.ix_tup_1, PP.ix_tup_2, PP.ix_tup_3, PP.ix_tup_4, PP.ix_tup_5, PP.ix_kst_0, PP.ix_kst_1, PP.ix_kst_2, PP.ix_kst_3, PP.ix_kst_4, PP.ix_kst_5, PP.set_l3_1, PP.set_l3_2, PP.bi_int_i, PP.bi_int_b, PP.bi_abs, PP.bi_len_l, PP.bi_len_t, PP.o_gt_i, PP.o_lt_i, PP.o_ge_i, PP.o_le_i, PP.o_add_i, PP.o_sub_i, PP.o_neg_i, PP.o_eq_i, PP.o_ne_i, PP.o_eq_s, PP.o_ne_s, PP.o_eq_b, PP.ne_nil,
  PP.truD_bl, PP.truD_non, PP.truD_lst, PP.bi_isInt_non, PP.bi_isInt_bl, PP.bi_isInt_int, PP.bi_isInt_str, PP.bi_isInt_tup, PP.bi_isInt_lst, PP.bi_isInt_kst, PP.bi_isInt_dK, PP.bi_isBool_non, PP.bi_isBool_bl, PP.bi_isBool_int, PP.bi_isBool_str, PP.bi_isBool_tup, PP.bi_isBool_lst, PP.bi_isBool_kst, PP.bi_isBool_dK, PP.bi_isTuple_non, PP.bi_isTuple_bl, PP.bi_isTuple_int, PP.bi_isTuple_str, PP.bi_isTuple_tup, PP.bi_isTuple_lst, PP.bi_isTuple_kst, PP.bi_isTuple_dK, PP.bi_isList_non, PP.bi_isList_bl, PP.bi_isList_int, PP.bi_isList_str, PP.bi_isList_tup, PP.bi_isList_lst, PP.bi_isList_kst, PP.bi_isList_dK, PP.bi_isStr_non, PP.bi_isStr_bl, PP.bi_isStr_int, PP.bi_isStr_str, PP.bi_isStr_tup, PP.bi_isStr_lst, PP.bi_isStr_kst, PP.bi_isStr_dK, PP.bi_isInt_dT, PP.bi_isBool_dT, PP.bi_isTuple_dT, PP.bi_isList_dT, PP.bi_isStr_dT, PP.pw_10_18, PP.pow_10, Int.reduceLE, Int.reduceLT, Int.reduceToNat, Int.reducePow, Int.reduceNeg, Int.reduceAdd, Int.reduceSub, Int.reduceMul,  PP.le_lim, PP.lt_lim, Nat.reduceAdd, Nat.reduceLeDiff, Nat.reduceLT, List.cons_append, List.nil_append, Nat.zero_le, PP.optP_f, PP.optP_t, PP.partD_eq, List.head?_cons, List.tail_cons, Option.map_some, Option.map_none, Bool.not_true, Bool.not_false, Bool.and_self, Bool.and_true, Bool.true_and, Bool.false_and, Bool.and_false,
  eq_self, if_true, if_false, Bool.false_eq_true, reduceIte, List.length_cons, List.length_nil, List.filterMap_cons, List.filterMap_nil, List.getElem?_cons_zero, List.getElem?_cons_succ, List.map_cons, List.map_nil, decide_true, decide_false])
namespace LW
open PP PySem L2
variable {k : Nat}
def isI : D → Bool | .int _ => true | _ => false
theorem is_integer (d : D) (h : isObjD d = false) : calls fs (k + 1) 0 [.fz d] = .ok (.d (.bl (isI d))) [] := by
  cases d with
  | obj _ _ _ => cases h
  | _ => rfl
theorem law_is (d : D) (h : isObjD d = false) : calls fs (k + 1) 8 [.fz d] = .ok (.d (.bl (isI d))) [] := by
  cases d with
  | obj _ _ _ => cases h
  | bl b => cases b <;> rfl
  | _ => rfl
theorem isI_tup (xs : List D) : isI (.tup xs) = false := rfl
def btw (d : D) (lo hi : Int) : Bool := match d with | .int i => decide (lo ≤ i) && decide (i ≤ hi) | _ => false
theorem is_between (d : D) (h : isObjD d = false) (lo hi : Int) : calls fs (k + 2) 1 [.fz d, .fz (.int lo), .fz (.int hi)] = .ok (.d (.bl (btw d lo hi))) [] := by
  have e : ∀ as, calls fs (k + 2) 1 as = runF (calls fs (k + 1)) fn1 as := fun _ => rfl
  rw [e]
  have ei := @is_integer k
  generalize calls fs (k + 1) = cl at ei ⊢
  simp only [fn1]
  walk_at "pp"
  rw [ei d h]
  walk_at "pp"
  cases d with
  | obj _ _ _ => cases h
  | int i =>
    simp only [isI, btw]
    walk_at "pp"
    by_cases h1 : lo ≤ i
    · simp only [h1, decide_true]
      walk_at "pp"
    · simp only [h1, decide_false]
      walk_at "pp"
  | _ =>
    simp only [isI, btw]
    walk_at "pp"
theorem is_level (d : D) (h : isObjD d = false) : calls fs (k + 3) 2 [.fz d] = .ok (.d (.bl (btw d 0 100))) [] := by
  have e : ∀ as, calls fs (k + 3) 2 as = runF (calls fs (k + 2)) fn2 as := fun _ => rfl
  rw [e]
  have ei := @is_between k
  generalize calls fs (k + 2) = cl at ei ⊢
  simp only [fn2]
  walk_at "pp"
  rw [ei d h]
  walk_at "pp"
def NoObj : D → Prop
  | .obj _ _ _ => False
  | .tup (a :: b :: []) => isObjD a = false ∧ isObjD b = false
  | _ => True
def isP : D → Bool
  | .tup (a :: b :: []) => isI a && isI b
  | _ => false
theorem NoObj.ob {d : D} (h : NoObj d) : isObjD d = false := by
  cases d with
  | obj _ _ _ => exact h.elim
  | _ => rfl
theorem is_pair (d : D) (h : NoObj d) : calls fs (k + 2) 3 [.fz d] = .ok (.d (.bl (isP d))) [] := by
  have e : ∀ as, calls fs (k + 2) 3 as = runF (calls fs (k + 1)) fn3 as := fun _ => rfl
  rw [e]
  have ei := @is_integer k
  generalize calls fs (k + 1) = cl at ei ⊢
  simp only [fn3]
  walk_at "pp"
  cases d with
  | obj _ _ _ => exact h.elim
  | tup xs =>
    rw [show biD .isTuple [.tup xs] = some (.bl true) from rfl]
    walk_at "pp"
    match xs, h with
    | [], _ => rfl
    | [a], _ => rfl
    | [a, b], h =>
      rw [show ((([a, b] : List D).length : Nat) : Int) == 2 from rfl]
      walk_at "pp"
      rw [ei a h.1]
      walk_at "pp"
      cases ha : isI a with
      | false =>
        walk_at "pp"
        simp only [isP, ha]
        walk_at "pp"
      | true =>
        walk_at "pp"
        rw [ei b h.2]
        walk_at "pp"
        simp only [isP, ha]
        walk_at "pp"
    | a :: b :: c :: l, _ =>
      have z : ((((a :: b :: c :: l).length : Nat) : Int) == 2) = false := by simp <;> omega
      rw [z]
      walk_at "pp"
      rfl
  | _ => rfl
theorem pen (ns : List Int) (h : ns.length ≤ 63) : calls fs (k + 1) 4 [.fz (.kst (ns.map D.int))] = .ok (.nw (.lst [.lst (ns.map D.int), .int 0, .int 0])) [] :=
  (calls_eq fs k 4 (F := penFn) rfl _).trans (pen_ok h).1
theorem draw : DrawOk (calls fs (k + 1)) 5 := by
  intro n p m hp hn hm hm2
  rw [calls_eq fs k 5 (F := drawFn 33581 3793 2147483579 50873 859 2147483629 431 54421 97 2147483587) rfl]
  exact draw_ok (by decide) (by decide) (by decide) (by decide) (by decide) (by decide) (by decide) (by decide) (by decide) hp hn hm hm2
theorem pick : PickOk (calls fs (k + 2)) 6 := by
  intro n p xs hp hn h0 h1
  rw [calls_eq fs (k + 1) 6 (F := pickFn 5) rfl]
  exact pick_ok draw hp hn h0 h1
theorem value {n : Nat} {p : D} (hp : PenOk n p) (hn : n ≤ 10000) : ∃ d p', calls fs (k + 3) 7 [.io p] = .ok (.d d) [p'] ∧ NoObj d ∧ PenOk (n + 3) p' := by
  rw [calls_eq fs (k + 2) 7 (F := fn7) rfl]
  have hd := @draw (k + 1)
  have hp' := @pick k
  generalize calls fs (k + 2) = cl at hd hp' ⊢
  obtain ⟨r, p1, e1, h1, h2, h3⟩ := hd n p 2 hp (by omega) (by omega) (by omega)
  simp only [fn7]
  walk_at "pp"
  rw [e1]
  walk_at "pp"
  by_cases hr : (r == 0) = true
  · rw [hr]
    walk_at "pp"
    generalize hrc : cl 6 [Ar.io p1, Ar.fz (D.lst _)] = rc
    obtain ⟨d, hd, p2, rfl, h4⟩ := use_pick hp' hrc h3 (by omega) (by decide) (by decide)
    walk_at "pp"
    refine ⟨_, _, rfl, ?_, h4.mono (by omega)⟩
    simp only [List.mem_cons, List.not_mem_nil, or_false] at hd
    rcases hd with rfl | rfl | rfl | rfl | rfl | rfl | rfl | rfl | rfl | rfl | rfl | rfl | rfl | rfl <;> simp [NoObj, isObjD]
  · rw [Bool.not_eq_true] at hr
    rw [hr]
    walk_at "pp"
    generalize hrc : cl 5 [Ar.io p1, Ar.fz (D.int _)] = rc
    obtain ⟨r2, p2, rfl, h4, h5, h6⟩ := use_draw hd hrc h3 (by omega) (by decide) (by decide)
    walk_at "pp"
    generalize hrc : cl 6 [Ar.io p2, Ar.fz (D.lst _)] = rc
    obtain ⟨d, hd, p3, rfl, h7⟩ := use_pick hp' hrc h6 (by omega) (by simp) (by simp)
    walk_at "pp"
    refine ⟨_, _, rfl, ?_, h7.mono (by omega)⟩
    simp only [List.mem_cons, List.not_mem_nil, or_false] at hd
    rcases hd with rfl | rfl | rfl | rfl | rfl | rfl | rfl | rfl | rfl <;> simp [NoObj, isObjD]
theorem law_true (ns : List Int) (h : ns.length ≤ 63) : ∃ outs, calls fs 8 9 [.fz (.kst (ns.map D.int))] = .ok (.d (.bl true)) outs := by
  rw [calls_eq fs 7 9 (F := fn9) rfl]
  have h0 := @is_integer 6
  have h1 := @is_between 5
  have h2 := @is_level 4
  have h3 := @is_pair 5
  have h4 := @pen 6 ns h
  have h5 := @draw 6
  have h7 := @value 4
  have h8 := @law_is 6
  generalize calls fs 7 = cl at *
  simp only [fn9]
  walk_at "pp"
  rw [h4]
  walk_at "pp"
  generalize hq : forD _ _ _ _ = q
  have hf := use_for hq (fun j env => ∃ p a2 a3 a4 a5 a6 a7 a8, PenOk (5 * j) p ∧ env = [.fz (D.kst (ns.map D.int)), .ow p, a2, a3, a4, a5, a6, a7, a8]) ⟨_, _, _, _, _, _, _, _, (pen_ok (cl := cl) h).2, rfl⟩
  obtain ⟨env', rfl, p, a2, a3, a4, a5, a6, a7, a8, hp, rfl⟩ := hf (by
    rintro j d env hj hd ⟨p, a2, a3, a4, a5, a6, a7, a8, hp, rfl⟩
    rw [List.length_map, List.length_range] at hj
    walk_at "pp"
    obtain ⟨v, p1, e1, g1, hp1⟩ := h7 hp (by omega)
    rw [e1]
    walk_at "pp"
    generalize hrc : cl 5 [Ar.io p1, Ar.fz (D.int _)] = rc
    obtain ⟨r2, p2, rfl, _, _, hp2⟩ := use_draw h5 hrc hp1 (by omega) (by decide) (by decide)
    walk_at "pp"
    generalize hrc : cl 5 [Ar.io p2, Ar.fz (D.int _)] = rc
    obtain ⟨r3, p3, rfl, _, _, hp3⟩ := use_draw h5 hrc hp2 (by omega) (by decide) (by decide)
    walk_at "pp"
    rw [h0 v g1.ob]
    walk_at "pp"
    rw [h1 v g1.ob]
    walk_at "pp"
    rw [h2 v g1.ob]
    walk_at "pp"
    rw [h3 v g1]
    walk_at "pp"
    cases v with
    | obj _ _ _ => exact g1.elim
    | int i =>
      clear hf hd hj
      simp only [isI, btw, isP]
      walk_at "pp"
      repeat (rw [h8 _ rfl]; simp only [isI]; walk_at "pp")
      by_cases c1 : r2 - 20 ≤ i <;> by_cases c2 : 0 ≤ i <;> simp only [c1, c2, decide_true, decide_false] <;> walk_at "pp" <;>
      · repeat (rw [h8 _ rfl]; simp only [isI]; walk_at "pp")
        try simp only [c2, decide_true, decide_false]
        try walk_at "pp"
        obtain ⟨s, hs⟩ := repr_4 true _ _ false
        rw [hs]
        walk_at "pp"
        rw [hs]
        walk_at "pp"
        rw [h1 _ rfl]
        simp only [btw, c1, decide_true, decide_false]
        walk_at "pp"
        rw [repr_b]
        walk_at "pp"
        try rw [repr_b]
        try walk_at "pp"
        exact ⟨_, rfl, p3, _, _, _, _, _, _, _, hp3.mono (by omega), rfl⟩
    | tup xs =>
      clear hf hd hj
      simp only [isI_tup, btw]
      walk_at "pp"
      by_cases hx : ((xs.length : Int) == 2) = true
      · obtain ⟨a, b, rfl⟩ : ∃ a b, xs = [a, b] := by
          match xs, hx with
          | [], hx => exact absurd hx (by decide)
          | [a], hx => exact absurd hx (by simp)
          | [a, b], _ => exact ⟨a, b, rfl⟩
          | a :: b :: c :: l, hx => simp at hx; omega
        rw [show ((([a, b] : List D).length : Nat) : Int) == 2 from rfl]
        simp only [isP]
        rw [h8 _ rfl]
        simp only [isI_tup]
        walk_at "pp"
        rw [h8 _ rfl]
        simp only [isI_tup]
        walk_at "pp"
        rw [h8 _ rfl]
        simp only [isI_tup]
        walk_at "pp"
        rw [h8 a g1.1]
        walk_at "pp"
        cases ha : isI a with
        | false =>
          walk_at "pp"
          obtain ⟨s, hs⟩ := repr_4 false false false _
          rw [hs]
          walk_at "pp"
          rw [hs]
          walk_at "pp"
          rw [h1 _ rfl]
          simp only [btw]
          walk_at "pp"
          rw [repr_b]
          walk_at "pp"
          rw [repr_b]
          walk_at "pp"
          exact ⟨_, rfl, p3, _, _, _, _, _, _, _, hp3.mono (by omega), rfl⟩
        | true =>
          walk_at "pp"
          rw [h8 b g1.2]
          walk_at "pp"
          obtain ⟨s, hs⟩ := repr_4 false false false _
          rw [hs]
          walk_at "pp"
          rw [hs]
          walk_at "pp"
          rw [h1 _ rfl]
          simp only [btw]
          walk_at "pp"
          rw [repr_b]
          walk_at "pp"
          rw [repr_b]
          walk_at "pp"
          exact ⟨_, rfl, p3, _, _, _, _, _, _, _, hp3.mono (by omega), rfl⟩
      · have hP : isP (.tup xs) = false := by
          match xs, hx with
          | [], hx => rfl
          | [a], hx => rfl
          | [a, b], hx => exact absurd rfl hx
          | a :: b :: c :: l, hx => rfl
        rw [Bool.not_eq_true] at hx
        rw [hx, hP]
        try walk_at "pp"
        repeat (rw [h8 _ rfl]; simp only [isI]; walk_at "pp")
        obtain ⟨s, hs⟩ := repr_4 false false false false
        rw [hs]
        walk_at "pp"
        rw [hs]
        walk_at "pp"
        rw [h1 _ rfl]
        simp only [btw]
        walk_at "pp"
        rw [repr_b]
        walk_at "pp"
        rw [repr_b]
        walk_at "pp"
        exact ⟨_, rfl, p3, _, _, _, _, _, _, _, hp3.mono (by omega), rfl⟩
    | _ =>
      clear hf hd hj
      simp only [isI, btw, isP]
      walk_at "pp"
      repeat (rw [h8 _ rfl]; simp only [isI]; walk_at "pp")
      obtain ⟨s, hs⟩ := repr_4 false false false false
      rw [hs]
      walk_at "pp"
      rw [hs]
      walk_at "pp"
      rw [h1 _ rfl]
      simp only [btw]
      walk_at "pp"
      rw [repr_b]
      walk_at "pp"
      rw [repr_b]
      walk_at "pp"
      exact ⟨_, rfl, p3, _, _, _, _, _, _, _, hp3.mono (by omega), rfl⟩)
  clear hf
  walk_at "pp"
  rw [h0 _ rfl]
  walk_at "pp"
  rw [h2 _ rfl]
  walk_at "pp"
  rw [h3 _ (by simp [NoObj, isObjD])]
  simp only [isI, isP, btw]
  walk_at "pp"
  exact ⟨_, rfl⟩
end LW
end

open PySem PySem.W PyProof.Rows in
set_option maxRecDepth 100000 in
set_option maxHeartbeats 0 in
theorem PySem.Challenge.cw_curveboxes_k08_looks_at_values_holds : PySem.Challenge.rw_curveboxes_k08_looks_at_values.Holds := by
  w_on; o_law; k_head; (case hw => w_witness2)
  k_fill
  refine PP.law_walk (l := PySem.Challenge.rw_curveboxes_k08_looks_at_values) (n := 63) (k := 8) (sp := fun K => PP.spF (LW.tb K) (PP.calls LW.fs 8) 9 1) (x := "_law_script") rfl (by decide) rfl ⟨rfl, by decide, by decide⟩ (fun w h Y => PySem.W.kIn_of Y) ?F (PP.law_sp (T := LW.tb) (fun _ => rfl) LW.law_true)
  case F =>
    intro w mg fa h KX G hmg
    refine' LW.all_mk KX G hmg ?a0 ?l0 ?c0 ?k0 ?a1 ?l1 ?c1 ?k1 ?a2 ?l2 ?c2 ?k2 ?a3 ?l3 ?c3 ?k3 ?a4 ?l4 ?c4 ?k4 ?a5 ?l5 ?c5 ?k5 ?a6 ?l6 ?c6 ?k6 ?a7 ?l7 ?c7 ?k7 ?a8 ?l8 ?c8 ?k8 ?a9 ?l9 ?c9 ?k9 ?z_abs ?z_bool ?z_int ?z_isinstance ?z_len ?z_list ?z_range ?z_repr ?z_tuple ?y_MOST_LEVEL
    (case a0 => k_is)
    (case l0 => k_is)
    (case c0 => k_is)
    (case k0 => k_is)
    (case a1 => k_is)
    (case l1 => k_is)
    (case c1 => k_is)
    (case k1 => k_is)
    (case a2 => k_is)
    (case l2 => k_is)
    (case c2 => k_is)
    (case k2 => k_is)
    (case a3 => k_is)
    (case l3 => k_is)
    (case c3 => k_is)
    (case k3 => k_is)
    (case a4 => k_is)
    (case l4 => k_is)
    (case c4 => k_is)
    (case k4 => k_is)
    (case a5 => k_is)
    (case l5 => k_is)
    (case c5 => k_is)
    (case k5 => k_is)
    (case a6 => k_is)
    (case l6 => k_is)
    (case c6 => k_is)
    (case k6 => k_is)
    (case a7 => k_is)
    (case l7 => k_is)
    (case c7 => k_is)
    (case k7 => k_is)
    (case a8 => k_is)
    (case l8 => k_is)
    (case c8 => k_is)
    (case k8 => k_is)
    (case a9 => k_is)
    (case l9 => k_is)
    (case c9 => k_is)
    (case k9 => k_is)
    (case z_abs => k_is)
    (case z_bool => k_is)
    (case z_int => k_is)
    (case z_isinstance => k_is)
    (case z_len => k_is)
    (case z_list => k_is)
    (case z_range => k_is)
    (case z_repr => k_is)
    (case z_tuple => k_is)
    (case y_MOST_LEVEL => k_is)
